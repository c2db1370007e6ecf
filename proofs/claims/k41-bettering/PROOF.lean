import PyProof.Rows.All
import Wide.All
import OpenK.AllK
import Wide.FinOn
import HandS.ForMost
import HandS.Exc
import HandS.TryOnly
import HandS.ExcOwn
import HandS.WordsExc
import HandS.IsInst
import HandS.Style
import HandS.Zip
import HandS.ExcIs
import HandS.HotCalls
import PySem.Challenge.RW_shareparley_k41_bettering
set_option Elab.async false
set_option linter.all false
set_option maxRecDepth 100000
set_option maxHeartbeats 4000000
/-! Cm: what every text of ours leans on: the carried heap (Own), the readings walked step by step (x_..), own rules. -/
namespace Sp
open PySem L2 PyProof.Rows

/-! ### the carried heap: B is what stands and stays, cs the cells of our own that may still change -/
abbrev Cells := List (Addr × HO)
structure Own (B : Hp) (cs : Cells) (H : Hp) : Prop where
  ex : Same B H
  cell : ∀ p ∈ cs, H p.1 = some p.2 ∧ B p.1 = none
  nd : (cs.map (·.1)).Nodup
theorem same_upd {H : Hp} {p : Addr} {o : HO} (h : H p = none) : Same H (upd H p o) := fun b x e => by
  rw [upd_ne (ne_of_none e h)]
  exact e
theorem Own.start {H : Hp} : Own H [] H := ⟨Same.refl H, fun _ h => (nomatch h), List.nodup_nil⟩
section
variable {B H H' : Hp} {cs : Cells} {p : Addr} {o o' : HO} {K : PySem.W.Frag} {xs : List V}
theorem Own.ext (w : Own B cs H) (e : Same H H') : Own B cs H' := ⟨w.ex.trans e, fun q h => ⟨e _ _ (w.cell q h).1, (w.cell q h).2⟩, w.nd⟩
theorem Own.fresh (w : Own B cs H) (hp : H p = none) : B p = none := w.ex.free hp
theorem Own.off (w : Own B cs H) (hp : H p = none) : p ∉ cs.map (·.1) := fun m => by
  obtain ⟨q, hq, e⟩ := List.mem_map.mp m
  have := (w.cell q hq).1
  rw [e, hp] at this
  cases this
theorem Own.newE (w : Own B cs H) (hp : H p = none) (e : Same H H') (h : H' p = some o) : Own B ((p, o) :: cs) H' :=
  ⟨w.ex.trans e, fun q hq => by
    rcases List.mem_cons.mp hq with r | r
    · rw [r]; exact ⟨h, w.fresh hp⟩
    · exact ⟨e _ _ (w.cell q r).1, (w.cell q r).2⟩, List.nodup_cons.mpr ⟨w.off hp, w.nd⟩⟩
theorem Own.new (w : Own B cs H) (hp : H p = none) : Own B ((p, o) :: cs) (upd H p o) := w.newE hp (same_upd hp) upd_same
theorem Own.get (w : Own B cs H) (i : Nat) (h : cs[i]? = some (p, o)) : H p = some o := (w.cell _ (List.mem_of_getElem? h)).1
theorem Own.none (w : Own B cs H) (i : Nat) (h : cs[i]? = some (p, o)) : B p = none := (w.cell _ (List.mem_of_getElem? h)).2
theorem Own.put (w : Own B cs H) (i : Nat) (h : cs[i]? = some (p, o)) : Own B (cs.set i (p, o')) (upd H p o') := by
  have hi : i < cs.length := (List.getElem?_eq_some_iff.mp h).1
  have hm : (cs.set i (p, o')).map (·.1) = cs.map (·.1) := by
    rw [List.map_set]
    apply List.ext_getElem?
    intro j
    by_cases e : i = j
    · subst e
      rw [List.getElem?_set_self (by rw [List.length_map]; exact hi), List.getElem?_map, h] <;> rfl
    · rw [List.getElem?_set_ne e]
  refine ⟨fun b x e => ?_, fun q hq => ?_, by rw [hm]; exact w.nd⟩
  · rw [upd_ne (ne_of_none e (w.none i h))]
    exact w.ex b x e
  · obtain ⟨j, hj⟩ := List.mem_iff_getElem?.mp hq
    by_cases e : i = j
    · subst e
      rw [List.getElem?_set_self hi] at hj
      cases hj
      exact ⟨upd_same, w.none i h⟩
    · rw [List.getElem?_set_ne e] at hj
      have hq' := w.cell q (List.mem_of_getElem? hj)
      have hne : q.1 ≠ p := fun z => by
        have a1 : (cs.map (·.1))[i]? = some p := by rw [List.getElem?_map, h] <;> rfl
        have a2 : (cs.map (·.1))[j]? = some p := by rw [List.getElem?_map, hj, ← z] <;> rfl
        obtain ⟨l1, e1⟩ := List.getElem?_eq_some_iff.mp a1
        obtain ⟨l2, e2⟩ := List.getElem?_eq_some_iff.mp a2
        exact e ((List.getElem_inj w.nd).mp (e1.trans e2.symm))
      exact ⟨by rw [upd_ne hne]; exact hq'.1, hq'.2⟩
theorem Own.sub {ds : Cells} (w : Own B cs H) (h : ds.Sublist cs) : Own B ds H := ⟨w.ex, fun q hq => w.cell q (h.mem hq), (h.map (·.1)).nodup w.nd⟩
theorem Own.pop (w : Own B ((p, o) :: cs) H) : Own B cs H := w.sub (List.sublist_cons_self _ _)
theorem Own.freeze (w : Own B ((p, o) :: cs) H) : Own (upd B p o) cs H :=
  ⟨fun b x e => by
    by_cases z : b = p
    · subst z; rw [upd_same] at e; rw [← e]; exact w.get 0 rfl
    · rw [upd_ne z] at e; exact w.ex b x e,
   fun q hq => ⟨(w.cell q (List.mem_cons_of_mem _ hq)).1, by
    rw [upd_ne (fun z => ?_)]
    · exact (w.cell q (List.mem_cons_of_mem _ hq)).2
    · have := (List.nodup_cons.mp w.nd).1
      exact this (List.mem_map.mpr ⟨q, hq, z⟩)⟩, (List.nodup_cons.mp w.nd).2⟩
theorem Own.sq (w : Own B cs H) (i : Nat) (h : cs[i]? = some (p, .lst xs)) : SqL K H p xs := SqL.of (w.get i h)
theorem Own.sqT (w : Own B cs H) (i : Nat) (h : cs[i]? = some (p, .tup xs)) : SqT K H p xs := SqT.of (w.get i h)
theorem same_sqT (e : Same H H') (h : SqT K H p xs) : SqT K H' p xs := by
  rcases h with (h | ⟨u, h⟩) | h
  · exact .inl (.inl (e _ _ h))
  · exact .inl (.inr ⟨u, e _ _ h⟩)
  · exact .inr h
theorem Own.seq (w : Own B cs H) (h : SqL K B p xs) : SqL K H p xs := w.ex.seq h
theorem Own.seqT (w : Own B cs H) (h : SqT K B p xs) : SqT K H p xs := same_sqT w.ex h
end

/-! ### own rules -/
section
variable {X : Cx}
/-- a list that is read: ours, or frozen -/
abbrev RdL (H : Hp) (a : Addr) (xs : List V) : Prop := Rd H a (.lst xs)
theorem rd_list {pins : List (Addr × Obj)} {σ : L2.St} {H : Hp} {s : Shared} {p : Addr} {xs : List V} (I : Inv X pins σ H s) (h : RdL H p xs) :
    xs.length ≤ sizeLine ∧ ∃ (its : List Value) (n : Nat), Vals xs its ∧ xs.length = its.length ∧ s.heap.get? p = some { cls := .type "list", data := .seq its.toArray n } := by
  obtain ⟨z, its, n, r, e⟩ := h.ok I.hok
  exact ⟨z, its, n, r, r.length, e⟩
/-- + of lists (ours or frozen) -/
def rCatS : R2 := fun x y H Q => ∃ l b xs zs, x = .ref l ∧ y = .ref b ∧ RdL H l xs ∧ RdL H b zs ∧ xs.length + zs.length ≤ sizeLine ∧ ∀ p, H p = none → Q (.ref p) (upd H p (.lst (xs ++ zs)))
theorem op_catS : OpR X (binaryOp .Add) rCatS := by
  intro pins s σ H x y v u Q I rx ry h
  obtain ⟨l, b, xs, zs, rfl, rfl, hH, hB, hz, q⟩ := h
  cases rx
  cases ry
  obtain ⟨z, its, n, r, hl, e⟩ := rd_list I hH
  obtain ⟨z2, its2, n2, r2, hl2, e2⟩ := rd_list I hB
  refine PySem.P.add_list e e2 ?_ (by rw [List.size_toArray, List.size_toArray]; omega)
  have ea : its.toArray ++ its2.toArray = (its ++ its2).toArray := by simp
  rw [ea]
  exact ⟨.ref _, _, I.lnew (t' := s.toks) (r.append r2) (by rw [List.length_append]; omega), rfl, q _ I.fresh⟩
/-- + of ints, of lists, of texts: which one, the reading says -/
def rAddX : R2 := fun x y H Q => (rI0 (fun i j => .int (i + j))) x y H Q ∨ rCatS x y H Q ∨ (∃ i j, x = .str i ∧ y = .str j ∧ i.length + j.length ≤ sizeLine ∧ Q (.str (i ++ j)) H)
theorem op_addX : OpR X (binaryOp .Add) rAddX := op_add.or (op_catS.or op_add_str)
/-- * of ints (any that the machine multiplies); of a list and an int -/
def rMulI : R2 := rI IntMulOk fun i j => .int (i * j)
theorem op_mulI : OpR X (binaryOp .Mult) rMulI := opI fun _ _ _ _ _ _ _ hc q => mul_int q hc
def rMulX : R2 := fun x y H Q => rMulI x y H Q ∨ rRep x y H Q
theorem op_mulX : OpR X (binaryOp .Mult) rMulX := op_mulI.or op_rep
/-- // by a divisor that is not nought, below 2 ^ 9000 -/
def CDivX (_ j : Int) : Prop := j ≠ 0 ∧ j.natAbs.log2 < 9000
def rDivX : R2 := rI CDivX fun i j => .int (i.fdiv j)
theorem op_fdivX : OpR X (binaryOp .FloorDiv) rDivX := opI fun _ _ _ _ _ _ _ hc q => floordiv_int hc.1 q (.inl (PyProof.noPylong_of_log2 hc.2))
def rModX : R2 := rI (fun _ j => j ≠ 0) fun i j => .int (i.fmod j)
theorem op_modX : OpR X (binaryOp .Mod) rModX := op_modN
/-- ** and << of a small base; >> -/
def rPow : R2 := rI CPow fun i j => .int (i ^ j.toNat)
theorem op_powX : OpR X (binaryOp .Pow) rPow := op_pow
def rShl : R2 := rI CPow fun i j => .int (i * 2 ^ j.toNat)
theorem op_shlX : OpR X (binaryOp .LShift) rShl := op_shl
def rShr : R2 := rI (fun _ j => 0 ≤ j) fun i j => .int (i / 2 ^ j.toNat)
theorem op_shrX : OpR X (binaryOp .RShift) rShr := op_shr
def rSubI : R2 := rI0 fun i j => .int (i - j)
theorem op_subX : OpR X (binaryOp .Sub) rSubI := op_sub
def rAndI : R2 := rI0 fun i j => .int (Builtin.bitAnd i j)
theorem op_andX : OpR X (binaryOp .BitAnd) rAndI := op_and
def rOrI : R2 := rI0 fun i j => .int (Builtin.bitOr i j)
theorem op_orX : OpR X (binaryOp .BitOr) rOrI := op_or
def rXorI : R2 := rI0 fun i j => .int (Builtin.bitXor i j)
theorem op_xorX : OpR X (binaryOp .BitXor) rXorI := op_xor
def rLtI : R2 := rI0 fun i j => .bl (decide (i < j))
theorem op_ltX : OpR X (compareOp .Lt) rLtI := op_lt
def rLeI : R2 := rI0 fun i j => .bl (decide (i ≤ j))
theorem op_leX : OpR X (compareOp .LtE) rLeI := op_le
def rGtI : R2 := rI0 fun i j => .bl (decide (j < i))
theorem op_gtX : OpR X (compareOp .Gt) rGtI := op_gt
def rGeI : R2 := rI0 fun i j => .bl (decide (j ≤ i))
theorem op_geX : OpR X (compareOp .GtE) rGeI := op_ge
/-- == and != of plain values, of data -/
def rEqX (K : PySem.W.Frag) : R2 := fun x y H Q => rEq x y H Q ∨ rEqD K x y H Q
def rNeX (K : PySem.W.Frag) : R2 := fun x y H Q => rNe x y H Q ∨ rNeD K x y H Q
theorem op_eqX (hu : X.A.units + 64 < cLine) : OpR X (compareOp .Eq) (rEqX X.K) := op_eq.or (op_eqD hu)
theorem op_neX (hu : X.A.units + 64 < cLine) : OpR X (compareOp .NotEq) (rNeX X.K) := op_ne.or (op_neD hu)
/-- is, is not, of anything and a truth -/
def rIsX : R2 := fun x y H Q => ∃ b : Bool, y = .bl b ∧ Q (.bl (decide (x = .bl b))) H
/-- is None -/
def rIsNX : R2 := fun x y H Q => y = .non ∧ Q (.bl (decide (x = .non))) H
def rNotNX : R2 := fun x y H Q => y = .non ∧ Q (.bl (!decide (x = .non))) H
theorem op_isNX : OpR X (compareOp .Is) rIsNX := op_isN
theorem op_notNX : OpR X (compareOp .IsNot) rNotNX := op_notN
theorem op_isX : OpR X (compareOp .Is) rIsX := by
  intro pins s σ H x y v u Q I rx ry h
  obtain ⟨b, rfl, q⟩ := h
  cases (show u = Value.bool b from ry)
  cases x with
  | bl a =>
    cases (show v = Value.bool a from rx)
    by_cases e : a = b
    · subst e
      exact wpAny_is_self rfl ⟨.bl true, H, I, rfl, by simpa using q⟩
    · exact wpAny_is_other rfl (fun z => e (Value.bool.inj z)) ⟨.bl false, H, I, rfl, by simpa [e] using q⟩
  | non => cases (show v = Value.none from rx); exact wpAny_is_other rfl (fun z => nomatch z) ⟨.bl false, H, I, rfl, by simpa using q⟩
  | int i => obtain ⟨t, rfl⟩ := rx; exact wpAny_is_other rfl (fun z => nomatch z) ⟨.bl false, H, I, rfl, by simpa using q⟩
  | str i => obtain ⟨t, rfl⟩ := rx; exact wpAny_is_other rfl (fun z => nomatch z) ⟨.bl false, H, I, rfl, by simpa using q⟩
  | byt i => obtain ⟨t, rfl⟩ := rx; exact wpAny_is_other rfl (fun z => nomatch z) ⟨.bl false, H, I, rfl, by simpa using q⟩
  | flt i => obtain ⟨t, rfl⟩ := rx; exact wpAny_is_other rfl (fun z => nomatch z) ⟨.bl false, H, I, rfl, by simpa using q⟩
  | ref a => cases (show v = Value.ref a from rx); exact wpAny_is_other rfl (fun z => nomatch z) ⟨.bl false, H, I, rfl, by simpa using q⟩
  | ty a => cases (show v = Value.type a from rx); exact wpAny_is_other rfl (fun z => nomatch z) ⟨.bl false, H, I, rfl, by simpa using q⟩
/-- the place of a list's item is read, as a store by an operator reads it -/
theorem get_list : PGet X (rIxL X.K) := by
  intro pins s σ H x y v u Q I rx ry h
  obtain ⟨p, xs, i, z, rfl, rfl, hq, he, q⟩ := h
  cases rx
  obtain ⟨t, rfl⟩ := ry
  obtain ⟨its, r, pl, hz⟩ := I.list hq
  obtain ⟨j, h1, h2, h3, h4, h5⟩ := atI_get he
  obtain ⟨w, ew, rw'⟩ := r.get h2
  have hl := r.length
  have hn := line63
  have fin : EP X pins σ Q w s := ⟨z, H, I, rw', q⟩
  by_cases h0 : 0 ≤ i
  · have hj : i.toNat = j := by
      rw [seqIndex_of h0 h5] at h1
      exact Option.some.inj h1
    exact wpAny_getItem_list pl.isList h0 (by omega) (by rw [hj]; simpa using ew) fin
  · have hj : (i + (its.toArray.size : Int)).toNat = j := by
      rw [seqIndex_neg (by omega) h4] at h1
      rw [List.size_toArray, ← hl]
      exact Option.some.inj h1
    exact wpAny_getItem_list_neg pl.isList (by omega) (by rw [List.size_toArray] <;> omega) (by omega) (by rw [hj]; simpa using ew) fin
/-- len, list, sum, .. by names of ours -/
def rLen (K : PySem.W.Frag) : List V → Hp → VK → Prop := fun xs H Q => ∃ x n, xs = [x] ∧ LenV K x H n ∧ Q (.int n) H
theorem call_lenX : CallR X (.builtin "len") (rLen X.K) := call_len
def rList (K : PySem.W.Frag) : List V → Hp → VK → Prop := fun xs H Q => ∃ p ys, xs = [.ref p] ∧ (SqL K H p ys ∨ SqT K H p ys) ∧ ∀ l, H l = none → Q (.ref l) (upd H l (.lst ys))
theorem call_listX : CallR X (.type "list") (rList X.K) := call_list_of
def rAbs : List V → Hp → VK → Prop := fun xs H Q => ∃ i, xs = [.int i] ∧ Q (.int (if i < 0 then -i else i)) H
theorem call_absX : CallR X (.builtin "abs") rAbs := call_abs
def rMax2 : List V → Hp → VK → Prop := fun xs H Q => ∃ i j, xs = [.int i, .int j] ∧ Q (.int (if j > i then j else i)) H
theorem call_max2X (hc : X.calm = true) : CallR X (.builtin "max") rMax2 := call_max2 hc
def rMin2 : List V → Hp → VK → Prop := fun xs H Q => ∃ i j, xs = [.int i, .int j] ∧ Q (.int (if j < i then j else i)) H
theorem call_min2X (hc : X.calm = true) : CallR X (.builtin "min") rMin2 := call_min2 hc
def rInt1 : List V → Hp → VK → Prop := fun xs H Q => (∃ i, xs = [.int i] ∧ Q (.int i) H) ∨ ∃ k, xs = [.bl k] ∧ Q (.int (if k then 1 else 0)) H
theorem call_int1X : CallR X (.type "int") rInt1 := call_int1
end

/-! ### readings, step by step: each of these takes the head of a reading away -/
section
variable {K : PySem.W.Frag} {σ : L2.St} {H : Hp} {D : Ends} {Q : VK} {te ta tb tl th : TE} {t u : TS} {c c2 : TT} {g : TG} {i : Nat} {v x y : V} {r : R2} {QT : Bool → Hp → Prop} {QA : List V → Hp → Prop} {sp : Sp} {dvs vs : List V} {E : XK}
theorem x_seq (h : t { D with nx := u D } σ H) : tSeq t u D σ H := h
theorem x_next (h : D.nx σ H) : tNext D σ H := h
theorem x_asg (h : te σ H fun x H1 => D.nx (σ.set i (some x)) H1) : tAsg te (gName i) D σ H := h
theorem x_asgS {to ti : TE} {s : TSet} (h : te σ H fun x H1 => to σ H1 fun o H2 => ti σ H2 fun k H3 => s o k x H3 fun H4 => D.nx σ H4) : tAsg te (gSub to ti s) D σ H := h
theorem x_augS {to ti : TE} {tg : V → V → Hp → VK → Prop} {tip : TIp} {ts : TSet} (h : to σ H fun o H1 => ti σ H1 fun k H2 => tg o k H2 fun x H3 => te σ H3 fun y H4 => tip x y H4 fun z H5 => ts o k z H5 fun H6 => D.nx σ H6) : tAugS to ti te tg tip ts D σ H := h
theorem x_aug {tip : TIp} (e : σ[i]? = some (some x)) (h : te σ H fun y H1 => tip x y H1 fun z H2 => D.nx (σ.set i (some z)) H2) : tAug i te tip D σ H := ⟨x, e, h⟩
theorem x_gn {QS : L2.St → Hp → Prop} (h : QS (σ.set i (some v)) H) : gName i v σ H QS := h
theorem x_gt {n : Nat} {gs : TGs} {a : Addr} {xs : List V} {QS : L2.St → Hp → Prop} (h : SqT K H a xs) (hn : xs.length = n) (q : gs xs σ H QS) : gTup K n gs (.ref a) σ H QS := ⟨a, xs, rfl, h, hn, q⟩
theorem x_gc {gs : TGs} {r : List V} {QS : L2.St → Hp → Prop} (q : g v σ H fun σ' H' => gs r σ' H' QS) : gCons g gs (v :: r) σ H QS := ⟨v, r, rfl, q⟩
theorem x_g0 {QS : L2.St → Hp → Prop} (q : QS σ H) : gNil [] σ H QS := ⟨rfl, q⟩
theorem x_ret (h : te σ H D.rt) : tRet te D σ H := h
theorem x_retN (h : D.rt .non H) : tRetN D σ H := h
theorem x_drop (h : te σ H fun _ H1 => D.nx σ H1) : tDrop te D σ H := h
theorem x_if (h : c σ H fun b H1 => if b = true then t D σ H1 else u D σ H1) : tIfS c t u D σ H := h
theorem x_brk (h : D.bk σ H) : tBreak D σ H := h
theorem x_ct (h : D.ct σ H) : tCont D σ H := h
theorem x_var (e : σ[i]? = some (some v)) (q : Q v H) : tVar i σ H Q := ⟨v, e, q⟩
theorem x_c (q : Q v H) : tC v σ H Q := q
theorem x_op (h : ta σ H fun x H1 => tb σ H1 fun y H2 => r x y H2 Q) : tOp r ta tb σ H Q := h
theorem x_un {r : V → Hp → VK → Prop} (h : ta σ H fun x H1 => r x H1 Q) : tUn r ta σ H Q := h
theorem x_test (h : te σ H fun x H1 => ∃ k, x = .bl k ∧ QT k H1) : tTest te σ H QT := h
theorem x_B (h : te σ H fun x H1 => ∃ k, x = .bl k ∧ QT k H1) : tB te σ H QT := h
theorem x_ex {b : Bool} {P : Bool → Prop} (q : P b) : ∃ k, V.bl b = .bl k ∧ P k := ⟨b, rfl, q⟩
theorem x_and (h : c σ H fun b H1 => if b = true then c2 σ H1 QT else QT false H1) : tAnd c c2 σ H QT := h
theorem x_or (h : c σ H fun b H1 => if b = true then QT true H1 else c2 σ H1 QT) : tOr c c2 σ H QT := h
theorem x_not (h : c σ H fun b H1 => QT (!b) H1) : tNot c σ H QT := h
theorem x_andV (h : ta σ H fun x H1 => ∃ b, x = .bl b ∧ if b = true then tb σ H1 Q else Q (.bl false) H1) : tAndV ta tb σ H Q := h
theorem x_orV (h : ta σ H fun x H1 => ∃ b, x = .bl b ∧ if b = true then Q (.bl true) H1 else tb σ H1 Q) : tOrV ta tb σ H Q := h
theorem x_notV (h : ta σ H fun x H1 => ∃ b, x = .bl b ∧ Q (.bl (!b)) H1) : tNotV ta σ H Q := h
theorem x_ifE (h : c σ H fun b H1 => if b = true then ta σ H1 Q else tb σ H1 Q) : tIf c ta tb σ H Q := h
theorem x_nil (q : QA [] H) : tNil σ H QA := q
theorem x_cons {tr : TA} (h : te σ H fun v H1 => tr σ H1 fun vs H2 => QA (v :: vs) H2) : tCons te tr σ H QA := h
theorem x_call {tr : TA} (h : tr σ H fun vs H1 => sp (vs ++ dvs) H1 Q E) : tCall sp dvs E tr σ H Q := h
theorem x_cb {tr : TA} {rc : List V → Hp → VK → Prop} (h : tr σ H fun vs H1 => rc vs H1 Q) : tCB rc tr σ H Q := h
theorem x_tup {tr : TA} (h : tr σ H fun xs H1 => xs.length ≤ sizeLine ∧ ∀ p, H1 p = none → Q (.ref p) (upd H1 p (.tup xs))) : tTup tr σ H Q := h
theorem x_lst {tr : TA} (h : tr σ H fun xs H1 => xs.length ≤ sizeLine ∧ ∀ p, H1 p = none → Q (.ref p) (upd H1 p (.lst xs))) : tLst tr σ H Q := h
theorem x_for {wi : TI} (h : wi σ H fun J H1 => ∃ W : Nat → Nat → L2.St → Hp → Prop, (∃ m, W 0 m σ H1) ∧ ∀ i m σ H, W i m σ H →
  (J.stop i H ∧ D.nx σ H) ∨ (J.go i H ∧ ∃ N : L2.St → Hp → Prop, (∀ σ' H', N σ' H' → ∃ m', m' < m ∧ W (i + 1) m' σ' H') ∧ ∀ x H', J.yld i H x H' → g x σ H' fun σ2 H2 => t { D with nx := N, ct := N, bk := D.nx } σ2 H2)) : tFor wi g t D σ H := h
theorem x_iList {R : It → Hp → Prop} (h : tl σ H fun x H1 => ∃ a, x = .ref a ∧ (∃ xs, SqL K H1 a xs) ∧ R (Itl K a) H1) : iList K tl σ H R := h
theorem x_iTup {R : It → Hp → Prop} (h : tl σ H fun x H1 => ∃ a, x = .ref a ∧ (∃ xs, SqT K H1 a xs) ∧ R (Itt K a) H1) : iTup K tl σ H R := h
theorem x_iR1 {R : It → Hp → Prop} {tr : TA} (h : tr σ H fun vs H1 => ∃ j : Int, vs = [.int j] ∧ -(2 ^ 62) ≤ j ∧ j < 2 ^ 62 ∧ R (Itr 0 j.toNat) H1) : iRng1 tr σ H R := h
theorem x_iR2 {R : It → Hp → Prop} {tr : TA} (h : tr σ H fun vs H1 => ∃ i j : Int, vs = [.int i, .int j] ∧ (-(2 ^ 62) ≤ i ∧ i < 2 ^ 62 ∧ -(2 ^ 62) ≤ j ∧ j < 2 ^ 62) ∧ R (Itr i (j - i).toNat) H1) : iRng2 tr σ H R := h
theorem x_iZip {R : It → Hp → Prop} {tr : TA} (h : tr σ H fun vs H1 => ∃ a b xs ys, vs = [.ref a, .ref b] ∧ SqL K H1 a xs ∧ SqL K H1 b ys ∧ R (Itz K a b) H1) : iZip K tr σ H R := h
theorem x_iEnum {R : It → Hp → Prop} {tr : TA} (h : tr σ H fun vs H1 => ∃ a xs, vs = [.ref a] ∧ SqL K H1 a xs ∧ R (Ite K a) H1) : iEnum K tr σ H R := h
theorem x_lc {wi : TI} {tt : TT} {ws : List Nat} (h : wi σ H fun J H1 => ∀ D, H1 D = none → ∃ W : Nat → Nat → Hp → Prop, (∃ m, W 0 m (upd H1 D (.lst []))) ∧ ∀ i m H, W i m H →
  (J.stop i H ∧ Q (.ref D) H) ∨ (J.go i H ∧ ∃ Nx : Hp → Prop, (∀ H', Nx H' → ∃ m', m' < m ∧ W (i + 1) m' H') ∧ ∀ x H', J.yld i H x H' → g x (wipe σ ws) H' fun σ2 H2 => wipe σ2 ws = wipe σ ws ∧ tt σ2 H2 fun b H3 =>
    if b = true then te σ2 H3 fun y H4 => ∃ acc, H4 D = some (.lst acc) ∧ acc.length < sizeLine ∧ Nx (upd H4 D (.lst (acc ++ [y]))) else Nx H3)) : tLc wi g tt te ws σ H Q := h
theorem x_yes (h : QT true H) : tYes σ H QT := h
theorem x_sl {rs : V → Option Int → Option Int → Hp → VK → Prop} {tlo thi : TO} (h : te σ H fun x H1 => tlo σ H1 fun l H2 => thi σ H2 fun u H3 => rs x l u H3 Q) : tSl rs te tlo thi σ H Q := h
theorem x_noPart {QO : Option Int → Hp → Prop} (h : QO none H) : tNoPart σ H QO := h
theorem x_part {QO : Option Int → Hp → Prop} (h : te σ H fun x H1 => ∃ i, x = .int i ∧ QO (some i) H1) : tPart te σ H QO := h
theorem x_exI {j : Int} {P : Int → Prop} (q : P j) : ∃ k, V.int j = .int k ∧ P k := ⟨j, rfl, q⟩
theorem x_bm {T : String} {rm : V → List V → Hp → VK → Prop} {tr : TA} (h : te σ H fun x H1 => tyV K T x H1 ∧ tr σ H1 fun xs H2 => rm x xs H2 Q) : tBM K T rm te tr σ H Q := h
theorem x_bm0 {T : String} {rm : V → List V → Hp → VK → Prop} (h : te σ H fun x H1 => tyV K T x H1 ∧ rm x [] H1 Q) : tBM0 K T rm te σ H Q := h
/- operators by values -/
theorem x_I0 {G : Int → Int → V} {a b : Int} (q : Q (G a b) H) : rI0 G (.int a) (.int b) H Q := ⟨a, b, rfl, rfl, q⟩
theorem x_I {C : Int → Int → Prop} {G : Int → Int → V} {a b : Int} (hc : C a b) (q : Q (G a b) H) : rI C G (.int a) (.int b) H Q := ⟨a, b, rfl, rfl, hc, q⟩
theorem x_U {G : Int → V} {a : Int} (q : Q (G a) H) : rU G (.int a) H Q := ⟨a, rfl, q⟩
theorem x_addI {a b : Int} (q : Q (.int (a + b)) H) : rAddX (.int a) (.int b) H Q := .inl ⟨a, b, rfl, rfl, q⟩
theorem x_addL {l b : Addr} {xs zs : List V} (h1 : RdL H l xs) (h2 : RdL H b zs) (hz : xs.length + zs.length ≤ sizeLine) (q : ∀ p, H p = none → Q (.ref p) (upd H p (.lst (xs ++ zs)))) : rAddX (.ref l) (.ref b) H Q := .inr (.inl ⟨l, b, xs, zs, rfl, rfl, h1, h2, hz, q⟩)
theorem x_addS {a b : Str} (h : a.length + b.length ≤ sizeLine) (q : Q (.str (a ++ b)) H) : rAddX (.str a) (.str b) H Q := .inr (.inr ⟨a, b, rfl, rfl, h, q⟩)
theorem x_subI {a b : Int} (q : Q (.int (a - b)) H) : rSubI (.int a) (.int b) H Q := ⟨a, b, rfl, rfl, q⟩
theorem x_mulI {a b : Int} (h : IntMulOk a b) (q : Q (.int (a * b)) H) : rMulX (.int a) (.int b) H Q := .inl ⟨a, b, rfl, rfl, h, q⟩
theorem x_mulL {l : Addr} {k : Int} {xs : List V} (h1 : H l = some (.lst xs)) (h2 : -(2 ^ 63) ≤ k ∧ k < 2 ^ 63 ∧ xs.length * k.toNat ≤ sizeLine) (q : ∀ p, H p = none → Q (.ref p) (upd H p (.lst (List.replicate k.toNat xs).flatten))) : rMulX (.ref l) (.int k) H Q :=
  .inr ⟨l, k, xs, rfl, rfl, h1, h2.1, h2.2.1, h2.2.2, q⟩
theorem x_divI {a b : Int} (h : b ≠ 0 ∧ b.natAbs.log2 < 9000) (q : Q (.int (a.fdiv b)) H) : rDivX (.int a) (.int b) H Q := ⟨a, b, rfl, rfl, h, q⟩
theorem x_divP {a b : Int} (h0 : 0 < b) (h : b.natAbs.log2 < 9000) (q : Q (.int (a / b)) H) : rDivX (.int a) (.int b) H Q := ⟨a, b, rfl, rfl, ⟨by omega, h⟩, by show Q (.int (a.fdiv b)) H; rw [Int.fdiv_eq_ediv_of_nonneg a (by omega)]; exact q⟩
theorem x_modP {a b : Int} (h0 : 0 < b) (q : Q (.int (a % b)) H) : rModX (.int a) (.int b) H Q := ⟨a, b, rfl, rfl, by omega, by show Q (.int (a.fmod b)) H; rw [Int.fmod_eq_emod_of_nonneg a (by omega)]; exact q⟩
theorem x_powN {a b : Int} (h : CPow a b) (q : Q (.int (a ^ b.toNat)) H) : rPow (.int a) (.int b) H Q := ⟨a, b, rfl, rfl, h, q⟩
theorem x_shl {a b : Int} (h : CPow a b) (q : Q (.int (a * 2 ^ b.toNat)) H) : rShl (.int a) (.int b) H Q := ⟨a, b, rfl, rfl, h, q⟩
theorem x_shr {a b : Int} (h : 0 ≤ b) (q : Q (.int (a / 2 ^ b.toNat)) H) : rShr (.int a) (.int b) H Q := ⟨a, b, rfl, rfl, h, q⟩
theorem x_andI {a b : Int} (q : Q (.int (Builtin.bitAnd a b)) H) : rAndI (.int a) (.int b) H Q := ⟨a, b, rfl, rfl, q⟩
theorem x_orI {a b : Int} (q : Q (.int (Builtin.bitOr a b)) H) : rOrI (.int a) (.int b) H Q := ⟨a, b, rfl, rfl, q⟩
theorem x_xorI {a b : Int} (q : Q (.int (Builtin.bitXor a b)) H) : rXorI (.int a) (.int b) H Q := ⟨a, b, rfl, rfl, q⟩
theorem x_ltI {a b : Int} (q : Q (.bl (decide (a < b))) H) : rLtI (.int a) (.int b) H Q := ⟨a, b, rfl, rfl, q⟩
theorem x_leI {a b : Int} (q : Q (.bl (decide (a ≤ b))) H) : rLeI (.int a) (.int b) H Q := ⟨a, b, rfl, rfl, q⟩
theorem x_gtI {a b : Int} (q : Q (.bl (decide (b < a))) H) : rGtI (.int a) (.int b) H Q := ⟨a, b, rfl, rfl, q⟩
theorem x_geI {a b : Int} (q : Q (.bl (decide (b ≤ a))) H) : rGeI (.int a) (.int b) H Q := ⟨a, b, rfl, rfl, q⟩
theorem dec_int' {a b : Int} : decide (V.int a = V.int b) = decide (a = b) := by
  by_cases e : a = b
  · subst e; simp
  · rw [decide_eq_false e, decide_eq_false (fun z => e (V.int.inj z))]
theorem x_eqI {a b : Int} (q : Q (.bl (decide (a = b))) H) : rEqX K (.int a) (.int b) H Q := .inl ⟨rfl, by rw [dec_int']; exact q⟩
theorem x_neI {a b : Int} (q : Q (.bl (!decide (a = b))) H) : rNeX K (.int a) (.int b) H Q := .inl ⟨rfl, by rw [dec_int']; exact q⟩
theorem x_eqS {a b : Str} (q : Q (.bl (decide (a = b))) H) : rEqX K (.str a) (.str b) H Q := .inl ⟨rfl, by
  have e : decide (V.str a = V.str b) = decide (a = b) := by
    by_cases e : a = b
    · subst e; simp
    · rw [decide_eq_false e, decide_eq_false (fun z => e (V.str.inj z))]
  rw [e]; exact q⟩
theorem x_eqB {a b : Bool} (q : Q (.bl (decide (a = b))) H) : rEqX K (.bl a) (.bl b) H Q := .inl ⟨rfl, by
  have e : decide (V.bl a = V.bl b) = decide (a = b) := by cases a <;> cases b <;> rfl
  rw [e]; exact q⟩
theorem x_isX {b : Bool} (q : Q (.bl (decide (x = .bl b))) H) : rIsX x (.bl b) H Q := ⟨b, rfl, q⟩
theorem x_isN (q : Q (.bl (decide (x = .non))) H) : rIsNX x .non H Q := ⟨rfl, q⟩
theorem x_notN (q : Q (.bl (!decide (x = .non))) H) : rNotNX x .non H Q := ⟨rfl, q⟩
theorem x_ipI {f : Int → Int → Int} {a b : Int} (q : Q (.int (f a b)) H) : ipI f (.int a) (.int b) H Q := ⟨a, b, rfl, rfl, q⟩
/- lists by values -/
theorem x_ixL {p : Addr} {xs : List V} {i : Int} (h : SqL K H p xs) (ha : atI xs i = some v) (q : Q v H) : rIxL K (.ref p) (.int i) H Q := ⟨p, xs, i, v, rfl, rfl, h, ha, q⟩
theorem x_ixT {p : Addr} {xs : List V} {i : Int} (h : SqT K H p xs) (ha : atI xs i = some v) (q : Q v H) : rIxT K (.ref p) (.int i) H Q := ⟨p, xs, i, v, rfl, rfl, h, ha, q⟩
theorem x_ixXL {p : Addr} {xs : List V} {i : Int} (h : SqL K H p xs) (ha : atI xs i = some v) (q : Q v H) : rIx K (.ref p) (.int i) H Q := .inl ⟨p, xs, i, v, rfl, rfl, h, ha, q⟩
theorem x_ixXT {p : Addr} {xs : List V} {i : Int} (h : SqT K H p xs) (ha : atI xs i = some v) (q : Q v H) : rIx K (.ref p) (.int i) H Q := .inr (.inl ⟨p, xs, i, v, rfl, rfl, h, ha, q⟩)
theorem x_lenL {p : Addr} {xs : List V} (h : SqL K H p xs) (q : Q (.int (xs.length : Int)) H) : rLen K [.ref p] H Q := ⟨_, _, rfl, .inl ⟨xs, h, rfl⟩, q⟩
theorem x_lenT {p : Addr} {xs : List V} (h : SqT K H p xs) (q : Q (.int (xs.length : Int)) H) : rLen K [.ref p] H Q := ⟨_, _, rfl, .inr ⟨xs, h, rfl⟩, q⟩
theorem x_lenS {z : Str} (h : z.length ≤ sizeLine) (q : Q (.int (z.length : Int)) H) : rLen K [.str z] H Q := ⟨_, _, rfl, ⟨h, rfl⟩, q⟩
theorem x_list {p : Addr} {xs : List V} (h : SqL K H p xs) (q : ∀ l, H l = none → Q (.ref l) (upd H l (.lst xs))) : rList K [.ref p] H Q := ⟨p, xs, rfl, .inl h, q⟩
theorem x_append {l : Addr} {xs : List V} (h : H l = some (.lst xs)) (hz : xs.length < sizeLine) (q : Q .non (upd H l (.lst (xs ++ [y])))) : rAppend (.ref l) [y] H Q := ⟨l, xs, y, rfl, rfl, h, hz, q⟩
theorem x_setL {p : Addr} {xs : List V} {k : Int} {j : Nat} {QH : Hp → Prop} (h : H p = some (.lst xs)) (hj : ixN xs.length k = some j) (q : QH (upd H p (.lst (xs.set j v)))) : rSetL (.ref p) (.int k) v H QH := ⟨p, xs, k, j, rfl, rfl, h, hj, q⟩
theorem x_tyL {p : Addr} {xs : List V} (h : H p = some (.lst xs)) : tyV K "list" (.ref p) H := .inl ⟨rfl, _, SqL.of h⟩
theorem x_abs {j : Int} (q : Q (.int (if j < 0 then -j else j)) H) : rAbs [.int j] H Q := ⟨j, rfl, q⟩
theorem x_max2 {a b : Int} (q : Q (.int (if b > a then b else a)) H) : rMax2 [.int a, .int b] H Q := ⟨a, b, rfl, q⟩
theorem x_min2 {a b : Int} (q : Q (.int (if b < a then b else a)) H) : rMin2 [.int a, .int b] H Q := ⟨a, b, rfl, q⟩
theorem x_sum {p : Addr} {ns : List Int} (h : SqL K H p (ns.map V.int)) (q : Q (.int ns.sum) H) : rSum K [.ref p] H Q := ⟨p, ns, rfl, h, q⟩
/-- while: W falls; the turn's test is read as it stands -/
theorem x_while (W : Nat → L2.St → Hp → Prop) (m0 : Nat) (h0 : W m0 σ H) (hs : ∀ m σ H, W m σ H → c σ H fun b H1 => if b = true then ∃ N : L2.St → Hp → Prop, (∀ σ' H', N σ' H' → ∃ m', m' < m ∧ W m' σ' H') ∧ t { D with nx := N, ct := N, bk := D.nx } σ H1 else D.nx σ H1) : tWhile c t D σ H := ⟨W, ⟨m0, h0⟩, hs⟩
theorem x_N {m : Nat} {W : Nat → L2.St → Hp → Prop} {B : L2.St → Hp → Prop} (h : t { D with nx := fun σ' H' => ∃ m', m' < m ∧ W m' σ' H', ct := fun σ' H' => ∃ m', m' < m ∧ W m' σ' H', bk := B } σ H) :
    ∃ N : L2.St → Hp → Prop, (∀ σ' H', N σ' H' → ∃ m', m' < m ∧ W m' σ' H') ∧ t { D with nx := N, ct := N, bk := B } σ H := ⟨_, fun _ _ z => z, h⟩
end
/-! ### places in lists of ints -/
def gi (ns : List Int) (i : Int) : Int := ns.getD i.toNat 0
theorem at_int {ns : List Int} {i : Int} (h0 : 0 ≤ i) (h1 : i < ns.length) : atI (ns.map V.int) i = some (.int (gi ns i)) := by
  obtain ⟨n, rfl⟩ := Int.eq_ofNat_of_zero_le h0
  have hn : n < ns.length := by omega
  refine atI_nat ?_
  rw [List.getElem?_map, List.getElem?_eq_getElem hn]
  show some (V.int ns[n]) = some (V.int (ns.getD n 0))
  rw [List.getD_eq_getElem?_getD, List.getElem?_eq_getElem hn] <;> rfl
theorem ixN_int {n : Nat} {i : Int} (h0 : 0 ≤ i) (h1 : i < n) : ixN n i = some i.toNat := by
  unfold ixN
  rw [if_pos h0, if_pos h1]
theorem map_set_int {ns : List Int} {j : Nat} {z : Int} : (ns.map V.int).set j (.int z) = (ns.set j z).map V.int := (List.map_set).symm
theorem map_app_int {ns : List Int} {z : Int} : ns.map V.int ++ [.int z] = (ns ++ [z]).map V.int := by rw [List.map_append] <;> rfl
theorem mulok {a b : Int} {n m : Nat} (ha : a.natAbs < 2 ^ n) (hb : b.natAbs < 2 ^ m) (h0 : 0 < n) (h1 : 0 < m) (h : n + m ≤ 100000000) : IntMulOk a b := by
  have bb : ∀ x : Int, ∀ k, 0 < k → x.natAbs < 2 ^ k → Builtin.Int.intBits x ≤ k := fun x k hk hx => by
    have := PySem.Flt.log2_lt_of hk hx
    unfold Builtin.Int.intBits
    split <;> omega
  have h2 := bb a n h0 ha
  have h3 := bb b m h1 hb
  have e : bitsLine = 134217728 := by decide
  unfold IntMulOk
  intro z
  rw [Bool.and_eq_true] at z
  have z2 := z.2
  unfold Builtin.Int.intTooBig at z2
  have z3 := of_decide_eq_true z2
  rw [e] at z3
  omega

/-! ### things of any kind, as a caller hands them in -/
inductive Thing (H : Hp) : V → Prop
  | non : Thing H .non
  | bl (b : Bool) : Thing H (.bl b)
  | int (i : Int) : Thing H (.int i)
  | str (x : Str) : Thing H (.str x)
  | lst {a : Addr} {xs : List V} (e : Rd H a (.lst xs)) : Thing H (.ref a)
  | tup {a : Addr} {xs : List V} (e : Rd H a (.tup xs)) : Thing H (.ref a)
  | dic {a : Addr} {kvs : List (Key × V)} (e : H a = some (.dK kvs)) : Thing H (.ref a)
def isI : V → Bool
  | .int _ => true
  | _ => false
def isB : V → Bool
  | .bl _ => true
  | _ => false
theorem rd_same {H H' : Hp} {a : Addr} {u : HO} (e : Same H H') (h : Rd H a u) : Rd H' a u := by
  rcases h with h | ⟨o, h⟩
  · exact .inl (e _ _ h)
  · exact .inr ⟨o, e _ _ h⟩
theorem Thing.same {H H' : Hp} {v : V} (e : Same H H') (h : Thing H v) : Thing H' v := by
  cases h with
  | non => exact .non
  | bl b => exact .bl b
  | int i => exact .int i
  | str x => exact .str x
  | lst q => exact .lst (rd_same e q)
  | tup q => exact .tup (rd_same e q)
  | dic q => exact .dic (e _ _ q)
theorem Thing.ty {K : PySem.W.Frag} {H : Hp} {v : V} (h : Thing H v) : ∃ t : String, TyX K H v (.type t) ∧ kitB t "int" = some (isI v || isB v) ∧ kitB t "bool" = some (isB v) := by
  cases h with
  | non => exact ⟨"NoneType", .base .non, by decide +kernel, by decide +kernel⟩
  | bl b => exact ⟨"bool", .base (.bl b), by cases b <;> decide +kernel, by cases b <;> decide +kernel⟩
  | int i => exact ⟨"int", .base (.int i), by show kitB "int" "int" = some true; decide +kernel, by show kitB "int" "bool" = some false; decide +kernel⟩
  | str x => exact ⟨"str", .base (.str x), by show kitB "str" "int" = some false; decide +kernel, by show kitB "str" "bool" = some false; decide +kernel⟩
  | lst q =>
    rcases q with q | ⟨o, q⟩
    · exact ⟨"list", .base (.lst q), by show kitB "list" "int" = some false; decide +kernel, by show kitB "list" "bool" = some false; decide +kernel⟩
    · exact ⟨"list", .base (.frz q), by show kitB "list" "int" = some false; decide +kernel, by show kitB "list" "bool" = some false; decide +kernel⟩
  | tup q =>
    rcases q with q | ⟨o, q⟩
    · exact ⟨"tuple", .base (.tup q), by show kitB "tuple" "int" = some false; decide +kernel, by show kitB "tuple" "bool" = some false; decide +kernel⟩
    · exact ⟨"tuple", .fTuple q, by show kitB "tuple" "int" = some false; decide +kernel, by show kitB "tuple" "bool" = some false; decide +kernel⟩
  | dic q => exact ⟨"dict", .base (.dK q), by show kitB "dict" "int" = some false; decide +kernel, by show kitB "dict" "bool" = some false; decide +kernel⟩
section
variable {K : PySem.W.Frag} {H : Hp} {Q : VK} {v : V}
theorem x_isiInt (h : Thing H v) (q : Q (.bl (isI v || isB v)) H) : rIsi K [v, .ty "int"] H Q := by
  obtain ⟨t, h1, h2, _⟩ := h.ty (K := K)
  exact ⟨v, .ty "int", _, _, _, rfl, .ty _, h1, kit_ty h2, q⟩
theorem x_isiBool (h : Thing H v) (q : Q (.bl (isB v)) H) : rIsi K [v, .ty "bool"] H Q := by
  obtain ⟨t, h1, _, h2⟩ := h.ty (K := K)
  exact ⟨v, .ty "bool", _, _, _, rfl, .ty _, h1, kit_ty h2, q⟩
theorem x_isiListL {a : Addr} {xs : List V} (h : Rd H a (.lst xs)) (q : Q (.bl true) H) : rIsi K [.ref a, .ty "list"] H Q := by
  rcases h with h | ⟨o, h⟩
  · exact ⟨_, .ty "list", _, _, _, rfl, .ty _, .base (.lst h), kit_ty (by decide +kernel), q⟩
  · exact ⟨_, .ty "list", _, _, _, rfl, .ty _, .base (.frz h), kit_ty (by decide +kernel), q⟩
theorem x_isiTupT {a : Addr} {xs : List V} (h : Rd H a (.tup xs)) (q : Q (.bl true) H) : rIsi K [.ref a, .ty "tuple"] H Q := by
  rcases h with h | ⟨o, h⟩
  · exact ⟨_, .ty "tuple", _, _, _, rfl, .ty _, .base (.tup h), kit_ty (by decide +kernel), q⟩
  · exact ⟨_, .ty "tuple", _, _, _, rfl, .ty _, .fTuple h, kit_ty (by decide +kernel), q⟩
end
/-- what a def tells and leaves: a value; a new list -/
def RetV (v : V) (H : Hp) (Q : VK) : Prop := ∀ H', Same H H' → Q v H'
def RetL (xs : List V) (H : Hp) (Q : VK) : Prop := ∀ p H', H p = none → Same H H' → H' p = some (.lst xs) → Q (.ref p) H'
def RetT (xs : List V) (H : Hp) (Q : VK) : Prop := ∀ p H', H p = none → Same H H' → H' p = some (.tup xs) → Q (.ref p) H'
theorem RetV.go {v : V} {H H' : Hp} {Q : VK} (h : RetV v H Q) (e : Same H H') : Q v H' := h H' e
theorem RetL.go {xs : List V} {H H' : Hp} {Q : VK} (h : RetL xs H Q) {p : Addr} (w : Own H ((p, .lst xs) :: []) H') : Q (.ref p) H' := h p H' (w.none 0 rfl) w.ex (w.get 0 rfl)
theorem RetT.go {xs : List V} {H H' : Hp} {Q : VK} (h : RetT xs H Q) {p : Addr} (w : Own H ((p, .tup xs) :: []) H') : Q (.ref p) H' := h p H' (w.none 0 rfl) w.ex (w.get 0 rfl)

/-! ### comprehensions: what the list at D holds behind i turns: F i -/
def PvC (B : Hp) (cs : Cells) (D : Addr) (F : Nat → List V) (i : Nat) (H : Hp) : Prop := Own B ((D, .lst (F i)) :: cs) H
section
variable {K : PySem.W.Frag} {σ : L2.St} {B H : Hp} {cs : Cells} {Q : VK} {te : TE} {g : TG} {tt : TT} {vs : List Nat}
/-- a turn's end: the item goes behind what is there -/
theorem cp_fin {D : Addr} {F : Nat → List V} {i : Nat} {H4 : Hp} {y : V} (w : PvC B cs D F i H4) (e : F (i + 1) = F i ++ [y]) (hl : (F i).length < 1000000) :
    ∃ acc, H4 D = some (.lst acc) ∧ acc.length < sizeLine ∧ PvC B cs D F (i + 1) (upd H4 D (.lst (acc ++ [y]))) := by
  refine ⟨F i, Own.get w 0 rfl, Nat.lt_of_lt_of_le hl (by decide), ?_⟩
  have := Own.put (o' := .lst (F i ++ [y])) w 0 rfl
  rw [← e] at this
  rw [← e]
  exact this
/-- the same where the test says no -/
theorem cp_no {D : Addr} {F : Nat → List V} {i : Nat} {H4 : Hp} (w : PvC B cs D F i H4) (e : F (i + 1) = F i) : PvC B cs D F (i + 1) H4 := by
  unfold PvC at *
  rw [e]
  exact w
theorem cp_range {QD : Addr → Hp → Prop} {lo : Int} {n : Nat} (F : Nat → List V) (w : Own B cs H) (h0 : F 0 = [])
    (hs : ∀ D i H', i < n → PvC B cs D F i H' → g (.int (lo + i)) (wipe σ vs) H' fun σ2 H2 => wipe σ2 vs = wipe σ vs ∧ tt σ2 H2 fun b H3 =>
      if b = true then te σ2 H3 fun y H4 => ∃ acc, H4 D = some (.lst acc) ∧ acc.length < sizeLine ∧ PvC B cs D F (i + 1) (upd H4 D (.lst (acc ++ [y]))) else PvC B cs D F (i + 1) H3)
    (hq : ∀ D H', Own B ((D, .lst (F n)) :: cs) H' → QD D H') : ∀ D, H D = none → ∃ W : Nat → Nat → Hp → Prop, (∃ m, W 0 m (upd H D (.lst []))) ∧ ∀ i m H, W i m H →
      ((Itr lo n).stop i H ∧ QD D H) ∨ ((Itr lo n).go i H ∧ ∃ Nx : Hp → Prop, (∀ H', Nx H' → ∃ m', m' < m ∧ W (i + 1) m' H') ∧ ∀ x H', (Itr lo n).yld i H x H' → g x (wipe σ vs) H' fun σ2 H2 => wipe σ2 vs = wipe σ vs ∧ tt σ2 H2 fun b H3 =>
        if b = true then te σ2 H3 fun y H4 => ∃ acc, H4 D = some (.lst acc) ∧ acc.length < sizeLine ∧ Nx (upd H4 D (.lst (acc ++ [y]))) else Nx H3) := fun D hD =>
  lc_range (PvC B cs D F) (by unfold PvC; rw [h0]; exact w.new hD) (fun i H' hi p => hs D i H' hi p) (fun H' p => hq D H' p)
theorem cp_list {QD : Addr → Hp → Prop} {a : Addr} {xs : List V} (F : Nat → List V) (w : Own B cs H) (hx : SqL K B a xs) (h0 : F 0 = [])
    (hs : ∀ D i x H', xs[i]? = some x → PvC B cs D F i H' → g x (wipe σ vs) H' fun σ2 H2 => wipe σ2 vs = wipe σ vs ∧ tt σ2 H2 fun b H3 =>
      if b = true then te σ2 H3 fun y H4 => ∃ acc, H4 D = some (.lst acc) ∧ acc.length < sizeLine ∧ PvC B cs D F (i + 1) (upd H4 D (.lst (acc ++ [y]))) else PvC B cs D F (i + 1) H3)
    (hq : ∀ D H', Own B ((D, .lst (F xs.length)) :: cs) H' → QD D H') : ∀ D, H D = none → ∃ W : Nat → Nat → Hp → Prop, (∃ m, W 0 m (upd H D (.lst []))) ∧ ∀ i m H, W i m H →
      ((Itl K a).stop i H ∧ QD D H) ∨ ((Itl K a).go i H ∧ ∃ Nx : Hp → Prop, (∀ H', Nx H' → ∃ m', m' < m ∧ W (i + 1) m' H') ∧ ∀ x H', (Itl K a).yld i H x H' → g x (wipe σ vs) H' fun σ2 H2 => wipe σ2 vs = wipe σ vs ∧ tt σ2 H2 fun b H3 =>
        if b = true then te σ2 H3 fun y H4 => ∃ acc, H4 D = some (.lst acc) ∧ acc.length < sizeLine ∧ Nx (upd H4 D (.lst (acc ++ [y]))) else Nx H3) := fun D hD =>
  lc_list (PvC B cs D F) (by unfold PvC; rw [h0]; exact w.new hD) (fun i H' hi p => Own.seq p hx) (fun i x H' hi p => hs D i x H' hi p) (fun H' p => hq D H' p)
/-- behind the first i items of a range: their images -/
theorem range_map {α : Type} (f : Nat → α) (i : Nat) : (List.range (i + 1)).map f = (List.range i).map f ++ [f i] := by rw [List.range_succ, List.map_append] <;> rfl
end

/-! ### the rules with the written part told (a comprehension's block has its own context) -/
section
variable {X : Cx} {K : PySem.W.Frag}
theorem ix_seqK (h : X.K = K) : IxR X (rIx K) := h ▸ ix_seq
theorem get_listK (h : X.K = K) : PGet X (rIxL K) := h ▸ get_list
theorem op_eqK (h : X.K = K) (hu : X.A.units + 64 < cLine) : OpR X (compareOp .Eq) (rEqX K) := h ▸ op_eqX hu
theorem op_neK (h : X.K = K) (hu : X.A.units + 64 < cLine) : OpR X (compareOp .NotEq) (rNeX K) := h ▸ op_neX hu
theorem call_lenK (h : X.K = K) : CallR X (.builtin "len") (rLen K) := h ▸ call_lenX
theorem call_listK (h : X.K = K) : CallR X (.type "list") (rList K) := h ▸ call_listX
theorem cr_sumK (h : X.K = K) (hc : X.calm = true) : CallR X (.builtin "sum") (rSum K) := h ▸ cr_sum hc
theorem cr_anyK (h : X.K = K) (hc : X.calm = true) : CallR X (.builtin "any") (rAny K) := h ▸ cr_any hc
theorem cr_maxK (h : X.K = K) (hc : X.calm = true) : CallR X (.builtin "max") (rMax K) := h ▸ cr_max hc
theorem cr_minK (h : X.K = K) (hc : X.calm = true) : CallR X (.builtin "min") (rMin K) := h ▸ cr_min hc
theorem cr_sortedK (h : X.K = K) : CallR X (.builtin "sorted") (rSorted K) := h ▸ cr_sorted
theorem call_isiX (h : X.K = K) : CallR X (.builtin "isinstance") (rIsi K) := h ▸ call_isi
theorem call_isiTX (h : X.K = K) : CallR X (.builtin "isinstance") (rIsiT K) := h ▸ call_isiT
theorem op_in_seqK (h : X.K = K) : OpR X (compareOp .In) (rIn K false) := h ▸ op_in_seq
theorem op_notIn_seqK (h : X.K = K) : OpR X (compareOp .NotIn) (rIn K true) := h ▸ op_notIn_seq
theorem sl_listK (h : X.K = K) : SlR X (rSlL K) := h ▸ sl_list
theorem sl_tupK (h : X.K = K) : SlR X (rSlT K) := h ▸ sl_tup
theorem pi_listK (h : X.K = K) {tg l : Expr} {tl : TE} (hl : PE X l tl) : PI X tg l (iList K tl) := h ▸ pi_list hl
theorem pi_tupK (h : X.K = K) {tg l : Expr} {tl : TE} (hl : PE X l tl) : PI X tg l (iTup K tl) := h ▸ pi_tup hl
theorem pi_zipK (h : X.K = K) {e e2 : Expr} {ta : TA} {p pos tpos : Pos} {elts : List Expr} {kk : Nat} (hg : Gl X "zip") (hm : X.mg "zip" = none) (ha : PA X [e, e2] ta)
    (hs : starEach [e, e2] X.env = (false, eval e X.env) :: starEach [e2] X.env := by rfl) (hpl : (backTo pos (starEach [e2] X.env)).any (·.1) = false := by rfl) :
    PI X (.Tuple elts kk tpos) (.Call (.Name "zip" p) [e, e2] [] pos) (iZip K ta) := h ▸ pi_zip hg hm ha hs hpl
theorem pi_enumK (h : X.K = K) {e : Expr} {ta : TA} {p pos tpos : Pos} {elts : List Expr} {kk : Nat} (hg : Gl X "enumerate") (hm : X.mg "enumerate" = none) (ha : PA X [e] ta) (hs : starEach [e] X.env = [(false, eval e X.env)] := by rfl) :
    PI X (.Tuple elts kk tpos) (.Call (.Name "enumerate" p) [e] [] pos) (iEnum K ta) := h ▸ pi_enum hg hm ha hs
theorem pi_reversedK (h : X.K = K) {tg e : Expr} {ta : TA} {p pos : Pos} (hg : Gl X "reversed") (hm : X.mg "reversed" = none) (ha : PA X [e] ta) (hs : starEach [e] X.env = [(false, eval e X.env)] := by rfl) :
    PI X tg (.Call (.Name "reversed" p) [e] [] pos) (iRev K ta) := h ▸ pi_reversed hg hm ha hs
theorem pg_tupK (h : X.K = K) {pos : Pos} {es : List Expr} {k : Nat} {t : TGs} {n : Nat} (hc : X.calm = true) (hg : PGs X es t)
    (hn : (assignEach es X.env).length = n := by rfl) (hst : (assignEach es X.env).findIdx? (·.1) = none := by rfl) : PG X (.Tuple es k pos) (gTup K n t) := h ▸ pg_tup hc hg hn hst
theorem pe_bmK (h : X.K = K) {T : String} {name : Str} {id : String} {r : V → List V → Hp → VK → Prop} {o e : Expr} {es : List Expr} {to : TE} {t : TA} {apos cpos : Pos}
    (pa : PlainAttrs T) (slot : Slot T name id) (hty : typeOf (.builtin id) = pure (.type "method_descriptor")) (hm : MtR X id r) (ho : PE X o to) (ha : PA X (e :: es) t)
    (f : PE X (.Call (.Attribute o name apos) (e :: es) [] cpos) (tBM X.K T r to t)) : PE X (.Call (.Attribute o name apos) (e :: es) [] cpos) (tBM K T r to t) := h ▸ f
theorem pe_fldK (h : X.K = K) {e : Expr} {f : Str} {ta : TE} {pos : Pos} (he : PE X e ta) (hb : attributeBase e f X.env (eval e X.env) = eval e X.env) : PE X (.Attribute e f pos) (tFld K ta f) := h ▸ pe_fld he hb
end

/-! ### == of lists of ints -/
theorem dpAll_ints {K : PySem.W.Frag} {H : Hp} : ∀ ns : List Int, DpAll K H (ns.map V.int) (ns.map PyData.int)
  | [] => .nil
  | n :: r => .cons (.int n) (dpAll_ints r)
theorem dp_ints {K : PySem.W.Frag} {H : Hp} {p : Addr} {ns : List Int} (h : SqL K H p (ns.map V.int)) : Dp K H (.ref p) (.list (ns.map PyData.int)) := .lst h (dpAll_ints ns)
theorem canLay_ints : ∀ ns : List Int, PyData.canLayAll0 (ns.map PyData.int) = true
  | [] => by simp [PyData.canLayAll0]
  | n :: r => by simp [PyData.canLayAll0, PyData.canLay0, canLay_ints r]
theorem depth_ints : ∀ ns : List Int, PyData.depthAll (ns.map PyData.int) ≤ 1
  | [] => by simp [PyData.depthAll]
  | n :: r => by
    have := depth_ints r
    simp only [List.map_cons, PyData.depthAll, PyData.depth]
    omega
theorem shaped_ints (ns : List Int) : SeqAt.shaped (.list (ns.map PyData.int)) = true := by
  have := depth_ints ns
  unfold SeqAt.shaped
  rw [Bool.and_eq_true]
  refine ⟨by simp [PyData.canLay0, canLay_ints ns], decide_eq_true ?_⟩
  simp only [PyData.depth]
  omega
theorem eqvAll_ints : ∀ ns ms : List Int, PyData.eqvAll (ns.map PyData.int) (ms.map PyData.int) = decide (ns = ms)
  | [], [] => by simp [PyData.eqvAll]
  | [], m :: r => by simp [PyData.eqvAll]
  | n :: r, [] => by simp [PyData.eqvAll]
  | n :: r, m :: q => by
    simp only [List.map_cons, PyData.eqvAll, PyData.eqv, eqvAll_ints r q, List.cons.injEq]
    by_cases e : n = m
    · subst e; simp
    · simp [e]
theorem eqv_ints (ns ms : List Int) : PyData.eqv (.list (ns.map PyData.int)) (.list (ms.map PyData.int)) = decide (ns = ms) := by
  rw [PyData.eqv, eqvAll_ints]
section
variable {K : PySem.W.Frag} {H : Hp} {Q : VK} {p q : Addr} {ns ms : List Int}
theorem x_eqLI (h1 : SqL K H p (ns.map V.int)) (h2 : SqL K H q (ms.map V.int)) (k : Q (.bl (decide (ns = ms))) H) : rEqX K (.ref p) (.ref q) H Q :=
  .inr ⟨_, _, dp_ints h1, dp_ints h2, shaped_ints ns, shaped_ints ms, by rw [eqv_ints]; exact k⟩
theorem x_neLI (h1 : SqL K H p (ns.map V.int)) (h2 : SqL K H q (ms.map V.int)) (k : Q (.bl (!decide (ns = ms))) H) : rNeX K (.ref p) (.ref q) H Q :=
  .inr ⟨_, _, dp_ints h1, dp_ints h2, shaped_ints ns, shaped_ints ms, by rw [eqv_ints]; exact k⟩
end

theorem cx_none {P : Program} {w : World} {H : Hp} {s : Shared} {e : Value} {s' : Shared} (h : L2.CX P w [] H s (fun _ _ _ => False) e s') : False := by
  obtain ⟨_, _, _, _, _, _, _, _, _, _, _, _, z⟩ := h
  exact z.elim

/-! ### for over range(n), the number told plainly -/
theorem for_r0 {n : Int} {g : TG} {tb : TS} {D : Ends} {σ : L2.St} {H : Hp} (Pv : Nat → L2.St → Hp → Prop) (h0 : Pv 0 σ H)
    (hs : ∀ (i : Nat) σ H, (i : Int) < n → Pv i σ H → g (.int (i : Int)) σ H fun σ2 H2 => tb { D with nx := Pv (i + 1), ct := Pv (i + 1), bk := D.nx } σ2 H2) (hd : ∀ σ H, Pv n.toNat σ H → D.nx σ H) :
    ∃ W : Nat → Nat → L2.St → Hp → Prop, (∃ m, W 0 m σ H) ∧ ∀ i m σ H, W i m σ H →
      ((Itr 0 n.toNat).stop i H ∧ D.nx σ H) ∨ ((Itr 0 n.toNat).go i H ∧ ∃ N : L2.St → Hp → Prop, (∀ σ' H', N σ' H' → ∃ m', m' < m ∧ W (i + 1) m' σ' H') ∧ ∀ x H', (Itr 0 n.toNat).yld i H x H' → g x σ H' fun σ2 H2 => tb { D with nx := N, ct := N, bk := D.nx } σ2 H2) :=
  for_range (lo := 0) (n := n.toNat) Pv h0 (fun i σ H hi p => by rw [Int.zero_add]; exact hs i σ H (by omega) p) hd
theorem cp_r0 {QD : Addr → Hp → Prop} {B : Hp} {cs : Cells} {n : Int} {σ : L2.St} {H : Hp} {te : TE} {g : TG} {tt : TT} {vs : List Nat} (F : Nat → List V) (w : Own B cs H) (h0 : F 0 = [])
    (hs : ∀ D (i : Nat) H', (i : Int) < n → PvC B cs D F i H' → g (.int (i : Int)) (wipe σ vs) H' fun σ2 H2 => wipe σ2 vs = wipe σ vs ∧ tt σ2 H2 fun b H3 =>
      if b = true then te σ2 H3 fun y H4 => ∃ acc, H4 D = some (.lst acc) ∧ acc.length < sizeLine ∧ PvC B cs D F (i + 1) (upd H4 D (.lst (acc ++ [y]))) else PvC B cs D F (i + 1) H3)
    (hq : ∀ D H', Own B ((D, .lst (F n.toNat)) :: cs) H' → QD D H') : ∀ D, H D = none → ∃ W : Nat → Nat → Hp → Prop, (∃ m, W 0 m (upd H D (.lst []))) ∧ ∀ i m H, W i m H →
      ((Itr 0 n.toNat).stop i H ∧ QD D H) ∨ ((Itr 0 n.toNat).go i H ∧ ∃ Nx : Hp → Prop, (∀ H', Nx H' → ∃ m', m' < m ∧ W (i + 1) m' H') ∧ ∀ x H', (Itr 0 n.toNat).yld i H x H' → g x (wipe σ vs) H' fun σ2 H2 => wipe σ2 vs = wipe σ vs ∧ tt σ2 H2 fun b H3 =>
        if b = true then te σ2 H3 fun y H4 => ∃ acc, H4 D = some (.lst acc) ∧ acc.length < sizeLine ∧ Nx (upd H4 D (.lst (acc ++ [y]))) else Nx H3) :=
  cp_range (lo := 0) F w h0 (fun D i H' hi p => by rw [Int.zero_add]; exact hs D i H' (by omega) p) hq

/-! ### enumerate, zip: loops and comprehensions -/
section
variable {K : PySem.W.Frag} {a b : Addr} {xs ys : List V} {g : TG} {tb : TS} {D : Ends} {σ : L2.St} {H B : Hp} {cs : Cells} {te : TE} {tt : TT} {vs : List Nat} {Q : VK}
theorem for_enumL (Pv : Nat → L2.St → Hp → Prop) (h0 : Pv 0 σ H) (hq : ∀ i σ H, Pv i σ H → SqL K H a xs)
    (hs : ∀ (i : Nat) (x : V) (T : Addr) (σ : L2.St) (H : Hp), xs[i]? = some x → Pv i σ H → H T = none → g (.ref T) σ (upd H T (.tup [.int (i : Int), x])) fun σ2 H2 => tb { D with nx := Pv (i + 1), ct := Pv (i + 1), bk := D.nx } σ2 H2) (hd : ∀ σ H, Pv xs.length σ H → D.nx σ H) :
    ∃ W : Nat → Nat → L2.St → Hp → Prop, (∃ m, W 0 m σ H) ∧ ∀ i m σ H, W i m σ H →
      ((Ite K a).stop i H ∧ D.nx σ H) ∨ ((Ite K a).go i H ∧ ∃ N : L2.St → Hp → Prop, (∀ σ' H', N σ' H' → ∃ m', m' < m ∧ W (i + 1) m' σ' H') ∧ ∀ v H', (Ite K a).yld i H v H' → g v σ H' fun σ2 H2 => tb { D with nx := N, ct := N, bk := D.nx } σ2 H2) := by
  refine ⟨fun i m σ H => m = xs.length - i ∧ i ≤ xs.length ∧ Pv i σ H, ⟨xs.length, rfl, Nat.zero_le _, h0⟩, ?_⟩
  rintro i m σ H ⟨rfl, hi, p⟩
  have qx := hq i σ H p
  by_cases hlt : i < xs.length
  · have hx : xs[i]? = some xs[i] := List.getElem?_eq_getElem hlt
    refine .inr ⟨⟨xs, _, qx, hx⟩, Pv (i + 1), fun σ' H' p' => ⟨xs.length - (i + 1), by omega, rfl, hlt, p'⟩, fun v H' y => ?_⟩
    obtain ⟨T, x', rfl, hT, rfl, f1⟩ := y
    exact hs i x' T σ H (f1 xs qx) p hT
  · have e : i = xs.length := by omega
    subst e
    exact .inl ⟨⟨xs, qx, Nat.le_refl _⟩, hd σ H p⟩
theorem cp_enum {QD : Addr → Hp → Prop} (F : Nat → List V) (w : Own B cs H) (hx : SqL K B a xs) (h0 : F 0 = [])
    (hs : ∀ D i x T H', xs[i]? = some x → PvC B cs D F i H' → H' T = none → g (.ref T) (wipe σ vs) (upd H' T (.tup [.int ((i : Nat) : Int), x])) fun σ2 H2 => wipe σ2 vs = wipe σ vs ∧ tt σ2 H2 fun b H3 =>
      if b = true then te σ2 H3 fun y H4 => ∃ acc, H4 D = some (.lst acc) ∧ acc.length < sizeLine ∧ PvC B cs D F (i + 1) (upd H4 D (.lst (acc ++ [y]))) else PvC B cs D F (i + 1) H3)
    (hq : ∀ D H', Own B ((D, .lst (F xs.length)) :: cs) H' → QD D H') : ∀ D, H D = none → ∃ W : Nat → Nat → Hp → Prop, (∃ m, W 0 m (upd H D (.lst []))) ∧ ∀ i m H, W i m H →
      ((Ite K a).stop i H ∧ QD D H) ∨ ((Ite K a).go i H ∧ ∃ Nx : Hp → Prop, (∀ H', Nx H' → ∃ m', m' < m ∧ W (i + 1) m' H') ∧ ∀ x H', (Ite K a).yld i H x H' → g x (wipe σ vs) H' fun σ2 H2 => wipe σ2 vs = wipe σ vs ∧ tt σ2 H2 fun b H3 =>
        if b = true then te σ2 H3 fun y H4 => ∃ acc, H4 D = some (.lst acc) ∧ acc.length < sizeLine ∧ Nx (upd H4 D (.lst (acc ++ [y]))) else Nx H3) := fun D hD => by
  refine ⟨fun i m H => m = xs.length - i ∧ i ≤ xs.length ∧ PvC B cs D F i H, ⟨xs.length, rfl, Nat.zero_le _, by unfold PvC; rw [h0]; exact w.new hD⟩, ?_⟩
  rintro i m H ⟨rfl, hi, p⟩
  have qx : SqL K H a xs := Own.seq p hx
  by_cases hlt : i < xs.length
  · have hxi : xs[i]? = some xs[i] := List.getElem?_eq_getElem hlt
    refine .inr ⟨⟨xs, _, qx, hxi⟩, PvC B cs D F (i + 1), fun H' p' => ⟨xs.length - (i + 1), by omega, rfl, hlt, p'⟩, fun v H' y => ?_⟩
    obtain ⟨T, x', rfl, hT, rfl, f1⟩ := y
    exact hs D i x' T H (f1 xs qx) p hT
  · have e : i = xs.length := by omega
    subst e
    exact .inl ⟨⟨xs, qx, Nat.le_refl _⟩, hq D H p⟩
theorem cp_zip {QD : Addr → Hp → Prop} (F : Nat → List V) (w : Own B cs H) (hl : xs.length = ys.length) (hx : SqL K B a xs) (hy : SqL K B b ys) (h0 : F 0 = [])
    (hs : ∀ D i x y T H', xs[i]? = some x → ys[i]? = some y → PvC B cs D F i H' → H' T = none → g (.ref T) (wipe σ vs) (upd H' T (.tup [x, y])) fun σ2 H2 => wipe σ2 vs = wipe σ vs ∧ tt σ2 H2 fun b H3 =>
      if b = true then te σ2 H3 fun y H4 => ∃ acc, H4 D = some (.lst acc) ∧ acc.length < sizeLine ∧ PvC B cs D F (i + 1) (upd H4 D (.lst (acc ++ [y]))) else PvC B cs D F (i + 1) H3)
    (hq : ∀ D H', Own B ((D, .lst (F xs.length)) :: cs) H' → QD D H') : ∀ D, H D = none → ∃ W : Nat → Nat → Hp → Prop, (∃ m, W 0 m (upd H D (.lst []))) ∧ ∀ i m H, W i m H →
      ((Itz K a b).stop i H ∧ QD D H) ∨ ((Itz K a b).go i H ∧ ∃ Nx : Hp → Prop, (∀ H', Nx H' → ∃ m', m' < m ∧ W (i + 1) m' H') ∧ ∀ x H', (Itz K a b).yld i H x H' → g x (wipe σ vs) H' fun σ2 H2 => wipe σ2 vs = wipe σ vs ∧ tt σ2 H2 fun b H3 =>
        if b = true then te σ2 H3 fun y H4 => ∃ acc, H4 D = some (.lst acc) ∧ acc.length < sizeLine ∧ Nx (upd H4 D (.lst (acc ++ [y]))) else Nx H3) := fun D hD => by
  refine ⟨fun i m H => m = xs.length - i ∧ i ≤ xs.length ∧ PvC B cs D F i H, ⟨xs.length, rfl, Nat.zero_le _, by unfold PvC; rw [h0]; exact w.new hD⟩, ?_⟩
  rintro i m H ⟨rfl, hi, p⟩
  have qx : SqL K H a xs := Own.seq p hx
  have qy : SqL K H b ys := Own.seq p hy
  by_cases hlt : i < xs.length
  · have hxi : xs[i]? = some xs[i] := List.getElem?_eq_getElem hlt
    have hlt2 : i < ys.length := by omega
    have hyi : ys[i]? = some ys[i] := List.getElem?_eq_getElem hlt2
    refine .inr ⟨⟨xs, ys, _, _, qx, qy, hxi, hyi⟩, PvC B cs D F (i + 1), fun H' p' => ⟨xs.length - (i + 1), by omega, rfl, hlt, p'⟩, fun v H' y => ?_⟩
    obtain ⟨T, x', y', rfl, hT, rfl, f1, f2⟩ := y
    exact hs D i x' y' T H (f1 xs qx) (f2 ys qy) p hT
  · have e : i = xs.length := by omega
    subst e
    exact .inl ⟨⟨xs, ys, qx, qy, .inl (Nat.le_refl _)⟩, hq D H p⟩
end

def rStr : List V → Hp → VK → Prop := fun xs H Q => ∃ i, xs = [.int i] ∧ i.natAbs.log2 < 1920 ∧ Q (.str (toString i)) H
theorem call_strX {X : Cx} : CallR X (.type "str") rStr := call_str_int
theorem x_str {H : Hp} {Q : VK} {i : Int} (h : i.natAbs.log2 < 1920) (q : Q (.str (toString i)) H) : rStr [.int i] H Q := ⟨i, rfl, h, q⟩
theorem log2_small {n : Nat} {k : Nat} (h0 : 0 < k) (h : n < 2 ^ k) (hk : k ≤ 1920) : n.log2 < 1920 := Nat.lt_of_lt_of_le (PySem.Flt.log2_lt_of h0 h) hk
end Sp

/-! Ml: tables, bounds: plain words about lists of ints. -/
namespace Sp
open PySem L2 PyProof.Rows
def manyOf (n : Nat) : Nat := if n ≤ 2 then 1 else if n ≤ 4 then 2 else if n ≤ 8 then 3 else if n ≤ 16 then 4 else if n ≤ 32 then 5 else 6
theorem manyOf_lo (n : Nat) : 1 ≤ manyOf n ∧ manyOf n ≤ 6 := by
  unfold manyOf
  repeat' split
  all_goals omega
theorem manyOf_is {n k : Nat} (h1 : 1 ≤ k) (h6 : k ≤ 6) (hlo : k = 1 ∨ 2 ^ (k - 1) < n) (hhi : k = 6 ∨ n ≤ 2 ^ k) : manyOf n = k := by
  unfold manyOf
  have h : k = 1 ∨ k = 2 ∨ k = 3 ∨ k = 4 ∨ k = 5 ∨ k = 6 := by omega
  rcases h with rfl | rfl | rfl | rfl | rfl | rfl <;> simp only [Nat.reducePow, Nat.reduceSub] at hlo hhi <;> repeat' split
  all_goals omega
def lookM (xs : List V) : Option Int := if xs.length = 2 ^ manyOf xs.length ∧ xs.all isI = true ∧ xs[0]? = some (.int 0) then some (manyOf xs.length : Nat) else none
/-- a table of k hands -/
structure Tab (ns : List Int) (k : Nat) : Prop where
  len : ns.length = 2 ^ k
  lo : 1 ≤ k
  hi : k ≤ 6
  zero : ns[0]? = some 0
theorem Tab.look {ns : List Int} {k : Nat} (h : Tab ns k) : lookM (ns.map V.int) = some (k : Int) := by
  have e : manyOf (ns.map V.int).length = k := by
    rw [List.length_map, h.len]
    exact manyOf_is h.lo h.hi (by
      have := h.lo
      by_cases e : k = 1
      · exact .inl e
      · refine .inr (Nat.pow_lt_pow_right (by decide) (by omega))) (.inr (Nat.le_refl _))
  unfold lookM
  rw [e, if_pos]
  refine ⟨by rw [List.length_map]; exact h.len, ?_, ?_⟩
  · rw [List.all_map]; exact List.all_eq_true.mpr fun _ _ => rfl
  · rw [List.getElem?_map, h.zero] <;> rfl
theorem things_int {H : Hp} {ns : List Int} : ∀ v ∈ ns.map V.int, Thing H v := fun v hv => by
  obtain ⟨z, _, rfl⟩ := List.mem_map.mp hv
  exact .int z
theorem look_tab {xs : List V} {n : Int} (h : lookM xs = some n) : ∃ ns k, Tab ns k ∧ xs = ns.map V.int ∧ n = (k : Nat) := by
  unfold lookM at h
  by_cases c : xs.length = 2 ^ manyOf xs.length ∧ xs.all isI = true ∧ xs[0]? = some (.int 0)
  · rw [if_pos c] at h
    obtain ⟨c1, c2, c3⟩ := c
    have hm := manyOf_lo xs.length
    have all : ∀ ys : List V, ys.all isI = true → ∃ ns : List Int, ys = ns.map V.int := by
      intro ys
      induction ys with
      | nil => intro _; exact ⟨[], rfl⟩
      | cons y r ih =>
        intro e
        rw [List.all_cons, Bool.and_eq_true] at e
        obtain ⟨ns, rfl⟩ := ih e.2
        cases y with
        | int z => exact ⟨z :: ns, rfl⟩
        | _ => exact absurd e.1 Bool.false_ne_true
    obtain ⟨ns, rfl⟩ := all xs c2
    refine ⟨ns, manyOf (ns.map V.int).length, ⟨by rw [List.length_map] at c1; rw [List.length_map]; exact c1, hm.1, hm.2, ?_⟩, rfl, (Option.some.inj h).symm⟩
    rw [List.getElem?_map] at c3
    cases e : ns[0]? with
    | none => rw [e] at c3; cases c3
    | some z => rw [e] at c3; exact congrArg some (V.int.inj (Option.some.inj c3))
  · rw [if_neg c] at h; cases h
/-- a number of these laws' tables -/
def Small (z : Int) : Prop := -1000000000000000000 ≤ z ∧ z ≤ 1000000000000000000
/-- bounds of a table's numbers -/
def Bnd (b : Int) (ns : List Int) : Prop := ∀ z ∈ ns, -b ≤ z ∧ z ≤ b
theorem Bnd.app {b : Int} {ns : List Int} {z : Int} (h : Bnd b ns) (h1 : -b ≤ z) (h2 : z ≤ b) : Bnd b (ns ++ [z]) := fun y hy => by
  rcases List.mem_append.mp hy with m | m
  · exact h y m
  · rw [List.mem_singleton.mp m]; exact ⟨h1, h2⟩
theorem Bnd.set {b : Int} {ns : List Int} {j : Nat} {z : Int} (h : Bnd b ns) (h1 : -b ≤ z) (h2 : z ≤ b) : Bnd b (ns.set j z) := fun y hy => by
  rcases List.mem_or_eq_of_mem_set hy with m | rfl
  · exact h y m
  · exact ⟨h1, h2⟩
theorem Bnd.mono {b c : Int} {ns : List Int} (h : Bnd b ns) (hbc : b ≤ c) : Bnd c ns := fun y hy => by
  have := h y hy
  exact ⟨by omega, by omega⟩
theorem Bnd.at {b : Int} {ns : List Int} (hb : 0 ≤ b) (h : Bnd b ns) (i : Int) : -b ≤ gi ns i ∧ gi ns i ≤ b := by
  unfold gi
  rw [List.getD_eq_getElem?_getD]
  cases e : ns[i.toNat]? with
  | none => exact ⟨by show -b ≤ 0; omega, by show (0 : Int) ≤ b; omega⟩
  | some z => exact h z (List.mem_of_getElem? e)
theorem pow_toNat {k : Nat} {i : Int} (h : i = (k : Int)) : (1 : Int) * 2 ^ i.toNat = ((2 ^ k : Nat) : Int) := by
  rw [h, Int.one_mul, Int.toNat_natCast, Int.natCast_pow] <;> rfl
/-- the table turned about -/
def turnM (ns : List Int) : List Int := (List.range ns.length).map fun g : Nat => gi ns ((ns.length : Int) - 1) - gi ns ((ns.length : Int) - 1 - (g : Int))
theorem turnM_len (ns : List Int) : (turnM ns).length = ns.length := by unfold turnM; rw [List.length_map, List.length_range]
theorem gi_map_range {n : Nat} {f : Nat → Int} {i : Int} (h0 : 0 ≤ i) (h : i < n) : gi ((List.range n).map f) i = f i.toNat := by
  unfold gi
  rw [List.getD_eq_getElem?_getD, List.getElem?_map, List.getElem?_range (by omega)] <;> rfl
theorem turnM_at {ns : List Int} {i : Int} (h0 : 0 ≤ i) (h : i < ns.length) : gi (turnM ns) i = gi ns ((ns.length : Int) - 1) - gi ns ((ns.length : Int) - 1 - i) := by
  unfold turnM
  rw [gi_map_range h0 h, Int.toNat_of_nonneg h0]
theorem gi_ext {ns ms : List Int} (hl : ns.length = ms.length) (h : ∀ i : Int, 0 ≤ i → i < ns.length → gi ns i = gi ms i) : ns = ms := by
  apply List.ext_getElem hl
  intro i h1 h2
  have := h (i : Int) (by omega) (by omega)
  unfold gi at this
  rw [Int.toNat_natCast, List.getD_eq_getElem?_getD, List.getD_eq_getElem?_getD, List.getElem?_eq_getElem h1, List.getElem?_eq_getElem h2] at this
  exact this
theorem Tab.pos {ns : List Int} {k : Nat} (h : Tab ns k) : 2 ≤ ns.length ∧ ns.length ≤ 64 := by
  rw [h.len]
  exact ⟨Nat.pow_le_pow_right (n := 2) (by decide) h.lo, Nat.pow_le_pow_right (n := 2) (by decide) h.hi⟩
theorem Tab.gi0 {ns : List Int} {k : Nat} (h : Tab ns k) : gi ns 0 = 0 := by
  unfold gi
  rw [List.getD_eq_getElem?_getD, show (0 : Int).toNat = 0 from rfl, h.zero] <;> rfl
theorem gi_zero {ns : List Int} (h : 0 < ns.length) (e : gi ns 0 = 0) : ns[0]? = some 0 := by
  unfold gi at e
  rw [List.getD_eq_getElem?_getD, show (0 : Int).toNat = 0 from rfl, List.getElem?_eq_getElem h] at e
  rw [List.getElem?_eq_getElem h]
  exact congrArg some e
theorem Tab.turn {ns : List Int} {k : Nat} (h : Tab ns k) : Tab (turnM ns) k := by
  have hp := h.pos
  refine ⟨by rw [turnM_len]; exact h.len, h.lo, h.hi, gi_zero (by rw [turnM_len]; omega) ?_⟩
  rw [turnM_at (by decide) (by omega)]
  simp
theorem turnM_turnM {ns : List Int} {k : Nat} (h : Tab ns k) : turnM (turnM ns) = ns := by
  have hp := h.pos
  refine gi_ext (by rw [turnM_len, turnM_len]) fun i h0 h1 => ?_
  rw [turnM_len, turnM_len] at h1
  rw [turnM_at h0 (by rw [turnM_len]; exact h1), turnM_len, turnM_at (by omega) (by omega), turnM_at (by omega) (by omega)]
  have e1 : (ns.length : Int) - 1 - ((ns.length : Int) - 1) = 0 := by omega
  have e2 : (ns.length : Int) - 1 - ((ns.length : Int) - 1 - i) = i := by omega
  rw [e1, e2, h.gi0]
  omega
theorem Tab.set {ns : List Int} {k : Nat} (h : Tab ns k) {j : Nat} {z : Int} (hj : 0 < j) : Tab (ns.set j z) k :=
  ⟨by rw [List.length_set]; exact h.len, h.lo, h.hi, by rw [List.getElem?_set_ne (by omega)]; exact h.zero⟩
theorem map_int_inj {ns ms : List Int} (h : ns.map V.int = ms.map V.int) : ns = ms := (List.map_inj_right (f := V.int) fun _ _ => V.int.inj).mp h
theorem Tab.same {ns : List Int} {j k : Nat} (h : Tab ns j) (h' : Tab ns k) : j = k := by
  have e : 2 ^ j = 2 ^ k := h.len.symm.trans h'.len
  rcases Nat.lt_trichotomy j k with l | l | l
  · have := Nat.pow_lt_pow_right (a := 2) (by decide) l; omega
  · exact l
  · have := Nat.pow_lt_pow_right (a := 2) (by decide) l; omega
end Sp

/-! Sub: groups as numbers below 64, their parts, sums over parts, dividends. -/
namespace Sp
open PySem L2 PyProof.Rows
/-- hand h stands in group g -/
def bitOn (h g : Nat) : Bool := (g &&& 2 ^ h) != 0
theorem bit_facts : ∀ h, h < 6 → ∀ g, g < 64 → (bitOn h g = true → g ^^^ 2 ^ h < g ∧ bitOn h (g ^^^ 2 ^ h) = false) ∧ (∀ j, j < 6 → j ≠ h → bitOn j (g ^^^ 2 ^ h) = bitOn j g) := by decide +kernel
def stepD (h : Nat) (f : Nat → Int) : Nat → Int := fun g => if bitOn h g = true then f g - f (g ^^^ 2 ^ h) else f g
def stepE (h : Nat) (f : Nat → Int) : Nat → Int := fun g => if bitOn h g = true then f g + f (g ^^^ 2 ^ h) else f g
def allD : Nat → (Nat → Int) → Nat → Int
  | 0, f => f
  | k + 1, f => stepD k (allD k f)
def allE : Nat → (Nat → Int) → Nat → Int
  | 0, f => f
  | k + 1, f => stepE k (allE k f)
def On64 (f f' : Nat → Int) : Prop := ∀ g, g < 64 → f g = f' g
theorem On64.trans {f f' f'' : Nat → Int} (a : On64 f f') (b : On64 f' f'') : On64 f f'' := fun g h => (a g h).trans (b g h)
theorem On64.symm {f f' : Nat → Int} (a : On64 f f') : On64 f' f := fun g h => (a g h).symm
theorem stepD_on {h : Nat} (hh : h < 6) {f f' : Nat → Int} (e : On64 f f') : On64 (stepD h f) (stepD h f') := fun g hg => by
  unfold stepD
  by_cases c : bitOn h g = true
  · have := ((bit_facts h hh g hg).1 c).1
    rw [if_pos c, if_pos c, e g hg, e _ (by omega)]
  · rw [if_neg c, if_neg c, e g hg]
theorem stepE_on {h : Nat} (hh : h < 6) {f f' : Nat → Int} (e : On64 f f') : On64 (stepE h f) (stepE h f') := fun g hg => by
  unfold stepE
  by_cases c : bitOn h g = true
  · have := ((bit_facts h hh g hg).1 c).1
    rw [if_pos c, if_pos c, e g hg, e _ (by omega)]
  · rw [if_neg c, if_neg c, e g hg]
theorem stepED {h : Nat} (hh : h < 6) (f : Nat → Int) : On64 (stepE h (stepD h f)) f := fun g hg => by
  unfold stepE
  by_cases c : bitOn h g = true
  · have b := (bit_facts h hh g hg).1 c
    rw [if_pos c]
    unfold stepD
    rw [if_pos c, if_neg (by rw [b.2]; exact Bool.false_ne_true)]
    omega
  · rw [if_neg c]; unfold stepD; rw [if_neg c]
theorem stepDE {h : Nat} (hh : h < 6) (f : Nat → Int) : On64 (stepD h (stepE h f)) f := fun g hg => by
  unfold stepD
  by_cases c : bitOn h g = true
  · have b := (bit_facts h hh g hg).1 c
    rw [if_pos c]
    unfold stepE
    rw [if_pos c, if_neg (by rw [b.2]; exact Bool.false_ne_true)]
    omega
  · rw [if_neg c]; unfold stepE; rw [if_neg c]
theorem xor_swap (g a b : Nat) : (g ^^^ a) ^^^ b = (g ^^^ b) ^^^ a := by rw [Nat.xor_assoc, Nat.xor_comm a b, ← Nat.xor_assoc]
theorem step_comm {h j : Nat} (hh : h < 6) (hj : j < 6) (hne : j ≠ h) (f : Nat → Int) : On64 (stepE h (stepD j f)) (stepD j (stepE h f)) := fun g hg => by
  have bh := bit_facts h hh g hg
  have bj := bit_facts j hj g hg
  have e1 : bitOn j (g ^^^ 2 ^ h) = bitOn j g := bh.2 j hj hne
  have e2 : bitOn h (g ^^^ 2 ^ j) = bitOn h g := bj.2 h hh (Ne.symm hne)
  unfold stepE stepD
  simp only [e1, e2, xor_swap g (2 ^ j) (2 ^ h)]
  by_cases c : bitOn h g = true <;> by_cases d : bitOn j g = true <;> simp [c, d] <;> omega
theorem allE_comm {j : Nat} (hj : j < 6) (f : Nat → Int) : ∀ k, k ≤ j → On64 (allE k (stepD j f)) (stepD j (allE k f))
  | 0, _ => fun _ _ => rfl
  | k + 1, hk => by
    have ih := allE_comm hj f k (by omega)
    exact (stepE_on (by omega) ih).trans (step_comm (by omega) hj (by omega) (allE k f))
theorem allED (f : Nat → Int) : ∀ k, k ≤ 6 → On64 (allE k (allD k f)) f
  | 0, _ => fun _ _ => rfl
  | k + 1, hk => by
    have ih := allED f k (by omega)
    have c := allE_comm (j := k) (by omega) (allD k f) k (Nat.le_refl k)
    have a : On64 (allE (k + 1) (allD (k + 1) f)) (stepE k (stepD k (allE k (allD k f)))) := stepE_on (by omega) c
    exact (a.trans (stepED (by omega) _)).trans ih
theorem allD_comm {j : Nat} (hj : j < 6) (f : Nat → Int) : ∀ k, k ≤ j → On64 (allD k (stepE j f)) (stepE j (allD k f))
  | 0, _ => fun _ _ => rfl
  | k + 1, hk => by
    have ih := allD_comm hj f k (by omega)
    exact (stepD_on (by omega) ih).trans (step_comm hj (by omega) (by omega) (allD k f)).symm
theorem allDE (f : Nat → Int) : ∀ k, k ≤ 6 → On64 (allD k (allE k f)) f
  | 0, _ => fun _ _ => rfl
  | k + 1, hk => by
    have ih := allDE f k (by omega)
    have c := allD_comm (j := k) (by omega) (allE k f) k (Nat.le_refl k)
    have a : On64 (allD (k + 1) (allE (k + 1) f)) (stepD k (stepE k (allD k (allE k f)))) := stepD_on (by omega) c
    exact (a.trans (stepDE (by omega) _)).trans ih
/-! ### parts of a group, rising -/
def subs (g : Nat) : List Nat := (List.range 64).filter fun q => (q &&& g) == q
def partSum (f : Nat → Int) (g : Nat) : Int := ((subs g).map f).sum
def el : Nat → Nat → List Nat
  | 0, g => [g]
  | k + 1, g => if bitOn k g = true then el k (g ^^^ 2 ^ k) ++ el k g else el k g
theorem el_subs : ∀ k, k < 7 → ∀ g, g < 2 ^ k → el k g = subs g := by decide +kernel
theorem sum_app (a b : List Int) : (a ++ b).sum = a.sum + b.sum := List.sum_append
theorem allE_el (f : Nat → Int) : ∀ k g, allE k f g = ((el k g).map f).sum
  | 0, g => by show f g = ([g].map f).sum; simp
  | k + 1, g => by
    show stepE k (allE k f) g = _
    unfold stepE el
    by_cases c : bitOn k g = true
    · rw [if_pos c, if_pos c, List.map_append, sum_app, allE_el f k g, allE_el f k _]
      omega
    · rw [if_neg c, if_neg c, allE_el f k g]
theorem allE_sum (f : Nat → Int) {k g : Nat} (hk : k ≤ 6) (hg : g < 2 ^ k) : allE k f g = partSum f g := by
  rw [allE_el, el_subs k (by omega) g hg]
  rfl
/-- the parts but nobody, up to p -/
def someSubs (g p : Nat) : List Nat := (List.range (p + 1)).filter fun q => (q &&& g) == q && decide (0 < q)
theorem someSubs_step : ∀ g, g < 64 → ∀ p, p < 64 → (0 < p ∧ p &&& g = p) → someSubs g p = someSubs g ((p - 1) &&& g) ++ [p] ∧ (p - 1) &&& g < p ∧ ((p - 1) &&& g) &&& g = (p - 1) &&& g := by decide +kernel
theorem someSubs_all : ∀ g, g < 64 → subs g = 0 :: someSubs g g := by decide +kernel
theorem someSubs_zero (g : Nat) : someSubs g 0 = [] := by
  unfold someSubs
  rw [show List.range (0 + 1) = [0] from rfl]
  simp
def someSum (f : Nat → Int) (g p : Nat) : Int := ((someSubs g p).map f).sum
theorem someSum_step (f : Nat → Int) {g p : Nat} (hg : g < 64) (hp : p < 64) (h0 : 0 < p) (hs : p &&& g = p) : someSum f g p = someSum f g ((p - 1) &&& g) + f p := by
  unfold someSum
  rw [(someSubs_step g hg p hp ⟨h0, hs⟩).1, List.map_append, sum_app]
  simp
theorem partSum_some (f : Nat → Int) {g : Nat} (hg : g < 64) : partSum f g = f 0 + someSum f g g := by
  unfold partSum someSum
  rw [someSubs_all g hg, List.map_cons, List.sum_cons]
/-! ### lists by their places -/
/-- the list of f's values at 0 .. n - 1 -/
def tl (n : Nat) (f : Nat → Int) : List Int := (List.range n).map f
def fn (ns : List Int) : Nat → Int := fun g => gi ns (g : Int)
theorem tl_len (n : Nat) (f : Nat → Int) : (tl n f).length = n := by unfold tl; rw [List.length_map, List.length_range]
theorem gi_tl {n : Nat} {f : Nat → Int} {i : Int} (h0 : 0 ≤ i) (h : i < n) : gi (tl n f) i = f i.toNat := gi_map_range h0 h
theorem gi_tln {n : Nat} {f : Nat → Int} {i : Nat} (h : i < n) : gi (tl n f) (i : Int) = f i := by rw [gi_tl (by omega) (by omega), Int.toNat_natCast]
theorem tl_fn (ns : List Int) : tl ns.length (fn ns) = ns := by
  refine gi_ext (tl_len _ _) fun i h0 h1 => ?_
  rw [tl_len] at h1
  rw [gi_tl h0 h1]
  unfold fn
  rw [Int.toNat_of_nonneg h0]
theorem tl_congr {n : Nat} {f f' : Nat → Int} (h : ∀ i, i < n → f i = f' i) : tl n f = tl n f' := by
  unfold tl
  exact List.map_congr_left fun i hi => h i (List.mem_range.mp hi)
theorem tl_set {n : Nat} {f : Nat → Int} {j : Nat} {z : Int} (hj : j < n) : (tl n f).set j z = tl n fun i => if i = j then z else f i := by
  apply List.ext_getElem?
  intro i
  unfold tl
  by_cases e : j = i
  · subst e
    rw [List.getElem?_set_self (by rw [List.length_map, List.length_range]; exact hj), List.getElem?_map, List.getElem?_range hj]
    simp
  · rw [List.getElem?_set_ne e, List.getElem?_map, List.getElem?_map]
    cases h : (List.range n)[i]? with
    | none => rfl
    | some x =>
      have : x = i := by
        have hi := (List.getElem?_eq_some_iff.mp h).1
        rw [List.length_range] at hi
        rw [List.getElem?_range hi] at h
        exact (Option.some.inj h).symm
      subst this
      simp [Ne.symm e]
/-! ### bits of Python's ints -/
theorem and_nat (a b : Nat) : Builtin.bitAnd (a : Int) (b : Int) = ((a &&& b : Nat) : Int) := by rw [bitAnd_pp (by omega) (by omega), Int.toNat_natCast, Int.toNat_natCast]
theorem or_nat (a b : Nat) : Builtin.bitOr (a : Int) (b : Int) = ((a ||| b : Nat) : Int) := by rw [Bits.bitOr_pp (by omega) (by omega), Int.toNat_natCast, Int.toNat_natCast]
theorem xor_nat (a b : Nat) : Builtin.bitXor (a : Int) (b : Int) = ((a ^^^ b : Nat) : Int) := by rw [Bits.bitXor_pp (by omega) (by omega), Int.toNat_natCast, Int.toNat_natCast]
theorem shl_nat (h : Nat) : (1 : Int) * 2 ^ ((h : Int)).toNat = ((2 ^ h : Nat) : Int) := pow_toNat rfl
theorem bitOn_iff {h g : Nat} : (!decide (((g &&& 2 ^ h : Nat) : Int) = 0)) = bitOn h g := by
  unfold bitOn
  by_cases e : g &&& 2 ^ h = 0
  · rw [e]; rfl
  · rw [decide_eq_false (by omega), bne_iff_ne.mpr e] <;> rfl
/-- below 2 ^ k only the values below 2 ^ k are asked -/
theorem bit_cut : ∀ k, k < 7 → ∀ h, h < k → ∀ g, g < 2 ^ k → bitOn h g = true → g ^^^ 2 ^ h < 2 ^ k := by decide +kernel
theorem allE_cut' {k : Nat} (hk : k ≤ 6) {f f' : Nat → Int} (e : ∀ i, i < 2 ^ k → f i = f' i) : ∀ j, j ≤ k → ∀ g, g < 2 ^ k → allE j f g = allE j f' g
  | 0, _, g, hg => e g hg
  | j + 1, hj, g, hg => by
    show stepE j (allE j f) g = stepE j (allE j f') g
    unfold stepE
    by_cases c : bitOn j g = true
    · rw [if_pos c, if_pos c, allE_cut' hk e j (by omega) g hg, allE_cut' hk e j (by omega) _ (bit_cut k (by omega) j (by omega) g hg c)]
    · rw [if_neg c, if_neg c, allE_cut' hk e j (by omega) g hg]
theorem allE_cut {k : Nat} (hk : k ≤ 6) {f f' : Nat → Int} (e : ∀ i, i < 2 ^ k → f i = f' i) {g : Nat} (hg : g < 2 ^ k) : allE k f g = allE k f' g := allE_cut' hk e k (Nat.le_refl k) g hg
theorem allD_cut' {k : Nat} (hk : k ≤ 6) {f f' : Nat → Int} (e : ∀ i, i < 2 ^ k → f i = f' i) : ∀ j, j ≤ k → ∀ g, g < 2 ^ k → allD j f g = allD j f' g
  | 0, _, g, hg => e g hg
  | j + 1, hj, g, hg => by
    show stepD j (allD j f) g = stepD j (allD j f') g
    unfold stepD
    by_cases c : bitOn j g = true
    · rw [if_pos c, if_pos c, allD_cut' hk e j (by omega) g hg, allD_cut' hk e j (by omega) _ (bit_cut k (by omega) j (by omega) g hg c)]
    · rw [if_neg c, if_neg c, allD_cut' hk e j (by omega) g hg]
theorem allD_cut {k : Nat} (hk : k ≤ 6) {f f' : Nat → Int} (e : ∀ i, i < 2 ^ k → f i = f' i) {g : Nat} (hg : g < 2 ^ k) : allD k f g = allD k f' g := allD_cut' hk e k (Nat.le_refl k) g hg
/-! ### hands of a group -/
theorem bitOn_div : ∀ h, h < 6 → ∀ g, g < 64 → bitOn h g = decide (g / 2 ^ h % 2 = 1) := by decide +kernel
theorem bit_int {h g : Nat} (hh : h < 6) (hg : g < 64) : decide (Builtin.bitAnd ((g : Int) / 2 ^ ((h : Int)).toNat) 1 = 1) = bitOn h g := by
  rw [bitOn_div h hh g hg, bitAnd_m1, Int.toNat_natCast]
  have e : (g : Int) / 2 ^ h % 2 = ((g / 2 ^ h % 2 : Nat) : Int) := by
    rw [Int.natCast_emod, Int.natCast_ediv, Int.natCast_pow] <;> rfl
  rw [e]
  by_cases c : g / 2 ^ h % 2 = 1
  · rw [c]; rfl
  · rw [decide_eq_false c, decide_eq_false (by omega)]
def handsM (g : Nat) : List Nat := (List.range 6).filter fun h => bitOn h g
theorem filter_yes {p : Nat → Bool} {n : Nat} (h : p n = true) {α : Type} (f : Nat → α) : ((List.range (n + 1)).filter p).map f = ((List.range n).filter p).map f ++ [f n] := by
  rw [List.range_succ, List.filter_append, List.map_append, List.filter_cons, if_pos h] <;> rfl
theorem filter_no {p : Nat → Bool} {n : Nat} (h : p n = false) {α : Type} (f : Nat → α) : ((List.range (n + 1)).filter p).map f = ((List.range n).filter p).map f := by
  rw [List.range_succ, List.filter_append, List.map_append, List.filter_cons, if_neg (by rw [h]; exact Bool.false_ne_true)]
  show _ ++ [] = _
  rw [List.append_nil]
theorem filter_len (p : Nat → Bool) (n : Nat) : ((List.range n).filter p).length ≤ n := by
  have := List.length_filter_le p (List.range n)
  rw [List.length_range] at this
  exact this
/-- a list of naturals as Python's ints -/
abbrev vnat : Nat → V := fun n => .int (n : Int)
theorem vnat_map (l : List Nat) : l.map vnat = (l.map fun n : Nat => (n : Int)).map V.int := by rw [List.map_map] <;> rfl
theorem handsM_lt {g h : Nat} (hm : h ∈ handsM g) : h < 6 := by
  unfold handsM at hm
  exact List.mem_range.mp (List.mem_filter.mp hm).1
/-! ### spread: the hands of a group of blocks -/
def spreadTo (g : Nat) (bs : List Nat) : Nat → Nat
  | 0 => 0
  | i + 1 => if bitOn i g = true then spreadTo g bs i ||| bs.getD i 0 else spreadTo g bs i
def spreadM (g : Nat) (bs : List Nat) : Nat := spreadTo g bs bs.length
theorem spreadTo_step {g : Nat} {bs : List Nat} {i z : Nat} (h : bs[i]? = some z) : spreadTo g bs (i + 1) = if bitOn i g = true then spreadTo g bs i ||| z else spreadTo g bs i := by
  show (if bitOn i g = true then spreadTo g bs i ||| bs.getD i 0 else spreadTo g bs i) = _
  rw [List.getD_eq_getElem?_getD, h] <;> rfl
theorem map_at {α : Type} {f : α → V} {l : List α} {i : Nat} {x : V} (h : (l.map f)[i]? = some x) : ∃ z, l[i]? = some z ∧ x = f z := by
  rw [List.getElem?_map] at h
  cases e : l[i]? with
  | none => rw [e] at h; cases h
  | some z => rw [e] at h; exact ⟨z, rfl, (Option.some.inj h).symm⟩
theorem take_map {α β : Type} {l : List α} {i : Nat} {z : α} (h : l[i]? = some z) (f : α → β) : (l.take (i + 1)).map f = (l.take i).map f ++ [f z] := by
  rw [List.take_add_one, h, List.map_append] <;> rfl
theorem handsM_len (g : Nat) : (handsM g).length ≤ 6 := filter_len _ 6
theorem pow6 {n : Nat} (h : n ≤ 6) : 2 ^ n ≤ 64 := Nat.pow_le_pow_right (n := 2) (by decide) h
/-- the table cut to g -/
def cutM (ns : List Int) (g : Nat) : List Int := (List.range (2 ^ (handsM g).length)).map fun q => gi ns ((spreadM q ((handsM g).map (2 ^ ·)) : Nat) : Int)
theorem spread_le : ∀ {g : Nat}, g < 64 → ∀ q, q < 2 ^ (handsM g).length → spreadM q ((handsM g).map (2 ^ ·)) ≤ g := by decide +kernel
theorem at_mem {xs : List V} {i : Int} (h0 : 0 ≤ i) (h1 : i < xs.length) : ∃ v, atI xs i = some v ∧ v ∈ xs := by
  obtain ⟨n, rfl⟩ := Int.eq_ofNat_of_zero_le h0
  have hn : n < xs.length := by omega
  exact ⟨xs[n], atI_nat (List.getElem?_eq_getElem hn), List.getElem_mem hn⟩
theorem ixN_last {n : Nat} (h : 0 < n) : ixN n (-1) = some (n - 1) := by
  unfold ixN
  rw [if_neg (by decide), if_pos (by omega)]
  congr 1
  omega
theorem at_last {ns : List Int} (h : 0 < ns.length) : atI (ns.map V.int) (-1) = some (.int (gi ns ((ns.length : Int) - 1))) := by
  unfold atI
  rw [List.length_map, ixN_last h, Option.bind_some, List.getElem?_map, List.getElem?_eq_getElem (by omega)]
  unfold gi
  rw [List.getD_eq_getElem?_getD, show ((ns.length : Int) - 1).toNat = ns.length - 1 by omega, List.getElem?_eq_getElem (by omega)]
  rfl
theorem handsM_whole : ∀ k, k < 7 → (handsM (2 ^ k - 1)).length = k := by decide +kernel
theorem handsM_pos : ∀ g, g < 64 → 0 < g → 1 ≤ (handsM g).length := by decide +kernel
theorem spread_whole : ∀ k, k < 7 → ∀ q, q < 2 ^ k → spreadM q ((handsM (2 ^ k - 1)).map (2 ^ ·)) = q := by decide +kernel
theorem spread_nought : ∀ g, g < 64 → spreadM 0 ((handsM g).map (2 ^ ·)) = 0 := by decide +kernel
theorem cutM_len (ns : List Int) (g : Nat) : (cutM ns g).length = 2 ^ (handsM g).length := by unfold cutM; rw [List.length_map, List.length_range]
theorem cutM_tab {ns : List Int} {k g : Nat} (tb : Tab ns k) (h0 : 0 < g) (hg : g < ns.length) : Tab (cutM ns g) (handsM g).length := by
  have hp := tb.pos
  have h64 : g < 64 := by omega
  refine ⟨cutM_len _ _, handsM_pos g h64 h0, handsM_len g, gi_zero (by rw [cutM_len]; exact Nat.two_pow_pos _) ?_⟩
  unfold cutM
  rw [gi_map_range (by decide) (by have := Nat.two_pow_pos (handsM g).length; omega), show (0 : Int).toNat = 0 from rfl, spread_nought g h64]
  exact tb.gi0
theorem cutM_whole {ns : List Int} {k : Nat} (tb : Tab ns k) : cutM ns (ns.length - 1) = ns := by
  have e : (handsM (ns.length - 1)).length = k := by rw [tb.len]; exact handsM_whole k (by have := tb.hi; omega)
  refine gi_ext (by rw [cutM_len, e, tb.len]) fun i h0 h1 => ?_
  rw [cutM_len, e] at h1
  unfold cutM
  rw [gi_map_range h0 (by rw [e]; exact h1), tb.len, spread_whole k (by have := tb.hi; omega) i.toNat (by omega), Int.toNat_of_nonneg h0]
def sumSpread (q : Nat) (bs : List Nat) : Nat := (((List.range bs.length).filter fun j => bitOn j q).map fun j => bs.getD j 0).sum
theorem sumSpread_is : ∀ g, g < 64 → ∀ q, q < 2 ^ (handsM g).length → sumSpread q ((handsM g).map (2 ^ ·)) = spreadM q ((handsM g).map (2 ^ ·)) := by decide +kernel
theorem sum_cast (l : List Nat) : (l.map fun n : Nat => (n : Int)).sum = ((l.sum : Nat) : Int) := by
  induction l with
  | nil => rfl
  | cons x r ih => rw [List.map_cons, List.sum_cons, List.sum_cons, ih, Int.natCast_add]
end Sp

/-! Mg: a table with the hands of a group merged into one. -/
namespace Sp
open PySem PySem.Spec L2 PyProof.Rows
def leastM (g : Nat) : Nat := (handsM g).headD 0
def keepP (g h : Nat) : Bool := h == leastM g || !bitOn h g
def keptM (g k : Nat) : List Nat := (List.range k).filter (keepP g)
def blockOf (g h : Nat) : Nat := if h = leastM g then g else 2 ^ h
def blocksM (g k : Nat) : List Nat := (keptM g k).map (blockOf g)
def mergedM (ns : List Int) (g k : Nat) : List Int := (List.range (2 ^ (keptM g k).length)).map fun q => gi ns ((spreadM q (blocksM g k) : Nat) : Int)
def leftP (g k h : Nat) : Bool := decide (2 ^ h < 2 ^ k) && (h == leastM g || !decide (h ∈ handsM g))
def lawW (g q : Nat) (ls : List Nat) : Nat := if bitOn (leastM g) (sumSpread q (ls.map (2 ^ ·))) = true then sumSpread q (ls.map (2 ^ ·)) - 2 ^ leastM g + g else sumSpread q (ls.map (2 ^ ·))
def mgOne (g k q : Nat) : Bool := decide (spreadM q (blocksM g k) < 2 ^ k) && (lawW g q (keptM g k) == spreadM q (blocksM g k)) && (!bitOn (leastM g) (sumSpread q ((keptM g k).map (2 ^ ·))) || decide (2 ^ leastM g ≤ sumSpread q ((keptM g k).map (2 ^ ·)))) && decide (sumSpread q ((keptM g k).map (2 ^ ·)) < 64)
def mgOk (g k : Nat) : Bool := decide (1 ≤ (keptM g k).length) && ((List.range 6).filter (leftP g k) == keptM g k) && (spreadM 0 (blocksM g k) == 0) && (List.range (2 ^ (keptM g k).length)).all (mgOne g k)
theorem mgOk_all : ∀ k, k < 7 → ∀ g, g < 2 ^ k → 0 < g → mgOk g k = true := by decide +kernel
theorem mgF (k : Nat) (hk : k < 7) (g : Nat) (hg : g < 2 ^ k) (h0 : 0 < g) : 1 ≤ (keptM g k).length ∧ (List.range 6).filter (leftP g k) = keptM g k ∧ spreadM 0 (blocksM g k) = 0 ∧
    ∀ q, q < 2 ^ (keptM g k).length → spreadM q (blocksM g k) < 2 ^ k ∧ lawW g q (keptM g k) = spreadM q (blocksM g k) ∧ (bitOn (leastM g) (sumSpread q ((keptM g k).map (2 ^ ·))) = true → 2 ^ leastM g ≤ sumSpread q ((keptM g k).map (2 ^ ·))) ∧ sumSpread q ((keptM g k).map (2 ^ ·)) < 64 := by
  have h := mgOk_all k hk g hg h0
  unfold mgOk at h
  simp only [Bool.and_eq_true, decide_eq_true_eq, beq_iff_eq, List.all_eq_true] at h
  obtain ⟨⟨⟨a, b⟩, c⟩, d⟩ := h
  refine ⟨a, b, c, fun q hq => ?_⟩
  have h2 := d q (List.mem_range.mpr hq)
  unfold mgOne at h2
  simp only [Bool.and_eq_true, decide_eq_true_eq, beq_iff_eq, Bool.or_eq_true, Bool.not_eq_true'] at h2
  obtain ⟨⟨⟨a2, b2⟩, c2⟩, d2⟩ := h2
  refine ⟨a2, b2, fun e => ?_, d2⟩
  rcases c2 with c2 | c2
  · rw [e] at c2; cases c2
  · exact c2
theorem leastF : ∀ g, g < 64 → 0 < g → (handsM g)[0]? = some (leastM g) ∧ leastM g < 6 := by decide +kernel
theorem mgWhole : ∀ k, k < 7 → 1 ≤ k → keptM (2 ^ k - 1) k = [0] ∧ spreadM 0 (blocksM (2 ^ k - 1) k) = 0 ∧ spreadM 1 (blocksM (2 ^ k - 1) k) = 2 ^ k - 1 := by decide +kernel
theorem handsM_all : ∀ k, k < 7 → handsM (2 ^ k - 1) = List.range k := by decide +kernel
theorem keptM_len (g k : Nat) : (keptM g k).length ≤ k := filter_len _ k
theorem blocksM_len (g k : Nat) : (blocksM g k).length = (keptM g k).length := by unfold blocksM; rw [List.length_map]
theorem mergedM_len (ns : List Int) (g k : Nat) : (mergedM ns g k).length = 2 ^ (keptM g k).length := by unfold mergedM; rw [List.length_map, List.length_range]
theorem mergedM_tab {ns : List Int} {k g : Nat} (tb : Tab ns k) (h0 : 0 < g) (hg : g < ns.length) : Tab (mergedM ns g k) (keptM g k).length := by
  have hp := tb.pos
  obtain ⟨f1, _, f3, _⟩ := mgF k (by have := tb.hi; omega) g (by rw [← tb.len]; exact hg) h0
  refine ⟨mergedM_len _ _ _, f1, Nat.le_trans (keptM_len g k) tb.hi, gi_zero (by rw [mergedM_len]; exact Nat.two_pow_pos _) ?_⟩
  unfold mergedM
  rw [gi_map_range (by decide) (by have := Nat.two_pow_pos (keptM g k).length; omega), show (0 : Int).toNat = 0 from rfl, f3]
  exact tb.gi0
theorem mergedM_whole {ns : List Int} {k : Nat} (tb : Tab ns k) : mergedM ns (ns.length - 1) k = [0, gi ns ((ns.length : Int) - 1)] := by
  have hp := tb.pos
  obtain ⟨f1, f2, f3⟩ := mgWhole k (by have := tb.hi; omega) tb.lo
  unfold mergedM
  rw [tb.len, f1, show List.range (2 ^ [0].length) = [0, 1] from rfl]
  show [gi ns _, gi ns _] = _
  rw [f2, f3, show gi ns ((0 : Nat) : Int) = 0 from tb.gi0]
  have h2 : 1 ≤ 2 ^ k := Nat.two_pow_pos k
  congr 3
  omega
theorem bit_int0 {h g : Nat} (hh : h < 6) (hg : g < 64) : decide (Builtin.bitAnd ((g : Int) / 2 ^ ((h : Int)).toNat) 1 = 0) = !bitOn h g := by
  have e := bit_int hh hg
  rw [← e, bitAnd_m1]
  by_cases c : (g : Int) / 2 ^ ((h : Int)).toNat % 2 = 1
  · rw [c]; rfl
  · rw [decide_eq_false c, decide_eq_true (by omega)] <;> rfl
theorem range_at {n i z : Nat} (h : (List.range n)[i]? = some z) : z = i ∧ i < n := by
  obtain ⟨h1, h2⟩ := List.getElem?_eq_some_iff.mp h
  rw [List.length_range] at h1
  rw [List.getElem_range] at h2
  exact ⟨h2.symm, h1⟩
theorem keep_yes {g i : Nat} (h : keepP g i = true) : (((List.range (i + 1)).filter (keepP g)).map (blockOf g)).map vnat = (((List.range i).filter (keepP g)).map (blockOf g)).map vnat ++ [vnat (blockOf g i)] := by
  rw [List.range_succ, List.filter_append, List.map_append, List.map_append, List.filter_cons, if_pos h] <;> rfl
theorem keep_no {g i : Nat} (h : keepP g i = false) : (((List.range (i + 1)).filter (keepP g)).map (blockOf g)).map vnat = (((List.range i).filter (keepP g)).map (blockOf g)).map vnat := by
  rw [List.range_succ, List.filter_append, List.map_append, List.map_append, List.filter_cons, if_neg (by rw [h]; exact Bool.false_ne_true)]
  show _ ++ [] = _
  rw [List.append_nil]
def offOk (m h g : Nat) : Bool := bitOn h g || (decide (g ||| 2 ^ h = g + 2 ^ h) && decide (g + 2 ^ h < 2 ^ m))
theorem off_all : ∀ m, m < 7 → ∀ h, h < m → ∀ g, g < 2 ^ m → offOk m h g = true := by decide +kernel
theorem off_bit {m h g : Nat} (hm : m < 7) (hh : h < m) (hg : g < 2 ^ m) (hb : bitOn h g = false) : g ||| 2 ^ h = g + 2 ^ h ∧ g + 2 ^ h < 2 ^ m := by
  have e := off_all m hm h hh g hg
  unfold offOk at e
  rw [hb, Bool.false_or, Bool.and_eq_true, decide_eq_true_eq, decide_eq_true_eq] at e
  exact e
theorem bits_len : ∀ m, m < 7 → (List.range 6).filter (fun k => decide (2 ^ k < 2 ^ m)) = List.range m := by decide +kernel
theorem rep_flat (m : Nat) : (List.replicate m [V.int 0]).flatten = (List.replicate m (0 : Int)).map V.int := by
  induction m with
  | zero => rfl
  | succ m ih => rw [List.replicate_succ, List.replicate_succ, List.flatten_cons, List.map_cons, ih] <;> rfl
theorem rep_tl {m : Nat} {f : Nat → Int} (h : ∀ i, i < m → f i = 0) : List.replicate m (0 : Int) = tl m f := by
  unfold tl
  apply List.ext_getElem?
  intro i
  rw [List.getElem?_map, List.getElem?_replicate]
  by_cases hi : i < m
  · rw [if_pos hi, List.getElem?_range hi, Option.map_some, h i hi]
  · rw [if_neg hi, List.getElem?_eq_none (by rw [List.length_range]; omega)] <;> rfl
/-- the comprehension over a list of our own -/
theorem cp_listO {K : PySem.W.Frag} {B : Hp} {cs : Cells} {H : Hp} {σ : L2.St} {te : TE} {g : TG} {tt : TT} {vs : List Nat} {QD : Addr → Hp → Prop} {a : Addr} {xs : List V} (F : Nat → List V) (w : Own B cs H) (j : Nat) (hx : cs[j]? = some (a, .lst xs)) (h0 : F 0 = [])
    (hs : ∀ D i x H', xs[i]? = some x → PvC B cs D F i H' → g x (wipe σ vs) H' fun σ2 H2 => wipe σ2 vs = wipe σ vs ∧ tt σ2 H2 fun b H3 =>
      if b = true then te σ2 H3 fun y H4 => ∃ acc, H4 D = some (.lst acc) ∧ acc.length < sizeLine ∧ PvC B cs D F (i + 1) (upd H4 D (.lst (acc ++ [y]))) else PvC B cs D F (i + 1) H3)
    (hq : ∀ D H', Own B ((D, .lst (F xs.length)) :: cs) H' → QD D H') : ∀ D, H D = none → ∃ W : Nat → Nat → Hp → Prop, (∃ m, W 0 m (upd H D (.lst []))) ∧ ∀ i m H, W i m H →
      ((Itl K a).stop i H ∧ QD D H) ∨ ((Itl K a).go i H ∧ ∃ Nx : Hp → Prop, (∀ H', Nx H' → ∃ m', m' < m ∧ W (i + 1) m' H') ∧ ∀ x H', (Itl K a).yld i H x H' → g x (wipe σ vs) H' fun σ2 H2 => wipe σ2 vs = wipe σ vs ∧ tt σ2 H2 fun b H3 =>
        if b = true then te σ2 H3 fun y H4 => ∃ acc, H4 D = some (.lst acc) ∧ acc.length < sizeLine ∧ Nx (upd H4 D (.lst (acc ++ [y]))) else Nx H3) := fun D hD =>
  lc_list (PvC B cs D F) (by unfold PvC; rw [h0]; exact w.new hD) (fun i H' hi p => Own.sq p (j + 1) hx) (fun i x H' hi p => hs D i x H' hi p) (fun H' p => hq D H' p)
theorem cut_to {xs : List V} {i : Nat} : cutV xs none (some (i : Int)) = xs.take i := by
  unfold cutV
  rw [HT.sIx_none, HT.sIx_nat, List.drop_zero, Nat.sub_zero]
  by_cases h : i ≤ xs.length
  · rw [Nat.min_eq_left h]
  · rw [Nat.min_eq_right (by omega), List.take_of_length_le (Nat.le_refl _), List.take_of_length_le (by omega)]
theorem cut_from {xs : List V} {i : Nat} : cutV xs (some (i : Int)) none = xs.drop i := by
  unfold cutV
  rw [HT.sIx_none, HT.sIx_nat, List.take_of_length_le (by rw [List.length_drop]; omega)]
  by_cases h : i ≤ xs.length
  · rw [Nat.min_eq_left h]
  · rw [Nat.min_eq_right (by omega), List.drop_eq_nil_of_le (Nat.le_refl _), List.drop_eq_nil_of_le (by omega)]
/-- x not in a list of whole numbers -/
theorem inV_nat {h : Nat} : ∀ {ns : List Nat}, inV (.int (h : Int)) (ns.map vnat) = decide (h ∈ ns)
  | [] => rfl
  | n :: ns => by
    have ih := inV_nat (h := h) (ns := ns)
    unfold inV at ih ⊢
    rw [List.map_cons, List.any_cons, ih]
    show (((n : Int) == (h : Int)) || decide (h ∈ ns)) = _
    rw [Bool.eq_iff_iff]
    simp only [Bool.or_eq_true, beq_iff_eq, decide_eq_true_eq, List.mem_cons]
    constructor
    · rintro (e | e)
      · exact .inl (by omega)
      · exact .inr e
    · rintro (e | e)
      · exact .inl (by omega)
      · exact .inr e
theorem all_flat_nat : ∀ ns : List Nat, (ns.map vnat).all flatV = true
  | [] => rfl
  | n :: ns => by rw [List.map_cons, List.all_cons, all_flat_nat ns] <;> rfl
theorem x_notInN {K : PySem.W.Frag} {H : Hp} {Q : VK} {p : Addr} {h : Nat} {ns : List Nat} (hS : SqL K H p (ns.map vnat)) (q : Q (.bl (!decide (h ∈ ns))) H) : rIn K true (.int (h : Int)) (.ref p) H Q :=
  ⟨p, _, rfl, .inl hS, rfl, all_flat_nat ns, by rw [inV_nat]; exact q⟩
end Sp

/-! Dp: == of nested data. -/
namespace Sp
open PySem PySem.Spec L2 PyProof.Rows
mutual
theorem eqv_self : ∀ d : PyData, d.canLay0 = true → PyData.eqv d d = true
  | .none, _ => by simp [PyData.eqv]
  | .bool b, _ => by simp [PyData.eqv]
  | .int i, _ => by simp [PyData.eqv]
  | .str x, _ => by simp [PyData.eqv]
  | .list xs, h => by
    rw [PyData.canLay0] at h
    rw [PyData.eqv]
    exact eqvAll_self xs h
  | .tuple xs, h => by
    rw [PyData.canLay0] at h
    rw [PyData.eqv]
    exact eqvAll_self xs h
  | .dict _, h => by rw [PyData.canLay0] at h; cases h
theorem eqvAll_self : ∀ ds : List PyData, PyData.canLayAll0 ds = true → PyData.eqvAll ds ds = true
  | [], _ => by simp [PyData.eqvAll]
  | d :: ds, h => by
    rw [PyData.canLayAll0, Bool.and_eq_true] at h
    rw [PyData.eqvAll, eqv_self d h.1, eqvAll_self ds h.2] <;> rfl
end
/-- laid without dicts, at most k deep -/
structure LayD (k : Nat) (d : PyData) : Prop where
  lay : d.canLay0 = true
  dep : d.depth ≤ k
theorem layAll : ∀ {k : Nat} {ds : List PyData}, (∀ d ∈ ds, LayD k d) → PyData.canLayAll0 ds = true ∧ PyData.depthAll ds ≤ k
  | k, [], _ => ⟨by simp [PyData.canLayAll0], by simp [PyData.depthAll]⟩
  | k, d :: ds, h => by
    have ⟨h1, h2⟩ := layAll fun x hx => h x (.tail _ hx)
    have h0 := h d (.head _)
    exact ⟨by rw [PyData.canLayAll0, h0.lay, h1] <;> rfl, by have := h0.dep; simp only [PyData.depthAll]; omega⟩
theorem LayD.int {k : Nat} (h : 1 ≤ k) (i : Int) : LayD k (.int i) := ⟨by simp [PyData.canLay0], by simp only [PyData.depth]; omega⟩
theorem LayD.bool {k : Nat} (h : 1 ≤ k) (b : Bool) : LayD k (.bool b) := ⟨by simp [PyData.canLay0], by simp only [PyData.depth]; omega⟩
theorem LayD.none {k : Nat} (h : 1 ≤ k) : LayD k .none := ⟨by simp [PyData.canLay0], by simp only [PyData.depth]; omega⟩
theorem LayD.str {k : Nat} (h : 1 ≤ k) {x : Str} (hx : PyData.strOk x = true) : LayD k (.str x) := ⟨by simpa [PyData.canLay0] using hx, by simp only [PyData.depth]; omega⟩
theorem LayD.list {k : Nat} {ds : List PyData} (h : ∀ d ∈ ds, LayD k d) : LayD (k + 1) (.list ds) := by
  have ⟨h1, h2⟩ := layAll h
  exact ⟨by rw [PyData.canLay0]; exact h1, by simp only [PyData.depth]; omega⟩
theorem LayD.tuple {k : Nat} {ds : List PyData} (h : ∀ d ∈ ds, LayD k d) : LayD (k + 1) (.tuple ds) := by
  have ⟨h1, h2⟩ := layAll h
  exact ⟨by rw [PyData.canLay0]; exact h1, by simp only [PyData.depth]; omega⟩
theorem LayD.ints {ns : List Int} : LayD 2 (.list (ns.map PyData.int)) := LayD.list fun d hd => by
  obtain ⟨n, _, rfl⟩ := List.mem_map.mp hd
  exact LayD.int (by decide) n
theorem LayD.shaped {k : Nat} {d : PyData} (h : LayD k d) (hk : k ≤ 64 := by decide) : SeqAt.shaped d = true := by
  unfold SeqAt.shaped
  rw [Bool.and_eq_true]
  exact ⟨h.lay, decide_eq_true (Nat.le_trans h.dep hk)⟩
section
variable {K : PySem.W.Frag} {H : Hp} {Q : VK} {x y : V} {d : PyData} {k : Nat}
theorem x_eqD (h1 : Dp K H x d) (h2 : Dp K H y d) (l : LayD k d) (q : Q (.bl true) H) (hk : k ≤ 64 := by decide) : rEqX K x y H Q :=
  .inr ⟨_, _, h1, h2, l.shaped hk, l.shaped hk, by rw [eqv_self d l.lay]; exact q⟩
theorem x_neD (h1 : Dp K H x d) (h2 : Dp K H y d) (l : LayD k d) (q : Q (.bl false) H) (hk : k ≤ 64 := by decide) : rNeX K x y H Q :=
  .inr ⟨_, _, h1, h2, l.shaped hk, l.shaped hk, by rw [eqv_self d l.lay]; exact q⟩
end
mutual
theorem Dp.same {K : PySem.W.Frag} {H H' : Hp} (s : Same H H') : ∀ (d : PyData) (v : V), Dp K H v d → Dp K H' v d
  | .none, _, h => by cases h; exact .non
  | .bool b, _, h => by cases h; exact .bl b
  | .int i, _, h => by cases h; exact .int i
  | .str x, _, h => by cases h; exact .str x
  | .list ds, _, h => by
    cases h with
    | lst h1 h2 => exact .lst (s.seq h1) (DpAll.same s ds _ h2)
  | .tuple ds, _, h => by
    cases h with
    | tup h1 h2 => exact .tup (same_sqT s h1) (DpAll.same s ds _ h2)
  | .dict _, _, h => by cases h
theorem DpAll.same {K : PySem.W.Frag} {H H' : Hp} (s : Same H H') : ∀ (ds : List PyData) (vs : List V), DpAll K H vs ds → DpAll K H' vs ds
  | [], _, h => by cases h; exact .nil
  | d :: ds, _, h => by
    cases h with
    | cons h1 h2 => exact .cons (Dp.same s d _ h1) (DpAll.same s ds _ h2)
end
theorem DpAll.app {K : PySem.W.Frag} {H : Hp} : ∀ {vs ws : List V} {ds es : List PyData}, DpAll K H vs ds → DpAll K H ws es → DpAll K H (vs ++ ws) (ds ++ es)
  | _, _, _, _, .nil, h => h
  | _, _, _, _, .cons h1 h2, h => .cons h1 (DpAll.app h2 h)
end Sp

/-! Gcd: the greatest divisor, fractions in their shortest words. -/
namespace Sp
open PySem PySem.Spec L2 PyProof.Rows
theorem x_par {i j : Nat} {ta : TA} {D : Ends} {σ : L2.St} {H : Hp} (h : ta σ H fun vs H1 => ∃ v w, vs = [v, w] ∧ D.nx ((σ.set i (some v)).set j (some w)) H1) : tPar i j ta D σ H := h
/-- numbers of at most B bits -/
def Bits (B : Nat) (a b : Int) : Prop := B ≤ 9000 ∧ a.natAbs < 2 ^ B ∧ b.natAbs < 2 ^ B
def gcdI (a b : Int) : Int := ((Int.gcd a b : Nat) : Int)
def shortM (a b : Int) : Int × Int := if 0 < b then (a / gcdI a b, b / gcdI a b) else (0 - a / gcdI a b, 0 - b / gcdI a b)
theorem gcd_step (x y : Nat) : Nat.gcd y (x % y) = Nat.gcd x y := by rw [Nat.gcd_comm y (x % y), ← Nat.gcd_rec, Nat.gcd_comm]
theorem halve {x y k : Nat} (h0 : 0 < y) (hxy : y ≤ x) (h : x * y < 2 ^ k) : y * (x % y) < 2 ^ (k - 1) ∧ 1 ≤ k := by
  have h1 : 1 ≤ x * y := Nat.mul_pos (by omega) h0
  have hk : 1 ≤ k := by
    rcases Nat.eq_zero_or_pos k with e | e
    · subst e; rw [Nat.pow_zero] at h; omega
    · exact e
  refine ⟨?_, hk⟩
  have e : 2 ^ k = 2 * 2 ^ (k - 1) := by rw [← Nat.pow_succ']; congr 1; omega
  have h2 : 2 * (x % y) ≤ x := by
    have := Nat.mod_lt x h0
    have h3 := Nat.div_add_mod x y
    have h4 : 1 ≤ x / y := (Nat.one_le_div_iff h0).mpr hxy
    have h5 : y * 1 ≤ y * (x / y) := Nat.mul_le_mul_left y h4
    omega
  have h6 : 2 * (y * (x % y)) ≤ x * y := by
    rw [← Nat.mul_assoc, Nat.mul_comm 2 y, Nat.mul_assoc, Nat.mul_comm x y]
    exact Nat.mul_le_mul_left y h2
  omega
theorem last2 (l : List Nat) (x y : Nat) : atI ((l ++ [x, y]).map vnat) (-1) = some (vnat y) ∧ atI ((l ++ [x, y]).map vnat) (-2) = some (vnat x) := by
  have hl : ((l ++ [x, y]).map vnat).length = l.length + 2 := by rw [List.length_map, List.length_append] <;> rfl
  constructor
  · unfold atI
    rw [hl, show ixN (l.length + 2) (-1) = some (l.length + 1) by unfold ixN; rw [if_neg (by decide), if_pos (by omega)]; congr 1; omega]
    rw [Option.bind_some, List.getElem?_map, List.getElem?_append_right (by omega), show l.length + 1 - l.length = 1 by omega] <;> rfl
  · unfold atI
    rw [hl, show ixN (l.length + 2) (-2) = some l.length by unfold ixN; rw [if_neg (by decide), if_pos (by omega)]; congr 1; omega]
    rw [Option.bind_some, List.getElem?_map, List.getElem?_append_right (by omega), Nat.sub_self] <;> rfl
theorem abs_nat (a : Int) : (if a < 0 then -a else a) = ((a.natAbs : Nat) : Int) := by
  by_cases h : a < 0
  · rw [if_pos h]; omega
  · rw [if_neg h]; omega
theorem gcd_pos {a b : Int} (h : b ≠ 0) : 0 < Int.gcd a b := Nat.gcd_pos_of_pos_right _ (by omega)
theorem gcd_le {a b : Int} (h : b ≠ 0) : Int.gcd a b ≤ b.natAbs := Nat.gcd_le_right _ (by omega)
theorem gcd_log {a b : Int} {B : Nat} (h : b ≠ 0) (hb : Bits B a b) : (gcdI a b).natAbs.log2 < 9000 := by
  obtain ⟨h1, _, h3⟩ := hb
  have h4 : B ≠ 0 := fun e => by rw [e, Nat.pow_zero] at h3; omega
  have h5 := gcd_le (a := a) h
  unfold gcdI
  rw [Int.natAbs_natCast]
  exact Nat.lt_of_lt_of_le (PySem.Flt.log2_lt_of (by omega) (Nat.lt_of_le_of_lt h5 h3)) h1
/-! ### what the shortest words are -/
theorem gcd_mul_div {a b : Int} (h : b ≠ 0) : gcdI a b * (a / gcdI a b) = a ∧ gcdI a b * (b / gcdI a b) = b := by
  unfold gcdI
  exact ⟨Int.mul_ediv_cancel' (Int.gcd_dvd_left ..), Int.mul_ediv_cancel' (Int.gcd_dvd_right ..)⟩
/-- a fraction in its shortest words -/
structure Frac (p q : Int) : Prop where
  pos : 0 < q
  one : Int.gcd p q = 1
theorem short_gcd {a b : Int} (h : b ≠ 0) : Int.gcd (a / gcdI a b) (b / gcdI a b) = 1 := by
  unfold gcdI
  exact Int.gcd_ediv_gcd_ediv_gcd (gcd_pos h)
theorem short_frac {a b : Int} (h : b ≠ 0) : Frac (shortM a b).1 (shortM a b).2 := by
  have hg : 0 < gcdI a b := by have := gcd_pos (a := a) h; unfold gcdI; omega
  have e := gcd_mul_div (a := a) h
  have h1 := short_gcd (a := a) h
  unfold shortM
  by_cases hb : 0 < b
  · rw [if_pos hb]
    exact ⟨Int.ediv_pos_of_pos_of_dvd hb (by omega) ⟨_, e.2.symm⟩, h1⟩
  · rw [if_neg hb]
    have h2 : 0 < 0 - b / gcdI a b := by
      have h3 : ¬ 0 ≤ b / gcdI a b := fun h4 => by
        have := Int.mul_nonneg (Int.le_of_lt hg) h4
        omega
      omega
    refine ⟨h2, ?_⟩
    rw [Int.zero_sub, Int.zero_sub, Int.gcd_neg, Int.neg_gcd]
    exact h1
theorem short_cross {a b : Int} (h : b ≠ 0) : (shortM a b).1 * b = a * (shortM a b).2 := by
  have e := gcd_mul_div (a := a) h
  unfold shortM
  have key : a / gcdI a b * b = a * (b / gcdI a b) := by
    have e1 : a / gcdI a b * b = a / gcdI a b * (gcdI a b * (b / gcdI a b)) := by rw [e.2]
    have e2 : a * (b / gcdI a b) = gcdI a b * (a / gcdI a b) * (b / gcdI a b) := by rw [e.1]
    rw [e1, e2, ← Int.mul_assoc, Int.mul_comm (a / gcdI a b) (gcdI a b)]
  by_cases hb : 0 < b
  · rw [if_pos hb]; exact key
  · rw [if_neg hb]
    show (0 - a / gcdI a b) * b = a * (0 - b / gcdI a b)
    rw [Int.sub_mul, Int.mul_sub, Int.zero_mul, Int.mul_zero, key]
theorem dvd_coprime {k m n : Int} (h : k ∣ m * n) (g : Int.gcd m k = 1) : k ∣ n := by
  have h1 : k.natAbs ∣ m.natAbs * n.natAbs := by rw [← Int.natAbs_mul]; exact Int.natAbs_dvd_natAbs.mpr h
  have h2 : Nat.Coprime k.natAbs m.natAbs := by rw [Nat.coprime_comm]; exact g
  exact Int.natAbs_dvd_natAbs.mp (h2.dvd_of_dvd_mul_left h1)
/-- only one pair of shortest words -/
theorem frac_unique {p q p' q' : Int} (f : Frac p q) (f' : Frac p' q') (h : p * q' = p' * q) : p = p' ∧ q = q' := by
  have d1 : q ∣ q' := by
    have : q ∣ p * q' := ⟨p', by rw [h, Int.mul_comm]⟩
    exact dvd_coprime this f.one
  have d2 : q' ∣ q := by
    have : q' ∣ p' * q := ⟨p, by rw [← h, Int.mul_comm]⟩
    exact dvd_coprime this f'.one
  have e : q = q' := Int.dvd_antisymm (Int.le_of_lt f.pos) (Int.le_of_lt f'.pos) d1 d2
  subst e
  exact ⟨Int.eq_of_mul_eq_mul_right (by have := f.pos; omega) h, rfl⟩
theorem short_eq {a b c d : Int} (hb : b ≠ 0) (hd : d ≠ 0) (h : a * d = c * b) : shortM a b = shortM c d := by
  have f1 := short_frac (a := a) hb
  have f2 := short_frac (a := c) hd
  have c1 := short_cross (a := a) hb
  have c2 := short_cross (a := c) hd
  have key : (shortM a b).1 * (shortM c d).2 = (shortM c d).1 * (shortM a b).2 := by
    refine Int.eq_of_mul_eq_mul_right (a := b * d) (Int.mul_ne_zero hb hd) ?_
    have l : (shortM a b).1 * (shortM c d).2 * (b * d) = ((shortM a b).1 * b) * ((shortM c d).2 * d) := by ac_rfl
    have r : (shortM c d).1 * (shortM a b).2 * (b * d) = ((shortM c d).1 * d) * ((shortM a b).2 * b) := by ac_rfl
    rw [l, r, c1, c2]
    have l2 : a * (shortM a b).2 * ((shortM c d).2 * d) = (a * d) * ((shortM a b).2 * (shortM c d).2) := by ac_rfl
    have r2 : c * (shortM c d).2 * ((shortM a b).2 * b) = (c * b) * ((shortM a b).2 * (shortM c d).2) := by ac_rfl
    rw [l2, r2, h]
  obtain ⟨e1, e2⟩ := frac_unique f1 f2 key
  exact Prod.ext e1 e2
end Sp

/-! Fra: lists of fractions, as tuples of their own. -/
namespace Sp
open PySem PySem.Spec L2 PyProof.Rows
abbrev frV (f : Int × Int) : List V := [.int f.1, .int f.2]
/-- ts hold the fractions fs -/
inductive FrAll (H : Hp) : List Addr → List (Int × Int) → Prop
  | nil : FrAll H [] []
  | cons {t : Addr} {ts : List Addr} {f : Int × Int} {fs : List (Int × Int)} : H t = some (.tup (frV f)) → FrAll H ts fs → FrAll H (t :: ts) (f :: fs)
theorem FrAll.same {H H' : Hp} (s : Same H H') : ∀ {ts : List Addr} {fs : List (Int × Int)}, FrAll H ts fs → FrAll H' ts fs
  | _, _, .nil => .nil
  | _, _, .cons h r => .cons (s _ _ h) (r.same s)
theorem FrAll.len {H : Hp} : ∀ {ts : List Addr} {fs : List (Int × Int)}, FrAll H ts fs → ts.length = fs.length
  | _, _, .nil => rfl
  | _, _, .cons _ r => by rw [List.length_cons, List.length_cons, r.len]
theorem FrAll.at {H : Hp} : ∀ {ts : List Addr} {fs : List (Int × Int)}, FrAll H ts fs → ∀ {i : Nat} {t : Addr}, ts[i]? = some t → ∃ f, fs[i]? = some f ∧ H t = some (.tup (frV f))
  | _, _, .nil, i, _, h => by rw [List.getElem?_nil] at h; cases h
  | _, _, .cons (f := f) h r, 0, t, e => ⟨f, rfl, by cases e; exact h⟩
  | _, _, .cons h r, i + 1, t, e => r.at (i := i) (by simpa using e)
theorem FrAll.mem {H : Hp} : ∀ {ts : List Addr} {fs : List (Int × Int)}, FrAll H ts fs → ∀ t ∈ ts, ∃ f, H t = some (.tup (frV f))
  | _, _, .cons (f := f) h r, t, m => by
    cases m with
    | head => exact ⟨f, h⟩
    | tail _ m => exact r.mem t m
theorem FrAll.snoc {H : Hp} {t : Addr} {f : Int × Int} (ht : H t = some (.tup (frV f))) : ∀ {ts : List Addr} {fs : List (Int × Int)}, FrAll H ts fs → FrAll H (ts ++ [t]) (fs ++ [f])
  | _, _, .nil => .cons ht .nil
  | _, _, .cons h r => .cons h (r.snoc ht)
theorem FrAll.congr {H H' : Hp} : ∀ {ts : List Addr} {fs : List (Int × Int)}, (∀ t ∈ ts, H' t = H t) → FrAll H ts fs → FrAll H' ts fs
  | _, _, _, .nil => .nil
  | _, _, e, .cons h r => .cons ((e _ (.head _)).trans h) (r.congr fun t m => e t (.tail _ m))
/-- a list of fractions is told -/
def RetFs (fs : List (Int × Int)) (H : Hp) (Q : VK) : Prop := ∀ (p : Addr) (ts : List Addr) (H' : Hp), H p = none → (∀ t ∈ ts, H t = none) → Same H H' → H' p = some (.lst (ts.map V.ref)) → FrAll H' ts fs → Q (.ref p) H'
/-- the tuples join what stands and stays -/
theorem own_newF {B H H' : Hp} {cs : Cells} {p : Addr} {ts : List Addr} {fs : List (Int × Int)} (w : Own B cs H) (np : H p = none) (nt : ∀ t ∈ ts, H t = none) (s : Same H H') (c : H' p = some (.lst (ts.map V.ref))) (f : FrAll H' ts fs) :
    ∃ B2, Same B B2 ∧ FrAll B2 ts fs ∧ Own B2 ((p, .lst (ts.map V.ref)) :: cs) H' := by
  classical
  have hB : ∀ t, H t = none → B t = none := fun t h => w.fresh h
  have npt : p ∉ ts := fun m => by
    obtain ⟨g, hg⟩ := f.mem p m
    rw [c] at hg; cases hg
  refine ⟨fun a => if a ∈ ts then H' a else B a, ?_, ?_, ?_, ?_, ?_⟩
  · intro a o h
    have : a ∉ ts := fun m => by rw [hB a (nt a m)] at h; cases h
    show (if a ∈ ts then H' a else B a) = some o
    rw [if_neg this]; exact h
  · exact f.congr fun t m => by
      show (if t ∈ ts then H' t else B t) = _
      rw [if_pos m]
  · intro a o h
    dsimp only at h
    by_cases m : a ∈ ts
    · rw [if_pos m] at h; exact h
    · rw [if_neg m] at h; exact s _ _ (w.ex _ _ h)
  · intro q hq
    cases hq with
    | head =>
      refine ⟨c, ?_⟩
      show (if p ∈ ts then H' p else B p) = none
      rw [if_neg npt]; exact hB p np
    | tail _ hq =>
      obtain ⟨h1, h2⟩ := w.cell q hq
      refine ⟨s _ _ h1, ?_⟩
      have : q.1 ∉ ts := fun m => by rw [nt _ m] at h1; cases h1
      show (if q.1 ∈ ts then H' q.1 else B q.1) = none
      rw [if_neg this]; exact h2
  · rw [List.map_cons, List.nodup_cons]
    exact ⟨w.off np, w.nd⟩
/-- what stands in a comprehension that makes fractions, one for each item -/
structure OwnF (B : Hp) (cs : Cells) (D : Addr) (fs : List (Int × Int)) (H : Hp) : Prop where
  own : ∃ ts : List Addr, Own B ((D, .lst (ts.map V.ref)) :: cs) H ∧ (∀ t ∈ ts, B t = none ∧ t ∉ cs.map (·.1)) ∧ FrAll H ts fs
theorem OwnF.ext {B : Hp} {cs : Cells} {D : Addr} {fs : List (Int × Int)} {H H' : Hp} (o : OwnF B cs D fs H) (s : Same H H') : OwnF B cs D fs H' := by
  obtain ⟨ts, w, n, f⟩ := o.own
  exact ⟨ts, w.ext s, n, f.same s⟩
theorem OwnF.cell {B : Hp} {cs : Cells} {D : Addr} {fs : List (Int × Int)} {H : Hp} (o : OwnF B cs D fs H) : Own B cs H := by
  obtain ⟨ts, w, _⟩ := o.own
  exact w.pop
theorem OwnF.step {B : Hp} {cs : Cells} {D t : Addr} {fs : List (Int × Int)} {f : Int × Int} {H H' : Hp} (o : OwnF B cs D fs H) (hl : fs.length < 1000000) (nt : H t = none) (s : Same H H') (c : H' t = some (.tup (frV f))) :
    ∃ acc, H' D = some (.lst acc) ∧ acc.length < sizeLine ∧ OwnF B cs D (fs ++ [f]) (upd H' D (.lst (acc ++ [.ref t]))) := by
  obtain ⟨ts, w, n, fr⟩ := o.own
  have w' := w.ext s
  have fr' := fr.same s
  refine ⟨ts.map V.ref, w'.get 0 rfl, by rw [List.length_map, fr.len]; exact Nat.lt_of_lt_of_le hl (by decide), ts ++ [t], ?_, ?_, ?_⟩
  · have w2 := w'.put (o' := .lst (ts.map V.ref ++ [.ref t])) 0 rfl
    rw [List.map_append]
    exact w2
  · intro a m
    rcases List.mem_append.mp m with m | m
    · exact n a m
    · rw [List.mem_singleton] at m
      subst m
      exact ⟨w.fresh nt, w.pop.off nt⟩
  · have hD : ∀ a, (∃ g, H' a = some (.tup (frV g))) → a ≠ D := fun a ⟨g, hg⟩ e => by
      subst e
      rw [w'.get 0 rfl] at hg; cases hg
    refine (fr'.snoc c).congr fun a m => ?_
    have : ∃ g, H' a = some (.tup (frV g)) := by
      rcases List.mem_append.mp m with m | m
      · exact fr'.mem a m
      · rw [List.mem_singleton] at m
        subst m
        exact ⟨f, c⟩
    exact upd_ne (hD a this)
theorem OwnF.start {B H : Hp} {cs : Cells} {D : Addr} (w : Own B cs H) (n : H D = none) : OwnF B cs D [] (upd H D (.lst [])) := ⟨[], w.new n, fun _ h => (nomatch h), .nil⟩
/-- at the end: told, seen from H -/
theorem OwnF.ret {H H' : Hp} {D : Addr} {fs : List (Int × Int)} {Q : VK} (o : OwnF H [] D fs H') (k : RetFs fs H Q) : Q (.ref D) H' := by
  obtain ⟨ts, w, n, f⟩ := o.own
  exact k D ts H' (w.none 0 rfl) (fun t m => (n t m).1) w.ex (w.get 0 rfl) f
theorem OwnF.next {B : Hp} {cs : Cells} {D t : Addr} {fs : List (Int × Int)} {f : Int × Int} {i : Nat} {H H' : Hp} (o : OwnF B cs D (fs.take i) H) (hf : fs[i]? = some f) (hl : fs.length < 1000000) (nt : H t = none) (s : Same H H') (c : H' t = some (.tup (frV f))) :
    ∃ acc, H' D = some (.lst acc) ∧ acc.length < sizeLine ∧ OwnF B cs D (fs.take (i + 1)) (upd H' D (.lst (acc ++ [.ref t]))) := by
  have e : fs.take (i + 1) = fs.take i ++ [f] := by rw [List.take_add_one, hf] <;> rfl
  rw [e]
  exact o.step (by rw [List.length_take]; omega) nt s c
/-- the comprehension over a list of our own, that makes a fraction of each item -/
theorem cp_frO {K : PySem.W.Frag} {B : Hp} {cs : Cells} {H : Hp} {σ : L2.St} {te : TE} {g : TG} {tt : TT} {vs : List Nat} {QD : Addr → Hp → Prop} {a : Addr} {xs : List V} (fs : List (Int × Int)) (w : Own B cs H) (j : Nat) (hx : cs[j]? = some (a, .lst xs)) (hl : xs.length = fs.length)
    (hs : ∀ D i x f H', xs[i]? = some x → fs[i]? = some f → OwnF B cs D (fs.take i) H' → g x (wipe σ vs) H' fun σ2 H2 => wipe σ2 vs = wipe σ vs ∧ tt σ2 H2 fun b H3 =>
      if b = true then te σ2 H3 fun y H4 => ∃ acc, H4 D = some (.lst acc) ∧ acc.length < sizeLine ∧ OwnF B cs D (fs.take (i + 1)) (upd H4 D (.lst (acc ++ [y]))) else OwnF B cs D (fs.take (i + 1)) H3)
    (hq : ∀ D H', OwnF B cs D fs H' → QD D H') : ∀ D, H D = none → ∃ W : Nat → Nat → Hp → Prop, (∃ m, W 0 m (upd H D (.lst []))) ∧ ∀ i m H, W i m H →
      ((Itl K a).stop i H ∧ QD D H) ∨ ((Itl K a).go i H ∧ ∃ Nx : Hp → Prop, (∀ H', Nx H' → ∃ m', m' < m ∧ W (i + 1) m' H') ∧ ∀ x H', (Itl K a).yld i H x H' → g x (wipe σ vs) H' fun σ2 H2 => wipe σ2 vs = wipe σ vs ∧ tt σ2 H2 fun b H3 =>
        if b = true then te σ2 H3 fun y H4 => ∃ acc, H4 D = some (.lst acc) ∧ acc.length < sizeLine ∧ Nx (upd H4 D (.lst (acc ++ [y]))) else Nx H3) := fun D hD =>
  lc_list (fun i H => OwnF B cs D (fs.take i) H) (OwnF.start w hD) (fun i H' hi p => Own.sq p.cell j hx) (fun i x H' hi p => by
    have hlt : i < fs.length := by rw [← hl]; exact (List.getElem?_eq_some_iff.mp hi).1
    exact hs D i x fs[i] H' hi (List.getElem?_eq_getElem hlt) p) (fun H' p => hq D H' (by rw [hl, List.take_length] at p; exact p))
/-! ### their data -/
def frD (fs : List (Int × Int)) : PyData := .list (fs.map fun f => .tuple [.int f.1, .int f.2])
theorem dpAll_fr {K : PySem.W.Frag} {H : Hp} : ∀ {ts : List Addr} {fs : List (Int × Int)}, FrAll H ts fs → DpAll K H (ts.map V.ref) (fs.map fun f => .tuple [.int f.1, .int f.2])
  | _, _, .nil => .nil
  | _, _, .cons h r => .cons (.tup (SqT.of h) (.cons (.int _) (.cons (.int _) .nil))) (dpAll_fr r)
theorem dp_fr {K : PySem.W.Frag} {H : Hp} {p : Addr} {ts : List Addr} {fs : List (Int × Int)} (h : SqL K H p (ts.map V.ref)) (f : FrAll H ts fs) : Dp K H (.ref p) (frD fs) := .lst h (dpAll_fr f)
theorem lay_fr (fs : List (Int × Int)) : LayD 3 (frD fs) := LayD.list fun d hd => by
  obtain ⟨f, _, rfl⟩ := List.mem_map.mp hd
  refine LayD.tuple fun e he => ?_
  simp only [List.mem_cons, List.not_mem_nil, or_false] at he
  rcases he with rfl | rfl
  · exact LayD.int (by decide) _
  · exact LayD.int (by decide) _
end Sp

/-! Frq: what is a fraction, asked of any thing. -/
namespace Sp
open PySem PySem.Spec L2 PyProof.Rows
theorem x_asgT {K : PySem.W.Frag} {te : TE} {n : Nat} {gs : TGs} {D : Ends} {σ : L2.St} {H : Hp} (h : te σ H fun x H1 => gTup K n gs x σ H1 fun σ2 H2 => D.nx σ2 H2) : tAsg te (gTup K n gs) D σ H := h
def isTp (H : Hp) (v : V) : Prop := ∃ a xs, v = .ref a ∧ Rd H a (.tup xs)
theorem x_isiTupN {K : PySem.W.Frag} {H : Hp} {Q : VK} {v : V} (h : Thing H v) (n : ¬ isTp H v) (q : Q (.bl false) H) : rIsi K [v, .ty "tuple"] H Q := by
  cases h with
  | non => exact ⟨_, .ty "tuple", _, _, _, rfl, .ty _, .base .non, kit_ty (by decide +kernel), q⟩
  | bl b => exact ⟨_, .ty "tuple", _, _, _, rfl, .ty _, .base (.bl b), kit_ty (by decide +kernel), q⟩
  | int i => exact ⟨_, .ty "tuple", _, _, _, rfl, .ty _, .base (.int i), kit_ty (by decide +kernel), q⟩
  | str x => exact ⟨_, .ty "tuple", _, _, _, rfl, .ty _, .base (.str x), kit_ty (by decide +kernel), q⟩
  | lst e =>
    rcases e with e | ⟨o, e⟩
    · exact ⟨_, .ty "tuple", _, _, _, rfl, .ty _, .base (.lst e), kit_ty (by decide +kernel), q⟩
    · exact ⟨_, .ty "tuple", _, _, _, rfl, .ty _, .base (.frz e), kit_ty (by decide +kernel), q⟩
  | tup e => exact absurd ⟨_, _, rfl, e⟩ n
  | dic e => exact ⟨_, .ty "tuple", _, _, _, rfl, .ty _, .base (.dK e), kit_ty (by decide +kernel), q⟩
/-- is it a fraction -/
inductive FrT (H : Hp) : V → Bool → Prop
  | no {v : V} (h : Thing H v) (n : ¬ isTp H v) : FrT H v false
  | len {a : Addr} {xs : List V} (h : Rd H a (.tup xs)) (n : xs.length ≠ 2) : FrT H (.ref a) false
  | two {a : Addr} {x y : V} (h : Rd H a (.tup [x, y])) (hx : Thing H x) (hy : Thing H y) (n : isI x = false ∨ isI y = false) : FrT H (.ref a) false
  | num {a : Addr} {p q : Int} {B : Nat} (h : Rd H a (.tup [.int p, .int q])) (hB : Bits B p q) : FrT H (.ref a) (decide (1 ≤ q) && decide (Int.gcd p q = 1))
theorem isTp_same {H H' : Hp} {v : V} (s : Same H H') (h : Thing H v) (n : ¬ isTp H v) : ¬ isTp H' v := fun ⟨a, xs, e, hr⟩ => by
  subst e
  cases h with
  | lst h =>
    have h2 := rd_same s h
    rcases h2 with h2 | ⟨o, h2⟩
    · rcases hr with hr | ⟨o', hr⟩ <;> rw [h2] at hr <;> cases hr
    · rcases hr with hr | ⟨o', hr⟩ <;> rw [h2] at hr <;> cases hr
  | tup h => exact n ⟨a, _, rfl, h⟩
  | dic h =>
    have h2 := s _ _ h
    rcases hr with hr | ⟨o', hr⟩ <;> rw [h2] at hr <;> cases hr
theorem FrT.same {H H' : Hp} {v : V} {b : Bool} (s : Same H H') (h : FrT H v b) : FrT H' v b := by
  cases h with
  | no h n => exact .no (h.same s) (isTp_same s h n)
  | len h n => exact .len (rd_same s h) n
  | two h hx hy n => exact .two (rd_same s h) (hx.same s) (hy.same s) n
  | num h hB => exact .num (rd_same s h) hB
theorem short_bits {a b : Int} {B : Nat} (h : Bits B a b) (h0 : b ≠ 0) : Bits B (shortM a b).1 (shortM a b).2 := by
  obtain ⟨h1, h2, h3⟩ := h
  have hd : ∀ x g : Int, (x / g).natAbs ≤ x.natAbs := fun x g => Int.natAbs_ediv_le_natAbs x g
  have ha := hd a (gcdI a b)
  have hb := hd b (gcdI a b)
  unfold shortM
  by_cases c : 0 < b
  · rw [if_pos c]
    exact ⟨h1, Nat.lt_of_le_of_lt ha h2, Nat.lt_of_le_of_lt hb h3⟩
  · rw [if_neg c]
    refine ⟨h1, ?_, ?_⟩
    · show (0 - a / gcdI a b).natAbs < _
      omega
    · show (0 - b / gcdI a b).natAbs < _
      omega
/-! ### sums and products -/
def plusF (f g : Int × Int) : Int × Int := shortM (f.1 * g.2 + g.1 * f.2) (f.2 * g.2)
theorem low_is {a b : Int} (h1 : 0 < a) (h2 : 0 < b) : ∃ u v : Int, 0 < u ∧ 0 < v ∧ a / gcdI a b * b = a * v ∧ a / gcdI a b * b = b * u ∧ u ≤ a ∧ v ≤ b := by
  obtain ⟨e1, e2⟩ := gcd_mul_div (a := a) (show b ≠ 0 by omega)
  have hg : 0 < gcdI a b := by have := gcd_pos (a := a) (show b ≠ 0 by omega); unfold gcdI; omega
  have hu : 0 < a / gcdI a b := Int.ediv_pos_of_pos_of_dvd h1 (by omega) ⟨_, e1.symm⟩
  have hv : 0 < b / gcdI a b := Int.ediv_pos_of_pos_of_dvd h2 (by omega) ⟨_, e2.symm⟩
  refine ⟨a / gcdI a b, b / gcdI a b, hu, hv, ?_, Int.mul_comm _ _, ?_, ?_⟩
  · have l : a / gcdI a b * b = a / gcdI a b * (gcdI a b * (b / gcdI a b)) := by rw [e2]
    have r : a * (b / gcdI a b) = gcdI a b * (a / gcdI a b) * (b / gcdI a b) := by rw [e1]
    rw [l, r, ← Int.mul_assoc, Int.mul_comm (a / gcdI a b) (gcdI a b)]
  · exact Int.ediv_le_self _ (by omega)
  · exact Int.ediv_le_self _ (by omega)
theorem plus_low {f g : Int × Int} (h1 : 0 < f.2) (h2 : 0 < g.2) :
    shortM (f.2 / gcdI f.2 g.2 * g.2 / f.2 * f.1 + f.2 / gcdI f.2 g.2 * g.2 / g.2 * g.1) (f.2 / gcdI f.2 g.2 * g.2) = plusF f g ∧ f.2 / gcdI f.2 g.2 * g.2 ≠ 0 := by
  obtain ⟨u, v, hu, hv, e1, e2, _, _⟩ := low_is h1 h2
  have hl : 0 < f.2 * v := Int.mul_pos h1 hv
  have d1 : f.2 / gcdI f.2 g.2 * g.2 / f.2 = v := by rw [e1]; exact Int.mul_ediv_cancel_left _ (by omega)
  have d2 : f.2 / gcdI f.2 g.2 * g.2 / g.2 = u := by rw [e2]; exact Int.mul_ediv_cancel_left _ (by omega)
  rw [d1, d2]
  have ne : f.2 / gcdI f.2 g.2 * g.2 ≠ 0 := by rw [e1]; omega
  refine ⟨short_eq ne (Int.mul_ne_zero (by omega) (by omega)) ?_, ne⟩
  rw [Int.add_mul, Int.add_mul]
  congr 1
  · rw [e1]; ac_rfl
  · rw [e2]; ac_rfl
def Fb (B : Nat) (f : Int × Int) : Prop := f.1.natAbs < 2 ^ B ∧ f.2.natAbs < 2 ^ B ∧ 0 < f.2
theorem log_of {z : Int} {B : Nat} (h0 : 0 < z) (h : z.natAbs < 2 ^ B) (hB : B ≤ 9000) : z.natAbs.log2 < 9000 := by
  have h4 : B ≠ 0 := fun e => by rw [e, Nat.pow_zero] at h; omega
  exact Nat.lt_of_lt_of_le (PySem.Flt.log2_lt_of (by omega) h) hB
theorem Fb.pos {B : Nat} {f : Int × Int} (h : Fb B f) : 0 < B := Nat.pos_of_ne_zero fun e => by
  obtain ⟨_, h2, h3⟩ := h
  rw [e, Nat.pow_zero] at h2; omega
theorem mul_lt {a b : Int} {n m : Nat} (ha : a.natAbs < 2 ^ n) (hb : b.natAbs < 2 ^ m) : (a * b).natAbs < 2 ^ (n + m) := by
  rw [Int.natAbs_mul, Nat.pow_add]
  exact Nat.mul_lt_mul'' ha hb
end Sp

/-! Xc: isinstance of the error that an except suite holds, by one class and by a written tuple of classes. -/
namespace Sp
open PySem PySem.Spec L2 PyProof.Rows
/-- isinstance(e, c): the error at a, of the class cls (an own one, without a dict of its own) -/
def rIsEX (K : PySem.W.Frag) (a : Addr) (cls : Value) (d : Option Addr) : List V → Hp → VK → Prop := fun xs H Q =>
  ∃ (D : Addr) (c : V) (cv : Value) (b : Bool), cls = .ref D ∧ d = none ∧ ExcC K D ∧ xs = [.ref a, c] ∧ ClsV c cv ∧ PySem.W.kitOne K (.ref D) cv = some b ∧ Q (.bl b) H
def rIsETX (K : PySem.W.Frag) (a : Addr) (cls : Value) (d : Option Addr) : List V → Hp → VK → Prop := fun xs H Q =>
  ∃ (D tp : Addr) (cs : List V) (us : List Value) (b : Bool), cls = .ref D ∧ d = none ∧ ExcC K D ∧ xs = [.ref a, .ref tp] ∧ H tp = some (.tup cs) ∧ Paired ClsV cs us ∧ PySem.W.kitAny K (.ref D) us = some b ∧ Q (.bl b) H
theorem suite_at {X : Cx} {pins pn : List (Addr × Obj)} {σ : L2.St} {H : Hp} {s : Shared} {a D : Addr} {oe : Obj} (hz : Zc (.ref D) none oe) (hf : ∃ vs, oe.data = .fields vs) (I : Inv (X.suite a ((a, oe) :: pn)) pins σ H s) : PySem.W.InstAt s.heap a oe D none := by
  obtain ⟨hget, _⟩ := I.pin (a, oe) (List.mem_append.mpr (.inl List.mem_cons_self))
  obtain ⟨vs, hv⟩ := hf
  obtain ⟨oc, od, oda, osl⟩ := oe
  obtain ⟨h1, h2⟩ := hz
  dsimp only at h1 h2 hv
  subst h1 h2 hv
  exact ⟨hget, rfl, rfl, trivial⟩
theorem call_isEX {X : Cx} {K : PySem.W.Frag} (hK : X.K = K) {a : Addr} {cls : Value} {d : Option Addr} {oe : Obj} {pn : List (Addr × Obj)} (hz : Zc cls d oe) (hf : ∃ vs, oe.data = .fields vs) :
    CallR (X.suite a ((a, oe) :: pn)) (.builtin "isinstance") (rIsEX K a cls d) := by
  subst hK
  intro pins s σ H xs us Q I r h
  obtain ⟨D, c, cv, b, rfl, rfl, C, rfl, hc, e, q⟩ := h
  obtain ⟨u1, u2, rfl, r1, r2⟩ := vals2 r
  cases (show u1 = Value.ref a from r1)
  have ec := hc.eq r2
  subst ec
  exact PySem.W.kia_one (PySem.W.handS_kitx_exc C.hg C.hk C.hs C.hd C.ha C.hn C.ht C.hm) I.kIn (suite_at hz hf I) e (fun z => nomatch z) fun tk => ⟨.bl b, H, I.kept (t' := tk) fun _ _ z => z, rfl, q⟩
theorem call_isETX {X : Cx} {K : PySem.W.Frag} (hK : X.K = K) {a : Addr} {cls : Value} {d : Option Addr} {oe : Obj} {pn : List (Addr × Obj)} (hz : Zc cls d oe) (hf : ∃ vs, oe.data = .fields vs) :
    CallR (X.suite a ((a, oe) :: pn)) (.builtin "isinstance") (rIsETX K a cls d) := by
  subst hK
  intro pins s σ H xs us Q I r h
  obtain ⟨D, tp, cs, ws, b, rfl, rfl, C, rfl, hT, k, e, q⟩ := h
  obtain ⟨u1, u2, rfl, r1, r2⟩ := vals2 r
  cases (show u1 = Value.ref a from r1)
  cases (show u2 = Value.ref tp from r2)
  obtain ⟨_, its, rv, o, h1, h2, n, h3⟩ := (show ObjOk _ _ H s.heap tp (.tup cs) from I.hok tp _ hT)
  have e3 := ClsV.all k rv
  subst e3
  obtain ⟨oc, od, dt, sl⟩ := o
  simp only at h2 h3
  subst h2 h3
  exact PySem.W.kia_tup (PySem.W.handS_kitx_exc C.hg C.hk C.hs C.hd C.ha C.hn C.ht C.hm) I.kIn (suite_at hz hf I) h1 e (fun z => nomatch z) fun tk => ⟨.bl b, H, I.kept (t' := tk) fun _ _ z => z, rfl, q⟩
/-- what is told of a class that is asked for -/
structure AskC (K : PySem.W.Frag) (C : Addr) : Prop where
  cls : PySem.W.isClsIn K C = true
  ty : PySem.W.typeIn K (.ref C) = some (.type "type")
  self : PySem.W.subIn K (.ref C) (.ref C) = some true
theorem kit_own {K : PySem.W.Frag} {D C : Addr} {b : Bool} (c : AskC K C) (h : PySem.W.subIn K (.ref D) (.ref C) = some b) : PySem.W.kitOne K (.ref D) (.ref C) = some b := by
  unfold PySem.W.kitOne
  by_cases e : D = C
  · subst e
    rw [c.self] at h
    rw [if_pos (by simp), ← h]
  · rw [if_neg (by simpa using e)]
    unfold PySem.W.kitCls
    have h2 : (PySem.W.clsIn K C).isSome = true := c.cls
    simp only [h2, c.ty]
    simpa using h
theorem kit_VE {K : PySem.W.Frag} {D : Addr} {b : Bool} (h : PySem.W.subIn K (.ref D) (.type "ValueError") = some b) : PySem.W.kitOne K (.ref D) (.type "ValueError") = some b := by
  unfold PySem.W.kitOne
  rw [if_neg (by simp)]
  unfold PySem.W.kitCls
  have h2 : PySem.W.kitMeta "ValueError" = true := by decide +kernel
  simp only [h2, if_true]
  exact h
theorem kit_no {K : PySem.W.Frag} {t : Value} {c : Value} {cs : List Value} (h : PySem.W.kitOne K t c = some false) (hr : PySem.W.kitAny K t cs = some false) : PySem.W.kitAny K t (c :: cs) = some false :=
  kitAny_cons h (fun _ => hr) (fun z => nomatch z)
/-- + of two lists that are read, however they stand -/
def rCatK (K : PySem.W.Frag) : R2 := fun x y H Q => ∃ l b xs zs, x = .ref l ∧ y = .ref b ∧ SqL K H l xs ∧ SqL K H b zs ∧ xs.length + zs.length ≤ sizeLine ∧ ∀ p, H p = none → Q (.ref p) (upd H p (.lst (xs ++ zs)))
theorem op_catX {X : Cx} : OpR X (binaryOp .Add) (rCatK X.K) := by
  intro pins s σ H x y v u Q I rx ry h
  obtain ⟨l, b, xs, zs, rfl, rfl, hH, hB, hz, q⟩ := h
  cases rx
  cases ry
  obtain ⟨its, r, ⟨⟨cls, dd, data, sl⟩, n, ho, hc, _, hd⟩, _⟩ := I.list hH
  obtain ⟨its2, r2, ⟨⟨cls2, dd2, data2, sl2⟩, n2, ho2, hc2, _, hd2⟩, _⟩ := I.list hB
  simp only at hc hd hc2 hd2
  subst hc hd hc2 hd2
  have hl := r.length
  have hl2 := r2.length
  have e : its.toArray ++ its2.toArray = (its ++ its2).toArray := by simp
  refine concat_meets ⟨_, ho, rfl⟩ ⟨_, ho2, rfl⟩ noFill_list_add seq_list_add PySem.F.slot_list_add PySem.F.entry_list_add (PySem.F.args_list_add_2 _ _) (list_addW l b its.toArray its2.toArray n n2 dd dd2 sl sl2 (by rw [List.size_toArray, List.size_toArray]; omega)) ⟨ho, ho2, ?_⟩
  rw [e]
  exact ⟨.ref _, _, I.lnew (t' := s.toks) (r.append r2) (by rw [List.length_append]; omega), rfl, q _ I.fresh⟩
theorem op_catK {X : Cx} {K : PySem.W.Frag} (h : X.K = K) : OpR X (binaryOp .Add) (rCatK K) := h ▸ op_catX
theorem x_cat {K : PySem.W.Frag} {H : Hp} {Q : VK} {l b : Addr} {xs zs : List V} (h1 : SqL K H l xs) (h2 : SqL K H b zs) (hz : xs.length + zs.length ≤ sizeLine) (q : ∀ p, H p = none → Q (.ref p) (upd H p (.lst (xs ++ zs)))) : rCatK K (.ref l) (.ref b) H Q := ⟨l, b, xs, zs, rfl, rfl, h1, h2, hz, q⟩
theorem pe_revLK {X : Cx} {K : PySem.W.Frag} (h : X.K = K) {e : Expr} {te : TE} {k : Nat} {p1 p2 p3 pos : Pos} (he : PE X e te) : PE X (.Subscript e (.Slice none none (some (.UnaryOp .USub (.Constant (.int 1) k p1) p2)) p3) pos) (tRevL K te) := h ▸ pe_revL he
theorem x_rev {K : PySem.W.Frag} {te : TE} {σ : L2.St} {H : Hp} {Q : VK} (h : te σ H fun x H1 => ∃ a xs, x = .ref a ∧ SqL K H1 a xs ∧ ∀ p, H1 p = none → Q (.ref p) (upd H1 p (.lst xs.reverse))) : tRevL K te σ H Q := h
section
variable {K : PySem.W.Frag} {H : Hp} {Q : VK} {a D : Addr}
theorem x_callS {sp : Sp} {E : L2.St → XK} {tr : TA} {σ : L2.St} (h : tr σ H fun vs H1 => sp vs H1 Q (E σ)) : tCallS sp E tr σ H Q := h
theorem x_isE {C : Addr} {b : Bool} (e : ExcC K D) (c : AskC K C) (h : PySem.W.subIn K (.ref D) (.ref C) = some b) (q : Q (.bl b) H) : rIsEX K a (.ref D) none [.ref a, .ref C] H Q :=
  ⟨D, _, _, b, rfl, rfl, e, rfl, .own C, kit_own c h, q⟩
theorem x_isEV {b : Bool} (e : ExcC K D) (h : PySem.W.subIn K (.ref D) (.type "ValueError") = some b) (q : Q (.bl b) H) : rIsEX K a (.ref D) none [.ref a, .ty "ValueError"] H Q :=
  ⟨D, _, _, b, rfl, rfl, e, rfl, .ty _, kit_VE h, q⟩
theorem x_isET {tp : Addr} {Cs : List Addr} {b : Bool} (e : ExcC K D) (hT : H tp = some (.tup (Cs.map V.ref))) (h : PySem.W.kitAny K (.ref D) (Cs.map Value.ref) = some b) (q : Q (.bl b) H) : rIsETX K a (.ref D) none [.ref a, .ref tp] H Q :=
  ⟨D, tp, _, _, b, rfl, rfl, e, rfl, hT, (by
    clear hT h q
    induction Cs with
    | nil => exact .nil
    | cons c r ih => exact .cons (.own c) ih), h, q⟩
end
end Sp

/-! Ht: defs that an except suite calls with the error that it holds. -/
namespace Sp
open PySem PySem.Spec L2 PyProof.Rows
/-- what such a def promises; sp knows where the error stands, its class and its dict -/
structure FnP (P : Program) (w : World) (K : PySem.W.Frag) (mg : Str → Option Value) (base : Heap) (k : Nat) (f : Addr) (fd : FuncData) (ps : List Str) (sp : Addr → Value → Option Addr → L2.Sp) : Prop where
  len : ∀ a c d vs H Q E, sp a c d vs H Q E → vs.length = ps.length
  run : ∀ (A : Around) (outer : List Env) (s : Shared) (H : Hp) (args : Args) (us : List Value) (vs : List V) (Q : VK) (E : XK) (a : Addr) (oe : Obj),
    L2H.RoomH k A → L2H.PinOk outer H s (a, oe) → (∃ fs, oe.data = .fields fs) → Env0 P w K mg base A outer s H → BindsTo s fd args (ps.zip us) → Vals vs us → sp a oe.cls oe.dict vs H Q E →
    codeAny (model P w) A (.call (.ref f) args) (CR (L2.CX P w) outer P w H s Q E) s
section
variable {P : Program} {w : World} {K : PySem.W.Frag} {mg : Str → Option Value} {base : Heap} {k : Nat} {f : Addr} {fd : FuncData} {ps : List Str} {sp : Addr → Value → Option Addr → L2.Sp}
theorem okP {nm qual : Str} {st : Stmt} {N : List Str} (F : Fun K nm qual st f fd) (S : FnScope N ps (defScope st)) (len : ∀ a c d vs H Q E, sp a c d vs H Q E → vs.length = ps.length)
    (hB : ∀ (cdv : Value) (A : Around) (outer : List Env) (s : Shared) (H : Hp) (vs : List V) (Q : VK) (E : XK) (a : Addr) (oe : Obj), L2H.RoomH k (A.deeper (envOfC qual (defScope st) s.heap.objs.size f cdv)) → (∃ fs, oe.data = .fields fs) → sp a oe.cls oe.dict vs H Q E →
      ∃ t, PSs (L2H.cxH (L2.CX P w) P w K mg base N qual (defScope st) f cdv A outer s H E (a, oe)) (defBody st) t ∧ t { nx := fun _ H' => Q .non H', rt := Q } (L2.start N vs) H) :
    FnP P w K mg base (k + 1) f fd ps sp := by
  obtain ⟨oc, od, kV, doc, pm, an, cdv, ct, osl, rfl, lk, hcd⟩ := F.ex
  constructor
  · exact len
  intro A outer s H args us vs Q E a oe room pinned flds env bnd vals want
  have stay : ∀ b o, base.get? b = some o → s.heap.get? b = some o := fun b o e => (env.bs b o e).1
  have inK : K.In s.heap := env.mod.kin.keeps stay
  have noLim : s.heap.NoLimit := env.mod.nolimit.keeps stay
  have place : ∀ y ∈ ps.zip us, (defScope st).names.lookup y.1 = some .local ∨ ((defScope st).names.lookup y.1 = some .cell ∧ ((cellsFrom (s.heap.objs.size + 1) (defScope st).names []).lookup y.1).isSome = true) := by
    intro y hy
    obtain ⟨n, v⟩ := y
    rcases S.par n (List.of_mem_zip hy).1 with q | q
    · exact .inl q
    · refine .inr ⟨q, ?_⟩
      exact PySem.W.cellsFrom_some _ _ _ (.inl q)
  have cr := PySem.W.codeRec_of inK hcd
  refine codeAny_call_function room.depth (inK _ _ lk) rfl S.co S.gen rfl cr (bnd _ _ _ _ (wpAny_newFunctionEnv_cells S.kind place ?_))
  intro env' e1 s1 x
  subst e1
  refine ⟨noLim.keeps x.toInCall.keep, codeAny_func ?_⟩
  obtain ⟨t, ht, hq⟩ := hB cdv A outer s H vs Q E a oe (room.deeper _) flds want
  have I := L2H.inv_startH (CX := L2.CX P w) (E := E) S pinned env (len _ _ _ _ _ _ _ want) vals x
  refine wpAny_mono (ht.run [] s1 _ H _ I hq) (fun fl s' hs => ?_) (fun _ _ hs => hs)
  cases fl with
  | brk => obtain ⟨_, _, _, q⟩ := hs; exact q.elim
  | cont => obtain ⟨_, _, _, q⟩ := hs; exact q.elim
  | next =>
    obtain ⟨_, H', J, q⟩ := hs
    exact ⟨V.non, H', J.os, J.bare, J.base, J.hok, rfl, q⟩
  | ret u =>
    obtain ⟨v, _, H', J, rv, q⟩ := hs
    exact ⟨v, H', J.os, J.bare, J.base, J.hok, rv, q⟩
end
section
variable {X : Cx} {K : PySem.W.Frag} {k : Nat} {f : Addr} {fd : FuncData} {ps : List Str} {sp : Addr → Value → Option Addr → L2.Sp} {nm : Str} {q pos : Pos} {e : Expr} {es : List Expr} {t : TA} {a : Addr} {oe : Obj} {pn : List (Addr × Obj)}
/-- the call, in the suite that holds the error at a -/
theorem pe_callP {cls : Value} {d : Option Addr} (hz : Zc cls d oe) (hf : ∃ vs, oe.data = .fields vs) (F : FnP X.prog X.w X.K X.mg X.base k f fd ps sp) (hr : Room k X.A) (hg : Gl X nm) (hm : X.mg nm = some (.ref f)) (hk : PySem.W.keepIn X.K (.ref f) = true) (hb : Binds X.K fd ps [])
    (ha : PA (X.suite a ((a, oe) :: pn)) (e :: es) t) (hdb : (nm == ("__debug__" : Str)) = false := by decide) (he : starEach (e :: es) X.env = (false, eval e X.env) :: starEach es X.env := by rfl) (hpl : (backTo pos (starEach es X.env)).any (·.1) = false := by rfl) :
    PE (X.suite a ((a, oe) :: pn)) (.Call (.Name nm q) (e :: es) [] pos) (tCallS (sp a cls d) (fun _ _ _ _ => False) t) := by
  obtain ⟨z1, z2⟩ := hz
  subst z1 z2
  constructor
  intro pins s σ H Q I h
  refine wpAny_Call_Name_kw (ld_glob I hg hm ?_ hdb)
  refine PySem.W.callWith_K (h₀ := X.base) I.ok.mod.kin hk (thn (ha.run pos pins s σ H _ I h) ?_) he hpl
  rintro us s1 ⟨vs, H1, I1, r, want⟩
  refine ⟨I1.kIn, ?_⟩
  have hl : us.length = ps.length := r.length ▸ F.len _ _ _ _ _ _ _ want
  have b := hb s1 us I1.kIn (by rw [List.append_nil]; exact hl)
  rw [List.append_nil] at b
  have P1 := I1.pin (a, oe) (List.mem_append_left _ (List.mem_cons_self))
  have pinned : L2H.PinOk X.stack H1 s1 (a, oe) := by
    refine ⟨P1.1, P1.2.1, fun hm => ?_, P1.2.2.2.2⟩
    rcases List.mem_cons.mp (I1.stkSub a hm) with z | z
    · exact P1.2.2.1 z
    · exact P1.2.2.2.1 z
  have room : L2H.RoomH k (X.suite a ((a, oe) :: pn)).A := ⟨hr.dp, hr.un⟩
  refine wpAny_call (codeAny_mono (F.run _ X.stack s1 H1 ⟨us, []⟩ us vs Q (fun _ _ _ => False) a oe room pinned hf I1.env0 b r want) ?_)
  intro res s' hq
  match res, hq with
  | .error e, hq => exact (by obtain ⟨_, _, _, _, _, _, _, _, _, _, _, _, z⟩ := hq; exact z.elim)
  | .ok (.ret u), hq => exact I1.after hq
  | .ok .next, hq => exact hq.elim
  | .ok .brk, hq => exact hq.elim
  | .ok .cont, hq => exact hq.elim
/-- isinstance of it, within the def -/
theorem inst_pin {pins : List (Addr × Obj)} {σ : L2.St} {H : Hp} {s : Shared} {D : Addr} (hp : (a, oe) ∈ X.pn) (hz : Zc (.ref D) none oe) (hf : ∃ vs, oe.data = .fields vs) (I : Inv X pins σ H s) : PySem.W.InstAt s.heap a oe D none := by
  obtain ⟨g, _⟩ := I.pin (a, oe) (List.mem_append_left _ hp)
  obtain ⟨fs, hv⟩ := hf
  obtain ⟨c1, c2, c3, c4⟩ := oe
  obtain ⟨z1, z2⟩ := hz
  dsimp only at z1 z2 hv
  subst z1 z2 hv
  exact ⟨g, rfl, rfl, trivial⟩
theorem call_isPX (hK : X.K = K) (hp : (a, oe) ∈ X.pn) (hf : ∃ vs, oe.data = .fields vs) : CallR X (.builtin "isinstance") (rIsEX K a oe.cls oe.dict) := by
  subst hK
  intro pins s σ H xs us Q I r h
  obtain ⟨D, c, cv, b, e1, e2, C, rfl, hc, ek, want⟩ := h
  obtain ⟨u1, u2, rfl, r1, r2⟩ := vals2 r
  obtain rfl : u1 = Value.ref a := r1
  obtain rfl := hc.eq r2
  have at1 := inst_pin (D := D) hp ⟨e1, e2⟩ hf I
  refine PySem.W.kia_one (PySem.W.handS_kitx_exc C.hg C.hk C.hs C.hd C.ha C.hn C.ht C.hm) I.kIn at1 ek (fun z => by cases z) fun tk => ?_
  exact ⟨.bl b, H, I.kept (t' := tk) fun _ _ z => z, rfl, want⟩
theorem call_isPTX (hK : X.K = K) (hp : (a, oe) ∈ X.pn) (hf : ∃ vs, oe.data = .fields vs) : CallR X (.builtin "isinstance") (rIsETX K a oe.cls oe.dict) := by
  subst hK
  intro pins s σ H xs us Q I r h
  obtain ⟨D, tp, cs, ws, b, e1, e2, C, rfl, hT, kc, ek, want⟩ := h
  obtain ⟨u1, u2, rfl, r1, r2⟩ := vals2 r
  obtain rfl : u1 = Value.ref a := r1
  obtain rfl : u2 = Value.ref tp := r2
  obtain ⟨_, its, rv, o, h1, h2, n, h3⟩ := (show ObjOk _ _ H s.heap tp (.tup cs) from I.hok tp _ hT)
  obtain rfl := ClsV.all kc rv
  obtain ⟨o1, o2, o3, o4⟩ := o
  dsimp only at h2 h3
  subst h2 h3
  have at1 := inst_pin (D := D) hp ⟨e1, e2⟩ hf I
  refine PySem.W.kia_tup (PySem.W.handS_kitx_exc C.hg C.hk C.hs C.hd C.ha C.hn C.ht C.hm) I.kIn at1 h1 ek (fun z => by cases z) fun tk => ?_
  exact ⟨.bl b, H, I.kept (t' := tk) fun _ _ z => z, rfl, want⟩
end
end Sp

/-! Cpe: comprehensions whose items are not told ahead; ranges with a step; xs[::k]. -/
namespace Sp
open PySem PySem.Spec L2 PyProof.Rows
/-- behind i turns: the list at D holds some acc of which G is told; what is made within stands in B2 -/
def PvE (B : Hp) (cs : Cells) (D : Addr) (G : Hp → Nat → List V → Prop) (i : Nat) (H : Hp) : Prop := ∃ B2 acc, Same B B2 ∧ G B2 i acc ∧ Own B2 ((D, .lst acc) :: cs) H
section
variable {K : PySem.W.Frag} {σ : L2.St} {B H : Hp} {cs : Cells} {Q : VK} {te : TE} {g : TG} {tt : TT} {vs : List Nat} {QD : Addr → Hp → Prop} {G : Hp → Nat → List V → Prop}
theorem cpE_fin {D : Addr} {i : Nat} {H4 B2 : Hp} {acc : List V} {y : V} (w : Own B2 ((D, .lst acc) :: cs) H4) (s : Same B B2) (hg : G B2 (i + 1) (acc ++ [y])) (hl : acc.length < 1000000) :
    ∃ acc', H4 D = some (.lst acc') ∧ acc'.length < sizeLine ∧ PvE B cs D G (i + 1) (upd H4 D (.lst (acc' ++ [y]))) :=
  ⟨acc, Own.get w 0 rfl, Nat.lt_of_lt_of_le hl (by decide), B2, acc ++ [y], s, hg, Own.put (o' := .lst (acc ++ [y])) w 0 rfl⟩
theorem cpE_range {lo : Int} {n : Nat} (w : Own B cs H) (h0 : G B 0 [])
    (hs : ∀ D i H' B2 acc, i < n → Same B B2 → G B2 i acc → Own B2 ((D, .lst acc) :: cs) H' → g (.int (lo + i)) (wipe σ vs) H' fun σ2 H2 => wipe σ2 vs = wipe σ vs ∧ tt σ2 H2 fun b H3 =>
      if b = true then te σ2 H3 fun y H4 => ∃ acc', H4 D = some (.lst acc') ∧ acc'.length < sizeLine ∧ PvE B cs D G (i + 1) (upd H4 D (.lst (acc' ++ [y]))) else PvE B cs D G (i + 1) H3)
    (hq : ∀ D H' B2 acc, Same B B2 → G B2 n acc → Own B2 ((D, .lst acc) :: cs) H' → QD D H') : ∀ D, H D = none → ∃ W : Nat → Nat → Hp → Prop, (∃ m, W 0 m (upd H D (.lst []))) ∧ ∀ i m H, W i m H →
      ((Itr lo n).stop i H ∧ QD D H) ∨ ((Itr lo n).go i H ∧ ∃ Nx : Hp → Prop, (∀ H', Nx H' → ∃ m', m' < m ∧ W (i + 1) m' H') ∧ ∀ x H', (Itr lo n).yld i H x H' → g x (wipe σ vs) H' fun σ2 H2 => wipe σ2 vs = wipe σ vs ∧ tt σ2 H2 fun b H3 =>
        if b = true then te σ2 H3 fun y H4 => ∃ acc, H4 D = some (.lst acc) ∧ acc.length < sizeLine ∧ Nx (upd H4 D (.lst (acc ++ [y]))) else Nx H3) := fun D hD =>
  lc_range (PvE B cs D G) ⟨B, [], Same.refl _, h0, w.new hD⟩ (fun i H' hi ⟨B2, acc, s, hg, w2⟩ => hs D i H' B2 acc hi s hg w2) (fun H' ⟨B2, acc, s, hg, w2⟩ => hq D H' B2 acc s hg w2)
theorem cpE_list {a : Addr} {xs : List V} (w : Own B cs H) (hx : SqL K B a xs) (h0 : G B 0 [])
    (hs : ∀ D i x H' B2 acc, xs[i]? = some x → Same B B2 → G B2 i acc → Own B2 ((D, .lst acc) :: cs) H' → g x (wipe σ vs) H' fun σ2 H2 => wipe σ2 vs = wipe σ vs ∧ tt σ2 H2 fun b H3 =>
      if b = true then te σ2 H3 fun y H4 => ∃ acc', H4 D = some (.lst acc') ∧ acc'.length < sizeLine ∧ PvE B cs D G (i + 1) (upd H4 D (.lst (acc' ++ [y]))) else PvE B cs D G (i + 1) H3)
    (hq : ∀ D H' B2 acc, Same B B2 → G B2 xs.length acc → Own B2 ((D, .lst acc) :: cs) H' → QD D H') : ∀ D, H D = none → ∃ W : Nat → Nat → Hp → Prop, (∃ m, W 0 m (upd H D (.lst []))) ∧ ∀ i m H, W i m H →
      ((Itl K a).stop i H ∧ QD D H) ∨ ((Itl K a).go i H ∧ ∃ Nx : Hp → Prop, (∀ H', Nx H' → ∃ m', m' < m ∧ W (i + 1) m' H') ∧ ∀ x H', (Itl K a).yld i H x H' → g x (wipe σ vs) H' fun σ2 H2 => wipe σ2 vs = wipe σ vs ∧ tt σ2 H2 fun b H3 =>
        if b = true then te σ2 H3 fun y H4 => ∃ acc, H4 D = some (.lst acc) ∧ acc.length < sizeLine ∧ Nx (upd H4 D (.lst (acc ++ [y]))) else Nx H3) := fun D hD =>
  lc_list (PvE B cs D G) ⟨B, [], Same.refl _, h0, w.new hD⟩ (fun i H' hi ⟨B2, acc, s, hg, w2⟩ => w2.seq (s.seq hx)) (fun i x H' hx ⟨B2, acc, s, hg, w2⟩ => hs D i x H' B2 acc hx s hg w2) (fun H' ⟨B2, acc, s, hg, w2⟩ => hq D H' B2 acc s hg w2)
end
/-! ### ranges with a step -/
theorem x_iR3 {σ : L2.St} {H : Hp} {R : It → Hp → Prop} {tr : TA} (h : tr σ H fun vs H1 => ∃ (i j c : Int) (n : Nat), vs = [.int i, .int j, .int c] ∧ RgC i j c n ∧ R (Itc i c n) H1) : iRng3 tr σ H R := h
theorem rgc_up {i j c : Int} (hc : 0 < c) (hc2 : c < 1000) (hi : 0 ≤ i) (hi2 : i < 1000000) (hj : 0 ≤ j) (hj2 : j < 1000000) : RgC i j c (if i < j then (j - i - 1) / c + 1 else 0).toNat := by
  have hb : 0 ≤ (if i < j then (j - i - 1) / c + 1 else 0) ∧ (if i < j then (j - i - 1) / c + 1 else 0) ≤ 1000000 := by
    by_cases h : i < j
    · rw [if_pos h]
      have h1 := Int.ediv_nonneg (a := j - i - 1) (b := c) (by omega) (by omega)
      have h2 := Int.ediv_le_self (a := j - i - 1) c (by omega)
      omega
    · rw [if_neg h]; omega
  have e : Builtin.Range.rangeSize i j c = (if i < j then (j - i - 1) / c + 1 else 0) := by
    unfold Builtin.Range.rangeSize
    rw [if_pos (show c > 0 by omega)]
  refine ⟨by omega, by omega, ?_, by rw [e]; omega⟩
  unfold Builtin.Range.small
  rw [e]
  simp only [Builtin.Range.rangeFitsLong, Bool.and_eq_true, Bool.or_eq_true, decide_eq_true_eq, beq_iff_eq]
  generalize (if i < j then (j - i - 1) / c + 1 else 0) = z at hb ⊢
  refine ⟨by omega, .inr ?_⟩
  rw [if_pos (by omega), Bool.and_eq_true, decide_eq_true_eq, decide_eq_true_eq]
  omega
theorem rgc_in {i j c : Int} {k : Nat} (hc : 0 < c) (h : k < (if i < j then (j - i - 1) / c + 1 else 0).toNat) : i + (k : Int) * c < j := by
  by_cases hij : i < j
  · rw [if_pos hij] at h
    have h1 : (k : Int) ≤ (j - i - 1) / c := by omega
    have h2 : (k : Int) * c ≤ j - i - 1 := (Int.le_ediv_iff_mul_le hc).mp h1
    omega
  · rw [if_neg hij] at h; simp at h
/-! ### xs[::k] -/
def everyK (xs : List V) (k : Nat) : List V := (List.range ((xs.length + k - 1) / k)).filterMap fun i => xs[k * i]?
def tEvL (K : PySem.W.Frag) (k : Nat) (te : TE) : TE := fun σ H Q => te σ H fun x H1 => ∃ a xs, x = .ref a ∧ SqL K H1 a xs ∧ ∀ p, H1 p = none → Q (.ref p) (upd H1 p (.lst (everyK xs k)))
theorem x_ev {K : PySem.W.Frag} {k : Nat} {te : TE} {σ : L2.St} {H : Hp} {Q : VK} (h : te σ H fun x H1 => ∃ a xs, x = .ref a ∧ SqL K H1 a xs ∧ ∀ p, H1 p = none → Q (.ref p) (upd H1 p (.lst (everyK xs k)))) : tEvL K k te σ H Q := h
theorem vals_pick {xs : List V} {its : List Value} (r : Vals xs its) : ∀ ids : List Nat, Vals (ids.filterMap (xs[·]?)) (ids.filterMap (its[·]?))
  | [] => .nil
  | i :: ids => by
    have ih := vals_pick r ids
    rw [List.filterMap_cons, List.filterMap_cons]
    cases e : xs[i]? with
    | none =>
      have : its[i]? = none := by
        rw [List.getElem?_eq_none_iff] at e ⊢
        have := r.length
        omega
      rw [this]; exact ih
    | some x =>
      obtain ⟨u, hu, ru⟩ := r.get e
      rw [hu]
      exact .cons ru ih
theorem pick_every {its : List Value} {k : Nat} (hk : 0 < k) : slicePick its.toArray none none (some (k : Int)) = ((List.range ((its.length + k - 1) / k)).map (k * ·) |>.filterMap (its[·]?)).toArray := by
  have hk' : (k : Int) > 0 := by omega
  unfold slicePick sliceBounds
  simp only [Option.getD_some, if_pos hk', List.size_toArray, List.getElem?_toArray]
  congr 2
  unfold sliceRange
  simp only [if_pos hk']
  have e : (if (0 : Int) < (its.length : Int) then ((its.length : Int) - 0 + (k : Int) - 1) / (k : Int) else 0).toNat = (its.length + k - 1) / k := by
    by_cases h : 0 < its.length
    · rw [if_pos (by omega)]
      have : (its.length : Int) - 0 + (k : Int) - 1 = ((its.length + k - 1 : Nat) : Int) := by omega
      rw [this, ← Int.natCast_ediv, Int.toNat_natCast]
    · have : its.length = 0 := by omega
      rw [this, if_neg (by decide)]
      show 0 = (0 + k - 1) / k
      rw [Nat.div_eq_of_lt (by omega)]
  rw [e]
  exact List.map_congr_left fun i _ => by
    rw [Int.zero_add, ← Int.natCast_mul, Int.toNat_natCast]
theorem pe_evLK {X : Cx} {K : PySem.W.Frag} (hK : X.K = K) {e : Expr} {te : TE} {k : Nat} {j : Nat} {p1 p3 pos : Pos} (hk : 0 < k) (he : PE X e te) : PE X (.Subscript e (.Slice none none (some (.Constant (.int (k : Int)) j p1)) p3) pos) (tEvL K k te) := by
  subst hK
  constructor
  intro pins s σ H Q I h
  refine Subscript_ (thn (he.run pins s σ H _ I h) ?_)
  rintro v s1 ⟨x, H1, I1, r1, a, xs, rfl, hx, q⟩
  cases r1
  have stp : PO X (some (.Constant (.int (k : Int)) j p1)) (tPart (tC (.int (k : Int)))) := po_some pe_int
  refine wpAny_Slice (thn (po_none.run pins s1 σ H1 (fun o H2 => o = none ∧ H2 = H1) I1 ⟨rfl, rfl⟩) ?_)
  rintro vl s2 ⟨l, H2, I2, pl, rfl, rfl⟩
  refine thn (po_none.run pins s2 σ H2 (fun o H3 => o = none ∧ H3 = H2) I2 ⟨rfl, rfl⟩) ?_
  rintro vu s3 ⟨u, H3, I3, pu, rfl, rfl⟩
  refine thn (stp.run pins s3 σ H3 (fun o H4 => o = some (k : Int) ∧ H4 = H3) I3 ⟨(k : Int), rfl, rfl, rfl⟩) ?_
  rintro vs s4 ⟨o, H4, I4, ps, rfl, rfl⟩
  have I5 : Inv X pins σ H4 { s4 with heap := s4.heap.push { cls := .type "slice", data := .fields #[vl, vu, vs] } } := I4.kept (t' := s4.toks) fun b ob q => Heap.get?_push_of_some _ q
  obtain ⟨its, r, ht, hz⟩ := I5.list hx
  have hlen := r.length
  refine (show wpAny (model X.prog X.w) X.A (subscriptTail e (.Slice none none (some (.Constant (.int (k : Int)) j p1)) p3) (.ref a) (.ref s4.heap.objs.size)) (EP X pins σ Q) X.xe { s4 with heap := s4.heap.push { cls := .type "slice", data := .fields #[vl, vu, vs] } } from ?_)
  refine tail_any (ops := [.ref a, .ref s4.heap.objs.size]) ht.isList.typeIs (PySem.slot_list_getitem.lookup) ?_ (by with_unfolding_all rfl)
  refine wpAny_getItem_list_slice ht.isList (Heap.IsSliceOf.new _ vl vu vs) pl pu ps (fun z => by have := Option.some.inj z; omega) ?_ (by rw [List.size_toArray]; omega)
  rw [pick_every hk]
  have hv : Vals (everyK xs k) ((List.range ((its.length + k - 1) / k)).map (k * ·) |>.filterMap (its[·]?)) := by
    have := vals_pick r ((List.range ((its.length + k - 1) / k)).map (k * ·))
    unfold everyK
    rw [List.filterMap_map] at this
    rw [hlen]
    exact this
  have hle : (everyK xs k).length ≤ sizeLine := by
    have h1 : (everyK xs k).length ≤ (xs.length + k - 1) / k := by
      unfold everyK
      have := List.length_filterMap_le (fun i => xs[k * i]?) (List.range ((xs.length + k - 1) / k))
      rw [List.length_range] at this
      exact this
    have h2 : (xs.length + k - 1) / k ≤ xs.length := by
      by_cases h0 : xs.length = 0
      · rw [h0, Nat.zero_add, Nat.div_eq_of_lt (by omega)]; omega
      · refine Nat.div_le_of_le_mul ?_
        have : xs.length * 1 + k * 1 ≤ k * xs.length + 1 := by
          have e1 : xs.length = (xs.length - 1) + 1 := by omega
          have e2 : k * xs.length = k * (xs.length - 1) + k := by conv => lhs; rw [e1, Nat.mul_add, Nat.mul_one]
          have e3 : (xs.length - 1) ≤ k * (xs.length - 1) := Nat.le_mul_of_pos_left _ hk
          omega
        omega
    omega
  refine ⟨.ref _, _, I5.laid (t' := s4.toks) (o := .lst (everyK xs k)) (fun b ob q => Heap.get?_push_of_some _ q) (Nat.le_refl _) ?_, rfl, q _ (I5.hok.fresh (Nat.le_refl _))⟩
  exact ⟨hle, _, 0, hv, Heap.get?_push_size _ rfl⟩
end Sp

/-! Val: fractions by their tops over one bottom L; what groups have of shares. -/
namespace Sp
open PySem PySem.Spec L2 PyProof.Rows
theorem x_seqJ {t u : TS} {D : Ends} {σ : L2.St} {H : Hp} (P : L2.St → Hp → Prop) (hP : ∀ σ H, P σ H → u D σ H) (h : (∀ σ H, P σ H → u D σ H) → t { D with nx := u D } σ H) : tSeq t u D σ H := h hP
/-- f is S over L, in its shortest words -/
structure StL (L : Int) (f : Int × Int) (S : Int) : Prop where
  fr : Frac f.1 f.2
  cr : f.1 * L = S * f.2
theorem StL.dvd {L : Int} {f : Int × Int} {S : Int} (h : StL L f S) : f.2 ∣ L := dvd_coprime (m := f.1) ⟨S, by rw [h.cr, Int.mul_comm]⟩ h.fr.one
theorem StL.le {L : Int} {f : Int × Int} {S : Int} (hL : 0 < L) (h : StL L f S) : f.2 ≤ L ∧ f.1.natAbs ≤ S.natAbs := by
  have hp := h.fr.pos
  refine ⟨Int.le_of_dvd hL h.dvd, ?_⟩
  obtain ⟨c, hc⟩ := h.dvd
  have e : f.1 * c = S := by
    refine Int.eq_of_mul_eq_mul_right (a := f.2) (by omega) ?_
    rw [← h.cr, hc]; ac_rfl
  have hc0 : c.natAbs ≠ 0 := fun z => by
    have : c = 0 := by omega
    rw [this, Int.mul_zero] at hc; omega
  rw [← e, Int.natAbs_mul]
  exact Nat.le_mul_of_pos_right _ (by omega)
theorem StL.fb {L : Int} {f : Int × Int} {S : Int} {B : Nat} (hL : 0 < L) (h : StL L f S) (h1 : L.natAbs < 2 ^ B) (h2 : S.natAbs < 2 ^ B) : Fb B f := by
  have a := h.le hL
  have b := h.fr.pos
  exact ⟨by omega, by omega, b⟩
theorem StL.add {L : Int} {f g : Int × Int} {S T : Int} (h : StL L f S) (h2 : StL L g T) : StL L (plusF f g) (S + T) := by
  have nz : f.2 * g.2 ≠ 0 := Int.mul_ne_zero (by have := h.fr.pos; omega) (by have := h2.fr.pos; omega)
  have cr := short_cross (a := f.1 * g.2 + g.1 * f.2) nz
  refine ⟨short_frac nz, ?_⟩
  unfold plusF
  generalize shortM (f.1 * g.2 + g.1 * f.2) (f.2 * g.2) = s at *
  refine Int.eq_of_mul_eq_mul_right (a := f.2 * g.2) nz ?_
  have e1 : s.1 * L * (f.2 * g.2) = (s.1 * (f.2 * g.2)) * L := by ac_rfl
  have e2 : (f.1 * g.2 + g.1 * f.2) * L = (S + T) * (f.2 * g.2) := by
    have a1 : (f.1 * g.2 + g.1 * f.2) * L = (f.1 * L) * g.2 + (g.1 * L) * f.2 := by rw [Int.add_mul]; congr 1 <;> ac_rfl
    rw [a1, h.cr, h2.cr, Int.add_mul]
    congr 1 <;> ac_rfl
  rw [e1, cr]
  have e3 : (f.1 * g.2 + g.1 * f.2) * s.2 * L = ((f.1 * g.2 + g.1 * f.2) * L) * s.2 := by ac_rfl
  rw [e3, e2]; ac_rfl
theorem StL.zero (L : Int) : StL L (0, 1) 0 := ⟨⟨by show (0 : Int) < 1; decide, by decide⟩, by show (0 : Int) * L = 0 * 1; rw [Int.zero_mul, Int.zero_mul]⟩
theorem StL.uniq {L : Int} {f g : Int × Int} {S : Int} (hL : 0 < L) (h : StL L f S) (h2 : StL L g S) : f = g := by
  have e : f.1 * g.2 = g.1 * f.2 := by
    refine Int.eq_of_mul_eq_mul_right (a := L) (by omega) ?_
    have a1 : f.1 * g.2 * L = (f.1 * L) * g.2 := by ac_rfl
    have a2 : g.1 * f.2 * L = (g.1 * L) * f.2 := by ac_rfl
    rw [a1, a2, h.cr, h2.cr]; ac_rfl
  obtain ⟨e1, e2⟩ := frac_unique h.fr h2.fr e
  exact Prod.ext e1 e2
theorem StL.short {L a b : Int} (hb : b ≠ 0) {S : Int} (h : a * L = S * b) : StL L (shortM a b) S := by
  refine ⟨short_frac hb, ?_⟩
  have cr := short_cross (a := a) hb
  refine Int.eq_of_mul_eq_mul_right (a := b) hb ?_
  have e1 : (shortM a b).1 * L * b = ((shortM a b).1 * b) * L := by ac_rfl
  have e2 : a * (shortM a b).2 * L = (a * L) * (shortM a b).2 := by ac_rfl
  rw [e1, cr, e2, h]; ac_rfl
/-- less than t: by the tops -/
theorem StL.under {L : Int} {f : Int × Int} {S t : Int} (hL : 0 < L) (h : StL L f S) : (f.1 * 1 < t * f.2) ↔ (S < t * L) := by
  have hp := h.fr.pos
  have e1 : f.1 * L = S * f.2 := h.cr
  constructor
  · intro a
    have b : f.1 * 1 * L < t * f.2 * L := Int.mul_lt_mul_of_pos_right a hL
    rw [Int.mul_one, e1] at b
    have : S * f.2 < t * L * f.2 := by
      have e2 : t * f.2 * L = t * L * f.2 := by ac_rfl
      rwa [e2] at b
    exact Int.lt_of_mul_lt_mul_right this (by omega)
  · intro a
    have b : S * f.2 < t * L * f.2 := Int.mul_lt_mul_of_pos_right a hp
    rw [← e1] at b
    have : f.1 * 1 * L < t * f.2 * L := by
      have e2 : t * f.2 * L = t * L * f.2 := by ac_rfl
      rw [e2, Int.mul_one]; exact b
    exact Int.lt_of_mul_lt_mul_right this (by omega)
/-! ### shares of groups -/
/-- of the first i hands, those in g -/
def shareTo (Ts : List Int) (g : Nat) : Nat → Int
  | 0 => 0
  | i + 1 => if bitOn i g = true then shareTo Ts g i + gi Ts (i : Int) else shareTo Ts g i
def shareS (Ts : List Int) (g : Nat) : Int := shareTo Ts g Ts.length
/-- the fractions fs are the tops Ts over L -/
inductive ShOk (L : Int) : List (Int × Int) → List Int → Prop
  | nil : ShOk L [] []
  | cons {f : Int × Int} {T : Int} {fs : List (Int × Int)} {Ts : List Int} : StL L f T → ShOk L fs Ts → ShOk L (f :: fs) (T :: Ts)
theorem ShOk.len {L : Int} : ∀ {fs : List (Int × Int)} {Ts : List Int}, ShOk L fs Ts → fs.length = Ts.length
  | _, _, .nil => rfl
  | _, _, .cons _ r => by rw [List.length_cons, List.length_cons, r.len]
theorem ShOk.at {L : Int} : ∀ {fs : List (Int × Int)} {Ts : List Int}, ShOk L fs Ts → ∀ {i : Nat} {f : Int × Int}, fs[i]? = some f → StL L f (gi Ts (i : Int))
  | _, _, .nil, i, f, h => by rw [List.getElem?_nil] at h; cases h
  | _, _, .cons (T := T) (Ts := Ts) h r, 0, f, e => by
    cases e
    show StL L _ (gi (T :: Ts) ((0 : Nat) : Int))
    exact h
  | _, _, .cons (T := T) (Ts := Ts) h r, i + 1, f, e => by
    have := r.at (i := i) (f := f) (by simpa using e)
    have e2 : gi (T :: Ts) ((i + 1 : Nat) : Int) = gi Ts (i : Int) := by
      unfold gi
      rw [Int.toNat_natCast, Int.toNat_natCast, List.getD_cons_succ]
    rw [e2]; exact this
theorem ShOk.snoc {L : Int} {f : Int × Int} {T : Int} (h : StL L f T) : ∀ {fs : List (Int × Int)} {Ts : List Int}, ShOk L fs Ts → ShOk L (fs ++ [f]) (Ts ++ [T])
  | _, _, .nil => .cons h .nil
  | _, _, .cons a r => .cons a (r.snoc h)
theorem shareTo_le (Ts : List Int) (g : Nat) {M : Nat} (h : ∀ z ∈ Ts, z.natAbs ≤ M) : ∀ i, i ≤ Ts.length → (shareTo Ts g i).natAbs ≤ i * M
  | 0, _ => by show (0 : Int).natAbs ≤ _; omega
  | i + 1, hi => by
    have ih := shareTo_le Ts g h i (by omega)
    have hm : (gi Ts (i : Int)).natAbs ≤ M := by
      unfold gi
      rw [List.getD_eq_getElem?_getD, Int.toNat_natCast, List.getElem?_eq_getElem (by omega)]
      exact h _ (List.getElem_mem _)
    show (if bitOn i g = true then shareTo Ts g i + gi Ts (i : Int) else shareTo Ts g i).natAbs ≤ _
    rw [Nat.succ_mul]
    have := Int.natAbs_add_le (shareTo Ts g i) (gi Ts (i : Int))
    by_cases c : bitOn i g = true
    · rw [if_pos c]; omega
    · rw [if_neg c]; omega
theorem rd_fr {H : Hp} : ∀ {ts : List Addr} {fs : List (Int × Int)}, FrAll H ts fs → ∀ {i : Nat}, i < fs.length → ∃ t f, ts[i]? = some t ∧ fs[i]? = some f ∧ H t = some (.tup (frV f))
  | _, _, .nil, i, h => absurd h (Nat.not_lt_zero i)
  | _, _, .cons (t := t) (f := f) h r, 0, _ => ⟨t, f, rfl, rfl, h⟩
  | _, _, .cons h r, i + 1, hi => by
    obtain ⟨t, f, a, b, c⟩ := rd_fr r (i := i) (by simpa using hi)
    exact ⟨t, f, by simpa using a, by simpa using b, c⟩
theorem plusF_zero {L : Int} : (0 : Int) * L = 0 := Int.zero_mul L
end Sp
namespace Sp
open PySem PySem.Spec L2 PyProof.Rows
/-- of the groups 1 .. i, those of which p holds -/
def grpsTo (p : Nat → Bool) (i : Nat) : List Nat := ((List.range i).map (· + 1)).filter p
theorem grps_yes {p : Nat → Bool} {i : Nat} (h : p (i + 1) = true) {α : Type} (f : Nat → α) : (grpsTo p (i + 1)).map f = (grpsTo p i).map f ++ [f (i + 1)] := by
  unfold grpsTo
  rw [List.range_succ, List.map_append, List.filter_append, List.map_append]
  congr 1
  show ((List.filter p [i + 1]).map f) = _
  rw [List.filter_cons, if_pos h] <;> rfl
theorem grps_no {p : Nat → Bool} {i : Nat} (h : p (i + 1) = false) {α : Type} (f : Nat → α) : (grpsTo p (i + 1)).map f = (grpsTo p i).map f := by
  unfold grpsTo
  rw [List.range_succ, List.map_append, List.filter_append, List.map_append]
  show _ ++ ((List.filter p [i + 1]).map f) = _
  rw [List.filter_cons, if_neg (by rw [h]; exact Bool.false_ne_true)]
  show _ ++ [] = _
  rw [List.append_nil]
theorem grps_len (p : Nat → Bool) (i : Nat) : (grpsTo p i).length ≤ i := by
  unfold grpsTo
  have := List.length_filter_le p ((List.range i).map (· + 1))
  rwa [List.length_map, List.length_range] at this
theorem grps_mem {p : Nat → Bool} {i g : Nat} : g ∈ grpsTo p i ↔ 1 ≤ g ∧ g ≤ i ∧ p g = true := by
  unfold grpsTo
  rw [List.mem_filter, List.mem_map]
  constructor
  · rintro ⟨⟨j, hj, rfl⟩, h⟩
    have := List.mem_range.mp hj
    exact ⟨by omega, by omega, h⟩
  · rintro ⟨h1, h2, h⟩
    exact ⟨⟨g - 1, List.mem_range.mpr (by omega), by omega⟩, h⟩
/-- the groups that can better the shares: tops Ts over L -/
def betterM (ns Ts : List Int) (L : Int) : List Nat := grpsTo (fun g => decide (shareS Ts g < fn ns g * L)) (ns.length - 1)
end Sp

/-! Bet: shares as k41 draws them, lists that are none. -/
namespace Sp
open PySem PySem.Spec L2 PyProof.Rows
/-- what is new in H' -/
def newOf (H H' : Hp) : Hp := fun a => if (H a).isNone = true then H' a else none
theorem newOf_in {H H' : Hp} {a : Addr} {o : HO} (h : newOf H H' a = some o) : H a = none ∧ H' a = some o := by
  unfold newOf at h
  by_cases c : (H a).isNone = true
  · rw [if_pos c] at h; exact ⟨Option.isNone_iff_eq_none.mp c, h⟩
  · rw [if_neg c] at h; cases h
theorem Own.news {H H' : Hp} {cs : Cells} (w : Own H cs H') : Own (fun _ => Option.none) cs (newOf H H') where
  ex := fun _ _ h => nomatch h
  cell := fun q hq => by
    obtain ⟨h1, h2⟩ := w.cell q hq
    refine ⟨?_, rfl⟩
    unfold newOf
    rw [h2]
    exact h1
  nd := w.nd
structure ShPart (f : Int × Int) : Prop where
  fr : Frac f.1 f.2
  dv : f.2 ∣ 59820
  top : f.1.natAbs ≤ 1000000000000000000
theorem shpart {a b : Int} (h1 : a.natAbs ≤ 1000000000000000000) (h2 : 0 < b) (h3 : b ∣ 59820) : ShPart (shortM a b) := by
  have fr := short_frac (a := a) (show b ≠ 0 by omega)
  have d1 := Int.natAbs_ediv_le_natAbs a (gcdI a b)
  have e := gcd_mul_div (a := a) (show b ≠ 0 by omega)
  refine ⟨fr, ?_, ?_⟩
  · unfold shortM
    rw [if_pos h2]
    exact Int.dvd_trans ⟨gcdI a b, by show b = b / gcdI a b * gcdI a b; rw [Int.mul_comm]; exact e.2.symm⟩ h3
  · unfold shortM
    rw [if_pos h2]
    show (a / gcdI a b).natAbs ≤ _
    omega
theorem ShPart.fb {f : Int × Int} (h : ShPart f) : Fb 64 f := by
  have h1 := h.fr.pos
  have h2 := Int.le_of_dvd (by decide) h.dv
  have h3 := h.top
  have e : 1000000000000000000 < 2 ^ 64 := by decide
  exact ⟨by omega, by omega, h1⟩
def oddD (H : Hp) (K : PySem.W.Frag) (v : V) : Prop := FrT H v false ∧ ∃ d, Dp K H v d ∧ LayD 2 d
/-- a list that is no list of m shares -/
structure Amiss (K : PySem.W.Frag) (H : Hp) (ys : List V) (m : Nat) : Prop where
  bad : ys.length ≠ m ∨ (∃ bs : List Bool, bs.length = ys.length ∧ (∀ (i : Nat) (y : V) (bb : Bool), ys[i]? = some y → bs[i]? = some bb → FrT H y bb) ∧ false ∈ bs)
  dat : ∃ ds, DpAll K H ys ds ∧ ∀ d ∈ ds, LayD 2 d
  len : ys.length ≤ 8
theorem frT_part {H : Hp} {t : Addr} {f : Int × Int} (h : H t = some (.tup (frV f))) (p : ShPart f) : FrT H (.ref t) true := by
  have fb := p.fb
  have := FrT.num (H := H) (a := t) (p := f.1) (q := f.2) (B := 64) (.inl h) ⟨by decide, fb.1, fb.2.1⟩
  rw [decide_eq_true (show 1 ≤ f.2 by have := p.fr.pos; omega), decide_eq_true p.fr.one] at this
  exact this
def frDs (fs : List (Int × Int)) : List PyData := fs.map fun f => .tuple [.int f.1, .int f.2]
theorem lay_frDs (fs : List (Int × Int)) : ∀ d ∈ frDs fs, LayD 2 d := fun d hd => by
  obtain ⟨f, _, rfl⟩ := List.mem_map.mp hd
  refine LayD.tuple fun e he => ?_
  simp only [List.mem_cons, List.not_mem_nil, or_false] at he
  rcases he with rfl | rfl
  · exact LayD.int (by decide) _
  · exact LayD.int (by decide) _
theorem dpAll_set {K : PySem.W.Frag} {H : Hp} {v : V} {d : PyData} (h : Dp K H v d) : ∀ {vs : List V} {ds : List PyData}, DpAll K H vs ds → ∀ j, DpAll K H (vs.set j v) (ds.set j d)
  | _, _, .nil, _ => .nil
  | _, _, .cons a r, 0 => .cons h r
  | _, _, .cons a r, j + 1 => .cons a (dpAll_set h r j)
theorem dpAll_drop1 {K : PySem.W.Frag} {H : Hp} : ∀ {vs : List V} {ds : List PyData}, DpAll K H vs ds → DpAll K H (vs.drop 1) (ds.drop 1)
  | _, _, .nil => .nil
  | _, _, .cons _ r => r
end Sp

namespace Lw
open PySem PySem.Spec PyProof.Rows L2 Sp
def topS (i : Nat) : Stmt := PySem.Challenge.pw_shareparley_k41_bettering.main.body.getD i (.Pass ⟨0, 0, 0, 0⟩)
abbrev s_is_whole : Stmt := topS 14
abbrev N_is_whole : List Str := ["thing"]
theorem sc_is_whole : FnScope N_is_whole ["thing"] (defScope s_is_whole) := ⟨rfl, rfl, rfl, by decide +kernel, rfl, by decide +kernel, by decide +kernel⟩
abbrev s_divisor : Stmt := topS 15
abbrev N_divisor : List Str := ["one", "other", "rests"]
theorem sc_divisor : FnScope N_divisor ["one", "other"] (defScope s_divisor) := ⟨rfl, rfl, rfl, by decide +kernel, rfl, by decide +kernel, by decide +kernel⟩
abbrev s_bottom_of_both : Stmt := topS 16
abbrev N_bottom_of_both : List Str := ["one", "other"]
theorem sc_bottom_of_both : FnScope N_bottom_of_both ["one", "other"] (defScope s_bottom_of_both) := ⟨rfl, rfl, rfl, by decide +kernel, rfl, by decide +kernel, by decide +kernel⟩
abbrev s_shortest : Stmt := topS 17
abbrev N_shortest : List Str := ["top", "bottom", "share"]
theorem sc_shortest : FnScope N_shortest ["top", "bottom"] (defScope s_shortest) := ⟨rfl, rfl, rfl, by decide +kernel, rfl, by decide +kernel, by decide +kernel⟩
abbrev s_is_fraction : Stmt := topS 18
abbrev N_is_fraction : List Str := ["thing", "top", "bottom"]
theorem sc_is_fraction : FnScope N_is_fraction ["thing"] (defScope s_is_fraction) := ⟨rfl, rfl, rfl, by decide +kernel, rfl, by decide +kernel, by decide +kernel⟩
abbrev s_plus : Stmt := topS 19
abbrev N_plus : List Str := ["one", "other", "low"]
theorem sc_plus : FnScope N_plus ["one", "other"] (defScope s_plus) := ⟨rfl, rfl, rfl, by decide +kernel, rfl, by decide +kernel, by decide +kernel⟩
abbrev s_under : Stmt := topS 20
abbrev N_under : List Str := ["one", "other", "low"]
theorem sc_under : FnScope N_under ["one", "other"] (defScope s_under) := ⟨rfl, rfl, rfl, by decide +kernel, rfl, by decide +kernel, by decide +kernel⟩
abbrev s_look : Stmt := topS 23
abbrev N_look : List Str := ["table", "many", "number"]
theorem sc_look : FnScope N_look ["table"] (defScope s_look) := ⟨rfl, rfl, rfl, by decide +kernel, rfl, by decide +kernel, by decide +kernel⟩
abbrev s_share_of : Stmt := topS 25
abbrev N_share_of : List Str := ["shares", "group", "found", "hand"]
theorem sc_share_of : FnScope N_share_of ["shares", "group"] (defScope s_share_of) := ⟨rfl, rfl, rfl, by decide +kernel, rfl, by decide +kernel, by decide +kernel⟩
abbrev s_bettering : Stmt := topS 26
abbrev N_bettering : List Str := ["table", "shares", "many", "one", "group"]
theorem sc_bettering : FnScope N_bettering ["table", "shares"] (defScope s_bettering) := ⟨rfl, rfl, rfl, by decide +kernel, rfl, by decide +kernel, by decide +kernel⟩
abbrev s__law_cell : Stmt := topS 28
abbrev N__law_cell : List Str := ["_law_script", "_law_k"]
theorem sc__law_cell : FnScope N__law_cell ["_law_script", "_law_k"] (defScope s__law_cell) := ⟨rfl, rfl, rfl, by decide +kernel, rfl, by decide +kernel, by decide +kernel⟩
abbrev s__law_whole : Stmt := topS 29
abbrev N__law_whole : List Str := ["_law_found"]
theorem sc__law_whole : FnScope N__law_whole ["_law_found"] (defScope s__law_whole) := ⟨rfl, rfl, rfl, by decide +kernel, rfl, by decide +kernel, by decide +kernel⟩
abbrev s__law_divisor : Stmt := topS 30
abbrev N__law_divisor : List Str := ["_law_one", "_law_other"]
theorem sc__law_divisor : FnScope N__law_divisor ["_law_one", "_law_other"] (defScope s__law_divisor) := ⟨rfl, rfl, rfl, by decide +kernel, rfl, by decide +kernel, by decide +kernel⟩
abbrev s__law_low : Stmt := topS 31
abbrev N__law_low : List Str := ["_law_numbers", "_law_low_here", "_law_number"]
theorem sc__law_low : FnScope N__law_low ["_law_numbers"] (defScope s__law_low) := ⟨rfl, rfl, rfl, by decide +kernel, rfl, by decide +kernel, by decide +kernel⟩
abbrev s__law_tops : Stmt := topS 32
abbrev N__law_tops : List Str := ["_law_numbers", "_law_low_here", "_law_number"]
theorem sc__law_tops : FnScope N__law_tops ["_law_numbers", "_law_low_here"] (defScope s__law_tops) := ⟨rfl, rfl, rfl, by decide +kernel, rfl, by decide +kernel, by decide +kernel⟩
abbrev s__law_share : Stmt := topS 33
abbrev N__law_share : List Str := ["_law_tops_here", "_law_group", "_law_hand"]
theorem sc__law_share : FnScope N__law_share ["_law_tops_here", "_law_group"] (defScope s__law_share) := ⟨rfl, rfl, rfl, by decide +kernel, rfl, by decide +kernel, by decide +kernel⟩
abbrev s__law_shares : Stmt := topS 34
abbrev N__law_shares : List Str := ["_law_script", "_law_many", "_law_shares_here", "_law_hand", "_law_cell_here", "_law_top", "_law_bottom", "_law_by"]
theorem sc__law_shares : FnScope N__law_shares ["_law_script", "_law_many"] (defScope s__law_shares) := ⟨rfl, rfl, rfl, by decide +kernel, rfl, by decide +kernel, by decide +kernel⟩
abbrev s__law_drawn : Stmt := topS 35
abbrev N__law_drawn : List Str := ["_law_script", "_law_tops_here", "_law_low_here", "_law_table", "_law_group", "_law_cell_here"]
theorem sc__law_drawn : FnScope N__law_drawn ["_law_script", "_law_tops_here", "_law_low_here"] (defScope s__law_drawn) := ⟨rfl, rfl, rfl, by decide +kernel, rfl, by decide +kernel, by decide +kernel⟩
abbrev s__law_odd : Stmt := topS 36
abbrev N__law_odd : List Str := ["_law_cell_here"]
theorem sc__law_odd : FnScope N__law_odd ["_law_cell_here"] (defScope s__law_odd) := ⟨rfl, rfl, rfl, by decide +kernel, rfl, by decide +kernel, by decide +kernel⟩
abbrev s__law_amiss : Stmt := topS 37
abbrev N__law_amiss : List Str := ["_law_shares_here", "_law_cell_here", "_law_amiss_here"]
theorem sc__law_amiss : FnScope N__law_amiss ["_law_shares_here", "_law_cell_here"] (defScope s__law_amiss) := ⟨rfl, rfl, rfl, by decide +kernel, rfl, by decide +kernel, by decide +kernel⟩
abbrev s__law_own : Stmt := topS 38
abbrev N__law_own : List Str := ["_law_error"]
theorem sc__law_own : FnScope N__law_own ["_law_error"] (defScope s__law_own) := ⟨rfl, rfl, rfl, by decide +kernel, rfl, by decide +kernel, by decide +kernel⟩
abbrev s__law_refused : Stmt := topS 39
abbrev N__law_refused : List Str := ["_law_table", "_law_amiss_here", "_law_only", "_law_error"]
theorem sc__law_refused : FnScope N__law_refused ["_law_table", "_law_amiss_here"] (defScope s__law_refused) := ⟨rfl, rfl, rfl, by decide +kernel, rfl, by decide +kernel, by decide +kernel⟩
abbrev s__law_groups : Stmt := topS 40
abbrev N__law_groups : List Str := ["_law_found", "_law_due", "_law_group", "_law_number"]
theorem sc__law_groups : FnScope N__law_groups ["_law_found", "_law_due"] (defScope s__law_groups) := ⟨rfl, rfl, rfl, by decide +kernel, rfl, by decide +kernel, by decide +kernel⟩
abbrev s_law : Stmt := topS 41
abbrev N_law : List Str := ["_law_script", "_law_many", "_law_shares_here", "_law_low_here", "_law_tops_here", "_law_table", "_law_due", "_law_handed", "_law_found", "_law_amiss_here", "_law_kept", "_law_more", "_law_group"]
theorem sc_law : FnScope N_law ["_law_script"] (defScope s_law) := ⟨rfl, rfl, rfl, by decide +kernel, rfl, by decide +kernel, by decide +kernel⟩
structure Ads where
  a_is_whole : Addr
  d_is_whole : FuncData
  a_divisor : Addr
  d_divisor : FuncData
  a_bottom_of_both : Addr
  d_bottom_of_both : FuncData
  a_shortest : Addr
  d_shortest : FuncData
  a_is_fraction : Addr
  d_is_fraction : FuncData
  a_plus : Addr
  d_plus : FuncData
  a_under : Addr
  d_under : FuncData
  a_look : Addr
  d_look : FuncData
  a_share_of : Addr
  d_share_of : FuncData
  a_bettering : Addr
  d_bettering : FuncData
  a__law_cell : Addr
  d__law_cell : FuncData
  a__law_whole : Addr
  d__law_whole : FuncData
  a__law_divisor : Addr
  d__law_divisor : FuncData
  a__law_low : Addr
  d__law_low : FuncData
  a__law_tops : Addr
  d__law_tops : FuncData
  a__law_share : Addr
  d__law_share : FuncData
  a__law_shares : Addr
  d__law_shares : FuncData
  a__law_drawn : Addr
  d__law_drawn : FuncData
  a__law_odd : Addr
  d__law_odd : FuncData
  a__law_amiss : Addr
  d__law_amiss : FuncData
  a__law_own : Addr
  d__law_own : FuncData
  a__law_refused : Addr
  d__law_refused : FuncData
  a__law_groups : Addr
  d__law_groups : FuncData
  a_law : Addr
  d_law : FuncData
  ShareError : Addr
  NoNumber : Addr
  NoGroup : Addr
  NoRule : Addr
  NoText : Addr
  NoTable : Addr
  Unlike : Addr
  TooMany : Addr
  NoOrder : Addr
  NoRows : Addr
  NoShares : Addr
  NoVotes : Addr
  t_MOST : Tok
/-- what the top has written -/
structure Txt (K : PySem.W.Frag) (mg : Str → Option Value) (A : Ads) : Prop where
  F_is_whole : Fun K "is_whole" "is_whole" s_is_whole A.a_is_whole A.d_is_whole
  b_is_whole : Binds K A.d_is_whole ["thing"] []
  g_is_whole : mg "is_whole" = some (.ref A.a_is_whole)
  F_divisor : Fun K "divisor" "divisor" s_divisor A.a_divisor A.d_divisor
  b_divisor : Binds K A.d_divisor ["one", "other"] []
  g_divisor : mg "divisor" = some (.ref A.a_divisor)
  F_bottom_of_both : Fun K "bottom_of_both" "bottom_of_both" s_bottom_of_both A.a_bottom_of_both A.d_bottom_of_both
  b_bottom_of_both : Binds K A.d_bottom_of_both ["one", "other"] []
  g_bottom_of_both : mg "bottom_of_both" = some (.ref A.a_bottom_of_both)
  F_shortest : Fun K "shortest" "shortest" s_shortest A.a_shortest A.d_shortest
  b_shortest : Binds K A.d_shortest ["top", "bottom"] []
  g_shortest : mg "shortest" = some (.ref A.a_shortest)
  F_is_fraction : Fun K "is_fraction" "is_fraction" s_is_fraction A.a_is_fraction A.d_is_fraction
  b_is_fraction : Binds K A.d_is_fraction ["thing"] []
  g_is_fraction : mg "is_fraction" = some (.ref A.a_is_fraction)
  F_plus : Fun K "plus" "plus" s_plus A.a_plus A.d_plus
  b_plus : Binds K A.d_plus ["one", "other"] []
  g_plus : mg "plus" = some (.ref A.a_plus)
  F_under : Fun K "under" "under" s_under A.a_under A.d_under
  b_under : Binds K A.d_under ["one", "other"] []
  g_under : mg "under" = some (.ref A.a_under)
  F_look : Fun K "look" "look" s_look A.a_look A.d_look
  b_look : Binds K A.d_look ["table"] []
  g_look : mg "look" = some (.ref A.a_look)
  F_share_of : Fun K "share_of" "share_of" s_share_of A.a_share_of A.d_share_of
  b_share_of : Binds K A.d_share_of ["shares", "group"] []
  g_share_of : mg "share_of" = some (.ref A.a_share_of)
  F_bettering : Fun K "bettering" "bettering" s_bettering A.a_bettering A.d_bettering
  b_bettering : Binds K A.d_bettering ["table", "shares"] []
  g_bettering : mg "bettering" = some (.ref A.a_bettering)
  F__law_cell : Fun K "_law_cell" "_law_cell" s__law_cell A.a__law_cell A.d__law_cell
  b__law_cell : Binds K A.d__law_cell ["_law_script", "_law_k"] []
  g__law_cell : mg "_law_cell" = some (.ref A.a__law_cell)
  F__law_whole : Fun K "_law_whole" "_law_whole" s__law_whole A.a__law_whole A.d__law_whole
  b__law_whole : Binds K A.d__law_whole ["_law_found"] []
  g__law_whole : mg "_law_whole" = some (.ref A.a__law_whole)
  F__law_divisor : Fun K "_law_divisor" "_law_divisor" s__law_divisor A.a__law_divisor A.d__law_divisor
  b__law_divisor : Binds K A.d__law_divisor ["_law_one", "_law_other"] []
  g__law_divisor : mg "_law_divisor" = some (.ref A.a__law_divisor)
  F__law_low : Fun K "_law_low" "_law_low" s__law_low A.a__law_low A.d__law_low
  b__law_low : Binds K A.d__law_low ["_law_numbers"] []
  g__law_low : mg "_law_low" = some (.ref A.a__law_low)
  F__law_tops : Fun K "_law_tops" "_law_tops" s__law_tops A.a__law_tops A.d__law_tops
  b__law_tops : Binds K A.d__law_tops ["_law_numbers", "_law_low_here"] []
  g__law_tops : mg "_law_tops" = some (.ref A.a__law_tops)
  F__law_share : Fun K "_law_share" "_law_share" s__law_share A.a__law_share A.d__law_share
  b__law_share : Binds K A.d__law_share ["_law_tops_here", "_law_group"] []
  g__law_share : mg "_law_share" = some (.ref A.a__law_share)
  F__law_shares : Fun K "_law_shares" "_law_shares" s__law_shares A.a__law_shares A.d__law_shares
  b__law_shares : Binds K A.d__law_shares ["_law_script", "_law_many"] []
  g__law_shares : mg "_law_shares" = some (.ref A.a__law_shares)
  F__law_drawn : Fun K "_law_drawn" "_law_drawn" s__law_drawn A.a__law_drawn A.d__law_drawn
  b__law_drawn : Binds K A.d__law_drawn ["_law_script", "_law_tops_here", "_law_low_here"] []
  g__law_drawn : mg "_law_drawn" = some (.ref A.a__law_drawn)
  F__law_odd : Fun K "_law_odd" "_law_odd" s__law_odd A.a__law_odd A.d__law_odd
  b__law_odd : Binds K A.d__law_odd ["_law_cell_here"] []
  g__law_odd : mg "_law_odd" = some (.ref A.a__law_odd)
  F__law_amiss : Fun K "_law_amiss" "_law_amiss" s__law_amiss A.a__law_amiss A.d__law_amiss
  b__law_amiss : Binds K A.d__law_amiss ["_law_shares_here", "_law_cell_here"] []
  g__law_amiss : mg "_law_amiss" = some (.ref A.a__law_amiss)
  F__law_own : Fun K "_law_own" "_law_own" s__law_own A.a__law_own A.d__law_own
  b__law_own : Binds K A.d__law_own ["_law_error"] []
  g__law_own : mg "_law_own" = some (.ref A.a__law_own)
  F__law_refused : Fun K "_law_refused" "_law_refused" s__law_refused A.a__law_refused A.d__law_refused
  b__law_refused : Binds K A.d__law_refused ["_law_table", "_law_amiss_here"] []
  g__law_refused : mg "_law_refused" = some (.ref A.a__law_refused)
  F__law_groups : Fun K "_law_groups" "_law_groups" s__law_groups A.a__law_groups A.d__law_groups
  b__law_groups : Binds K A.d__law_groups ["_law_found", "_law_due"] []
  g__law_groups : mg "_law_groups" = some (.ref A.a__law_groups)
  F_law : Fun K "law" "law" s_law A.a_law A.d_law
  b_law : Binds K A.d_law ["_law_script"] []
  g_law : mg "law" = some (.ref A.a_law)
  g_ShareError : mg "ShareError" = some (.ref A.ShareError)
  g_NoNumber : mg "NoNumber" = some (.ref A.NoNumber)
  g_NoGroup : mg "NoGroup" = some (.ref A.NoGroup)
  g_NoRule : mg "NoRule" = some (.ref A.NoRule)
  g_NoText : mg "NoText" = some (.ref A.NoText)
  g_NoTable : mg "NoTable" = some (.ref A.NoTable)
  k_NoTable : PySem.W.keepIn K (.ref A.NoTable) = true
  e_NoTable : PySem.W.subIn K (.ref A.NoTable) (.type "BaseException") = some true
  t_NoTable : PySem.W.typeIn K (.ref A.NoTable) = some (.type "type")
  x_NoTable : PySem.W.excIn K A.NoTable [.type "ValueError", .type "Exception", .type "BaseException", .type "object"] "ValueError.__new__" = true
  g_Unlike : mg "Unlike" = some (.ref A.Unlike)
  g_TooMany : mg "TooMany" = some (.ref A.TooMany)
  g_NoOrder : mg "NoOrder" = some (.ref A.NoOrder)
  g_NoRows : mg "NoRows" = some (.ref A.NoRows)
  g_NoShares : mg "NoShares" = some (.ref A.NoShares)
  k_NoShares : PySem.W.keepIn K (.ref A.NoShares) = true
  e_NoShares : PySem.W.subIn K (.ref A.NoShares) (.type "BaseException") = some true
  t_NoShares : PySem.W.typeIn K (.ref A.NoShares) = some (.type "type")
  x_NoShares : PySem.W.excIn K A.NoShares [.type "ValueError", .type "Exception", .type "BaseException", .type "object"] "ValueError.__new__" = true
  g_NoVotes : mg "NoVotes" = some (.ref A.NoVotes)
  q_NoGroup : AskC K A.NoGroup
  q_NoNumber : AskC K A.NoNumber
  q_NoOrder : AskC K A.NoOrder
  q_NoRows : AskC K A.NoRows
  q_NoRule : AskC K A.NoRule
  q_NoShares : AskC K A.NoShares
  q_NoTable : AskC K A.NoTable
  q_NoText : AskC K A.NoText
  q_NoVotes : AskC K A.NoVotes
  q_ShareError : AskC K A.ShareError
  q_TooMany : AskC K A.TooMany
  q_Unlike : AskC K A.Unlike
  X_NoTable : ExcC K A.NoTable
  u_NoTable_NoGroup : PySem.W.subIn K (.ref A.NoTable) (.ref A.NoGroup) = some false
  u_NoTable_NoNumber : PySem.W.subIn K (.ref A.NoTable) (.ref A.NoNumber) = some false
  u_NoTable_NoOrder : PySem.W.subIn K (.ref A.NoTable) (.ref A.NoOrder) = some false
  u_NoTable_NoRows : PySem.W.subIn K (.ref A.NoTable) (.ref A.NoRows) = some false
  u_NoTable_NoRule : PySem.W.subIn K (.ref A.NoTable) (.ref A.NoRule) = some false
  u_NoTable_NoShares : PySem.W.subIn K (.ref A.NoTable) (.ref A.NoShares) = some false
  u_NoTable_NoTable : PySem.W.subIn K (.ref A.NoTable) (.ref A.NoTable) = some true
  u_NoTable_NoText : PySem.W.subIn K (.ref A.NoTable) (.ref A.NoText) = some false
  u_NoTable_NoVotes : PySem.W.subIn K (.ref A.NoTable) (.ref A.NoVotes) = some false
  u_NoTable_ShareError : PySem.W.subIn K (.ref A.NoTable) (.ref A.ShareError) = some true
  u_NoTable_TooMany : PySem.W.subIn K (.ref A.NoTable) (.ref A.TooMany) = some false
  u_NoTable_Unlike : PySem.W.subIn K (.ref A.NoTable) (.ref A.Unlike) = some false
  v_NoTable : PySem.W.subIn K (.ref A.NoTable) (.type "ValueError") = some true
  h_NoTable_ShareError : PySem.W.exmOne K (.ref A.NoTable) (.ref A.ShareError) = some true
  X_NoShares : ExcC K A.NoShares
  u_NoShares_NoGroup : PySem.W.subIn K (.ref A.NoShares) (.ref A.NoGroup) = some false
  u_NoShares_NoNumber : PySem.W.subIn K (.ref A.NoShares) (.ref A.NoNumber) = some false
  u_NoShares_NoOrder : PySem.W.subIn K (.ref A.NoShares) (.ref A.NoOrder) = some false
  u_NoShares_NoRows : PySem.W.subIn K (.ref A.NoShares) (.ref A.NoRows) = some false
  u_NoShares_NoRule : PySem.W.subIn K (.ref A.NoShares) (.ref A.NoRule) = some false
  u_NoShares_NoShares : PySem.W.subIn K (.ref A.NoShares) (.ref A.NoShares) = some true
  u_NoShares_NoTable : PySem.W.subIn K (.ref A.NoShares) (.ref A.NoTable) = some false
  u_NoShares_NoText : PySem.W.subIn K (.ref A.NoShares) (.ref A.NoText) = some false
  u_NoShares_NoVotes : PySem.W.subIn K (.ref A.NoShares) (.ref A.NoVotes) = some false
  u_NoShares_ShareError : PySem.W.subIn K (.ref A.NoShares) (.ref A.ShareError) = some true
  u_NoShares_TooMany : PySem.W.subIn K (.ref A.NoShares) (.ref A.TooMany) = some false
  u_NoShares_Unlike : PySem.W.subIn K (.ref A.NoShares) (.ref A.Unlike) = some false
  v_NoShares : PySem.W.subIn K (.ref A.NoShares) (.type "ValueError") = some true
  h_NoShares_ShareError : PySem.W.exmOne K (.ref A.NoShares) (.ref A.ShareError) = some true
  c_MOST : mg "MOST" = some (.int 6 A.t_MOST)
  z_ValueError : mg "ValueError" = none
  z_abs : mg "abs" = none
  z_bool : mg "bool" = none
  z_int : mg "int" = none
  z_isinstance : mg "isinstance" = none
  z_len : mg "len" = none
  z_list : mg "list" = none
  z_max : mg "max" = none
  z_range : mg "range" = none
  z_sum : mg "sum" = none
  z_tuple : mg "tuple" = none
  z_zip : mg "zip" = none
local macro_rules | `(tactic| walk_at "x") => `(tactic| repeat (first
  | with_reducible refine x_seq ?_ | with_reducible refine x_asg ?_ | with_reducible refine x_op ?_ | with_reducible refine x_un ?_ | ((with_reducible refine' x_var ?e ?_); (case e => rfl)) | with_reducible refine x_c ?_
  | with_reducible refine x_if ?_ | with_reducible refine x_test ?_ | with_reducible refine x_B ?_ | with_reducible refine x_ex ?_ | with_reducible refine x_exI ?_ | with_reducible refine x_ret ?_ | with_reducible refine x_drop ?_
  | with_reducible refine x_rev ?_ | with_reducible refine x_lstRg1 ?_ | with_reducible refine x_dIn ?_ | with_reducible refine x_dPut ?_ | with_reducible refine x_dNew ?_ | with_reducible refine x_par ?_ | with_reducible refine x_call ?_ | with_reducible refine x_callS ?_ | with_reducible refine x_cons ?_ | with_reducible refine x_nil ?_ | with_reducible refine x_cb ?_
  | with_reducible refine x_addI ?_ | with_reducible refine x_subI ?_ | with_reducible refine x_ltI ?_ | with_reducible refine x_leI ?_ | with_reducible refine x_gtI ?_ | with_reducible refine x_geI ?_ | with_reducible refine x_eqI ?_ | with_reducible refine x_neI ?_
  | with_reducible refine x_eqS ?_ | with_reducible refine x_eqB ?_ | with_reducible refine x_isX ?_ | with_reducible refine x_isN ?_ | with_reducible refine x_notN ?_ | with_reducible refine x_ipI ?_
  | with_reducible refine x_andI ?_ | with_reducible refine x_orI ?_ | with_reducible refine x_xorI ?_ | with_reducible refine x_U ?_
  | with_reducible refine x_and ?_ | with_reducible refine x_or ?_ | with_reducible refine x_not ?_ | with_reducible refine x_andV ?_ | with_reducible refine x_orV ?_ | with_reducible refine x_notV ?_ | with_reducible refine x_ifE ?_
  | with_reducible refine x_for ?_ | with_reducible refine x_iList ?_ | with_reducible refine x_iTup ?_ | with_reducible refine x_iR1 ?_ | with_reducible refine x_iR2 ?_ | with_reducible refine x_iZip ?_ | with_reducible refine x_iEnum ?_ | with_reducible refine x_iR3 ?_
  | with_reducible refine x_sl ?_ | with_reducible refine x_noPart ?_ | with_reducible refine x_part ?_ | with_reducible refine x_asgS ?_ | with_reducible refine x_augS ?_ | ((with_reducible refine' x_aug ?e ?_); (case e => rfl))
  | with_reducible refine x_bm ?_ | with_reducible refine x_bm0 ?_ | with_reducible refine x_tup ?_ | with_reducible refine x_lst ?_ | with_reducible refine x_next ?_ | with_reducible refine x_retN ?_ | with_reducible refine x_brk ?_ | with_reducible refine x_ct ?_
  | with_reducible refine x_lc ?_ | with_reducible refine x_yes ?_ | with_reducible refine x_gn ?_ | with_reducible refine x_gc ?_ | with_reducible refine x_g0 ?_ | with_reducible refine x_abs ?_ | with_reducible refine x_max2 ?_ | with_reducible refine x_min2 ?_))
local macro_rules | `(tactic| walk_at "sq") => `(tactic| first
  | assumption | exact .inl (by assumption) | exact Own.sq (by assumption) 0 rfl | exact Own.sq (by assumption) 1 rfl | exact Own.sq (by assumption) 2 rfl | exact Own.sq (by assumption) 3 rfl
  | exact Own.seq (by assumption) (by first | assumption | exact .inl (by assumption)))
section
variable {P : Program} {w : World} {K : PySem.W.Frag} {mg : Str → Option Value} {base : Heap} {A : Ads}
/-! ### is_whole -/
def sp_is_whole : Sp := fun vs H Q _ => ∃ v, vs = [v] ∧ Thing H v ∧ RetV (.bl (isI v)) H Q
theorem ok_is_whole (T : Txt K mg A) : FnOk P w K mg base (L2.CX P w) 1 A.a_is_whole A.d_is_whole ["thing"] sp_is_whole := by
  refine T.F_is_whole.okX sc_is_whole (fun vs H Q E h => ?_) (fun cdv A0 outer s H vs Q E hr h => ?_)
  · obtain ⟨v, rfl, _⟩ := h; rfl
  · obtain ⟨v, rfl, hv, k⟩ := h
    refine ⟨_, (pss_cons (ps_if (PW.pt (pw_or (pt_cmpR op_isX (pv 0) pe_bl (nomark _)) (pw_or1 (pt_cmpR op_isX (pv 0) pe_bl (nomark _))))) (pss_one (ps_ret pe_bl)) pss_nil)
      (pss_one (ps_ret (pe_callB (call_isiX (K := K) rfl) (by rfl) T.z_isinstance (by decide +kernel) (pa_cons (pv 0) (pa_cons (pe_bltn (v := .ty "int") (by rfl) T.z_int (by decide +kernel) rfl) pa_nil)))))), ?_⟩
    walk_at "x"
    have go : isB v = false → rIsi K [v, .ty "int"] H Q := fun e => x_isiInt hv (by rw [e, Bool.or_false]; exact k.go (Same.refl H))
    cases v with
    | bl b =>
      cases b
      · refine iteF ?_
        walk_at "x"
        exact iteT (k.go (Same.refl H))
      · exact iteT (iteT (k.go (Same.refl H)))
    | _ =>
      refine iteF ?_
      walk_at "x"
      refine iteF ?_
      walk_at "x"
      exact go rfl

/-! ### divisor -/
def sp_divisor : Sp := fun vs H Q _ => ∃ (a b : Int) (B : Nat), vs = [.int a, .int b] ∧ Bits B a b ∧ RetV (.int (gcdI a b)) H Q
theorem bigs {n B : Nat} (h : n ≤ 2 * B + 3) (hB : B ≤ 9000) : n < sizeLine := Nat.lt_of_le_of_lt (show n ≤ 18003 by omega) (by decide)
theorem ok_divisor (T : Txt K mg A) : FnOk P w K mg base (L2.CX P w) 1 A.a_divisor A.d_divisor ["one", "other"] sp_divisor := by
  refine T.F_divisor.okX sc_divisor (fun vs H Q E h => ?_) (fun cdv A0 outer s H vs Q E hr h => ?_)
  · obtain ⟨a, b, B, rfl, _⟩ := h; rfl
  · obtain ⟨a, b, B, rfl, ⟨hB, ha, hb⟩, k⟩ := h
    have w := Own.start (H := H)
    refine ⟨_, (pss_cons (ps_set (i := 2) sc_divisor.nd rfl (.inl rfl) (pe_lst (pa_cons (pe_callB call_absX (by rfl) T.z_abs (by decide +kernel) (pa_cons (pv 0) pa_nil)) (pa_cons (pe_callB call_absX (by rfl) T.z_abs (by decide +kernel) (pa_cons (pv 1) pa_nil)) pa_nil))))
      (pss_cons (ps_while (passes_of rfl) (pt_cmpR (op_neK (K := K) rfl hr.units) (pe_ix (ix_seqK (K := K) rfl) (pv 2) (pe_un un_neg pe_int) (fun _ _ => rfl)) pe_int (nomark _)) (pss_one (ps_expr (pe_bm PySem.F.plainAttrs_list PySem.F.slot_list_append PySem.F.type_list_append mt_append (pv 2) (pa_cons (pe_op op_modX (pe_ix (ix_seqK (K := K) rfl) (pv 2) (pe_un un_neg pe_int) (fun _ _ => rfl)) (pe_ix (ix_seqK (K := K) rfl) (pv 2) (pe_un un_neg pe_int) (fun _ _ => rfl))) pa_nil)))))
      (pss_one (ps_ret (pe_ix (ix_seqK (K := K) rfl) (pv 2) (pe_un un_neg pe_int) (fun _ _ => rfl)))))), ?_⟩
    walk_at "x"
    rw [abs_nat, abs_nat]
    refine ⟨(by show 2 ≤ sizeLine; decide), fun p np => ?_⟩
    have w1 := w.new (o := .lst ([a.natAbs, b.natAbs].map vnat)) np
    walk_at "x"
    -- the first rest
    refine x_while (fun m σ' H' => ∃ (l : List Nat) (x y j : Nat), σ' = [some (.int a), some (.int b), some (.ref p)] ∧ Own H [(p, .lst ((l ++ [x, y]).map vnat))] H' ∧ m = y ∧ Nat.gcd x y = Int.gcd a b ∧
      ((l = [] ∧ x < 2 ^ B ∧ y < 2 ^ B) ∨ (y ≤ x ∧ x * y < 2 ^ j ∧ l.length + j ≤ 2 * B + 1))) b.natAbs ⟨[], a.natAbs, b.natAbs, 0, rfl, w1, rfl, rfl, .inl ⟨rfl, ha, hb⟩⟩ ?_
    rintro m σ' H' ⟨l, x, y, j, rfl, w2, rfl, hg, hinv⟩
    obtain ⟨e1, e2⟩ := last2 l x m
    walk_at "x"
    refine x_ixXL (w2.sq 0 rfl) e1 ?_
    walk_at "x"
    cases m with
    | zero =>
      refine iteF ?_
      walk_at "x"
      refine x_ixXL (w2.sq 0 rfl) e2 ?_
      have : gcdI a b = (x : Int) := by unfold gcdI; rw [← hg, Nat.gcd_zero_right]
      rw [this] at k
      exact k.go w2.ex
    | succ m =>
      refine iteT ?_
      refine x_N ?_
      walk_at "x"
      refine ⟨x_tyL (w2.get 0 rfl), ?_⟩
      walk_at "x"
      refine x_ixXL (w2.sq 0 rfl) e2 ?_
      walk_at "x"
      refine x_ixXL (w2.sq 0 rfl) e1 ?_
      refine x_modP (by omega) ?_
      walk_at "x"
      rw [show (x : Int) % ((m + 1 : Nat) : Int) = ((x % (m + 1) : Nat) : Int) from rfl]
      have next : x % (m + 1) < m + 1 := Nat.mod_lt _ (Nat.succ_pos m)
      refine x_append (w2.get 0 rfl) ?_ ?_
      · rw [List.length_map, List.length_append]
        refine bigs (B := B) ?_ hB
        show l.length + 2 ≤ _
        rcases hinv with ⟨rfl, _, _⟩ | ⟨_, _, h⟩
        · show 0 + 2 ≤ _; omega
        · omega
      · have w3 := w2.put (o' := .lst (((l ++ [x]) ++ [m + 1, x % (m + 1)]).map vnat)) 0 rfl
        have el : ((l ++ [x]) ++ [m + 1, x % (m + 1)]).map vnat = (l ++ [x, m + 1]).map vnat ++ [vnat (x % (m + 1))] := by simp
        rw [el] at w3
        have step : ∀ j', l.length + 1 + j' ≤ 2 * B + 1 → (m + 1) * (x % (m + 1)) < 2 ^ j' → ∃ m', m' < m + 1 ∧ ∃ (l' : List Nat) (x' y' j : Nat), [some (V.int a), some (.int b), some (.ref p)] = [some (.int a), some (.int b), some (.ref p)] ∧ Own H [(p, .lst ((l' ++ [x', y']).map vnat))] (upd H' p (.lst ((l ++ [x, m + 1]).map vnat ++ [vnat (x % (m + 1))]))) ∧ m' = y' ∧ Nat.gcd x' y' = Int.gcd a b ∧
          ((l' = [] ∧ x' < 2 ^ B ∧ y' < 2 ^ B) ∨ (y' ≤ x' ∧ x' * y' < 2 ^ j ∧ l'.length + j ≤ 2 * B + 1)) := fun j' h1 h2 =>
          ⟨_, next, l ++ [x], m + 1, x % (m + 1), j', rfl, by rw [el]; exact w3, rfl, by rw [gcd_step, hg], .inr ⟨Nat.le_of_lt next, h2, by rw [List.length_append]; exact h1⟩⟩
        rcases hinv with ⟨rfl, hx, hy⟩ | ⟨hyx, hxy, hj⟩
        · refine step (2 * B) (by show 0 + 1 + 2 * B ≤ _; omega) ?_
          rw [show 2 * B = B + B by omega, Nat.pow_add]
          exact Nat.mul_lt_mul'' hy (Nat.lt_of_le_of_lt (Nat.mod_le _ _) hx)
        · obtain ⟨h1, h2⟩ := halve (Nat.succ_pos m) hyx hxy
          exact step (j - 1) (by omega) h1

/-! ### bottom_of_both -/
def sp_bottom_of_both (K : PySem.W.Frag) : Sp := fun vs H Q _ => ∃ (a b : Addr) (f g : Int × Int) (B : Nat), vs = [.ref a, .ref b] ∧ Rd H a (.tup (frV f)) ∧ Rd H b (.tup (frV g)) ∧ Bits B f.2 g.2 ∧ 0 < f.2 ∧ 0 < g.2 ∧ RetV (.int (f.2 / gcdI f.2 g.2 * g.2)) H Q
theorem ok_bottom_of_both (T : Txt K mg A) : FnOk P w K mg base (L2.CX P w) 2 A.a_bottom_of_both A.d_bottom_of_both ["one", "other"] (sp_bottom_of_both K) := by
  refine T.F_bottom_of_both.okX sc_bottom_of_both (fun vs H Q E h => ?_) (fun cdv A0 outer s H vs Q E hr h => ?_)
  · obtain ⟨a, b, f, g, B, rfl, _⟩ := h; rfl
  · obtain ⟨a, b, f, g, B, rfl, hA, hB, hb, h1, h2, k⟩ := h
    have w := Own.start (H := H)
    have hg : 0 < gcdI f.2 g.2 := by have := gcd_pos (a := f.2) (show g.2 ≠ 0 by omega); unfold gcdI; omega
    have hl := gcd_log (show g.2 ≠ 0 by omega) hb
    have hB0 : 0 < B := Nat.pos_of_ne_zero fun e => by obtain ⟨_, _, h3⟩ := hb; rw [e, Nat.pow_zero] at h3; omega
    refine ⟨_, (pss_one (ps_ret (pe_op op_mulX (pe_op op_fdivX (pe_ix (ix_seqK (K := K) rfl) (pv 0) pe_int (fun _ _ => rfl)) (pe_call (ok_divisor T) (hr.mono (by decide)) (by rfl) T.g_divisor T.F_divisor.kp T.b_divisor .nil (passes_call (takes_of rfl rfl rfl rfl) (fun _ _ _ _ h => h)) (pa_cons (pe_ix (ix_seqK (K := K) rfl) (pv 0) pe_int (fun _ _ => rfl)) (pa_cons (pe_ix (ix_seqK (K := K) rfl) (pv 1) pe_int (fun _ _ => rfl)) pa_nil)))) (pe_ix (ix_seqK (K := K) rfl) (pv 1) pe_int (fun _ _ => rfl))))), ?_⟩
    walk_at "x"
    refine x_ixXT (.inl hA) (v := .int f.2) rfl ?_
    walk_at "x"
    refine x_ixXT (.inl hA) (v := .int f.2) rfl ?_
    walk_at "x"
    refine x_ixXT (.inl hB) (v := .int g.2) rfl ?_
    walk_at "x"
    refine ⟨f.2, g.2, B, rfl, hb, fun H1 s1 => ?_⟩
    walk_at "x"
    refine x_divP hg hl ?_
    walk_at "x"
    refine x_ixXT (.inl (rd_same s1 hB)) (v := .int g.2) rfl ?_
    refine x_mulI (mulok (Nat.lt_of_le_of_lt (Int.natAbs_ediv_le_natAbs _ _) hb.2.1) hb.2.2 hB0 hB0 (by have := hb.1; omega)) ?_
    exact k.go s1

/-! ### shortest -/
def sp_shortest : Sp := fun vs H Q _ => ∃ (a b : Int) (B : Nat), vs = [.int a, .int b] ∧ Bits B a b ∧ b ≠ 0 ∧ RetT [.int (shortM a b).1, .int (shortM a b).2] H Q
theorem ok_shortest (T : Txt K mg A) : FnOk P w K mg base (L2.CX P w) 2 A.a_shortest A.d_shortest ["top", "bottom"] sp_shortest := by
  refine T.F_shortest.okX sc_shortest (fun vs H Q E h => ?_) (fun cdv A0 outer s H vs Q E hr h => ?_)
  · obtain ⟨a, b, B, rfl, _⟩ := h; rfl
  · obtain ⟨a, b, B, rfl, hB, h0, k⟩ := h
    have w := Own.start (H := H)
    have hg : 0 < gcdI a b := by have := gcd_pos (a := a) h0; unfold gcdI; omega
    have hl := gcd_log h0 hB
    refine ⟨_, (pss_cons (ps_set (i := 2) sc_shortest.nd rfl (.inl rfl) (pe_call (ok_divisor T) (hr.mono (by decide)) (by rfl) T.g_divisor T.F_divisor.kp T.b_divisor .nil (passes_call (takes_of rfl rfl rfl rfl) (fun _ _ _ _ h => h)) (pa_cons (pv 0) (pa_cons (pv 1) pa_nil))))
      (pss_cons (ps_if (pt_cmpR op_gtX (pv 1) pe_int (nomark _)) (pss_one (ps_ret (pe_tup (pa_cons (pe_op op_fdivX (pv 0) (pv 2)) (pa_cons (pe_op op_fdivX (pv 1) (pv 2)) pa_nil))))) pss_nil)
      (pss_one (ps_ret (pe_tup (pa_cons (pe_op op_subX pe_int (pe_op op_fdivX (pv 0) (pv 2))) (pa_cons (pe_op op_subX pe_int (pe_op op_fdivX (pv 1) (pv 2))) pa_nil))))))), ?_⟩
    walk_at "x"
    refine ⟨a, b, B, rfl, hB, fun H1 s1 => ?_⟩
    have w1 := w.ext s1
    unfold shortM at k
    walk_at "x"
    refine ite2 (fun c => ?_) (fun c => ?_)
    · rw [if_pos (of_decide_eq_true c)] at k
      walk_at "x"
      refine x_divP hg hl ?_
      walk_at "x"
      refine x_divP hg hl ?_
      refine ⟨(by show 2 ≤ sizeLine; decide), fun p np => ?_⟩
      exact k.go (w1.new (o := .tup [.int (a / gcdI a b), .int (b / gcdI a b)]) np)
    · rw [if_neg (fun h => c (decide_eq_true h))] at k
      walk_at "x"
      refine x_divP hg hl ?_
      walk_at "x"
      refine x_divP hg hl ?_
      walk_at "x"
      refine ⟨(by show 2 ≤ sizeLine; decide), fun p np => ?_⟩
      exact k.go (w1.new (o := .tup [.int (0 - a / gcdI a b), .int (0 - b / gcdI a b)]) np)

/-! ### is_fraction -/
def sp_is_fraction : Sp := fun vs H Q _ => ∃ (v : V) (b : Bool), vs = [v] ∧ FrT H v b ∧ RetV (.bl b) H Q
theorem ok_is_fraction (T : Txt K mg A) : FnOk P w K mg base (L2.CX P w) 2 A.a_is_fraction A.d_is_fraction ["thing"] sp_is_fraction := by
  refine T.F_is_fraction.okX sc_is_fraction (fun vs H Q E h => ?_) (fun cdv A0 outer s H vs Q E hr h => ?_)
  · obtain ⟨v, b, rfl, _⟩ := h; rfl
  · obtain ⟨v, b, rfl, hF, k⟩ := h
    have w := Own.start (H := H)
    refine ⟨_, (pss_cons (ps_if (PW.pt (pw_or (pt_not (pt_val (pe_callB (call_isiX (K := K) rfl) (by rfl) T.z_isinstance (by decide +kernel) (pa_cons (pv 0) (pa_cons (pe_bltn (v := .ty "tuple") (by rfl) T.z_tuple (by decide +kernel) rfl) pa_nil))))) (pw_or1 (pt_cmpR (op_neK (K := K) rfl hr.units) (pe_callB (call_lenK (K := K) rfl) (by rfl) T.z_len (by decide +kernel) (pa_cons (pv 0) pa_nil)) pe_int (nomark _))))) (pss_one (ps_ret pe_bl)) pss_nil)
      (pss_cons (ps_asg (pv 0) (pg_tupK (K := K) (n := 2) rfl rfl (pgs_cons (pg_name (i := 1) sc_is_fraction.nd rfl (.inl rfl)) (pgs_cons (pg_name (i := 2) sc_is_fraction.nd rfl (.inl rfl)) pgs_nil))))
      (pss_one (ps_ret (pe_and (pe_call (ok_is_whole T) (hr.mono (by decide)) (by rfl) T.g_is_whole T.F_is_whole.kp T.b_is_whole .nil (passes_call (takes_of rfl rfl rfl rfl) (fun _ _ _ _ h => h)) (pa_cons (pv 1) pa_nil)) (pe_and (pe_call (ok_is_whole T) (hr.mono (by decide)) (by rfl) T.g_is_whole T.F_is_whole.kp T.b_is_whole .nil (passes_call (takes_of rfl rfl rfl rfl) (fun _ _ _ _ h => h)) (pa_cons (pv 2) pa_nil)) (pe_and (pe_cmpR op_geX (pv 2) pe_int (nomark _)) (pe_one (pe_cmpR (op_eqK (K := K) rfl hr.units) (pe_call (ok_divisor T) (hr.mono (by decide)) (by rfl) T.g_divisor T.F_divisor.kp T.b_divisor .nil (passes_call (takes_of rfl rfl rfl rfl) (fun _ _ _ _ h => h)) (pa_cons (pv 1) (pa_cons (pv 2) pa_nil))) pe_int (nomark _)))))))))), ?_⟩
    walk_at "x"
    cases hF with
    | no h n =>
      refine x_isiTupN h n ?_
      walk_at "x"
      refine iteT ?_
      walk_at "x"
      exact k.go w.ex
    | len h n =>
      refine x_isiTupT h ?_
      walk_at "x"
      refine iteF ?_
      walk_at "x"
      refine x_lenT (.inl h) ?_
      walk_at "x"
      rw [decide_eq_false (by omega)]
      refine iteT ?_
      walk_at "x"
      exact k.go w.ex
    | two h hx hy n =>
      refine x_isiTupT h ?_
      walk_at "x"
      refine iteF ?_
      walk_at "x"
      refine x_lenT (.inl h) ?_
      walk_at "x"
      refine iteF ?_
      walk_at "x"
      refine x_asgT ?_
      walk_at "x"
      refine x_gt (.inl h) rfl ?_
      walk_at "x"
      refine ⟨_, rfl, hx, fun H1 s1 => ?_⟩
      have w1 := w.ext s1
      refine ⟨_, rfl, ?_⟩
      rename_i x y
      cases cx : isI x with
      | false => exact iteF (k.go w1.ex)
      | true =>
        refine iteT ?_
        walk_at "x"
        refine ⟨_, rfl, hy.same s1, fun H2 s2 => ?_⟩
        have w2 := w1.ext s2
        refine ⟨_, rfl, ?_⟩
        have cy : isI y = false := n.resolve_left (by rw [cx]; exact Bool.noConfusion)
        rw [cy]
        exact iteF (k.go w2.ex)
    | num h hB =>
      rename_i p q B
      refine x_isiTupT h ?_
      walk_at "x"
      refine iteF ?_
      walk_at "x"
      refine x_lenT (.inl h) ?_
      walk_at "x"
      refine iteF ?_
      walk_at "x"
      refine x_asgT ?_
      walk_at "x"
      refine x_gt (.inl h) rfl ?_
      walk_at "x"
      refine ⟨_, rfl, .int _, fun H1 s1 => ?_⟩
      have w1 := w.ext s1
      refine ⟨true, rfl, iteT ?_⟩
      walk_at "x"
      refine ⟨_, rfl, .int _, fun H2 s2 => ?_⟩
      have w2 := w1.ext s2
      refine ⟨true, rfl, iteT ?_⟩
      walk_at "x"
      cases c : decide (1 ≤ q) with
      | false =>
        rw [c] at k
        exact iteF (k.go w2.ex)
      | true =>
        rw [c, Bool.true_and] at k
        refine iteT ?_
        walk_at "x"
        refine ⟨p, q, _, rfl, hB, fun H3 s3 => ?_⟩
        have w3 := w2.ext s3
        walk_at "x"
        have e : decide (gcdI p q = 1) = decide (Int.gcd p q = 1) := decide_eq_decide.mpr (by unfold gcdI; omega)
        rw [e]
        exact k.go w3.ex

/-! ### plus -/
def sp_plus (K : PySem.W.Frag) : Sp := fun vs H Q _ => ∃ (a b : Addr) (f g : Int × Int) (B : Nat), vs = [.ref a, .ref b] ∧ Rd H a (.tup (frV f)) ∧ Rd H b (.tup (frV g)) ∧ Fb B f ∧ Fb B g ∧ 2 * B + 1 ≤ 9000 ∧ RetT (frV (plusF f g)) H Q
theorem ok_plus (T : Txt K mg A) : FnOk P w K mg base (L2.CX P w) 3 A.a_plus A.d_plus ["one", "other"] (sp_plus K) := by
  refine T.F_plus.okX sc_plus (fun vs H Q E h => ?_) (fun cdv A0 outer s H vs Q E hr h => ?_)
  · obtain ⟨a, b, f, g, B, rfl, _⟩ := h; rfl
  · obtain ⟨a, b, f, g, B, rfl, hA, hG, hf, hg, hB, k⟩ := h
    have w := Own.start (H := H)
    obtain ⟨el, nl⟩ := plus_low hf.2.2 hg.2.2
    obtain ⟨u, v, hu, hv, e1, e2, ul, vl⟩ := low_is hf.2.2 hg.2.2
    have hp := hf.pos
    have d1 : f.2 / gcdI f.2 g.2 * g.2 / f.2 = v := by rw [e1]; exact Int.mul_ediv_cancel_left _ (by have := hf.2.2; omega)
    have d2 : f.2 / gcdI f.2 g.2 * g.2 / g.2 = u := by rw [e2]; exact Int.mul_ediv_cancel_left _ (by have := hg.2.2; omega)
    have bv : v.natAbs < 2 ^ B := by have := hg.2.1; have := hg.2.2; omega
    have bu : u.natAbs < 2 ^ B := by have := hf.2.1; have := hf.2.2; omega
    have bl : (f.2 / gcdI f.2 g.2 * g.2).natAbs < 2 ^ (2 * B + 1) := by
      rw [e1]
      have := mul_lt hf.2.1 bv
      exact Nat.lt_of_lt_of_le this (Nat.pow_le_pow_right (by decide) (by omega))
    have bt : (v * f.1 + u * g.1).natAbs < 2 ^ (2 * B + 1) := by
      have m1 := mul_lt bv hf.1
      have m2 := mul_lt bu hg.1
      have m3 := Int.natAbs_add_le (v * f.1) (u * g.1)
      rw [Nat.pow_succ, show 2 * B = B + B by omega]
      omega
    rw [d1, d2] at el
    refine ⟨_, (pss_cons (ps_set (i := 2) sc_plus.nd rfl (.inl rfl) (pe_call (ok_bottom_of_both T) (hr.mono (by decide)) (by rfl) T.g_bottom_of_both T.F_bottom_of_both.kp T.b_bottom_of_both .nil (passes_call (takes_of rfl rfl rfl rfl) (fun _ _ _ _ h => h)) (pa_cons (pv 0) (pa_cons (pv 1) pa_nil))))
      (pss_one (ps_ret (pe_call (ok_shortest T) (hr.mono (by decide)) (by rfl) T.g_shortest T.F_shortest.kp T.b_shortest .nil (passes_call (takes_of rfl rfl rfl rfl) (fun _ _ _ _ h => h)) (pa_cons (pe_op op_addX (pe_op op_mulX (pe_op op_fdivX (pv 2) (pe_ix (ix_seqK (K := K) rfl) (pv 0) pe_int (fun _ _ => rfl))) (pe_ix (ix_seqK (K := K) rfl) (pv 0) pe_int (fun _ _ => rfl))) (pe_op op_mulX (pe_op op_fdivX (pv 2) (pe_ix (ix_seqK (K := K) rfl) (pv 1) pe_int (fun _ _ => rfl))) (pe_ix (ix_seqK (K := K) rfl) (pv 1) pe_int (fun _ _ => rfl)))) (pa_cons (pv 2) pa_nil)))))), ?_⟩
    walk_at "x"
    refine ⟨a, b, f, g, B, rfl, hA, hG, ⟨by omega, hf.2.1, hg.2.1⟩, hf.2.2, hg.2.2, fun H1 s1 => ?_⟩
    have hA := rd_same s1 hA
    have hG := rd_same s1 hG
    generalize f.2 / gcdI f.2 g.2 * g.2 = low at *
    walk_at "x"
    refine x_ixXT (.inl hA) (v := .int f.2) rfl ?_
    refine x_divP hf.2.2 (log_of hf.2.2 hf.2.1 (by omega)) ?_
    rw [d1]
    walk_at "x"
    refine x_ixXT (.inl hA) (v := .int f.1) rfl ?_
    refine x_mulI (mulok bv hf.1 hp hp (by omega)) ?_
    walk_at "x"
    refine x_ixXT (.inl hG) (v := .int g.2) rfl ?_
    refine x_divP hg.2.2 (log_of hg.2.2 hg.2.1 (by omega)) ?_
    rw [d2]
    walk_at "x"
    refine x_ixXT (.inl hG) (v := .int g.1) rfl ?_
    refine x_mulI (mulok bu hg.1 hp hp (by omega)) ?_
    walk_at "x"
    refine ⟨_, _, 2 * B + 1, rfl, ⟨hB, bt, bl⟩, nl, ?_⟩
    rw [el]
    exact fun p H2 n2 s2 c2 => k p H2 (s1.free n2) (s1.trans s2) c2

/-! ### under -/
def sp_under (K : PySem.W.Frag) : Sp := fun vs H Q _ => ∃ (a b : Addr) (f g : Int × Int) (B : Nat), vs = [.ref a, .ref b] ∧ Rd H a (.tup (frV f)) ∧ Rd H b (.tup (frV g)) ∧ Fb B f ∧ Fb B g ∧ 2 * B + 1 ≤ 9000 ∧ RetV (.bl (decide (f.1 * g.2 < g.1 * f.2))) H Q
theorem under_low {f g : Int × Int} {u v : Int} (h1 : 0 < f.2) (h2 : 0 < g.2) (hu : 0 < u) (e : f.2 * v = g.2 * u) : (v * f.1 < u * g.1) ↔ (f.1 * g.2 < g.1 * f.2) := by
  have a1 : u * (f.1 * g.2) = f.2 * (v * f.1) := by
    have : u * (f.1 * g.2) = f.1 * (g.2 * u) := by ac_rfl
    rw [this, ← e]; ac_rfl
  have a2 : u * (g.1 * f.2) = f.2 * (u * g.1) := by ac_rfl
  constructor
  · intro h
    have h3 : f.2 * (v * f.1) < f.2 * (u * g.1) := Int.mul_lt_mul_of_pos_left h h1
    rw [← a1, ← a2] at h3
    exact Int.lt_of_mul_lt_mul_left h3 (by omega)
  · intro h
    have h3 : u * (f.1 * g.2) < u * (g.1 * f.2) := Int.mul_lt_mul_of_pos_left h hu
    rw [a1, a2] at h3
    exact Int.lt_of_mul_lt_mul_left h3 (by omega)
theorem ok_under (T : Txt K mg A) : FnOk P w K mg base (L2.CX P w) 3 A.a_under A.d_under ["one", "other"] (sp_under K) := by
  refine T.F_under.okX sc_under (fun vs H Q E h => ?_) (fun cdv A0 outer s H vs Q E hr h => ?_)
  · obtain ⟨a, b, f, g, B, rfl, _⟩ := h; rfl
  · obtain ⟨a, b, f, g, B, rfl, hA, hG, hf, hg, hB, k⟩ := h
    have w := Own.start (H := H)
    obtain ⟨u, v, hu, hv, e1, e2, ul, vl⟩ := low_is hf.2.2 hg.2.2
    have hp : 0 < B := Nat.pos_of_ne_zero fun e => by
      obtain ⟨_, h2, h3⟩ := hf
      rw [e, Nat.pow_zero] at h2; omega
    have d1 : f.2 / gcdI f.2 g.2 * g.2 / f.2 = v := by rw [e1]; exact Int.mul_ediv_cancel_left _ (by have := hf.2.2; omega)
    have d2 : f.2 / gcdI f.2 g.2 * g.2 / g.2 = u := by rw [e2]; exact Int.mul_ediv_cancel_left _ (by have := hg.2.2; omega)
    have bv : v.natAbs < 2 ^ B := by have := hg.2.1; have := hg.2.2; omega
    have bu : u.natAbs < 2 ^ B := by have := hf.2.1; have := hf.2.2; omega
    have un := under_low (f := f) (g := g) hf.2.2 hg.2.2 hu (e1.symm.trans e2)
    refine ⟨_, (pss_cons (ps_set (i := 2) sc_under.nd rfl (.inl rfl) (pe_call (ok_bottom_of_both T) (hr.mono (by decide)) (by rfl) T.g_bottom_of_both T.F_bottom_of_both.kp T.b_bottom_of_both .nil (passes_call (takes_of rfl rfl rfl rfl) (fun _ _ _ _ h => h)) (pa_cons (pv 0) (pa_cons (pv 1) pa_nil))))
      (pss_one (ps_ret (pe_cmpR op_ltX (pe_op op_mulX (pe_op op_fdivX (pv 2) (pe_ix (ix_seqK (K := K) rfl) (pv 0) pe_int (fun _ _ => rfl))) (pe_ix (ix_seqK (K := K) rfl) (pv 0) pe_int (fun _ _ => rfl))) (pe_op op_mulX (pe_op op_fdivX (pv 2) (pe_ix (ix_seqK (K := K) rfl) (pv 1) pe_int (fun _ _ => rfl))) (pe_ix (ix_seqK (K := K) rfl) (pv 1) pe_int (fun _ _ => rfl))) (nomark _))))), ?_⟩
    walk_at "x"
    refine ⟨a, b, f, g, B, rfl, hA, hG, ⟨by omega, hf.2.1, hg.2.1⟩, hf.2.2, hg.2.2, fun H1 s1 => ?_⟩
    have hA := rd_same s1 hA
    have hG := rd_same s1 hG
    generalize f.2 / gcdI f.2 g.2 * g.2 = low at *
    walk_at "x"
    refine x_ixXT (.inl hA) (v := .int f.2) rfl ?_
    refine x_divP hf.2.2 (log_of hf.2.2 hf.2.1 (by omega)) ?_
    rw [d1]
    walk_at "x"
    refine x_ixXT (.inl hA) (v := .int f.1) rfl ?_
    refine x_mulI (mulok bv hf.1 hp hp (by omega)) ?_
    walk_at "x"
    refine x_ixXT (.inl hG) (v := .int g.2) rfl ?_
    refine x_divP hg.2.2 (log_of hg.2.2 hg.2.1 (by omega)) ?_
    rw [d2]
    walk_at "x"
    refine x_ixXT (.inl hG) (v := .int g.1) rfl ?_
    refine x_mulI (mulok bu hg.1 hp hp (by omega)) ?_
    walk_at "x"
    rw [decide_eq_decide.mpr un]
    exact k.go s1

/-! ### look -/
def sp_look (A : Ads) : Sp := fun vs H Q E => ∃ (a : Addr) (xs : List V), vs = [.ref a] ∧ Rd H a (.lst xs) ∧ (∀ v ∈ xs, Thing H v) ∧
  (∀ n, lookM xs = some n → RetV (.int n) H Q) ∧ (lookM xs = none → ∀ H', Same H H' → E (.ref A.NoTable) none H')
theorem ok_look (T : Txt K mg A) : FnOk P w K mg base (L2.CX P w) 2 A.a_look A.d_look ["table"] (sp_look A) := by
  refine T.F_look.okX sc_look (fun vs H Q E h => ?_) (fun cdv A0 outer s H vs Q E hr h => ?_)
  · obtain ⟨a, xs, rfl, _⟩ := h; rfl
  · obtain ⟨a, xs, rfl, hR, hT, k, kE⟩ := h
    have hS : SqL K H a xs := .inl hR
    refine ⟨_, (pss_cons (ps_set (i := 1) sc_look.nd rfl (.inl rfl) pe_int)
      (pss_cons (ps_while (passes_of rfl) (PW.pt (pw_and (pt_cmpR op_ltX (pv 1) (pe_glob (v := .int 6) (by rfl) T.c_MOST ⟨_, rfl⟩) (nomark _)) (pw_and1 (pt_cmpR op_ltX (pe_op op_shlX pe_int (pv 1)) (pe_callB (call_lenK (K := K) rfl) (by rfl) T.z_len (by decide +kernel) (pa_cons (pv 0) pa_nil)) (nomark _))))) (pss_one (ps_set (i := 1) sc_look.nd rfl (.inl rfl) (pe_op op_addX (pv 1) pe_int))))
      (pss_cons (ps_if (pt_cmpR (op_neK (K := K) rfl hr.units) (pe_callB (call_lenK (K := K) rfl) (by rfl) T.z_len (by decide +kernel) (pa_cons (pv 0) pa_nil)) (pe_op op_shlX pe_int (pv 1)) (nomark _)) (pss_one (ps_raise rfl (takes_of rfl rfl rfl rfl) (pmk_own PySem.F.excBase_ValueError T.x_NoTable T.g_NoTable T.k_NoTable (raises_own T.e_NoTable T.t_NoTable) (by rfl)))) pss_nil)
      (pss_cons (ps_for (passes_of rfl) rfl (pi_listK (K := K) rfl (pv 0)) (pg_name (i := 2) sc_look.nd rfl (.inl rfl)) (pss_one (ps_if (pt_not (pt_val (pe_call (ok_is_whole T) (hr.mono (by decide)) (by rfl) T.g_is_whole T.F_is_whole.kp T.b_is_whole .nil (passes_call (takes_of rfl rfl rfl rfl) (fun _ _ _ _ h => h)) (pa_cons (pv 2) pa_nil)))) (pss_one (ps_raise rfl (takes_of rfl rfl rfl rfl) (pmk_own PySem.F.excBase_ValueError T.x_NoTable T.g_NoTable T.k_NoTable (raises_own T.e_NoTable T.t_NoTable) (by rfl)))) pss_nil)))
      (pss_cons (ps_if (pt_cmpR (op_neK (K := K) rfl hr.units) (pe_ix (ix_seqK (K := K) rfl) (pv 0) pe_int (fun _ _ => rfl)) pe_int (nomark _)) (pss_one (ps_raise rfl (takes_of rfl rfl rfl rfl) (pmk_own PySem.F.excBase_ValueError T.x_NoTable T.g_NoTable T.k_NoTable (raises_own T.e_NoTable T.t_NoTable) (by rfl)))) pss_nil)
      (pss_one (ps_ret (pv 1)))))))), ?_⟩
    walk_at "x"
    refine x_while (fun m σ' H' => ∃ k : Nat, σ' = [some (.ref a), some (.int k), none] ∧ H' = H ∧ m = 6 - k ∧ 1 ≤ k ∧ k ≤ 6 ∧ (k = 1 ∨ 2 ^ (k - 1) < xs.length)) 5 ⟨1, rfl, rfl, rfl, by decide, by decide, .inl rfl⟩ ?_
    rintro m σ' H' ⟨n, rfl, rfl, rfl, h1, h6, hlo⟩
    have out : (n = 6 ∨ xs.length ≤ 2 ^ n) → manyOf xs.length = n := fun h => manyOf_is h1 h6 hlo h
    walk_at "x"
    -- what stands behind the loop
    have fin : manyOf xs.length = n → tSeq
        (tIfS (tTest (tOp (rNeX K) (tCB (rLen K) (tCons (tVar 0) tNil)) (tOp rShl (tC (V.int 1)) (tVar 1)))) (fun x σ H => E (.ref A.NoTable) none H) tNext) (tSeq
        (tFor (iList K (tVar 0)) (gName 2) (tIfS (tNot (tB (tCall sp_is_whole [] E (tCons (tVar 2) tNil)))) (fun x σ H => E (.ref A.NoTable) none H) tNext)) (tSeq
        (tIfS (tTest (tOp (rNeX K) (tOp (rIx K) (tVar 0) (tC (V.int 0))) (tC (V.int 0)))) (fun x σ H => E (.ref A.NoTable) none H) tNext) (tRet (tVar 1))))
        { nx := fun _ H' => Q .non H', rt := Q } [some (.ref a), some (.int n), none] H' := fun en => by
      have bad' : ∀ H2, Same H' H2 → ¬ (xs.length = 2 ^ manyOf xs.length ∧ xs.all isI = true ∧ xs[0]? = some (.int 0)) → E (.ref A.NoTable) none H2 := fun H2 s2 z => kE (by unfold lookM; rw [if_neg z]) H2 s2
      walk_at "x"
      refine x_lenL hS ?_
      walk_at "x"
      refine x_shl ⟨by omega, by omega, by decide⟩ ?_
      walk_at "x"
      have e1 : (1 : Int) * 2 ^ (n : Int).toNat = ((2 ^ n : Nat) : Int) := by rw [Int.one_mul, Int.toNat_natCast, Int.natCast_pow] <;> rfl
      rw [e1]
      by_cases c1 : xs.length = 2 ^ n
      · rw [decide_eq_true (show (xs.length : Int) = ((2 ^ n : Nat) : Int) by omega)]
        refine iteF ?_
        walk_at "x"
        refine ⟨_, rfl, ⟨_, hS⟩, for_list (xs := xs) (fun i σ' H2 => (∃ v, σ' = [some (.ref a), some (.int n), v]) ∧ Same H' H2 ∧ (xs.take i).all isI = true) ⟨⟨_, rfl⟩, Same.refl _, rfl⟩ (fun i σ' H2 _ p => p.2.1.seq hS) ?_ ?_⟩
        · rintro i x σ' H2 hx ⟨⟨v, rfl⟩, s2, p⟩
          have hxm := List.mem_of_getElem? hx
          walk_at "x"
          refine ⟨x, rfl, (hT x hxm).same s2, fun H3 s3 => ?_⟩
          walk_at "x"
          cases hI : isI x with
          | false =>
            refine iteT (bad' H3 (s2.trans s3) fun z => ?_)
            have := List.all_eq_true.mp z.2.1 x hxm
            rw [hI] at this; cases this
          | true =>
            refine iteF ?_
            walk_at "x"
            refine ⟨⟨_, rfl⟩, s2.trans s3, ?_⟩
            rw [List.take_add_one, hx, List.all_append, p]
            simp [hI]
        · rintro σ' H2 ⟨⟨v, rfl⟩, s2, p⟩
          rw [List.take_length] at p
          walk_at "x"
          have h0 : 0 < xs.length := by rw [c1]; exact Nat.two_pow_pos n
          have hI := List.all_eq_true.mp p xs[0] (List.getElem_mem h0)
          obtain ⟨z, hz⟩ : ∃ z, xs[0] = .int z := by
            cases e : xs[0] with
            | int z => exact ⟨z, rfl⟩
            | _ => rw [e] at hI; cases hI
          have h0' : xs[0]? = some (.int z) := by rw [List.getElem?_eq_getElem h0, hz]
          refine x_ixXL (s2.seq hS) (atI_nat (j := 0) h0') ?_
          walk_at "x"
          by_cases ez : z = 0
          · rw [decide_eq_true ez]
            refine iteF ?_
            walk_at "x"
            refine k n (by unfold lookM; rw [en, if_pos ⟨c1, p, by rw [h0', ez]⟩]) _ s2
          · rw [decide_eq_false ez]
            refine iteT (bad' H2 s2 fun y => ez ?_)
            rw [h0'] at y
            exact V.int.inj (Option.some.inj y.2.2)
      · rw [decide_eq_false (show ¬ (xs.length : Int) = ((2 ^ n : Nat) : Int) by omega)]
        exact iteT (bad' H' (Same.refl _) fun z => c1 (by rw [en] at z; exact z.1))
    by_cases hk : (n : Int) < 6
    · rw [decide_eq_true hk]
      refine iteT ?_
      walk_at "x"
      refine x_shl ⟨by omega, by omega, by decide⟩ ?_
      walk_at "x"
      refine x_lenL hS ?_
      walk_at "x"
      have e1 : (1 : Int) * 2 ^ (n : Int).toNat = ((2 ^ n : Nat) : Int) := by rw [Int.one_mul, Int.toNat_natCast, Int.natCast_pow] <;> rfl
      rw [e1]
      refine ite2 (fun hl => ?_) (fun hl => ?_)
      · have hl := of_decide_eq_true hl
        refine x_N ?_
        walk_at "x"
        exact ⟨6 - (n + 1), by omega, n + 1, by rw [Int.natCast_add] <;> rfl, rfl, rfl, by omega, by omega, .inr (by rw [Nat.add_sub_cancel]; omega)⟩
      · exact fin (out (.inr (by have := mt decide_eq_true hl; omega)))
    · rw [decide_eq_false hk]
      exact iteF (fin (out (.inl (by omega))))

/-! ### share_of -/
/-- what is asked of shares: the fractions fs over L -/
structure ShB (Ts : List Int) (L : Int) (B : Nat) : Prop where
  pos : 0 < L
  low : L.natAbs < 2 ^ B
  top : ∃ M, (∀ z ∈ Ts, z.natAbs ≤ M) ∧ 6 * M < 2 ^ B
  bits : 2 * B + 1 ≤ 9000
theorem ShB.to {Ts : List Int} {L : Int} {B : Nat} (h : ShB Ts L B) {g i : Nat} (hi : i ≤ Ts.length) (h6 : Ts.length ≤ 6) : (shareTo Ts g i).natAbs < 2 ^ B := by
  obtain ⟨M, h1, h2⟩ := h.top
  have := shareTo_le Ts g h1 i hi
  have h3 : i * M ≤ 6 * M := Nat.mul_le_mul_right M (by omega)
  omega
theorem ShB.one {Ts : List Int} {L : Int} {B : Nat} (h : ShB Ts L B) (i : Int) : (gi Ts i).natAbs < 2 ^ B := by
  obtain ⟨M, h1, h2⟩ := h.top
  unfold gi
  rw [List.getD_eq_getElem?_getD]
  cases e : Ts[i.toNat]? with
  | none => show (0 : Int).natAbs < _; exact Nat.two_pow_pos B
  | some z => have := h1 z (List.mem_of_getElem? e); show z.natAbs < _; omega
def sp_share_of (K : PySem.W.Frag) : Sp := fun vs H Q _ => ∃ (a : Addr) (g : Nat) (ts : List Addr) (fs : List (Int × Int)) (Ts : List Int) (L : Int) (B : Nat), vs = [.ref a, .int (g : Int)] ∧ SqL K H a (ts.map V.ref) ∧ FrAll H ts fs ∧ ShOk L fs Ts ∧ ShB Ts L B ∧ g < 64 ∧ fs.length ≤ 6 ∧
  ∀ f, StL L f (shareS Ts g) → RetT (frV f) H Q
theorem ok_share_of (T : Txt K mg A) : FnOk P w K mg base (L2.CX P w) 4 A.a_share_of A.d_share_of ["shares", "group"] (sp_share_of K) := by
  refine T.F_share_of.okX sc_share_of (fun vs H Q E h => ?_) (fun cdv A0 outer s H vs Q E hr h => ?_)
  · obtain ⟨a, g, ts, fs, Ts, L, B, rfl, _⟩ := h; rfl
  · obtain ⟨a, g, ts, fs, Ts, L, B, rfl, hS, fa, ok, sb, hg, h6, k⟩ := h
    have l1 := fa.len
    have l2 := ok.len
    refine ⟨_, (pss_cons (ps_set (i := 2) sc_share_of.nd rfl (.inl rfl) (pe_tup (pa_cons pe_int (pa_cons pe_int pa_nil))))
      (pss_cons (ps_for (passes_of rfl) rfl (pi_range1 (by rfl) T.z_range (pa_cons (pe_callB (call_lenK (K := K) rfl) (by rfl) T.z_len (by decide +kernel) (pa_cons (pv 0) pa_nil)) pa_nil)) (pg_name (i := 3) sc_share_of.nd rfl (.inl rfl)) (pss_one (ps_if (pt_cmpR (op_eqK (K := K) rfl hr.units) (pe_op op_andX (pe_op op_shrX (pv 1) (pv 3)) pe_int) pe_int (nomark _)) (pss_one (ps_set (i := 2) sc_share_of.nd rfl (.inl rfl) (pe_call (ok_plus T) (hr.mono (by decide)) (by rfl) T.g_plus T.F_plus.kp T.b_plus .nil (passes_call (takes_of rfl rfl rfl rfl) (fun _ _ _ _ h => h)) (pa_cons (pv 2) (pa_cons (pe_ix (ix_seqK (K := K) rfl) (pv 0) (pv 3) (fun _ _ => rfl)) pa_nil))))) pss_nil)))
      (pss_one (ps_ret (pv 2))))), ?_⟩
    walk_at "x"
    refine ⟨(by show 2 ≤ sizeLine; decide), fun t0 n0 => ?_⟩
    have s0 := same_upd (o := .tup (frV (0, 1))) n0
    walk_at "x"
    refine x_lenL (s0.seq hS) ?_
    walk_at "x"
    rw [List.length_map]
    refine ⟨_, rfl, by omega, by omega, for_r0 (n := (ts.length : Int)) (fun i σ' H' => ∃ (t : Addr) (f : Int × Int) (v1 : Option V), σ' = [some (.ref a), some (.int (g : Int)), some (.ref t), v1] ∧ Same H H' ∧ H' t = some (.tup (frV f)) ∧ StL L f (shareTo Ts g i) ∧ H t = none) ⟨t0, (0, 1), _, rfl, s0, upd_same, StL.zero L, n0⟩ ?_ ?_⟩
    · rintro i σ' H' hi ⟨t, f, v1, rfl, s1, c1, st, nt⟩
      have hi6 : i < 6 := by omega
      walk_at "x"
      refine x_shr (by omega) ?_
      walk_at "x"
      rw [bit_int hi6 hg]
      have bt := sb.to (g := g) (i := i) (by omega) (by omega)
      cases c : bitOn i g with
      | true =>
        refine iteT ?_
        walk_at "x"
        obtain ⟨ti, fi, e1, e2, e3⟩ := rd_fr fa (i := i) (by omega)
        refine x_ixXL (s1.seq hS) (atI_nat (j := i) (by rw [List.getElem?_map, e1] <;> rfl)) ?_
        walk_at "x"
        have sti := ok.at e2
        refine ⟨t, ti, f, fi, B, rfl, .inl c1, .inl (s1 _ _ e3), st.fb sb.pos sb.low bt, sti.fb sb.pos sb.low (sb.one _), sb.bits, fun p H2 n2 s2 c2 => ?_⟩
        walk_at "x"
        refine ⟨p, _, _, rfl, s1.trans s2, c2, ?_, s1.free n2⟩
        show StL L _ (if bitOn i g = true then shareTo Ts g i + gi Ts (i : Int) else shareTo Ts g i)
        rw [if_pos c]
        exact st.add sti
      | false =>
        refine iteF ⟨t, f, some (.int (i : Int)), rfl, s1, c1, ?_, nt⟩
        show StL L _ (if bitOn i g = true then shareTo Ts g i + gi Ts (i : Int) else shareTo Ts g i)
        rw [if_neg (by rw [c]; exact Bool.false_ne_true)]
        exact st
    · rintro σ' H' ⟨t, f, v1, rfl, s1, c1, st, nt⟩
      walk_at "x"
      rw [Int.toNat_natCast, show ts.length = Ts.length by omega] at st
      exact k f st t H' nt s1 c1

/-! ### bettering -/
def sp_bettering (A : Ads) (K : PySem.W.Frag) : Sp := fun vs H Q E => ∃ (a b : Addr) (xs ys : List V), vs = [.ref a, .ref b] ∧ Rd H a (.lst xs) ∧ (∀ y ∈ xs, Thing H y) ∧ SqL K H b ys ∧
  (lookM xs = none → ∀ H', Same H H' → E (.ref A.NoTable) none H') ∧
  (∀ ns k, Tab ns k → xs = ns.map V.int → (ys.length ≠ k → ∀ H', Same H H' → E (.ref A.NoShares) none H') ∧
    (ys.length = k → ∃ bs : List Bool, bs.length = ys.length ∧ (∀ (i : Nat) (y : V) (bb : Bool), ys[i]? = some y → bs[i]? = some bb → FrT H y bb) ∧ (false ∈ bs → ∀ H', Same H H' → E (.ref A.NoShares) none H') ∧
      ((∀ b ∈ bs, b = true) → ∃ (ts : List Addr) (fs : List (Int × Int)) (Ts : List Int) (L : Int) (B : Nat), ys = ts.map V.ref ∧ FrAll H ts fs ∧ ShOk L fs Ts ∧ ShB Ts L B ∧ (∀ z ∈ ns, z.natAbs < 2 ^ B) ∧ RetL ((betterM ns Ts L).map vnat) H Q)))
theorem u_bettering {K : PySem.W.Frag} {H : Hp} {Q : VK} {E : XK} {a b : Addr} {ns : List Int} {k : Nat} {ts : List Addr} {fs : List (Int × Int)} {Ts : List Int} {L : Int} {B : Nat} (R : Rd H a (.lst (ns.map V.int))) (tb : Tab ns k) (hS : SqL K H b (ts.map V.ref)) (fa : FrAll H ts fs) (ok : ShOk L fs Ts) (sb : ShB Ts L B)
    (hb : ∀ z ∈ ns, z.natAbs < 2 ^ B) (hk : fs.length = k) (q : RetL ((betterM ns Ts L).map vnat) H Q) : sp_bettering A K [.ref a, .ref b] H Q E :=
  ⟨a, b, _, _, rfl, R, things_int, hS, (fun e => by rw [tb.look] at e; cases e), fun ns' k' tb' e => by
    obtain rfl := map_int_inj e
    have ek := tb.same tb'
    subst ek
    refine ⟨fun h => absurd (by rw [List.length_map, fa.len]; exact hk) h, fun _ => ⟨List.replicate ts.length true, by rw [List.length_replicate, List.length_map], fun i y b hy hb' => ?_, fun h => ?_, fun _ => ⟨ts, fs, Ts, L, B, rfl, fa, ok, sb, hb, q⟩⟩⟩
    · obtain ⟨t, ht, rfl⟩ := map_at hy
      have hbt := List.eq_of_mem_replicate (List.mem_of_getElem? hb')
      subst hbt
      obtain ⟨f, hf, hr⟩ := fa.at ht
      have st := ok.at hf
      have fb := st.fb sb.pos sb.low (sb.one _)
      have := FrT.num (H := H) (a := t) (p := f.1) (q := f.2) (B := B) (.inl hr) ⟨by have := sb.bits; omega, fb.1, fb.2.1⟩
      rw [decide_eq_true (show 1 ≤ f.2 by have := st.fr.pos; omega), decide_eq_true st.fr.one] at this
      exact this
    · exact absurd (List.eq_of_mem_replicate h) (by decide)⟩
theorem ok_bettering (T : Txt K mg A) : FnOk P w K mg base (L2.CX P w) 5 A.a_bettering A.d_bettering ["table", "shares"] (sp_bettering A K) := by
  refine T.F_bettering.okX sc_bettering (fun vs H Q E h => ?_) (fun cdv A0 outer s H vs Q E hr h => ?_)
  · obtain ⟨a, b, xs, ys, rfl, _⟩ := h; rfl
  · obtain ⟨a, b, xs, ys, rfl, R, hT, hS, kN, k⟩ := h
    refine ⟨_, (pss_cons (ps_set (i := 2) sc_bettering.nd rfl (.inl rfl) (pe_call (ok_look T) (hr.mono (by decide)) (by rfl) T.g_look T.F_look.kp T.b_look .nil (passes_call (takes_of rfl rfl rfl rfl) (fun _ _ _ _ h => h)) (pa_cons (pv 0) pa_nil)))
      (pss_cons (ps_if (pt_cmpR (op_neK (K := K) rfl hr.units) (pe_callB (call_lenK (K := K) rfl) (by rfl) T.z_len (by decide +kernel) (pa_cons (pv 1) pa_nil)) (pv 2) (nomark _)) (pss_one (ps_raise rfl (takes_of rfl rfl rfl rfl) (pmk_own PySem.F.excBase_ValueError T.x_NoShares T.g_NoShares T.k_NoShares (raises_own T.e_NoShares T.t_NoShares) (by rfl)))) pss_nil)
      (pss_cons (ps_for (passes_of rfl) rfl (pi_listK (K := K) rfl (pv 1)) (pg_name (i := 3) sc_bettering.nd rfl (.inl rfl)) (pss_one (ps_if (pt_not (pt_val (pe_call (ok_is_fraction T) (hr.mono (by decide)) (by rfl) T.g_is_fraction T.F_is_fraction.kp T.b_is_fraction .nil (passes_call (takes_of rfl rfl rfl rfl) (fun _ _ _ _ h => h)) (pa_cons (pv 3) pa_nil)))) (pss_one (ps_raise rfl (takes_of rfl rfl rfl rfl) (pmk_own PySem.F.excBase_ValueError T.x_NoShares T.g_NoShares T.k_NoShares (raises_own T.e_NoShares T.t_NoShares) (by rfl)))) pss_nil)))
      (pss_one (ps_ret (pe_lc (own := [("group", 4)]) rfl sc_bettering.nd (pi_range2 (by rfl) T.z_range (pa_cons pe_int (pa_cons (pe_callB (call_lenK (K := K) rfl) (by rfl) T.z_len (by decide +kernel) (pa_cons (pv 0) pa_nil)) pa_nil))) (blkOk_by (own := [("group", 4)]) (N := N_bettering) (sc := defScope s_bettering) (by decide +kernel)) (fun _ _ _ _ _ => (pg_name (i := 4) sc_bettering.nd rfl (.inl rfl))) (fun _ _ _ _ _ => (pts_one (pt_val (pe_call (ok_under T) (hr.mono (by decide)) (by rfl) T.g_under T.F_under.kp T.b_under .nil passL (pa_cons (pe_call (ok_share_of T) (hr.mono (by decide)) (by rfl) T.g_share_of T.F_share_of.kp T.b_share_of .nil passL (pa_cons (pv 1) (pa_cons (pv 4) pa_nil))) (pa_cons (pe_tup (pa_cons (pe_ix (ix_seqK (K := K) rfl) (pv 0) (pv 4) (fun _ _ => rfl)) (pa_cons pe_int pa_nil))) pa_nil)))))) (fun _ _ _ _ _ => (pv 4)))))))), ?_⟩
    walk_at "x"
    refine ⟨a, xs, rfl, R, hT, fun n hn H1 s1 => ?_, kN⟩
    obtain ⟨ns, m, tb, rfl, rfl⟩ := look_tab hn
    obtain ⟨kL, kS⟩ := k ns m tb rfl
    have hm := tb.hi
    have hp := tb.pos
    have ht := tb.len
    walk_at "x"
    refine x_lenL (s1.seq hS) ?_
    walk_at "x"
    by_cases c : ys.length = m
    case neg =>
      rw [decide_eq_false (show ¬ (ys.length : Int) = (m : Int) by omega)]
      exact iteT (kL c H1 s1)
    rw [decide_eq_true (show (ys.length : Int) = (m : Int) by omega)]
    refine iteF ?_
    obtain ⟨bs, hbl, hb, kb, kg⟩ := kS c
    walk_at "x"
    refine ⟨b, rfl, ⟨_, s1.seq hS⟩, for_list (xs := ys) (fun i σ' H' => (∃ v1, σ' = [some (.ref a), some (.ref b), some (.int (m : Int)), v1, none]) ∧ Same H H' ∧ (∀ b ∈ bs.take i, b = true)) ⟨⟨_, rfl⟩, s1, by rw [List.take_zero]; exact fun _ h => (nomatch h)⟩ (fun i σ' H' _ h => h.2.1.seq hS) ?_ ?_⟩
    · rintro i x σ' H' hx ⟨⟨v1, rfl⟩, s2, hall⟩
      have hi := (List.getElem?_eq_some_iff.mp hx).1
      have hbi : bs[i]? = some bs[i] := List.getElem?_eq_getElem (by omega)
      walk_at "x"
      refine ⟨x, bs[i], rfl, (hb i x _ hx hbi).same s2, fun H3 s3 => ?_⟩
      walk_at "x"
      cases e : bs[i] with
      | false =>
        refine iteT (kb ?_ H3 (s2.trans s3))
        rw [← e]; exact List.getElem_mem _
      | true =>
        refine iteF ?_
        walk_at "x"
        refine ⟨⟨_, rfl⟩, s2.trans s3, fun z hz => ?_⟩
        rw [List.take_add_one, hbi] at hz
        rcases List.mem_append.mp hz with h | h
        · exact hall z h
        · simp at h; rw [h, e]
    · rintro σ' H' ⟨⟨v1, rfl⟩, s2, hall⟩
      rw [← hbl, List.take_length] at hall
      obtain ⟨ts, fs, Ts, L, B, rfl, fa, ok, sb, hbn, q⟩ := kg hall
      have l1 := fa.len
      have l2 := ok.len
      rw [List.length_map] at c
      have w := (Own.start (H := H)).ext s2
      walk_at "x"
      refine x_lenL (w.seq (.inl R)) ?_
      walk_at "x"
      rw [List.length_map]
      refine ⟨_, _, rfl, ⟨by omega, by omega, by omega, by omega⟩, cp_range (lo := 1) (n := ((ns.length : Int) - 1).toNat) (fun i => (grpsTo (fun g => decide (shareS Ts g < fn ns g * L)) i).map vnat) w rfl ?_ ?_⟩
      · intro D i H3 hi p
        have hg : i + 1 < 64 := by omega
        rw [show (1 : Int) + (i : Int) = ((i + 1 : Nat) : Int) by omega]
        have p' : Own H [(D, .lst ((grpsTo (fun g => decide (shareS Ts g < fn ns g * L)) i).map vnat))] H3 := p
        walk_at "x"
        refine ⟨rfl, ?_⟩
        walk_at "x"
        refine ⟨b, i + 1, ts, fs, Ts, L, B, rfl, p'.seq hS, fa.same p'.ex, ok, sb, hg, by omega, fun f st t1 H4 n4 s4 c4 => ?_⟩
        have p4 := p'.ext s4
        walk_at "x"
        refine x_ixXL (p4.seq (.inl R)) (at_int (by omega) (by omega)) ?_
        walk_at "x"
        refine ⟨(by show 2 ≤ sizeLine; decide), fun t2 n5 => ?_⟩
        have s5 := same_upd (o := .tup (frV (gi ns ((i + 1 : Nat) : Int), 1))) n5
        have tS := ShB.to sb (g := i + 1) (Nat.le_refl _) (show Ts.length ≤ 6 by omega)
        have fb : Fb B f := st.fb sb.pos sb.low tS
        have tn : (gi ns ((i + 1 : Nat) : Int)).natAbs < 2 ^ B := by
          unfold gi
          rw [List.getD_eq_getElem?_getD, Int.toNat_natCast, List.getElem?_eq_getElem (by omega)]
          exact hbn _ (List.getElem_mem _)
        have hB0 := fb.pos
        have h1B : 1 < 2 ^ B := by
          have : 2 ^ 1 ≤ 2 ^ B := Nat.pow_le_pow_right (by decide) hB0
          omega
        refine ⟨t1, t2, f, (gi ns ((i + 1 : Nat) : Int), 1), B, rfl, .inl (s5 _ _ c4), .inl upd_same, fb, ⟨tn, h1B, (by show (0 : Int) < 1; decide)⟩, sb.bits, fun H6 s6 => ?_⟩
        have p6 := (p4.ext s5).ext s6
        refine ⟨_, rfl, ?_⟩
        rw [decide_eq_decide.mpr (StL.under (t := gi ns ((i + 1 : Nat) : Int)) sb.pos st)]
        cases cc : decide (shareS Ts (i + 1) < gi ns ((i + 1 : Nat) : Int) * L) with
        | true =>
          refine iteT ?_
          walk_at "x"
          exact cp_fin (F := fun i => (grpsTo (fun g => decide (shareS Ts g < fn ns g * L)) i).map vnat) p6 (grps_yes (p := fun g => decide (shareS Ts g < fn ns g * L)) cc vnat) (by rw [List.length_map]; have := grps_len (fun g => decide (shareS Ts g < fn ns g * L)) i; omega)
        | false =>
          refine iteF ?_
          exact cp_no (F := fun i => (grpsTo (fun g => decide (shareS Ts g < fn ns g * L)) i).map vnat) p6 (grps_no (p := fun g => decide (shareS Ts g < fn ns g * L)) cc vnat)
      · intro D H3 w3
        rw [show ((ns.length : Int) - 1).toNat = ns.length - 1 by omega] at w3
        exact q.go w3

/-! ### _law_cell -/
def sp__law_cell (K : PySem.W.Frag) : Sp := fun vs H Q _ => ∃ (a : Addr) (ns : List Int) (j : Int), vs = [.ref a, .int j] ∧ SqL K H a (ns.map V.int) ∧ 0 ≤ j ∧ ∀ z, RetV (.int z) H Q
theorem ok__law_cell (T : Txt K mg A) : FnOk P w K mg base (L2.CX P w) 1 A.a__law_cell A.d__law_cell ["_law_script", "_law_k"] (sp__law_cell K) := by
  refine T.F__law_cell.okX sc__law_cell (fun vs H Q E h => ?_) (fun cdv A0 outer s H vs Q E hr h => ?_)
  · obtain ⟨a, ns, j, rfl, _⟩ := h; rfl
  · obtain ⟨a, ns, j, rfl, hS, h0, k⟩ := h
    refine ⟨_, (pss_cons (ps_if (pt_cmpR op_ltX (pv 1) (pe_callB (call_lenK (K := K) rfl) (by rfl) T.z_len (by decide +kernel) (pa_cons (pv 0) pa_nil)) (nomark _)) (pss_one (ps_ret (pe_ix (ix_seqK (K := K) rfl) (pv 0) (pv 1) (fun _ _ => rfl)))) pss_nil)
      (pss_one (ps_ret pe_int))), ?_⟩
    walk_at "x"
    refine x_lenL hS ?_
    walk_at "x"
    rw [List.length_map]
    refine ite2 (fun c => ?_) (fun _ => ?_)
    · have c := of_decide_eq_true c
      walk_at "x"
      refine x_ixXL hS (at_int h0 c) ?_
      exact (k _).go (Same.refl H)
    · walk_at "x"
      exact (k _).go (Same.refl H)

/-! ### _law_whole -/
def sp__law_whole : Sp := fun vs H Q _ => ∃ v, vs = [v] ∧ Thing H v ∧ RetV (.bl (isI v)) H Q
theorem ok__law_whole (T : Txt K mg A) : FnOk P w K mg base (L2.CX P w) 1 A.a__law_whole A.d__law_whole ["_law_found"] sp__law_whole := by
  refine T.F__law_whole.okX sc__law_whole (fun vs H Q E h => ?_) (fun cdv A0 outer s H vs Q E hr h => ?_)
  · obtain ⟨v, rfl, _⟩ := h; rfl
  · obtain ⟨v, rfl, hv, k⟩ := h
    refine ⟨_, (pss_one (ps_ret (pe_and (pe_callB (call_isiX (K := K) rfl) (by rfl) T.z_isinstance (by decide +kernel) (pa_cons (pv 0) (pa_cons (pe_bltn (v := .ty "int") (by rfl) T.z_int (by decide +kernel) rfl) pa_nil))) (pe_one (pe_not (pe_callB (call_isiX (K := K) rfl) (by rfl) T.z_isinstance (by decide +kernel) (pa_cons (pv 0) (pa_cons (pe_bltn (v := .ty "bool") (by rfl) T.z_bool (by decide +kernel) rfl) pa_nil)))))))), ?_⟩
    walk_at "x"
    refine x_isiInt hv ?_
    walk_at "x"
    have e : isI v = ((isI v || isB v) && !isB v) := by cases v <;> rfl
    have k' := k.go (Same.refl H)
    rw [e] at k'
    cases c : (isI v || isB v) with
    | false => rw [c, Bool.false_and] at k'; exact iteF k'
    | true =>
      rw [c, Bool.true_and] at k'
      refine iteT ?_
      walk_at "x"
      refine x_isiBool hv ?_
      walk_at "x"
      exact k'

/-! ### _law_divisor -/
def sp__law_divisor : Sp := fun vs H Q _ => ∃ (a b : Int) (B : Nat), vs = [.int a, .int b] ∧ Bits B a b ∧ 0 ≤ b ∧ RetV (.int (gcdI a b)) H Q
theorem gcdI_step {x y : Int} (_ : 0 < y) : Int.gcd y (x % y) = Int.gcd x y := by
  rw [Int.gcd_comm x y, Int.emod_def, Int.mul_comm y (x / y)]
  exact Int.gcd_sub_mul_right_right y x (x / y)
theorem ok__law_divisor (T : Txt K mg A) : FnOk P w K mg base (L2.CX P w) 1 A.a__law_divisor A.d__law_divisor ["_law_one", "_law_other"] sp__law_divisor := by
  refine T.F__law_divisor.okX sc__law_divisor (fun vs H Q E h => ?_) (fun cdv A0 outer s H vs Q E hr h => ?_)
  · obtain ⟨a, b, B, rfl, _⟩ := h; rfl
  · obtain ⟨a, b, B, rfl, hB, h0, k⟩ := h
    have w := Own.start (H := H)
    refine ⟨_, (pss_cons (ps_while (passes_of rfl) (pt_cmpR (op_neK (K := K) rfl hr.units) (pv 1) pe_int (nomark _)) (pss_one (ps_par (i := 0) (j := 1) rfl sc__law_divisor.nd rfl rfl (by decide) rfl rfl (pa_cons (pv 1) (pa_cons (pe_op op_modX (pv 0) (pv 1)) pa_nil)) (by rfl))))
      (pss_one (ps_ret (pe_callB call_absX (by rfl) T.z_abs (by decide +kernel) (pa_cons (pv 0) pa_nil))))), ?_⟩
    refine x_seq ?_
    refine x_while (fun m σ' H' => ∃ x y : Int, σ' = [some (.int x), some (.int y)] ∧ Own H [] H' ∧ m = y.natAbs ∧ 0 ≤ y ∧ Int.gcd x y = Int.gcd a b) b.natAbs ⟨a, b, rfl, w, rfl, h0, rfl⟩ ?_
    rintro m σ' H' ⟨x, y, rfl, w2, rfl, hy, hgc⟩
    walk_at "x"
    by_cases c : y = 0
    · subst c
      rw [decide_eq_true rfl]
      refine iteF ?_
      walk_at "x"
      rw [abs_nat]
      have e : ((x.natAbs : Nat) : Int) = gcdI a b := by unfold gcdI; rw [← hgc, Int.gcd_zero_right]
      rw [e]
      exact k.go w2.ex
    · rw [decide_eq_false c]
      refine iteT ?_
      refine x_N ?_
      walk_at "x"
      refine x_modP (by omega) ?_
      walk_at "x"
      have h1 := Int.emod_nonneg x c
      have h2 := Int.emod_lt_of_pos x (show 0 < y by omega)
      exact ⟨_, _, rfl, _, (by omega : (x % y).natAbs < y.natAbs), y, x % y, rfl, w2, rfl, h1, by rw [gcdI_step (by omega), hgc]⟩

/-! ### _law_low -/
def sp__law_low (K : PySem.W.Frag) : Sp := fun vs H Q _ => ∃ (a : Addr) (ts : List Addr) (fs : List (Int × Int)), vs = [.ref a] ∧ SqL K H a (ts.map V.ref) ∧ FrAll H ts fs ∧ (∀ f ∈ fs, 0 < f.2 ∧ f.2 ∣ 59820) ∧ (∀ L, 0 < L → L ∣ 59820 → (∀ f ∈ fs, f.2 ∣ L) → RetV (.int L) H Q)
theorem lcm_step {a b N : Int} (ha : 0 < a) (hb : 0 < b) (h1 : a ∣ N) (h2 : b ∣ N) : 0 < a / gcdI a b * b ∧ a / gcdI a b * b ∣ N ∧ a ∣ a / gcdI a b * b ∧ b ∣ a / gcdI a b * b := by
  obtain ⟨u, v, hu, hv, e1, e2, _, _⟩ := low_is ha hb
  refine ⟨by rw [e1]; exact Int.mul_pos ha hv, ?_, ⟨v, e1⟩, ⟨u, e2⟩⟩
  obtain ⟨g1, g2⟩ := gcd_mul_div (a := a) (show b ≠ 0 by omega)
  have e : a / gcdI a b * b = ((Int.lcm a b : Nat) : Int) := by
    have h : (gcdI a b) * ((Int.lcm a b : Nat) : Int) = a * b := by
      unfold gcdI
      have := Int.gcd_mul_lcm a b
      rw [← Int.natCast_mul, this, Int.natCast_mul, Int.natAbs_of_nonneg (Int.le_of_lt ha), Int.natAbs_of_nonneg (Int.le_of_lt hb)]
    have hg : gcdI a b ≠ 0 := by have := gcd_pos (a := a) (show b ≠ 0 by omega); unfold gcdI; omega
    refine Int.eq_of_mul_eq_mul_left hg ?_
    rw [h, ← Int.mul_assoc, g1]
  rw [e]
  exact Int.coe_lcm_dvd h1 h2
theorem ok__law_low (T : Txt K mg A) : FnOk P w K mg base (L2.CX P w) 2 A.a__law_low A.d__law_low ["_law_numbers"] (sp__law_low K) := by
  refine T.F__law_low.okX sc__law_low (fun vs H Q E h => ?_) (fun cdv A0 outer s H vs Q E hr h => ?_)
  · obtain ⟨a, ts, fs, rfl, _⟩ := h; rfl
  · obtain ⟨a, ts, fs, rfl, hS, fa, hd, k⟩ := h
    have hl := fa.len
    refine ⟨_, (pss_cons (ps_set (i := 1) sc__law_low.nd rfl (.inl rfl) pe_int)
      (pss_cons (ps_for (passes_of rfl) rfl (pi_listK (K := K) rfl (pv 0)) (pg_name (i := 2) sc__law_low.nd rfl (.inl rfl)) (pss_one (ps_set (i := 1) sc__law_low.nd rfl (.inl rfl) (pe_op op_mulX (pe_op op_fdivX (pv 1) (pe_call (ok__law_divisor T) (hr.mono (by decide)) (by rfl) T.g__law_divisor T.F__law_divisor.kp T.b__law_divisor .nil (passes_call (takes_of rfl rfl rfl rfl) (fun _ _ _ _ h => h)) (pa_cons (pv 1) (pa_cons (pe_ix (ix_seqK (K := K) rfl) (pv 2) pe_int (fun _ _ => rfl)) pa_nil)))) (pe_ix (ix_seqK (K := K) rfl) (pv 2) pe_int (fun _ _ => rfl))))))
      (pss_one (ps_ret (pv 1))))), ?_⟩
    walk_at "x"
    refine ⟨a, rfl, ⟨_, hS⟩, for_list (xs := ts.map V.ref) (fun i σ' H' => ∃ (L : Int) (v1 : Option V), σ' = [some (.ref a), some (.int L), v1] ∧ Same H H' ∧ 0 < L ∧ L ∣ 59820 ∧ ∀ f ∈ fs.take i, f.2 ∣ L) ⟨1, _, rfl, Same.refl _, by decide, by decide, by rw [List.take_zero]; exact fun _ h => (nomatch h)⟩ (fun i σ' H' _ h => ?_) ?_ ?_⟩
    · obtain ⟨_, _, _, s1, _⟩ := h; exact s1.seq hS
    · rintro i x σ' H' hx ⟨L, v1, rfl, s1, h0, hL, hall⟩
      obtain ⟨t, ht, rfl⟩ := map_at hx
      obtain ⟨f, hf, hr⟩ := fa.at ht
      obtain ⟨f0, fd⟩ := hd f (List.mem_of_getElem? hf)
      have fle := Int.le_of_dvd (by decide) fd
      have Lle := Int.le_of_dvd (by decide) hL
      have e64 : 59820 < 2 ^ 64 := by decide
      walk_at "x"
      refine x_ixXT (.inl (.inl (s1 _ _ hr))) (v := .int f.2) rfl ?_
      walk_at "x"
      refine ⟨L, f.2, 64, rfl, ⟨by decide, by omega, by omega⟩, by omega, fun H2 s2 => ?_⟩
      have s2 := s1.trans s2
      have g0 : 0 < gcdI L f.2 := by have := gcd_pos (a := L) (show f.2 ≠ 0 by omega); unfold gcdI; omega
      have gl := gcd_log (a := L) (b := f.2) (B := 64) (by omega) ⟨by decide, by omega, by omega⟩
      walk_at "x"
      refine x_divP g0 gl ?_
      walk_at "x"
      refine x_ixXT (.inl (.inl (s2 _ _ hr))) (v := .int f.2) rfl ?_
      refine x_mulI (.of_right (intBits_le_64 (by omega) (by omega))) ?_
      walk_at "x"
      obtain ⟨n1, n2, n3, n4⟩ := lcm_step h0 f0 hL fd
      refine ⟨_, _, rfl, s2, n1, n2, fun g hg => ?_⟩
      rw [List.take_add_one, hf] at hg
      rcases List.mem_append.mp hg with m | m
      · exact Int.dvd_trans (hall g m) n3
      · simp at m; subst m; exact n4
    · rintro σ' H' ⟨L, v1, rfl, s1, h0, hL, hall⟩
      rw [List.length_map, hl, List.take_length] at hall
      walk_at "x"
      exact k L h0 hL hall _ s1

/-! ### _law_tops -/
def topsOf (L : Int) (fs : List (Int × Int)) : List Int := fs.map fun f => f.1 * (L / f.2)
theorem topsOf_ok {L : Int} : ∀ fs : List (Int × Int), (∀ f ∈ fs, Frac f.1 f.2 ∧ f.2 ∣ L) → ShOk L fs (topsOf L fs)
  | [], _ => .nil
  | f :: fs, h => by
    obtain ⟨h1, h2⟩ := h f (.head _)
    refine .cons ⟨h1, ?_⟩ (topsOf_ok fs fun g m => h g (.tail _ m))
    rw [Int.mul_assoc, Int.ediv_mul_cancel h2]
def sp__law_tops (K : PySem.W.Frag) : Sp := fun vs H Q _ => ∃ (a : Addr) (ts : List Addr) (fs : List (Int × Int)) (L : Int) (B : Nat), vs = [.ref a, .int L] ∧ SqL K H a (ts.map V.ref) ∧ FrAll H ts fs ∧ fs.length ≤ 1000 ∧ 0 < L ∧ L.natAbs < 2 ^ B ∧ B ≤ 9000 ∧ (∀ f ∈ fs, Fb B f) ∧ RetL ((topsOf L fs).map V.int) H Q
theorem ok__law_tops (T : Txt K mg A) : FnOk P w K mg base (L2.CX P w) 1 A.a__law_tops A.d__law_tops ["_law_numbers", "_law_low_here"] (sp__law_tops K) := by
  refine T.F__law_tops.okX sc__law_tops (fun vs H Q E h => ?_) (fun cdv A0 outer s H vs Q E hr h => ?_)
  · obtain ⟨a, ts, fs, L, B, rfl, _⟩ := h; rfl
  · obtain ⟨a, ts, fs, L, B, rfl, hS, fa, hz, h0, hL, hB, hf, k⟩ := h
    have hl := fa.len
    refine ⟨_, (pss_one (ps_ret (pe_lc (own := [("_law_number", 2)]) rfl sc__law_tops.nd (pi_listK (K := K) rfl (pv 0)) (blkOk_by (own := [("_law_number", 2)]) (N := N__law_tops) (sc := defScope s__law_tops) (by decide +kernel)) (fun _ _ _ _ _ => (pg_name (i := 2) sc__law_tops.nd rfl (.inl rfl))) (fun _ _ _ _ _ => pts_nil) (fun _ _ _ _ _ => (pe_op op_mulX (pe_ix (ix_seqK (K := K) rfl) (pv 2) pe_int (fun _ _ => rfl)) (pe_op op_fdivX (pv 1) (pe_ix (ix_seqK (K := K) rfl) (pv 2) pe_int (fun _ _ => rfl)))))))), ?_⟩
    walk_at "x"
    refine ⟨a, rfl, ⟨_, hS⟩, cp_list (xs := ts.map V.ref) (fun i => ((topsOf L fs).take i).map V.int) (Own.start (H := H)) hS rfl ?_ ?_⟩
    · intro D i x H' hx p
      obtain ⟨t, ht, rfl⟩ := map_at hx
      obtain ⟨f, hf2, hr⟩ := fa.at ht
      have fb := hf f (List.mem_of_getElem? hf2)
      have p' : Own H [(D, .lst (((topsOf L fs).take i).map V.int))] H' := p
      have hr' := p'.ex _ _ hr
      have hi := (List.getElem?_eq_some_iff.mp hf2).1
      walk_at "x"
      refine ⟨rfl, ?_⟩
      walk_at "x"
      refine iteT ?_
      walk_at "x"
      refine x_ixXT (.inl (.inl hr')) (v := .int f.1) rfl ?_
      walk_at "x"
      refine x_ixXT (.inl (.inl hr')) (v := .int f.2) rfl ?_
      refine x_divP fb.2.2 (log_of fb.2.2 fb.2.1 hB) ?_
      have hq : (L / f.2).natAbs < 2 ^ B := Nat.lt_of_le_of_lt (Int.natAbs_ediv_le_natAbs L f.2) hL
      refine x_mulI (mulok fb.1 hq fb.pos fb.pos (by omega)) ?_
      refine cp_fin (F := fun i => ((topsOf L fs).take i).map V.int) p' ?_ (by rw [List.length_map, List.length_take]; omega)
      show ((topsOf L fs).take (i + 1)).map V.int = ((topsOf L fs).take i).map V.int ++ [V.int (f.1 * (L / f.2))]
      have e : (topsOf L fs)[i]? = some (f.1 * (L / f.2)) := by unfold topsOf; rw [List.getElem?_map, hf2] <;> rfl
      rw [List.take_add_one, e, List.map_append] <;> rfl
    · intro D H' w
      rw [List.length_map, hl, show fs.length = (topsOf L fs).length by unfold topsOf; rw [List.length_map], List.take_length] at w
      exact k.go w

/-! ### _law_share -/
def someTo (Ts : List Int) (g i : Nat) : List Int := ((List.range i).filter fun h => bitOn h g).map fun h : Nat => gi Ts (h : Int)
theorem someTo_sum (Ts : List Int) (g : Nat) : ∀ i, (someTo Ts g i).sum = shareTo Ts g i
  | 0 => rfl
  | i + 1 => by
    have ih := someTo_sum Ts g i
    show _ = (if bitOn i g = true then shareTo Ts g i + gi Ts (i : Int) else shareTo Ts g i)
    unfold someTo at ih ⊢
    cases c : bitOn i g with
    | true => rw [filter_yes (p := fun h => bitOn h g) c, List.sum_append, ih, if_pos rfl]; simp
    | false => rw [filter_no (p := fun h => bitOn h g) c, ih, if_neg Bool.false_ne_true]
def sp__law_share (K : PySem.W.Frag) : Sp := fun vs H Q _ => ∃ (a : Addr) (g : Nat) (Ts : List Int), vs = [.ref a, .int (g : Int)] ∧ SqL K H a (Ts.map V.int) ∧ Ts.length ≤ 6 ∧ g < 64 ∧ RetV (.int (shareS Ts g)) H Q
theorem ok__law_share (T : Txt K mg A) : FnOk P w K mg base (L2.CX P w) 1 A.a__law_share A.d__law_share ["_law_tops_here", "_law_group"] (sp__law_share K) := by
  refine T.F__law_share.okX sc__law_share (fun vs H Q E h => ?_) (fun cdv A0 outer s H vs Q E hr h => ?_)
  · obtain ⟨a, g, Ts, rfl, _⟩ := h; rfl
  · obtain ⟨a, g, Ts, rfl, hS, h6, hg, k⟩ := h
    refine ⟨_, (pss_one (ps_ret (pe_callB (cr_sumK (K := K) rfl rfl) (by rfl) T.z_sum (by decide +kernel) (pa_cons (pe_lc (own := [("_law_hand", 2)]) rfl sc__law_share.nd (pi_range1 (by rfl) T.z_range (pa_cons (pe_callB (call_lenK (K := K) rfl) (by rfl) T.z_len (by decide +kernel) (pa_cons (pv 0) pa_nil)) pa_nil)) (blkOk_by (own := [("_law_hand", 2)]) (N := N__law_share) (sc := defScope s__law_share) (by decide +kernel)) (fun _ _ _ _ _ => (pg_name (i := 2) sc__law_share.nd rfl (.inl rfl))) (fun _ _ _ _ _ => (pts_one (pt_cmpR (op_eqK (K := K) rfl hr.units) (pe_op op_andX (pe_op op_shrX (pv 1) (pv 2)) pe_int) pe_int (nomark _)))) (fun _ _ _ _ _ => (pe_ix (ix_seqK (K := K) rfl) (pv 0) (pv 2) (fun _ _ => rfl)))) pa_nil)))), ?_⟩
    walk_at "x"
    refine x_lenL hS ?_
    walk_at "x"
    rw [List.length_map]
    refine ⟨_, rfl, by omega, by omega, cp_r0 (n := (Ts.length : Int)) (fun i => (someTo Ts g i).map V.int) (Own.start (H := H)) rfl ?_ ?_⟩
    · intro D i H' hi p
      walk_at "x"
      refine ⟨rfl, ?_⟩
      walk_at "x"
      refine x_shr (by omega) ?_
      walk_at "x"
      rw [bit_int (by omega) hg]
      cases c : bitOn i g with
      | true =>
        refine iteT ?_
        walk_at "x"
        refine x_ixXL (Own.seq p hS) (at_int (by omega) (by omega)) ?_
        refine cp_fin p ?_ (by rw [List.length_map]; unfold someTo; rw [List.length_map]; have := filter_len (fun h => bitOn h g) i; omega)
        unfold someTo
        rw [filter_yes (p := fun h => bitOn h g) c, List.map_append] <;> rfl
      | false =>
        refine iteF (cp_no p ?_)
        unfold someTo
        rw [filter_no (p := fun h => bitOn h g) c]
    · intro D H' w
      rw [Int.toNat_natCast] at w
      refine x_nil ?_
      refine x_sum (w.sq 0 rfl) ?_
      rw [someTo_sum]
      exact k _ w.ex

/-! ### _law_shares -/
def sp__law_shares (K : PySem.W.Frag) : Sp := fun vs H Q _ => ∃ (a : Addr) (ns : List Int) (m : Nat), vs = [.ref a, .int (m : Int)] ∧ SqL K H a (ns.map V.int) ∧ m ≤ 6 ∧ ∀ fs, fs.length = m → (∀ f ∈ fs, ShPart f) → RetFs fs H Q
theorem ok__law_shares (T : Txt K mg A) : FnOk P w K mg base (L2.CX P w) 2 A.a__law_shares A.d__law_shares ["_law_script", "_law_many"] (sp__law_shares K) := by
  refine T.F__law_shares.okX sc__law_shares (fun vs H Q E h => ?_) (fun cdv A0 outer s H vs Q E hr h => ?_)
  · obtain ⟨a, ns, m, rfl, _⟩ := h; rfl
  · obtain ⟨a, ns, m, rfl, hS, hm, k⟩ := h
    refine ⟨_, (pss_cons (ps_set (i := 2) sc__law_shares.nd rfl (.inl rfl) (pe_lst pa_nil))
      (pss_cons (ps_for (passes_of rfl) rfl (pi_range1 (by rfl) T.z_range (pa_cons (pv 1) pa_nil)) (pg_name (i := 3) sc__law_shares.nd rfl (.inl rfl)) (pss_cons (ps_set (i := 4) sc__law_shares.nd rfl (.inl rfl) (pe_call (ok__law_cell T) (hr.mono (by decide)) (by rfl) T.g__law_cell T.F__law_cell.kp T.b__law_cell .nil (passes_call (takes_of rfl rfl rfl rfl) (fun _ _ _ _ h => h)) (pa_cons (pv 0) (pa_cons (pe_op op_addX pe_int (pv 3)) pa_nil))))
      (pss_cons (ps_set (i := 5) sc__law_shares.nd rfl (.inl rfl) (pe_op op_subX (pe_op op_modX (pe_op op_fdivX (pv 4) pe_int) pe_int) pe_int))
      (pss_cons (ps_if (pt_cmpR op_gtX (pe_op op_modX (pv 4) pe_int) pe_int (nomark _)) (pss_one (ps_set (i := 5) sc__law_shares.nd rfl (.inl rfl) (pe_op op_subX (pe_op op_modX (pe_op op_mulX (pv 4) pe_int) (pe_op op_addX (pe_op op_mulX pe_int (pe_op op_powX pe_int pe_int)) pe_int)) (pe_op op_powX pe_int pe_int)))) pss_nil)
      (pss_cons (ps_set (i := 6) sc__law_shares.nd rfl (.inl rfl) (pe_ix (ix_seqK (K := K) rfl) (pe_lst (pa_cons pe_int (pa_cons pe_int (pa_cons pe_int (pa_cons pe_int (pa_cons pe_int (pa_cons pe_int (pa_cons pe_int pa_nil)))))))) (pe_op op_modX (pv 4) pe_int) (fun _ _ => rfl)))
      (pss_cons (ps_set (i := 7) sc__law_shares.nd rfl (.inl rfl) (pe_call (ok__law_divisor T) (hr.mono (by decide)) (by rfl) T.g__law_divisor T.F__law_divisor.kp T.b__law_divisor .nil (passes_call (takes_of rfl rfl rfl rfl) (fun _ _ _ _ h => h)) (pa_cons (pv 5) (pa_cons (pv 6) pa_nil))))
      (pss_one (ps_expr (pe_bm PySem.F.plainAttrs_list PySem.F.slot_list_append PySem.F.type_list_append mt_append (pv 2) (pa_cons (pe_tup (pa_cons (pe_op op_fdivX (pv 5) (pv 7)) (pa_cons (pe_op op_fdivX (pv 6) (pv 7)) pa_nil))) pa_nil))))))))))
      (pss_one (ps_ret (pv 2))))), ?_⟩
    walk_at "x"
    refine ⟨(by show 0 ≤ sizeLine; decide), fun p0 n0 => ?_⟩
    have w0 := OwnF.start (Own.start (H := H)) n0
    walk_at "x"
    refine ⟨_, rfl, by omega, by omega, for_r0 (n := (m : Int)) (fun i σ' H' => ∃ fs, (∃ v3 v4 v5 v6 v7, σ' = [some (.ref a), some (.int (m : Int)), some (.ref p0), v3, v4, v5, v6, v7]) ∧ OwnF H [] p0 fs H' ∧ fs.length = i ∧ ∀ f ∈ fs, ShPart f) ⟨[], ⟨_, _, _, _, _, rfl⟩, w0, rfl, fun _ h => (nomatch h)⟩ ?_ ?_⟩
    · rintro i σ' H' hi ⟨fs, ⟨v3, v4, v5, v6, v7, rfl⟩, o, hfl, hp⟩
      walk_at "x"
      refine ⟨a, ns, _, rfl, o.cell.seq hS, by omega, fun c H1 s1 => ?_⟩
      have o1 := o.ext s1
      walk_at "x"
      refine x_divP (by decide) (by decide) ?_
      walk_at "x"
      refine x_modP (by decide) ?_
      walk_at "x"
      refine x_modP (by decide) ?_
      walk_at "x"
      have fin : ∀ (v4 v6 v7 : Option V) (top : Int) , top.natAbs ≤ 1000000000000000000 → tSeq (tAsg (tOp (rIx K) (tLst (tCons (tC (V.int 1)) (tCons (tC (V.int 2)) (tCons (tC (V.int 3)) (tCons (tC (V.int 4)) (tCons (tC (V.int 5)) (tCons (tC (V.int 6)) (tCons (tC (V.int 997)) tNil)))))))) (tOp rModX (tVar 4) (tC (V.int 7)))) (gName 6))
        (tSeq (tAsg (tCall sp__law_divisor [] E (tCons (tVar 5) (tCons (tVar 6) tNil))) (gName 7)) (tDrop (tBM K "list" rAppend (tVar 2) (tCons (tTup (tCons (tOp rDivX (tVar 5) (tVar 7)) (tCons (tOp rDivX (tVar 6) (tVar 7)) tNil))) tNil))))
        { nx := fun σ' H' => ∃ fs, (∃ v3 v4 v5 v6 v7, σ' = [some (.ref a), some (.int (m : Int)), some (.ref p0), v3, v4, v5, v6, v7]) ∧ OwnF H [] p0 fs H' ∧ fs.length = i + 1 ∧ ∀ f ∈ fs, ShPart f, rt := Q,
          ct := fun σ' H' => ∃ fs, (∃ v3 v4 v5 v6 v7, σ' = [some (.ref a), some (.int (m : Int)), some (.ref p0), v3, v4, v5, v6, v7]) ∧ OwnF H [] p0 fs H' ∧ fs.length = i + 1 ∧ ∀ f ∈ fs, ShPart f, bk := tRet (tVar 2) { nx := fun _ H' => Q .non H', rt := Q } }
        [some (.ref a), some (.int (m : Int)), some (.ref p0), some (.int (i : Int)), some (.int c), some (.int top), v6, v7] H1 := fun v4 v6 v7 top ht => by
        walk_at "x"
        refine ⟨(by show 7 ≤ sizeLine; decide), fun p2 n2 => ?_⟩
        have o2 := o1.ext (same_upd (o := .lst [.int 1, .int 2, .int 3, .int 4, .int 5, .int 6, .int 997]) n2)
        have w2 := (o1.cell.new (o := .lst [.int 1, .int 2, .int 3, .int 4, .int 5, .int 6, .int 997]) n2)
        walk_at "x"
        refine x_modP (by decide) ?_
        obtain ⟨v, ev, hv⟩ := at_mem (xs := [.int 1, .int 2, .int 3, .int 4, .int 5, .int 6, .int 997]) (i := c % 7) (by omega) (by show c % 7 < 7; omega)
        refine x_ixXL (w2.sq 0 rfl) ev ?_
        obtain ⟨b, rfl, b0, bd⟩ : ∃ b : Int, v = .int b ∧ 0 < b ∧ b ∣ 59820 := by
          simp only [List.mem_cons, List.not_mem_nil, or_false] at hv
          rcases hv with rfl | rfl | rfl | rfl | rfl | rfl | rfl
          all_goals exact ⟨_, rfl, by decide, by decide⟩
        have ble := Int.le_of_dvd (by decide) bd
        have e64 : 1000000000000000000 < 2 ^ 64 := by decide
        walk_at "x"
        have hb : Bits 64 top b := ⟨by decide, by omega, by omega⟩
        refine ⟨top, b, 64, rfl, hb, by omega, fun H3 s3 => ?_⟩
        have o3 := o2.ext s3
        have hg : 0 < gcdI top b := by have := gcd_pos (a := top) (show b ≠ 0 by omega); unfold gcdI; omega
        have hlg := gcd_log (show b ≠ 0 by omega) hb
        have hD : H3 p0 = some (.lst (((Classical.choose o3.own).map V.ref))) := (Classical.choose_spec o3.own).1.get 0 rfl
        walk_at "x"
        refine ⟨x_tyL hD, ?_⟩
        walk_at "x"
        refine x_divP hg hlg ?_
        walk_at "x"
        refine x_divP hg hlg ?_
        refine ⟨(by show 2 ≤ sizeLine; decide), fun t n4 => ?_⟩
        walk_at "x"
        have sp := shpart ht b0 bd
        have es : frV (shortM top b) = [.int (top / gcdI top b), .int (b / gcdI top b)] := by unfold shortM; rw [if_pos b0]
        rw [← es]
        obtain ⟨acc, e1, e2, e3⟩ := o3.step (f := shortM top b) (by omega) n4 (same_upd n4) upd_same
        refine ⟨_, acc, _, rfl, rfl, e1, e2, ?_⟩
        refine ⟨fs ++ [shortM top b], ⟨_, _, _, _, _, rfl⟩, e3, by rw [List.length_append, hfl] <;> rfl, fun f hf => ?_⟩
        rcases List.mem_append.mp hf with m | m
        · exact hp f m
        · rw [List.mem_singleton] at m; subst m; exact sp
      refine ite2 (fun _ => ?_) (fun _ => ?_)
      · walk_at "x"
        refine x_mulI (.of_right (by decide)) ?_
        walk_at "x"
        refine x_powN ⟨by decide, by decide, by decide⟩ ?_
        rw [show (10 : Int) ^ (18 : Int).toNat = 1000000000000000000 by decide]
        refine x_mulI (.of_left (by decide)) ?_
        walk_at "x"
        refine x_modP (by decide) ?_
        walk_at "x"
        refine x_powN ⟨by decide, by decide, by decide⟩ ?_
        rw [show (10 : Int) ^ (18 : Int).toNat = 1000000000000000000 by decide]
        refine x_subI ?_
        have g1 := Int.emod_nonneg (c * 48271) (show (2 * 1000000000000000000 + 1 : Int) ≠ 0 by decide)
        have g2 := Int.emod_lt_of_pos (c * 48271) (show (0 : Int) < 2 * 1000000000000000000 + 1 by decide)
        exact fin none _ _ _ (by omega)
      · exact fin none _ _ _ (by omega)
    · rintro σ' H' ⟨fs, ⟨v3, v4, v5, v6, v7, rfl⟩, o, hfl, hp⟩
      walk_at "x"
      exact o.ret (k fs (by rw [hfl]; omega) hp)

/-! ### _law_drawn -/
def sp__law_drawn (K : PySem.W.Frag) : Sp := fun vs H Q _ => ∃ (a b : Addr) (ns Ts : List Int) (L : Int), vs = [.ref a, .ref b, .int L] ∧ SqL K H a (ns.map V.int) ∧ ns.length ≤ 63 ∧ SqL K H b (Ts.map V.int) ∧ 1 ≤ Ts.length ∧ Ts.length ≤ 6 ∧ 0 < L ∧ L ≤ 59820 ∧ (∀ z ∈ Ts, z.natAbs ≤ 59820000000000000000000) ∧
  ∀ ms, Tab ms Ts.length → (∀ z ∈ ms, z.natAbs < 2 ^ 128) → RetL (ms.map V.int) H Q
theorem ok__law_drawn (T : Txt K mg A) : FnOk P w K mg base (L2.CX P w) 2 A.a__law_drawn A.d__law_drawn ["_law_script", "_law_tops_here", "_law_low_here"] (sp__law_drawn K) := by
  refine T.F__law_drawn.okX sc__law_drawn (fun vs H Q E h => ?_) (fun cdv A0 outer s H vs Q E hr h => ?_)
  · obtain ⟨a, b, ns, Ts, L, rfl, _⟩ := h; rfl
  · obtain ⟨a, b, ns, Ts, L, rfl, hS, hl, hT, h1, h6, L0, L1, hz, k⟩ := h
    have hp : 2 ≤ 2 ^ Ts.length ∧ 2 ^ Ts.length ≤ 64 := ⟨Nat.pow_le_pow_right (n := 2) (by decide) h1, pow6 h6⟩
    refine ⟨_, (pss_cons (ps_set (i := 3) sc__law_drawn.nd rfl (.inl rfl) (pe_op op_mulX (pe_lst (pa_cons pe_int pa_nil)) (pe_op op_shlX pe_int (pe_callB (call_lenK (K := K) rfl) (by rfl) T.z_len (by decide +kernel) (pa_cons (pv 1) pa_nil)))))
      (pss_cons (ps_for (passes_of rfl) rfl (pi_range2 (by rfl) T.z_range (pa_cons pe_int (pa_cons (pe_callB (call_lenK (K := K) rfl) (by rfl) T.z_len (by decide +kernel) (pa_cons (pv 3) pa_nil)) pa_nil))) (pg_name (i := 4) sc__law_drawn.nd rfl (.inl rfl)) (pss_cons (ps_set (i := 5) sc__law_drawn.nd rfl (.inl rfl) (pe_op op_addX (pe_call (ok__law_cell T) (hr.mono (by decide)) (by rfl) T.g__law_cell T.F__law_cell.kp T.b__law_cell .nil (passes_call (takes_of rfl rfl rfl rfl) (fun _ _ _ _ h => h)) (pa_cons (pv 0) (pa_cons (pe_op op_addX pe_int (pe_op op_modX (pv 4) (pe_callB (call_max2X rfl) (by rfl) T.z_max (by decide +kernel) (pa_cons pe_int (pa_cons (pe_op op_subX (pe_callB (call_lenK (K := K) rfl) (by rfl) T.z_len (by decide +kernel) (pa_cons (pv 0) pa_nil)) pe_int) pa_nil))))) pa_nil))) (pv 4)))
      (pss_cons (ps_asg (pe_op op_subX (pe_op op_addX (pe_op op_fdivX (pe_call (ok__law_share T) (hr.mono (by decide)) (by rfl) T.g__law_share T.F__law_share.kp T.b__law_share .nil (passes_call (takes_of rfl rfl rfl rfl) (fun _ _ _ _ h => h)) (pa_cons (pv 1) (pa_cons (pv 4) pa_nil))) (pv 2)) (pe_op op_modX (pv 5) pe_int)) pe_int) (pg_sub (pv 3) (pv 4) set_list))
      (pss_one (ps_if (pt_cmpR (op_eqK (K := K) rfl hr.units) (pe_op op_modX (pe_op op_fdivX (pv 5) pe_int) pe_int) pe_int (nomark _)) (pss_one (ps_asg (pe_op op_addX (pe_ix (ix_seqK (K := K) rfl) (pv 3) (pv 4) (fun _ _ => rfl)) (pe_op op_mulX (pe_op op_subX pe_int (pe_op op_mulX pe_int (pe_op op_modX (pe_op op_fdivX (pv 5) pe_int) pe_int))) (pe_op op_subX (pe_op op_powX pe_int pe_int) (pe_op op_modX (pv 5) pe_int)))) (pg_sub (pv 3) (pv 4) set_list))) pss_nil)))))
      (pss_one (ps_ret (pv 3))))), ?_⟩
    walk_at "x"
    refine ⟨(by show 1 ≤ sizeLine; decide), fun p0 n0 => ?_⟩
    have w0 := (Own.start (H := H)).new (o := .lst [.int 0]) n0
    walk_at "x"
    refine x_lenL (w0.seq hT) ?_
    rw [List.length_map]
    refine x_shl ⟨by omega, by omega, by decide⟩ ?_
    rw [shl_nat]
    refine x_mulL (w0.get 0 rfl) ⟨by omega, by omega, by rw [Int.toNat_natCast]; exact Nat.le_trans (show [V.int 0].length * 2 ^ Ts.length ≤ 64 by rw [List.length_singleton]; omega) (by decide)⟩ (fun p1 n1 => ?_)
    rw [Int.toNat_natCast]
    have er : (List.replicate (2 ^ Ts.length) [V.int 0]).flatten = (List.replicate (2 ^ Ts.length) (0 : Int)).map V.int := by
      generalize 2 ^ Ts.length = n
      induction n with
      | zero => rfl
      | succ n ih => rw [List.replicate_succ, List.replicate_succ, List.flatten_cons, ih, List.map_cons] <;> rfl
    rw [er]
    have w1 := (w0.new (o := .lst ((List.replicate (2 ^ Ts.length) (0 : Int)).map V.int)) n1).sub (ds := [(p1, .lst ((List.replicate (2 ^ Ts.length) (0 : Int)).map V.int))]) (.cons_cons _ (.cons _ .slnil))
    have t0 : Tab (List.replicate (2 ^ Ts.length) (0 : Int)) Ts.length := ⟨by rw [List.length_replicate], h1, h6, by rw [List.getElem?_replicate, if_pos (by omega)]⟩
    walk_at "x"
    refine x_lenL (w1.sq 0 rfl) ?_
    walk_at "x"
    rw [List.length_map, List.length_replicate]
    have e128 : 1000000000000000000000000000000 < 2 ^ 128 := by decide
    refine ⟨_, _, rfl, ⟨by omega, by omega, by omega, by omega⟩, for_range (lo := 1) (n := (((2 ^ Ts.length : Nat) : Int) - 1).toNat) (fun i σ' H' => ∃ ms, Tab ms Ts.length ∧ (∀ z ∈ ms, z.natAbs < 2 ^ 128) ∧ (∃ v1 v2, σ' = [some (.ref a), some (.ref b), some (.int L), some (.ref p1), v1, v2]) ∧ Own H [(p1, .lst (ms.map V.int))] H') ⟨_, t0, fun z hz => by rw [List.eq_of_mem_replicate hz]; decide, ⟨_, _, rfl⟩, w1⟩ ?_ ?_⟩
    · rintro i σ' H' hi ⟨ms, tb, hb, ⟨v1, v2, rfl⟩, w⟩
      have hlt := tb.len
      have hg : i + 1 < 64 := by omega
      rw [show (1 : Int) + (i : Int) = ((i + 1 : Nat) : Int) by omega]
      walk_at "x"
      refine x_lenL (w.seq hS) ?_
      walk_at "x"
      rw [List.length_map]
      have hmx : 0 < (if (ns.length : Int) - 7 > 1 then (ns.length : Int) - 7 else 1) := by split <;> omega
      refine x_modP hmx ?_
      have m1 := Int.emod_nonneg ((i + 1 : Nat) : Int) (show (if (ns.length : Int) - 7 > 1 then (ns.length : Int) - 7 else 1) ≠ 0 by omega)
      walk_at "x"
      refine ⟨a, ns, _, rfl, w.seq hS, by omega, fun c H1 s1 => ?_⟩
      have w1 := w.ext s1
      walk_at "x"
      generalize c + ((i + 1 : Nat) : Int) = c at *
      refine ⟨b, i + 1, Ts, rfl, w1.seq hT, h6, hg, fun H2 s2 => ?_⟩
      have w2 := w1.ext s2
      walk_at "x"
      have sl := shareTo_le Ts (i + 1) hz Ts.length (Nat.le_refl _)
      have sl2 : (shareS Ts (i + 1)).natAbs ≤ 6 * 59820000000000000000000 := Nat.le_trans sl (Nat.mul_le_mul_right _ h6)
      refine x_divP L0 (Nat.lt_of_le_of_lt (Nat.log2_le_self _) (show L.natAbs < 9000000 by omega) |> fun _ => log_of (B := 64) L0 (by have : 59820 < 2 ^ 64 := by decide
                                                                                                                                       omega) (by decide)) ?_
      walk_at "x"
      refine x_modP (by decide) ?_
      walk_at "x"
      have dl := Int.natAbs_ediv_le_natAbs (shareS Ts (i + 1)) L
      have c4 := Int.emod_nonneg c (show (4 : Int) ≠ 0 by decide)
      have c5 := Int.emod_lt_of_pos c (show (0 : Int) < 4 by decide)
      generalize hy : shareS Ts (i + 1) / L + c % 4 - 1 = y
      have hy1 : y.natAbs ≤ 400000000000000000000000 := by omega
      have hix : ixN (ms.map V.int).length ((i + 1 : Nat) : Int) = some (i + 1) := by
        rw [List.length_map]; have := ixN_int (n := ms.length) (i := ((i + 1 : Nat) : Int)) (by omega) (by omega); rwa [Int.toNat_natCast] at this
      refine x_setL (w2.get 0 rfl) hix ?_
      rw [map_set_int]
      have w3 := w2.put (o' := .lst ((ms.set (i + 1) y).map V.int)) 0 rfl
      have tb3 : Tab (ms.set (i + 1) y) Ts.length := tb.set (by omega)
      have hb3 : ∀ z ∈ ms.set (i + 1) y, z.natAbs < 2 ^ 128 := fun z hz => by
        rcases List.mem_or_eq_of_mem_set hz with h | rfl
        · exact hb z h
        · omega
      have gy : gi (ms.set (i + 1) y) ((i + 1 : Nat) : Int) = y := by
        unfold gi
        rw [Int.toNat_natCast, List.getD_eq_getElem?_getD, List.getElem?_set_self (by omega)] <;> rfl
      generalize ms.set (i + 1) y = us at *
      walk_at "x"
      refine x_divP (by decide) (by decide) ?_
      walk_at "x"
      refine x_modP (by decide) ?_
      walk_at "x"
      refine ite2 (fun _ => ?_) (fun _ => ?_)
      · walk_at "x"
        have hul := tb3.len
        refine x_ixXL (w3.sq 0 rfl) (at_int (by omega) (by omega)) ?_
        rw [gy]
        walk_at "x"
        refine x_divP (by decide) (by decide) ?_
        walk_at "x"
        refine x_modP (by decide) ?_
        refine x_mulI (.of_left (by decide)) ?_
        walk_at "x"
        refine x_powN ⟨by decide, by decide, by decide⟩ ?_
        rw [show (10 : Int) ^ (18 : Int).toNat = 1000000000000000000 by decide]
        walk_at "x"
        refine x_modP (by decide) ?_
        walk_at "x"
        have q1 := Int.emod_nonneg (c / 16) (show (2 : Int) ≠ 0 by decide)
        have q2 := Int.emod_lt_of_pos (c / 16) (show (0 : Int) < 2 by decide)
        have r1 := Int.emod_nonneg c (show (1000 : Int) ≠ 0 by decide)
        have r2 := Int.emod_lt_of_pos c (show (0 : Int) < 1000 by decide)
        have mb : ((1 - 2 * (c / 16 % 2)) * (1000000000000000000 - c % 1000)).natAbs ≤ 1000000000000000000 := by
          rw [Int.natAbs_mul]
          have a1 : (1 - 2 * (c / 16 % 2)).natAbs ≤ 1 := by omega
          have a2 : (1000000000000000000 - c % 1000).natAbs ≤ 1000000000000000000 := by omega
          have := Nat.mul_le_mul a1 a2
          omega
        refine x_mulI (.of_left (intBits_le_64 (by omega) (by omega))) ?_
        walk_at "x"
        generalize (1 - 2 * (c / 16 % 2)) * (1000000000000000000 - c % 1000) = u at mb ⊢
        have hix3 : ixN (us.map V.int).length ((i + 1 : Nat) : Int) = some (i + 1) := by
          rw [List.length_map]; have := ixN_int (n := us.length) (i := ((i + 1 : Nat) : Int)) (by omega) (by omega); rwa [Int.toNat_natCast] at this
        refine x_setL (w3.get 0 rfl) hix3 ?_
        rw [map_set_int]
        have w4 := w3.put (o' := .lst ((us.set (i + 1) (y + u)).map V.int)) 0 rfl
        refine ⟨us.set (i + 1) (y + u), tb3.set (by omega), fun z hz => ?_, ⟨_, _, rfl⟩, w4⟩
        rcases List.mem_or_eq_of_mem_set hz with h | rfl
        · exact hb3 z h
        · omega
      · exact ⟨us, tb3, hb3, ⟨_, _, rfl⟩, w3⟩
    · rintro σ' H' ⟨ms, tb, hb, ⟨v1, v2, rfl⟩, w⟩
      walk_at "x"
      exact (k ms tb hb).go w

/-! ### _law_odd -/
def sp__law_odd (K : PySem.W.Frag) : Sp := fun vs H Q _ => ∃ c : Int, vs = [.int c] ∧ ∀ v H', Same H H' → oddD (newOf H H') K v → Q v H'
theorem ok__law_odd (T : Txt K mg A) : FnOk P w K mg base (L2.CX P w) 1 A.a__law_odd A.d__law_odd ["_law_cell_here"] (sp__law_odd K) := by
  refine T.F__law_odd.okX sc__law_odd (fun vs H Q E h => ?_) (fun cdv A0 outer s H vs Q E hr h => ?_)
  · obtain ⟨c, rfl, _⟩ := h; rfl
  · obtain ⟨c, rfl, k⟩ := h
    refine ⟨_, (pss_one (ps_ret (pe_ix (ix_seqK (K := K) rfl) (pe_lst (pa_cons pe_int (pa_cons (pe_tup (pa_cons pe_int (pa_cons pe_int pa_nil))) (pa_cons (pe_tup (pa_cons pe_int (pa_cons pe_int pa_nil))) (pa_cons (pe_tup (pa_cons pe_int (pa_cons (pe_un un_neg pe_int) pa_nil))) (pa_cons pe_non (pa_cons pe_str (pa_cons (pe_tup (pa_cons pe_int pa_nil)) (pa_cons (pe_tup (pa_cons pe_bl (pa_cons pe_int pa_nil))) (pa_cons (pe_tup (pa_cons pe_int (pa_cons pe_int pa_nil))) (pa_cons (pe_lst (pa_cons pe_int (pa_cons pe_int pa_nil))) pa_nil))))))))))) (pe_op op_modX (pv 0) pe_int) (fun _ _ => rfl)))), ?_⟩
    walk_at "x"
    refine ⟨(by show 2 ≤ sizeLine; decide), fun p1 n1 => ?_⟩
    have w := (Own.start (H := H)).new (o := .tup (frV (1, 0))) n1
    walk_at "x"
    refine ⟨(by show 2 ≤ sizeLine; decide), fun p2 n2 => ?_⟩
    have w := w.new (o := .tup (frV (2, 4))) n2
    walk_at "x"
    refine ⟨(by show 2 ≤ sizeLine; decide), fun p3 n3 => ?_⟩
    have w := w.new (o := .tup (frV (1, -1))) n3
    walk_at "x"
    refine ⟨(by show 1 ≤ sizeLine; decide), fun p4 n4 => ?_⟩
    have w := w.new (o := .tup [.int 1]) n4
    walk_at "x"
    refine ⟨(by show 2 ≤ sizeLine; decide), fun p5 n5 => ?_⟩
    have w := w.new (o := .tup [.bl true, .int 1]) n5
    walk_at "x"
    refine ⟨(by show 2 ≤ sizeLine; decide), fun p6 n6 => ?_⟩
    have w := w.new (o := .tup (frV (0, 2))) n6
    walk_at "x"
    refine ⟨(by show 2 ≤ sizeLine; decide), fun p7 n7 => ?_⟩
    have w := w.new (o := .lst [.int 1, .int 2]) n7
    walk_at "x"
    refine ⟨(by show 10 ≤ sizeLine; decide), fun p8 n8 => ?_⟩
    have w := w.new (o := .lst [.int 3, .ref p1, .ref p2, .ref p3, .non, .str "1", .ref p4, .ref p5, .ref p6, .ref p7]) n8
    walk_at "x"
    refine x_modP (by decide) ?_
    obtain ⟨v, ev, hv⟩ := at_mem (xs := [.int 3, .ref p1, .ref p2, .ref p3, .non, .str "1", .ref p4, .ref p5, .ref p6, .ref p7]) (i := c % 10) (by omega) (by show c % 10 < 10; omega)
    refine x_ixXL (w.sq 0 rfl) ev ?_
    have nt : ∀ {H : Hp} {v : V}, (∀ a, v ≠ .ref a) → ¬ isTp H v := fun h ⟨a, xs, e, _⟩ => h a e
    have tpn : ∀ (i : Int), LayD 2 (.tuple [.int i]) := fun i => LayD.tuple fun d hd => by simp at hd; subst hd; exact LayD.int (by decide) _
    have tp2 : ∀ (i j : Int), LayD 2 (.tuple [.int i, .int j]) := fun i j => LayD.tuple fun d hd => by
      simp at hd
      rcases hd with rfl | rfl
      all_goals exact LayD.int (by decide) _
    refine k v _ w.ex ?_
    have w := w.news
    simp only [List.mem_cons, List.not_mem_nil, or_false] at hv
    rcases hv with rfl | rfl | rfl | rfl | rfl | rfl | rfl | rfl | rfl | rfl
    · exact ⟨.no (.int _) (nt fun a e => (nomatch e)), _, .int 3, LayD.int (by decide) _⟩
    · exact ⟨.num (B := 4) (.inl (w.get 7 rfl)) ⟨by decide, by decide, by decide⟩, _, .tup (SqT.of (w.get 7 rfl)) (.cons (.int _) (.cons (.int _) .nil)), tp2 _ _⟩
    · exact ⟨.num (B := 4) (.inl (w.get 6 rfl)) ⟨by decide, by decide, by decide⟩, _, .tup (SqT.of (w.get 6 rfl)) (.cons (.int _) (.cons (.int _) .nil)), tp2 _ _⟩
    · exact ⟨.num (B := 4) (.inl (w.get 5 rfl)) ⟨by decide, by decide, by decide⟩, _, .tup (SqT.of (w.get 5 rfl)) (.cons (.int _) (.cons (.int _) .nil)), tp2 _ _⟩
    · exact ⟨.no .non (nt fun a e => (nomatch e)), _, .non, LayD.none (by decide)⟩
    · exact ⟨.no (.str _) (nt fun a e => (nomatch e)), _, .str _, LayD.str (by decide) (by decide +kernel)⟩
    · exact ⟨.len (.inl (w.get 4 rfl)) (by decide), _, .tup (SqT.of (w.get 4 rfl)) (.cons (.int _) .nil), tpn _⟩
    · refine ⟨.two (.inl (w.get 3 rfl)) (.bl _) (.int _) (.inl rfl), _, .tup (SqT.of (w.get 3 rfl)) (.cons (.bl _) (.cons (.int _) .nil)), LayD.tuple fun d hd => ?_⟩
      simp at hd
      rcases hd with rfl | rfl
      · exact LayD.bool (by decide) _
      · exact LayD.int (by decide) _
    · exact ⟨.num (B := 4) (.inl (w.get 2 rfl)) ⟨by decide, by decide, by decide⟩, _, .tup (SqT.of (w.get 2 rfl)) (.cons (.int _) (.cons (.int _) .nil)), tp2 _ _⟩
    · refine ⟨.no (.lst (.inl (w.get 1 rfl))) (fun ⟨a, xs, e, hr⟩ => ?_), _, dp_ints (ns := [1, 2]) (w.sq 1 rfl), LayD.ints⟩
      cases e
      rcases hr with h | ⟨o, h⟩
      · rw [w.get 1 rfl] at h; cases h
      · rw [w.get 1 rfl] at h; cases h

/-! ### _law_amiss -/
def sp__law_amiss (K : PySem.W.Frag) : Sp := fun vs H Q _ => ∃ (a : Addr) (ts : List Addr) (fs : List (Int × Int)) (c : Int), vs = [.ref a, .int c] ∧ SqL K H a (ts.map V.ref) ∧ FrAll H ts fs ∧ (∀ f ∈ fs, ShPart f) ∧ 1 ≤ fs.length ∧ fs.length ≤ 6 ∧
  ∀ p H' ys, H p = none → Same H H' → H' p = some (.lst ys) → Amiss K H' ys fs.length → Q (.ref p) H'
theorem ok__law_amiss (T : Txt K mg A) : FnOk P w K mg base (L2.CX P w) 2 A.a__law_amiss A.d__law_amiss ["_law_shares_here", "_law_cell_here"] (sp__law_amiss K) := by
  refine T.F__law_amiss.okX sc__law_amiss (fun vs H Q E h => ?_) (fun cdv A0 outer s H vs Q E hr h => ?_)
  · obtain ⟨a, ts, fs, c, rfl, _⟩ := h; rfl
  · obtain ⟨a, ts, fs, c, rfl, hS, fa, hp, h1, h6, k⟩ := h
    have hl := fa.len
    refine ⟨_, (pss_cons (ps_set (i := 2) sc__law_amiss.nd rfl (.inl rfl) (pe_callTy (call_listK (K := K) rfl) (by rfl) T.z_list (by decide +kernel) (pa_cons (pv 0) pa_nil)))
      (pss_cons (ps_if (pt_cmpR (op_eqK (K := K) rfl hr.units) (pe_op op_modX (pv 1) pe_int) pe_int (nomark _)) (pss_one (ps_ret (pe_slice (sl_listK (K := K) rfl) (pv 2) (po_some pe_int) po_none))) pss_nil)
      (pss_cons (ps_if (pt_cmpR (op_eqK (K := K) rfl hr.units) (pe_op op_modX (pv 1) pe_int) pe_int (nomark _)) (pss_one (ps_ret (pe_op op_addX (pv 2) (pe_lst (pa_cons (pe_tup (pa_cons pe_int (pa_cons pe_int pa_nil))) pa_nil))))) pss_nil)
      (pss_cons (ps_asg (pe_call (ok__law_odd T) (hr.mono (by decide)) (by rfl) T.g__law_odd T.F__law_odd.kp T.b__law_odd .nil (passes_call (takes_of rfl rfl rfl rfl) (fun _ _ _ _ h => h)) (pa_cons (pe_op op_fdivX (pv 1) pe_int) pa_nil)) (pg_sub (pv 2) (pe_op op_modX (pe_op op_fdivX (pv 1) pe_int) (pe_callB (call_lenK (K := K) rfl) (by rfl) T.z_len (by decide +kernel) (pa_cons (pv 2) pa_nil))) set_list))
      (pss_one (ps_ret (pv 2))))))), ?_⟩
    walk_at "x"
    refine x_list hS (fun p1 n1 => ?_)
    have w1 := (Own.start (H := H)).new (o := .lst (ts.map V.ref)) n1
    walk_at "x"
    refine x_modP (by decide) ?_
    walk_at "x"
    refine ite2 (fun _ => ?_) (fun _ => ?_)
    · walk_at "x"
      refine ⟨_, _, rfl, w1.sq 0 rfl, fun p2 n2 => ?_⟩
      rw [show (1 : Int) = ((1 : Nat) : Int) from rfl, cut_from]
      have w2 := w1.new (o := .lst ((ts.map V.ref).drop 1)) n2
      have dd := dpAll_drop1 (dpAll_fr (K := K) (fa.same w2.ex))
      refine k p2 _ _ (w2.none 0 rfl) w2.ex (w2.get 0 rfl) ⟨.inl ?_, ⟨_, dd, fun d hd => lay_frDs fs d (List.mem_of_mem_drop hd)⟩, ?_⟩
      · rw [List.length_drop, List.length_map]; omega
      · rw [List.length_drop, List.length_map]; omega
    · walk_at "x"
      refine x_modP (by decide) ?_
      walk_at "x"
      refine ite2 (fun _ => ?_) (fun _ => ?_)
      · walk_at "x"
        refine ⟨(by show 2 ≤ sizeLine; decide), fun p2 n2 => ?_⟩
        have w2 := w1.new (o := .tup (frV (0, 1))) n2
        walk_at "x"
        refine ⟨(by show 1 ≤ sizeLine; decide), fun p3 n3 => ?_⟩
        have w3 := w2.new (o := .lst [.ref p2]) n3
        refine x_addL (.inl (w3.get 2 rfl)) (.inl (w3.get 0 rfl)) (Nat.le_trans (show (ts.map V.ref).length + [V.ref p2].length ≤ 20 by rw [List.length_map]; show _ + 1 ≤ 20; omega) (by decide)) (fun p4 n4 => ?_)
        have w4 := w3.new (o := .lst (ts.map V.ref ++ [.ref p2])) n4
        have dd := Sp.DpAll.app (dpAll_fr (K := K) (fa.same w4.ex)) (.cons (.tup (SqT.of (w4.get 2 rfl)) (.cons (.int 0) (.cons (.int 1) .nil))) .nil)
        refine k p4 _ _ (w4.none 0 rfl) w4.ex (w4.get 0 rfl) ⟨.inl ?_, ⟨_, dd, fun d hd => ?_⟩, ?_⟩
        · rw [List.length_append, List.length_map]; show _ + 1 ≠ _; omega
        · rcases List.mem_append.mp hd with m | m
          · exact lay_frDs fs d m
          · rw [List.mem_singleton] at m
            exact lay_frDs [(0, 1)] d (by rw [m]; exact .head _)
        · rw [List.length_append, List.length_map]; show _ + 1 ≤ _; omega
      · walk_at "x"
        refine x_divP (by decide) (by decide) ?_
        walk_at "x"
        refine ⟨_, rfl, fun v H2 s2 hv => ?_⟩
        have w2 := w1.ext s2
        walk_at "x"
        refine x_divP (by decide) (by decide) ?_
        walk_at "x"
        refine x_lenL (w2.sq 0 rfl) ?_
        rw [List.length_map]
        refine x_modP (by omega) ?_
        obtain ⟨j, hj⟩ := Int.eq_ofNat_of_zero_le (Int.emod_nonneg (c / 40) (show (ts.length : Int) ≠ 0 by omega))
        have hj2 := Int.emod_lt_of_pos (c / 40) (show (0 : Int) < (ts.length : Int) by omega)
        have hjl : j < ts.length := by omega
        rw [hj]
        have hix : ixN (ts.map V.ref).length (j : Int) = some j := by rw [List.length_map]; have := ixN_int (n := ts.length) (i := (j : Int)) (by omega) (by omega); rwa [Int.toNat_natCast] at this
        refine x_setL (w2.get 0 rfl) hix ?_
        have w3 := w2.put (o' := .lst ((ts.map V.ref).set j v)) 0 rfl
        have hN : Same (newOf (upd H p1 (.lst (ts.map V.ref))) H2) (upd H2 p1 (.lst ((ts.map V.ref).set j v))) := fun a o h => by
          obtain ⟨e1, e2⟩ := newOf_in h
          rw [upd_ne (fun z => by subst z; rw [upd_same] at e1; cases e1)]
          exact e2
        obtain ⟨hF, d, hD, lD⟩ := hv
        have hF := hF.same hN
        have hD := Sp.Dp.same hN _ _ hD
        have fa3 := fa.same w3.ex
        have dd := dpAll_set hD (dpAll_fr (K := K) fa3) j
        walk_at "x"
        refine k p1 _ _ (w3.none 0 rfl) w3.ex (w3.get 0 rfl) ⟨.inr ⟨(List.replicate ts.length true).set j false, ?_, fun i y bb hy hb => ?_, ?_⟩, ⟨_, dd, fun d' hd => ?_⟩, ?_⟩
        · rw [List.length_set, List.length_set, List.length_replicate, List.length_map]
        · by_cases e : j = i
          · subst e
            rw [List.getElem?_set_self (by rw [List.length_map]; exact hjl)] at hy
            rw [List.getElem?_set_self (by rw [List.length_replicate]; exact hjl)] at hb
            cases hy; cases hb
            exact hF
          · rw [List.getElem?_set_ne e] at hy hb
            obtain ⟨t, ht, rfl⟩ := map_at hy
            obtain rfl := List.eq_of_mem_replicate (List.mem_of_getElem? hb)
            obtain ⟨f, hf, hr⟩ := fa3.at ht
            exact frT_part hr (hp f (List.mem_of_getElem? hf))
        · exact List.mem_of_getElem? (List.getElem?_set_self (by rw [List.length_replicate]; exact hjl))
        · rcases List.mem_or_eq_of_mem_set hd with m | rfl
          · exact lay_frDs fs d' m
          · exact lD
        · rw [List.length_set, List.length_map]; omega

/-! ### _law_own -/
def sp__law_own (A : Ads) : Addr → Value → Option Addr → Sp := fun a cls d vs H Q _ => vs = [.ref a] ∧ cls = .ref A.NoShares ∧ d = none ∧ RetV (.bl true) H Q
theorem ok__law_own (T : Txt K mg A) : FnP P w K mg base 1 A.a__law_own A.d__law_own ["_law_error"] (sp__law_own A) := by
  refine okP T.F__law_own sc__law_own (fun a c d vs H Q E h => ?_) (fun cdv A0 outer s H vs Q E a oe hr hf h => ?_)
  · obtain ⟨rfl, _⟩ := h; rfl
  · obtain ⟨rfl, hc, hd, k⟩ := h
    have w := Own.start (H := H)
    refine ⟨_, (pss_cons (ps_if (PW.pt (pw_or (pt_val (pe_callB (call_isPTX (K := K) rfl (List.mem_singleton_self _) hf) (by rfl) T.z_isinstance (by decide +kernel) (pa_cons (pv 0) (pa_cons (pe_tup (pa_cons (pe_glob (v := .ref A.NoGroup) (by rfl) T.g_NoGroup rfl) (pa_cons (pe_glob (v := .ref A.NoNumber) (by rfl) T.g_NoNumber rfl) pa_nil))) pa_nil)))) (pw_or1 (pt_val (pe_callB (call_isPTX (K := K) rfl (List.mem_singleton_self _) hf) (by rfl) T.z_isinstance (by decide +kernel) (pa_cons (pv 0) (pa_cons (pe_tup (pa_cons (pe_glob (v := .ref A.NoOrder) (by rfl) T.g_NoOrder rfl) (pa_cons (pe_glob (v := .ref A.NoRule) (by rfl) T.g_NoRule rfl) pa_nil))) pa_nil))))))) (pss_one (ps_ret pe_bl)) pss_nil)
      (pss_cons (ps_if (PW.pt (pw_or (pt_val (pe_callB (call_isPTX (K := K) rfl (List.mem_singleton_self _) hf) (by rfl) T.z_isinstance (by decide +kernel) (pa_cons (pv 0) (pa_cons (pe_tup (pa_cons (pe_glob (v := .ref A.NoRows) (by rfl) T.g_NoRows rfl) (pa_cons (pe_glob (v := .ref A.NoTable) (by rfl) T.g_NoTable rfl) pa_nil))) pa_nil)))) (pw_or1 (pt_val (pe_callB (call_isPTX (K := K) rfl (List.mem_singleton_self _) hf) (by rfl) T.z_isinstance (by decide +kernel) (pa_cons (pv 0) (pa_cons (pe_tup (pa_cons (pe_glob (v := .ref A.NoText) (by rfl) T.g_NoText rfl) (pa_cons (pe_glob (v := .ref A.NoVotes) (by rfl) T.g_NoVotes rfl) pa_nil))) pa_nil))))))) (pss_one (ps_ret pe_bl)) pss_nil)
      (pss_cons (ps_if (pt_val (pe_callB (call_isPTX (K := K) rfl (List.mem_singleton_self _) hf) (by rfl) T.z_isinstance (by decide +kernel) (pa_cons (pv 0) (pa_cons (pe_tup (pa_cons (pe_glob (v := .ref A.TooMany) (by rfl) T.g_TooMany rfl) (pa_cons (pe_glob (v := .ref A.Unlike) (by rfl) T.g_Unlike rfl) pa_nil))) pa_nil)))) (pss_one (ps_ret pe_bl)) pss_nil)
      (pss_one (ps_ret (pe_and (pe_callB (call_isPX (K := K) rfl (List.mem_singleton_self _) hf) (by rfl) T.z_isinstance (by decide +kernel) (pa_cons (pv 0) (pa_cons (pe_glob (v := .ref A.NoShares) (by rfl) T.g_NoShares rfl) pa_nil))) (pe_one (pe_callB (call_isPX (K := K) rfl (List.mem_singleton_self _) hf) (by rfl) T.z_isinstance (by decide +kernel) (pa_cons (pv 0) (pa_cons (pe_bltn (v := .ty "ValueError") (by rfl) T.z_ValueError (by decide +kernel) rfl) pa_nil)))))))))), ?_⟩
    rw [hc, hd]
    walk_at "x"
    refine ⟨(by show 2 ≤ sizeLine; decide), fun p1 n1 => ?_⟩
    have w1 := w.new (o := .tup [.ref A.NoGroup, .ref A.NoNumber]) n1
    walk_at "x"
    refine x_isET (Cs := [A.NoGroup, A.NoNumber]) T.X_NoShares (w1.get 0 rfl) (kit_no (kit_own T.q_NoGroup T.u_NoShares_NoGroup) (kit_no (kit_own T.q_NoNumber T.u_NoShares_NoNumber) rfl)) ?_
    refine ⟨false, rfl, iteF ?_⟩
    walk_at "x"
    refine ⟨(by show 2 ≤ sizeLine; decide), fun p2 n2 => ?_⟩
    have w2 := w1.new (o := .tup [.ref A.NoOrder, .ref A.NoRule]) n2
    walk_at "x"
    refine x_isET (Cs := [A.NoOrder, A.NoRule]) T.X_NoShares (w2.get 0 rfl) (kit_no (kit_own T.q_NoOrder T.u_NoShares_NoOrder) (kit_no (kit_own T.q_NoRule T.u_NoShares_NoRule) rfl)) ?_
    refine ⟨false, rfl, iteF ?_⟩
    walk_at "x"
    refine ⟨(by show 2 ≤ sizeLine; decide), fun p3 n3 => ?_⟩
    have w3 := w2.new (o := .tup [.ref A.NoRows, .ref A.NoTable]) n3
    walk_at "x"
    refine x_isET (Cs := [A.NoRows, A.NoTable]) T.X_NoShares (w3.get 0 rfl) (kit_no (kit_own T.q_NoRows T.u_NoShares_NoRows) (kit_no (kit_own T.q_NoTable T.u_NoShares_NoTable) rfl)) ?_
    refine ⟨false, rfl, iteF ?_⟩
    walk_at "x"
    refine ⟨(by show 2 ≤ sizeLine; decide), fun p4 n4 => ?_⟩
    have w4 := w3.new (o := .tup [.ref A.NoText, .ref A.NoVotes]) n4
    walk_at "x"
    refine x_isET (Cs := [A.NoText, A.NoVotes]) T.X_NoShares (w4.get 0 rfl) (kit_no (kit_own T.q_NoText T.u_NoShares_NoText) (kit_no (kit_own T.q_NoVotes T.u_NoShares_NoVotes) rfl)) ?_
    refine ⟨false, rfl, iteF ?_⟩
    walk_at "x"
    refine ⟨(by show 2 ≤ sizeLine; decide), fun p5 n5 => ?_⟩
    have w5 := w4.new (o := .tup [.ref A.TooMany, .ref A.Unlike]) n5
    walk_at "x"
    refine x_isET (Cs := [A.TooMany, A.Unlike]) T.X_NoShares (w5.get 0 rfl) (kit_no (kit_own T.q_TooMany T.u_NoShares_TooMany) (kit_no (kit_own T.q_Unlike T.u_NoShares_Unlike) rfl)) ?_
    refine ⟨false, rfl, iteF ?_⟩
    walk_at "x"
    refine x_isE T.X_NoShares T.q_NoShares T.u_NoShares_NoShares ?_
    refine ⟨true, rfl, iteT ?_⟩
    walk_at "x"
    refine x_isEV T.X_NoShares T.v_NoShares ?_
    exact k _ w5.ex

/-! ### _law_refused -/
def sp__law_refused (K : PySem.W.Frag) : Sp := fun vs H Q _ => ∃ (a b : Addr) (ns : List Int) (k : Nat) (ys : List V), vs = [.ref a, .ref b] ∧ Rd H a (.lst (ns.map V.int)) ∧ Tab ns k ∧ SqL K H b ys ∧ Amiss K H ys k ∧ RetV (.bl true) H Q
theorem ok__law_refused (T : Txt K mg A) : FnOk P w K mg base (L2.CX P w) 6 A.a__law_refused A.d__law_refused ["_law_table", "_law_amiss_here"] (sp__law_refused K) := by
  refine T.F__law_refused.okX sc__law_refused (fun vs H Q E h => ?_) (fun cdv A0 outer s H vs Q E hr h => ?_)
  · obtain ⟨a, b, ns, k, ys, rfl, _⟩ := h; rfl
  · obtain ⟨a, b, ns, k, ys, rfl, R, tb, hS, am, q⟩ := h
    refine ⟨_, (pss_cons (ps_set (i := 2) sc__law_refused.nd rfl (.inl rfl) pe_bl)
      (pss_cons (ps_try_as (i := 3) (Wout := fun _ _ _ _ => False) rfl rfl sc__law_refused.nd rfl rfl ⟨rfl, by decide, Or.inl T.g_ShareError⟩ takes0 (fun W pn xe tk _ => (pss_one (ps_expr (pe_callS (ok_bettering T) (hr.mono (by decide)) (by rfl) T.g_bettering T.F_bettering.kp T.b_bettering (fun σ => passAt tk σ) (pa_cons (pv 0) (pa_cons (pv 1) pa_nil)))))) (fun a oe cls d pn hz hf => (pss_one (ps_set (i := 2) sc__law_refused.nd rfl (.inl rfl) (pe_callP hz hf (ok__law_own T) (hr.mono (by decide)) (by rfl) T.g__law_own T.F__law_own.kp T.b__law_own (pa_cons (pv 3) pa_nil))))))
      (pss_one (ps_ret (pv 2))))), ?_⟩
    walk_at "x"
    have ex : ∀ (W : XK), (∀ H', Same H H' → W (.ref A.NoShares) none H') → ∀ (Q : VK), sp_bettering A K [.ref a, .ref b] H Q W := fun W hW Q => by
      refine ⟨a, b, _, _, rfl, R, things_int, hS, (fun e => by rw [tb.look] at e; cases e), fun ns' k' tb' e => ?_⟩
      obtain rfl := map_int_inj e
      obtain rfl := tb.same tb'
      refine ⟨fun _ => hW, fun hl => ?_⟩
      rcases am.bad with h | ⟨bs, h1, h2, h3⟩
      · exact absurd hl h
      · exact ⟨bs, h1, h2, fun _ => hW, fun h => absurd (h _ h3) (by decide)⟩
    refine ex _ (fun H1 s1 => ⟨true, T.h_NoShares_ShareError, fun _ a0 ha0 => ?_, fun q => nomatch q⟩) _
    walk_at "x"
    refine ⟨rfl, rfl, rfl, fun H2 s2 => ?_⟩
    walk_at "x"
    exact q _ (s1.trans s2)

/-! ### _law_groups -/
def sp__law_groups (K : PySem.W.Frag) : Sp := fun vs H Q _ => ∃ (a b : Addr) (l : List Nat), vs = [.ref a, .ref b] ∧ Rd H a (.lst (l.map vnat)) ∧ SqL K H b (l.map vnat) ∧ RetV (.bl true) H Q
theorem ok__law_groups (T : Txt K mg A) : FnOk P w K mg base (L2.CX P w) 2 A.a__law_groups A.d__law_groups ["_law_found", "_law_due"] (sp__law_groups K) := by
  refine T.F__law_groups.okX sc__law_groups (fun vs H Q E h => ?_) (fun cdv A0 outer s H vs Q E hr h => ?_)
  · obtain ⟨a, b, l, rfl, _⟩ := h; rfl
  · obtain ⟨a, b, l, rfl, hA, hB, k⟩ := h
    refine ⟨_, (pss_cons (ps_if (PW.pt (pw_or (pt_not (pt_val (pe_callB (call_isiX (K := K) rfl) (by rfl) T.z_isinstance (by decide +kernel) (pa_cons (pv 0) (pa_cons (pe_bltn (v := .ty "list") (by rfl) T.z_list (by decide +kernel) rfl) pa_nil))))) (pw_or1 (pt_cmpR (op_neK (K := K) rfl hr.units) (pe_callB (call_lenK (K := K) rfl) (by rfl) T.z_len (by decide +kernel) (pa_cons (pv 0) pa_nil)) (pe_callB (call_lenK (K := K) rfl) (by rfl) T.z_len (by decide +kernel) (pa_cons (pv 1) pa_nil)) (nomark _))))) (pss_one (ps_ret pe_bl)) pss_nil)
      (pss_cons (ps_for (passes_of rfl) rfl (pi_zipK (K := K) rfl (by rfl) T.z_zip (pa_cons (pv 0) (pa_cons (pv 1) pa_nil))) (pg_tupK (K := K) (n := 2) rfl rfl (pgs_cons (pg_name (i := 2) sc__law_groups.nd rfl (.inl rfl)) (pgs_cons (pg_name (i := 3) sc__law_groups.nd rfl (.inl rfl)) pgs_nil))) (pss_one (ps_if (PW.pt (pw_or (pt_not (pt_val (pe_call (ok__law_whole T) (hr.mono (by decide)) (by rfl) T.g__law_whole T.F__law_whole.kp T.b__law_whole .nil (passes_call (takes_of rfl rfl rfl rfl) (fun _ _ _ _ h => h)) (pa_cons (pv 2) pa_nil)))) (pw_or1 (pt_cmpR (op_neK (K := K) rfl hr.units) (pv 2) (pv 3) (nomark _))))) (pss_one (ps_ret pe_bl)) pss_nil)))
      (pss_one (ps_ret pe_bl)))), ?_⟩
    walk_at "x"
    refine x_isiListL hA ?_
    walk_at "x"
    refine iteF ?_
    walk_at "x"
    refine x_lenL (.inl hA) ?_
    walk_at "x"
    refine x_lenL hB ?_
    walk_at "x"
    rw [decide_eq_true rfl]
    refine iteF ?_
    walk_at "x"
    refine ⟨a, b, _, _, rfl, .inl hA, hB, RZ.for_zipL rfl (fun i σ' H' => (∃ v1 v2, σ' = [some (.ref a), some (.ref b), v1, v2]) ∧ Same H H') ⟨⟨_, _, rfl⟩, Same.refl _⟩ (fun i σ' H' h => ⟨h.2.seq (.inl hA), h.2.seq hB⟩) ?_ ?_⟩
    · rintro i x y t σ' H' hx hy ⟨⟨v1, v2, rfl⟩, s1⟩ nt
      obtain ⟨z, hz, rfl⟩ := map_at hx
      rw [hx] at hy
      obtain rfl := Option.some.inj hy
      have st := same_upd (o := .tup [vnat z, vnat z]) nt
      refine x_gt (SqT.of upd_same) rfl ?_
      walk_at "x"
      refine ⟨_, rfl, .int _, fun H2 s2 => ?_⟩
      walk_at "x"
      refine iteF ?_
      walk_at "x"
      rw [decide_eq_true rfl]
      refine iteF ?_
      walk_at "x"
      exact ⟨⟨_, _, rfl⟩, (s1.trans st).trans s2⟩
    · rintro σ' H' ⟨⟨v1, v2, rfl⟩, s1⟩
      walk_at "x"
      exact k _ s1

/-! ### law -/
theorem grp_all {Ts ns : List Int} {L : Int} : grpsTo (fun g => decide (shareS Ts g < fn ns g * L)) (ns.length - 1) = betterM ns Ts L := rfl
theorem tops_le {L : Int} {fs : List (Int × Int)} (h0 : 0 < L) (hL : L ≤ 59820) (hp : ∀ f ∈ fs, f.1.natAbs ≤ 1000000000000000000) : ∀ z ∈ topsOf L fs, z.natAbs ≤ 59820000000000000000000 := fun z hz => by
  obtain ⟨f, hf, rfl⟩ := List.mem_map.mp hz
  rw [Int.natAbs_mul]
  have h1 := hp f hf
  have h2 := Int.natAbs_ediv_le_natAbs L f.2
  have h3 : (L / f.2).natAbs ≤ 59820 := by omega
  exact Nat.mul_le_mul h1 h3
/-- the due list, as the law makes it -/
def sp_law (K : PySem.W.Frag) : Sp := fun vs H Q _ => ∃ (a : Addr) (ns : List Int), vs = [.ref a] ∧ SqL K H a (ns.map V.int) ∧ ns.length ≤ 63 ∧ ∀ H', Q (.bl true) H'
theorem ok_law (T : Txt K mg A) : FnOk P w K mg base (L2.CX P w) 7 A.a_law A.d_law ["_law_script"] (sp_law K) := by
  refine T.F_law.okX sc_law (fun vs H Q E h => ?_) (fun cdv A0 outer s H vs Q E hr h => ?_)
  · obtain ⟨a, ns, rfl, _⟩ := h; rfl
  · obtain ⟨a, ns, rfl, hS, hl, k⟩ := h
    refine ⟨_, (pss_cons (ps_set (i := 1) sc_law.nd rfl (.inl rfl) (pe_op op_addX pe_int (pe_op op_modX (pe_call (ok__law_cell T) (hr.mono (by decide)) (by rfl) T.g__law_cell T.F__law_cell.kp T.b__law_cell .nil (passes_call (takes_of rfl rfl rfl rfl) (fun _ _ _ _ h => h)) (pa_cons (pv 0) (pa_cons pe_int pa_nil))) pe_int)))
      (pss_cons (ps_set (i := 2) sc_law.nd rfl (.inl rfl) (pe_call (ok__law_shares T) (hr.mono (by decide)) (by rfl) T.g__law_shares T.F__law_shares.kp T.b__law_shares .nil (passes_call (takes_of rfl rfl rfl rfl) (fun _ _ _ _ h => h)) (pa_cons (pv 0) (pa_cons (pv 1) pa_nil))))
      (pss_cons (ps_set (i := 3) sc_law.nd rfl (.inr rfl) (pe_call (ok__law_low T) (hr.mono (by decide)) (by rfl) T.g__law_low T.F__law_low.kp T.b__law_low .nil (passes_call (takes_of rfl rfl rfl rfl) (fun _ _ _ _ h => h)) (pa_cons (pv 2) pa_nil)))
      (pss_cons (ps_set (i := 4) sc_law.nd rfl (.inr rfl) (pe_call (ok__law_tops T) (hr.mono (by decide)) (by rfl) T.g__law_tops T.F__law_tops.kp T.b__law_tops .nil (passes_call (takes_of rfl rfl rfl rfl) (fun _ _ _ _ h => h)) (pa_cons (pv 2) (pa_cons (pv 3) pa_nil))))
      (pss_cons (ps_set (i := 5) sc_law.nd rfl (.inr rfl) (pe_call (ok__law_drawn T) (hr.mono (by decide)) (by rfl) T.g__law_drawn T.F__law_drawn.kp T.b__law_drawn .nil (passes_call (takes_of rfl rfl rfl rfl) (fun _ _ _ _ h => h)) (pa_cons (pv 0) (pa_cons (pv 4) (pa_cons (pv 3) pa_nil)))))
      (pss_cons (ps_setLc (i := 6) (own := [("_law_group", 12)]) rfl sc_law.nd rfl rfl (sw_true rfl rfl rfl (by decide +kernel)) (pi_range2 (by rfl) T.z_range (pa_cons pe_int (pa_cons (pe_callB (call_lenK (K := K) rfl) (by rfl) T.z_len (by decide +kernel) (pa_cons (pv 5) pa_nil)) pa_nil))) (blkOk_by (own := [("_law_group", 12)]) (N := N_law) (sc := defScope s_law) (by decide +kernel)) (fun _ _ _ _ _ => (pg_name (i := 12) sc_law.nd rfl (.inl rfl))) (fun _ _ _ _ _ => (pts_one (pt_cmpR op_ltX (pe_call (ok__law_share T) (hr.mono (by decide)) (by rfl) T.g__law_share T.F__law_share.kp T.b__law_share .nil passL (pa_cons (pv 4) (pa_cons (pv 12) pa_nil))) (pe_op op_mulX (pe_ix (ix_seqK (K := K) rfl) (pv 5) (pv 12) (fun _ _ => rfl)) (pv 3)) (nomark _)))) (fun _ _ _ _ _ => (pv 12)))
      (pss_cons (ps_set (i := 7) sc_law.nd rfl (.inl rfl) (pe_lst (pa_cons (pe_callTy (call_listK (K := K) rfl) (by rfl) T.z_list (by decide +kernel) (pa_cons (pv 5) pa_nil)) (pa_cons (pe_callTy (call_listK (K := K) rfl) (by rfl) T.z_list (by decide +kernel) (pa_cons (pv 2) pa_nil)) pa_nil))))
      (pss_cons (ps_set (i := 8) sc_law.nd rfl (.inl rfl) (pe_call (ok_bettering T) (hr.mono (by decide)) (by rfl) T.g_bettering T.F_bettering.kp T.b_bettering .nil (passes_call (takes_of rfl rfl rfl rfl) (fun _ _ _ _ h => h)) (pa_cons (pe_ix (ix_seqK (K := K) rfl) (pv 7) pe_int (fun _ _ => rfl)) (pa_cons (pe_ix (ix_seqK (K := K) rfl) (pv 7) pe_int (fun _ _ => rfl)) pa_nil))))
      (pss_cons (ps_if (PW.pt (pw_or (pt_not (pt_val (pe_call (ok__law_groups T) (hr.mono (by decide)) (by rfl) T.g__law_groups T.F__law_groups.kp T.b__law_groups .nil (passes_call (takes_of rfl rfl rfl rfl) (fun _ _ _ _ h => h)) (pa_cons (pv 8) (pa_cons (pv 6) pa_nil))))) (pw_or1 (pt_cmpR (op_neK (K := K) rfl hr.units) (pv 7) (pe_lst (pa_cons (pv 5) (pa_cons (pv 2) pa_nil))) (nomark _))))) (pss_one (ps_ret pe_bl)) pss_nil)
      (pss_cons (ps_set (i := 9) sc_law.nd rfl (.inl rfl) (pe_call (ok__law_amiss T) (hr.mono (by decide)) (by rfl) T.g__law_amiss T.F__law_amiss.kp T.b__law_amiss .nil (passes_call (takes_of rfl rfl rfl rfl) (fun _ _ _ _ h => h)) (pa_cons (pv 2) (pa_cons (pe_op op_fdivX (pe_call (ok__law_cell T) (hr.mono (by decide)) (by rfl) T.g__law_cell T.F__law_cell.kp T.b__law_cell .nil (passes_call (takes_of rfl rfl rfl rfl) (fun _ _ _ _ h => h)) (pa_cons (pv 0) (pa_cons pe_int pa_nil))) pe_int) pa_nil))))
      (pss_cons (ps_set (i := 10) sc_law.nd rfl (.inl rfl) (pe_callTy (call_listK (K := K) rfl) (by rfl) T.z_list (by decide +kernel) (pa_cons (pv 9) pa_nil)))
      (pss_cons (ps_if (PW.pt (pw_or (pt_not (pt_val (pe_call (ok__law_refused T) (hr.mono (by decide)) (by rfl) T.g__law_refused T.F__law_refused.kp T.b__law_refused .nil (passes_call (takes_of rfl rfl rfl rfl) (fun _ _ _ _ h => h)) (pa_cons (pe_ix (ix_seqK (K := K) rfl) (pv 7) pe_int (fun _ _ => rfl)) (pa_cons (pv 9) pa_nil))))) (pw_or (pt_cmpR (op_neK (K := K) rfl hr.units) (pv 9) (pv 10) (nomark _)) (pw_or1 (pt_cmpR (op_neK (K := K) rfl hr.units) (pe_ix (ix_seqK (K := K) rfl) (pv 7) pe_int (fun _ _ => rfl)) (pv 5) (nomark _)))))) (pss_one (ps_ret pe_bl)) pss_nil)
      (pss_cons (ps_asg (pe_tup (pa_cons (pe_op op_addX (pe_ix (ix_seqK (K := K) rfl) (pe_ix (ix_seqK (K := K) rfl) (pe_ix (ix_seqK (K := K) rfl) (pv 7) pe_int (fun _ _ => rfl)) pe_int (fun _ _ => rfl)) pe_int (fun _ _ => rfl)) (pe_op op_mulX pe_int (pe_ix (ix_seqK (K := K) rfl) (pe_ix (ix_seqK (K := K) rfl) (pe_ix (ix_seqK (K := K) rfl) (pv 7) pe_int (fun _ _ => rfl)) pe_int (fun _ _ => rfl)) pe_int (fun _ _ => rfl)))) (pa_cons (pe_ix (ix_seqK (K := K) rfl) (pe_ix (ix_seqK (K := K) rfl) (pe_ix (ix_seqK (K := K) rfl) (pv 7) pe_int (fun _ _ => rfl)) pe_int (fun _ _ => rfl)) pe_int (fun _ _ => rfl)) pa_nil))) (pg_sub (pe_ix (ix_seqK (K := K) rfl) (pv 7) pe_int (fun _ _ => rfl)) pe_int set_list))
      (pss_cons (ps_asg (pe_op op_addX (pe_ix (ix_seqK (K := K) rfl) (pv 4) pe_int (fun _ _ => rfl)) (pe_op op_mulX pe_int (pv 3))) (pg_sub (pv 4) pe_int set_list))
      (pss_cons (ps_setLc (i := 11) (own := [("_law_group", 12)]) rfl sc_law.nd rfl rfl (sw_true rfl rfl rfl (by decide +kernel)) (pi_range2 (by rfl) T.z_range (pa_cons pe_int (pa_cons (pe_callB (call_lenK (K := K) rfl) (by rfl) T.z_len (by decide +kernel) (pa_cons (pv 5) pa_nil)) pa_nil))) (blkOk_by (own := [("_law_group", 12)]) (N := N_law) (sc := defScope s_law) (by decide +kernel)) (fun _ _ _ _ _ => (pg_name (i := 12) sc_law.nd rfl (.inl rfl))) (fun _ _ _ _ _ => (pts_one (pt_cmpR op_ltX (pe_call (ok__law_share T) (hr.mono (by decide)) (by rfl) T.g__law_share T.F__law_share.kp T.b__law_share .nil passL (pa_cons (pv 4) (pa_cons (pv 12) pa_nil))) (pe_op op_mulX (pe_ix (ix_seqK (K := K) rfl) (pv 5) (pv 12) (fun _ _ => rfl)) (pv 3)) (nomark _)))) (fun _ _ _ _ _ => (pv 12)))
      (pss_one (ps_ret (pe_and (pe_call (ok__law_groups T) (hr.mono (by decide)) (by rfl) T.g__law_groups T.F__law_groups.kp T.b__law_groups .nil (passes_call (takes_of rfl rfl rfl rfl) (fun _ _ _ _ h => h)) (pa_cons (pe_call (ok_bettering T) (hr.mono (by decide)) (by rfl) T.g_bettering T.F_bettering.kp T.b_bettering .nil (passes_call (takes_of rfl rfl rfl rfl) (fun _ _ _ _ h => h)) (pa_cons (pe_ix (ix_seqK (K := K) rfl) (pv 7) pe_int (fun _ _ => rfl)) (pa_cons (pe_ix (ix_seqK (K := K) rfl) (pv 7) pe_int (fun _ _ => rfl)) pa_nil))) (pa_cons (pv 11) pa_nil))) (pe_one (pe_call (ok__law_groups T) (hr.mono (by decide)) (by rfl) T.g__law_groups T.F__law_groups.kp T.b__law_groups .nil (passes_call (takes_of rfl rfl rfl rfl) (fun _ _ _ _ h => h)) (pa_cons (pv 8) (pa_cons (pv 6) pa_nil)))))))))))))))))))))), ?_⟩
    walk_at "x"
    refine ⟨a, ns, 0, rfl, hS, by decide, fun z0 H1 s1 => ?_⟩
    have w1 := (Own.start (H := H)).ext s1
    walk_at "x"
    refine x_modP (by decide) ?_
    walk_at "x"
    obtain ⟨m, hm⟩ : ∃ m : Nat, 1 + z0 % 6 = (m : Int) := ⟨(1 + z0 % 6).toNat, by omega⟩
    have bm : 1 ≤ m ∧ m ≤ 6 := by omega
    rw [hm]
    refine ⟨a, ns, m, rfl, w1.seq hS, bm.2, fun fs hfl hp p2 ts H2 n2 nt2 s2 c2 fa2 => ?_⟩
    obtain ⟨B2, sB2, fa, w2⟩ := own_newF w1 n2 nt2 s2 c2 fa2
    have hS := sB2.seq hS
    have htl := fa.len
    walk_at "x"
    refine ⟨p2, ts, fs, rfl, w2.sq 0 rfl, fa.same w2.ex, fun f hf => ⟨(hp f hf).fr.pos, (hp f hf).dv⟩, fun L L0 Ld hLd H3 s3 => ?_⟩
    have Lle := Int.le_of_dvd (by decide) Ld
    have w3 := w2.ext s3
    walk_at "x"
    have e64 : 59820 < 2 ^ 64 := by decide
    refine ⟨p2, ts, fs, L, 64, rfl, w3.sq 0 rfl, fa.same w3.ex, by omega, L0, by omega, by decide, fun f hf => (hp f hf).fb, fun p4 H4 n4 s4 c4 => ?_⟩
    have w4 := w3.newE n4 s4 c4
    have ok := topsOf_ok fs fun f hf => ⟨(hp f hf).fr, hLd f hf⟩
    have ol := ok.len
    have tl := tops_le L0 Lle fun f hf => (hp f hf).top
    have e128 : 59820 < 2 ^ 128 := by decide
    have sb : ShB (topsOf L fs) L 128 := ⟨L0, by omega, ⟨59820000000000000000000, tl, by decide⟩, by decide⟩
    generalize hTs : topsOf L fs = Ts at *
    walk_at "x"
    refine ⟨a, p4, ns, Ts, L, rfl, w4.seq hS, hl, w4.sq 0 rfl, by omega, by omega, L0, Lle, tl, fun ms tb hb p5 H5 n5 s5 c5 => ?_⟩
    have w5 := w4.newE n5 s5 c5
    have hTl : Ts.length = m := by omega
    rw [hTl] at tb
    have tp := tb.pos
    -- the due groups
    have due : ∀ {cs : Cells} {B H' : Hp} (Ts : List Int) (i4 i5 : Nat) (v6 v7 v8 v9 v10 v11 v12 : Option V) (QD : VK), Own B cs H' → cs[i4]? = some (p4, .lst (Ts.map V.int)) → cs[i5]? = some (p5, .lst (ms.map V.int)) → Ts.length = m →
        (∀ D H3, Own B ((D, .lst ((betterM ms Ts L).map vnat)) :: cs) H3 → QD (.ref D) H3) →
        tLc (iRng2 (tCons (tC (V.int 1)) (tCons (tCB (rLen K) (tCons (tVar 5) tNil)) tNil))) (gName 12) (tTest (tOp rLtI (tCall (sp__law_share K) [] E0 (tCons (tVar 4) (tCons (tVar 12) tNil))) (tOp rMulX (tOp (rIx K) (tVar 5) (tVar 12)) (tVar 3)))) (tVar 12) [12]
          [some (.ref a), some (.int (m : Int)), some (.ref p2), some (.int L), some (.ref p4), some (.ref p5), v6, v7, v8, v9, v10, v11, v12] H' QD := fun {cs B H'} Ts i4 i5 v6 v7 v8 v9 v10 v11 v12 QD w h4 h5 hTm hq => by
      have hml := tb.len
      refine x_lc ?_
      walk_at "x"
      refine x_lenL (w.sq i5 h5) ?_
      walk_at "x"
      rw [List.length_map]
      refine ⟨_, _, rfl, ⟨by omega, by omega, by omega, by omega⟩, cp_range (lo := 1) (n := ((ms.length : Int) - 1).toNat) (fun i => (grpsTo (fun g => decide (shareS Ts g < fn ms g * L)) i).map vnat) w rfl ?_ ?_⟩
      · intro D i H3 hi p
        have hg : i + 1 < 64 := by omega
        rw [show (1 : Int) + (i : Int) = ((i + 1 : Nat) : Int) by omega]
        walk_at "x"
        refine ⟨rfl, ?_⟩
        walk_at "x"
        refine ⟨p4, i + 1, Ts, rfl, Own.sq p (i4 + 1) h4, by omega, hg, fun H4 s4 => ?_⟩
        have p' := Own.ext p s4
        walk_at "x"
        refine x_ixXL (p'.sq (i5 + 1) h5) (at_int (by omega) (by omega)) ?_
        walk_at "x"
        refine x_mulI (.of_right (intBits_le_64 (by omega) (by omega))) ?_
        refine x_ltI ?_
        refine ⟨_, rfl, ?_⟩
        cases cc : decide (shareS Ts (i + 1) < gi ms ((i + 1 : Nat) : Int) * L) with
        | true =>
          refine iteT ?_
          walk_at "x"
          exact cp_fin (F := fun i => (grpsTo (fun g => decide (shareS Ts g < fn ms g * L)) i).map vnat) p' (grps_yes (p := fun g => decide (shareS Ts g < fn ms g * L)) cc vnat) (by rw [List.length_map]; have := grps_len (fun g => decide (shareS Ts g < fn ms g * L)) i; omega)
        | false =>
          exact iteF (cp_no (F := fun i => (grpsTo (fun g => decide (shareS Ts g < fn ms g * L)) i).map vnat) p' (grps_no (p := fun g => decide (shareS Ts g < fn ms g * L)) cc vnat))
      · intro D H3 w3
        rw [show ((ms.length : Int) - 1).toNat = ms.length - 1 by omega] at w3
        exact hq D H3 w3
    dsimp only
    refine x_seq ?_
    refine x_asg ?_
    refine due Ts 1 0 _ _ _ _ _ _ _ _ w5 rfl rfl hTl fun p6 H6 w6 => ?_
    walk_at "x"
    refine x_list (w6.sq 1 rfl) (fun p7 n7 => ?_)
    have w7 := w6.new (o := .lst (ms.map V.int)) n7
    walk_at "x"
    refine x_list (w7.sq 4 rfl) (fun p8 n8 => ?_)
    have w8 := w7.new (o := .lst (ts.map V.ref)) n8
    walk_at "x"
    refine ⟨(by show 2 ≤ sizeLine; decide), fun p9 n9 => ?_⟩
    have w9 := w8.new (o := .lst [.ref p7, .ref p8]) n9
    walk_at "x"
    refine x_ixXL (w9.sq 0 rfl) (atI_nat (j := 0) rfl) ?_
    walk_at "x"
    refine x_ixXL (w9.sq 0 rfl) (atI_nat (j := 1) rfl) ?_
    walk_at "x"
    refine u_bettering (.inl (w9.get 2 rfl)) tb (w9.sq 1 rfl) (fa.same w9.ex) ok sb hb hfl fun p10 H10 n10 s10 c10 => ?_
    have w10 := w9.newE n10 s10 c10
    walk_at "x"
    refine ⟨p10, p6, _, rfl, .inl (w10.get 0 rfl), w10.sq 4 rfl, fun H11 s11 => ?_⟩
    have w11 := w10.ext s11
    refine ⟨true, rfl, iteF ?_⟩
    walk_at "x"
    refine ⟨(by show 2 ≤ sizeLine; decide), fun p12 n12 => ?_⟩
    have w12 := w11.new (o := .lst [.ref p5, .ref p2]) n12
    have dl : LayD 4 (.list [.list (ms.map PyData.int), frD fs]) := LayD.list fun d hd => by
      simp only [List.mem_cons, List.not_mem_nil, or_false] at hd
      rcases hd with rfl | rfl
      · exact ⟨LayD.ints.lay, Nat.le_trans LayD.ints.dep (by decide)⟩
      · exact ⟨(lay_fr fs).lay, (lay_fr fs).dep⟩
    have f12 := fa.same w12.ex
    have e1 : Dp K _ (.ref p9) (.list [.list (ms.map PyData.int), frD fs]) := .lst (w12.sq 2 rfl) (.cons (dp_ints (w12.sq 4 rfl)) (.cons (dp_fr (w12.sq 3 rfl) f12) .nil))
    have e2 : Dp K _ (.ref p12) (.list [.list (ms.map PyData.int), frD fs]) := .lst (w12.sq 0 rfl) (.cons (dp_ints (w12.sq 6 rfl)) (.cons (dp_fr (w12.sq 8 rfl) f12) .nil))
    refine x_neD e1 e2 dl ?_
    walk_at "x"
    refine iteF ?_
    have w12 := w12.pop
    walk_at "x"
    refine ⟨a, ns, 0, rfl, w12.seq hS, by decide, fun z1 H13 s13 => ?_⟩
    have w13 := w12.ext s13
    walk_at "x"
    refine x_divP (by decide) (by decide) ?_
    walk_at "x"
    refine ⟨p2, ts, fs, _, rfl, w13.sq 7 rfl, fa.same w13.ex, hp, by omega, by omega, fun p14 H14 ys n14 s14 c14 am => ?_⟩
    have w14 := w13.newE n14 s14 c14
    walk_at "x"
    refine x_list (w14.sq 0 rfl) (fun p15 n15 => ?_)
    have w15 := w14.new (o := .lst ys) n15
    have s15 := same_upd (o := .lst ys) n15
    have am : Amiss K _ ys fs.length := ⟨by
      rcases am.bad with h | ⟨bs, h1, h2, h3⟩
      · exact .inl h
      · exact .inr ⟨bs, h1, fun i y b hy hb => (h2 i y b hy hb).same s15, h3⟩, by
      obtain ⟨ds, h1, h2⟩ := am.dat
      exact ⟨ds, Sp.DpAll.same s15 _ _ h1, h2⟩, am.len⟩
    rw [hfl] at am
    walk_at "x"
    refine x_ixXL (w15.sq 3 rfl) (atI_nat (j := 0) rfl) ?_
    walk_at "x"
    refine ⟨p7, p14, ms, m, ys, rfl, .inl (w15.get 5 rfl), tb, w15.sq 1 rfl, am, fun H16 s16 => ?_⟩
    have w16 := w15.ext s16
    refine ⟨true, rfl, iteF ?_⟩
    walk_at "x"
    obtain ⟨ds, dd, dl2⟩ := am.dat
    have dd := Sp.DpAll.same s16 _ _ dd
    refine x_neD (d := .list ds) (k := 3) (.lst (w16.sq 1 rfl) dd) (.lst (w16.sq 0 rfl) dd) (LayD.list dl2) ?_
    walk_at "x"
    refine iteF ?_
    walk_at "x"
    refine x_ixXL (w16.sq 3 rfl) (atI_nat (j := 0) rfl) ?_
    walk_at "x"
    refine x_neLI (w16.sq 5 rfl) (w16.sq 7 rfl) ?_
    rw [decide_eq_true rfl]
    walk_at "x"
    refine iteF ?_
    -- the first share, three more
    obtain ⟨t0, f0, et0, ef0, eh0⟩ := rd_fr fa (i := 0) (by omega)
    have et0' : (ts.map V.ref)[0]? = some (.ref t0) := by rw [List.getElem?_map, et0] <;> rfl
    have hf0 := hp f0 (List.mem_of_getElem? ef0)
    have fb0 := hf0.fb
    walk_at "x"
    refine x_ixXL (w16.sq 3 rfl) (atI_nat (j := 1) rfl) ?_
    walk_at "x"
    refine x_ixXL (w16.sq 4 rfl) (atI_nat (j := 0) et0') ?_
    walk_at "x"
    refine x_ixXT (.inl (.inl (w16.ex _ _ eh0))) (v := .int f0.1) rfl ?_
    walk_at "x"
    refine x_ixXL (w16.sq 3 rfl) (atI_nat (j := 1) rfl) ?_
    walk_at "x"
    refine x_ixXL (w16.sq 4 rfl) (atI_nat (j := 0) et0') ?_
    walk_at "x"
    refine x_ixXT (.inl (.inl (w16.ex _ _ eh0))) (v := .int f0.2) rfl ?_
    refine x_mulI (.of_left (by decide)) ?_
    walk_at "x"
    refine x_ixXL (w16.sq 3 rfl) (atI_nat (j := 1) rfl) ?_
    walk_at "x"
    refine x_ixXL (w16.sq 4 rfl) (atI_nat (j := 0) et0') ?_
    walk_at "x"
    refine x_ixXT (.inl (.inl (w16.ex _ _ eh0))) (v := .int f0.2) rfl ?_
    walk_at "x"
    refine ⟨(by show 2 ≤ sizeLine; decide), fun p17 n17 => ?_⟩
    have w17 := w16.new (o := .tup (frV (f0.1 + 3 * f0.2, f0.2))) n17
    walk_at "x"
    refine x_ixXL (w17.sq 4 rfl) (atI_nat (j := 1) rfl) ?_
    walk_at "x"
    refine x_setL (w17.get 5 rfl) (j := 0) (by rw [List.length_map]; have := ixN_int (n := ts.length) (i := 0) (by decide) (by omega); exact this) ?_
    have w18 := w17.put (o' := .lst ((ts.map V.ref).set 0 (.ref p17))) 5 rfl
    rw [show (ts.map V.ref).set 0 (.ref p17) = (ts.set 0 p17).map V.ref from List.map_set.symm] at w18 ⊢
    walk_at "x"
    have hg0 : 0 < Ts.length := by omega
    refine x_ixXL (w18.sq 9 rfl) (at_int (ns := Ts) (i := 0) (by decide) (by omega)) ?_
    walk_at "x"
    refine x_mulI (.of_left (by decide)) ?_
    walk_at "x"
    refine x_setL (w18.get 9 rfl) (j := 0) (by rw [List.length_map]; have := ixN_int (n := Ts.length) (i := 0) (by decide) (by omega); exact this) ?_
    rw [map_set_int]
    have w19 := w18.put (o' := .lst ((Ts.set 0 (gi Ts 0 + 3 * L)).map V.int)) 9 rfl
    have hTs2 : (Ts.set 0 (gi Ts 0 + 3 * L)).length = m := by rw [List.length_set]; exact hTl
    dsimp only
    refine x_seq ?_
    refine x_asg ?_
    refine due _ 9 8 _ _ _ _ _ _ _ _ w19 rfl rfl hTs2 fun p20 H20 w20 => ?_
    have ok2 : ShOk L (fs.set 0 (f0.1 + 3 * f0.2, f0.2)) (Ts.set 0 (gi Ts 0 + 3 * L)) := by
      have st0 := ok.at ef0
      cases ok with
      | nil => simp at ef0
      | cons h r =>
        cases ef0
        refine .cons ⟨⟨st0.fr.pos, ?_⟩, ?_⟩ r
        · show Int.gcd (_ + 3 * _) _ = 1
          rw [Int.gcd_comm, Int.gcd_add_mul_right_right, Int.gcd_comm]; exact st0.fr.one
        · show (_ + 3 * _) * L = (_ + 3 * L) * _
          rw [Int.add_mul, Int.add_mul, st0.cr]
          congr 1
          ac_rfl
    have tl2 : ∀ z ∈ Ts.set 0 (gi Ts 0 + 3 * L), z.natAbs ≤ 60000000000000000000000 := fun z hz => by
      rcases List.mem_or_eq_of_mem_set hz with h | rfl
      · have := tl z h; omega
      · have h1 : gi Ts 0 ∈ Ts := by
          unfold gi
          rw [List.getD_eq_getElem?_getD, show (0 : Int).toNat = 0 from rfl, List.getElem?_eq_getElem hg0]
          exact List.getElem_mem _
        have := tl _ h1
        omega
    have sb2 : ShB (Ts.set 0 (gi Ts 0 + 3 * L)) L 128 := ⟨L0, sb.low, ⟨60000000000000000000000, tl2, by decide⟩, by decide⟩
    have fa2 : FrAll H20 (ts.set 0 p17) (fs.set 0 (f0.1 + 3 * f0.2, f0.2)) := by
      have f20 := fa.same w20.ex
      cases f20 with
      | nil => simp at ef0
      | cons h r => exact .cons (w20.get 1 rfl) r
    walk_at "x"
    refine x_ixXL (w20.sq 5 rfl) (atI_nat (j := 0) rfl) ?_
    walk_at "x"
    refine x_ixXL (w20.sq 5 rfl) (atI_nat (j := 1) rfl) ?_
    walk_at "x"
    refine u_bettering (.inl (w20.get 7 rfl)) tb (w20.sq 6 rfl) fa2 ok2 sb2 hb (by rw [List.length_set]; exact hfl) fun p21 H21 n21 s21 c21 => ?_
    have w21 := w20.newE n21 s21 c21
    walk_at "x"
    refine ⟨p21, p20, _, rfl, .inl (w21.get 0 rfl), w21.sq 1 rfl, fun H22 s22 => ?_⟩
    have w22 := w21.ext s22
    refine ⟨true, rfl, iteT ?_⟩
    walk_at "x"
    refine ⟨p10, p6, _, rfl, .inl (w22.get 5 rfl), w22.sq 9 rfl, fun H23 s23 => ?_⟩
    exact k _

end
theorem all_mk {l : PySem.W.OpenLaw} {w : World} {K : PySem.W.Frag} {h : Heap} {mg : Str → Option Value} {fa f_is_whole f_divisor f_bottom_of_both f_shortest f_is_fraction f_plus f_under f_look f_share_of f_bettering f__law_cell f__law_whole f__law_divisor f__law_low f__law_tops f__law_share f__law_shares f__law_drawn f__law_odd f__law_amiss f__law_own f__law_refused f__law_groups f_law C_ShareError C_NoNumber C_NoGroup C_NoRule C_NoText C_NoTable C_Unlike C_TooMany C_NoOrder C_NoRows C_NoShares C_NoVotes : Addr} (X : K.In h) (G : h.Ns mainGlobals mg) (hfa : mg "law" = some (.ref fa))
    {t_MOST : Tok} {od_is_whole an_is_whole od_divisor an_divisor od_bottom_of_both an_bottom_of_both od_shortest an_shortest od_is_fraction an_is_fraction od_plus an_plus od_under an_under od_look an_look od_share_of an_share_of od_bettering an_bettering od__law_cell an__law_cell od__law_whole an__law_whole od__law_divisor an__law_divisor od__law_low an__law_low od__law_tops an__law_tops od__law_share an__law_share od__law_shares an__law_shares od__law_drawn an__law_drawn od__law_odd an__law_odd od__law_amiss an__law_amiss od__law_own an__law_own od__law_refused an__law_refused od__law_groups an__law_groups od_law an_law : Option Addr} {sl_is_whole sl_divisor sl_bottom_of_both sl_shortest sl_is_fraction sl_plus sl_under sl_look sl_share_of sl_bettering sl__law_cell sl__law_whole sl__law_divisor sl__law_low sl__law_tops sl__law_share sl__law_shares sl__law_drawn sl__law_odd sl__law_amiss sl__law_own sl__law_refused sl__law_groups sl_law : Array (Option Value)} {oc_is_whole kV_is_whole dc_is_whole pm_is_whole cd_is_whole ct_is_whole oc_divisor kV_divisor dc_divisor pm_divisor cd_divisor ct_divisor oc_bottom_of_both kV_bottom_of_both dc_bottom_of_both pm_bottom_of_both cd_bottom_of_both ct_bottom_of_both oc_shortest kV_shortest dc_shortest pm_shortest cd_shortest ct_shortest oc_is_fraction kV_is_fraction dc_is_fraction pm_is_fraction cd_is_fraction ct_is_fraction oc_plus kV_plus dc_plus pm_plus cd_plus ct_plus oc_under kV_under dc_under pm_under cd_under ct_under oc_look kV_look dc_look pm_look cd_look ct_look oc_share_of kV_share_of dc_share_of pm_share_of cd_share_of ct_share_of oc_bettering kV_bettering dc_bettering pm_bettering cd_bettering ct_bettering oc__law_cell kV__law_cell dc__law_cell pm__law_cell cd__law_cell ct__law_cell oc__law_whole kV__law_whole dc__law_whole pm__law_whole cd__law_whole ct__law_whole oc__law_divisor kV__law_divisor dc__law_divisor pm__law_divisor cd__law_divisor ct__law_divisor oc__law_low kV__law_low dc__law_low pm__law_low cd__law_low ct__law_low oc__law_tops kV__law_tops dc__law_tops pm__law_tops cd__law_tops ct__law_tops oc__law_share kV__law_share dc__law_share pm__law_share cd__law_share ct__law_share oc__law_shares kV__law_shares dc__law_shares pm__law_shares cd__law_shares ct__law_shares oc__law_drawn kV__law_drawn dc__law_drawn pm__law_drawn cd__law_drawn ct__law_drawn oc__law_odd kV__law_odd dc__law_odd pm__law_odd cd__law_odd ct__law_odd oc__law_amiss kV__law_amiss dc__law_amiss pm__law_amiss cd__law_amiss ct__law_amiss oc__law_own kV__law_own dc__law_own pm__law_own cd__law_own ct__law_own oc__law_refused kV__law_refused dc__law_refused pm__law_refused cd__law_refused ct__law_refused oc__law_groups kV__law_groups dc__law_groups pm__law_groups cd__law_groups ct__law_groups oc_law kV_law dc_law pm_law cd_law ct_law : Value}
    (a_is_whole : PySem.W.nsIn K mainGlobals "is_whole" = some (some (.ref f_is_whole)))
    (l_is_whole : K.lookup f_is_whole = some ⟨oc_is_whole, od_is_whole, .func (PySem.W.fnOf "is_whole" "is_whole" (defArgs s_is_whole) (defBody s_is_whole) (defScope s_is_whole) .none kV_is_whole dc_is_whole pm_is_whole an_is_whole cd_is_whole ct_is_whole), sl_is_whole⟩)
    (c_is_whole : PySem.W.codeIn K cd_is_whole "is_whole" = true)
    (k_is_whole : PySem.W.keepIn K (.ref f_is_whole) = true)
    (a_divisor : PySem.W.nsIn K mainGlobals "divisor" = some (some (.ref f_divisor)))
    (l_divisor : K.lookup f_divisor = some ⟨oc_divisor, od_divisor, .func (PySem.W.fnOf "divisor" "divisor" (defArgs s_divisor) (defBody s_divisor) (defScope s_divisor) .none kV_divisor dc_divisor pm_divisor an_divisor cd_divisor ct_divisor), sl_divisor⟩)
    (c_divisor : PySem.W.codeIn K cd_divisor "divisor" = true)
    (k_divisor : PySem.W.keepIn K (.ref f_divisor) = true)
    (a_bottom_of_both : PySem.W.nsIn K mainGlobals "bottom_of_both" = some (some (.ref f_bottom_of_both)))
    (l_bottom_of_both : K.lookup f_bottom_of_both = some ⟨oc_bottom_of_both, od_bottom_of_both, .func (PySem.W.fnOf "bottom_of_both" "bottom_of_both" (defArgs s_bottom_of_both) (defBody s_bottom_of_both) (defScope s_bottom_of_both) .none kV_bottom_of_both dc_bottom_of_both pm_bottom_of_both an_bottom_of_both cd_bottom_of_both ct_bottom_of_both), sl_bottom_of_both⟩)
    (c_bottom_of_both : PySem.W.codeIn K cd_bottom_of_both "bottom_of_both" = true)
    (k_bottom_of_both : PySem.W.keepIn K (.ref f_bottom_of_both) = true)
    (a_shortest : PySem.W.nsIn K mainGlobals "shortest" = some (some (.ref f_shortest)))
    (l_shortest : K.lookup f_shortest = some ⟨oc_shortest, od_shortest, .func (PySem.W.fnOf "shortest" "shortest" (defArgs s_shortest) (defBody s_shortest) (defScope s_shortest) .none kV_shortest dc_shortest pm_shortest an_shortest cd_shortest ct_shortest), sl_shortest⟩)
    (c_shortest : PySem.W.codeIn K cd_shortest "shortest" = true)
    (k_shortest : PySem.W.keepIn K (.ref f_shortest) = true)
    (a_is_fraction : PySem.W.nsIn K mainGlobals "is_fraction" = some (some (.ref f_is_fraction)))
    (l_is_fraction : K.lookup f_is_fraction = some ⟨oc_is_fraction, od_is_fraction, .func (PySem.W.fnOf "is_fraction" "is_fraction" (defArgs s_is_fraction) (defBody s_is_fraction) (defScope s_is_fraction) .none kV_is_fraction dc_is_fraction pm_is_fraction an_is_fraction cd_is_fraction ct_is_fraction), sl_is_fraction⟩)
    (c_is_fraction : PySem.W.codeIn K cd_is_fraction "is_fraction" = true)
    (k_is_fraction : PySem.W.keepIn K (.ref f_is_fraction) = true)
    (a_plus : PySem.W.nsIn K mainGlobals "plus" = some (some (.ref f_plus)))
    (l_plus : K.lookup f_plus = some ⟨oc_plus, od_plus, .func (PySem.W.fnOf "plus" "plus" (defArgs s_plus) (defBody s_plus) (defScope s_plus) .none kV_plus dc_plus pm_plus an_plus cd_plus ct_plus), sl_plus⟩)
    (c_plus : PySem.W.codeIn K cd_plus "plus" = true)
    (k_plus : PySem.W.keepIn K (.ref f_plus) = true)
    (a_under : PySem.W.nsIn K mainGlobals "under" = some (some (.ref f_under)))
    (l_under : K.lookup f_under = some ⟨oc_under, od_under, .func (PySem.W.fnOf "under" "under" (defArgs s_under) (defBody s_under) (defScope s_under) .none kV_under dc_under pm_under an_under cd_under ct_under), sl_under⟩)
    (c_under : PySem.W.codeIn K cd_under "under" = true)
    (k_under : PySem.W.keepIn K (.ref f_under) = true)
    (a_look : PySem.W.nsIn K mainGlobals "look" = some (some (.ref f_look)))
    (l_look : K.lookup f_look = some ⟨oc_look, od_look, .func (PySem.W.fnOf "look" "look" (defArgs s_look) (defBody s_look) (defScope s_look) .none kV_look dc_look pm_look an_look cd_look ct_look), sl_look⟩)
    (c_look : PySem.W.codeIn K cd_look "look" = true)
    (k_look : PySem.W.keepIn K (.ref f_look) = true)
    (a_share_of : PySem.W.nsIn K mainGlobals "share_of" = some (some (.ref f_share_of)))
    (l_share_of : K.lookup f_share_of = some ⟨oc_share_of, od_share_of, .func (PySem.W.fnOf "share_of" "share_of" (defArgs s_share_of) (defBody s_share_of) (defScope s_share_of) .none kV_share_of dc_share_of pm_share_of an_share_of cd_share_of ct_share_of), sl_share_of⟩)
    (c_share_of : PySem.W.codeIn K cd_share_of "share_of" = true)
    (k_share_of : PySem.W.keepIn K (.ref f_share_of) = true)
    (a_bettering : PySem.W.nsIn K mainGlobals "bettering" = some (some (.ref f_bettering)))
    (l_bettering : K.lookup f_bettering = some ⟨oc_bettering, od_bettering, .func (PySem.W.fnOf "bettering" "bettering" (defArgs s_bettering) (defBody s_bettering) (defScope s_bettering) .none kV_bettering dc_bettering pm_bettering an_bettering cd_bettering ct_bettering), sl_bettering⟩)
    (c_bettering : PySem.W.codeIn K cd_bettering "bettering" = true)
    (k_bettering : PySem.W.keepIn K (.ref f_bettering) = true)
    (a__law_cell : PySem.W.nsIn K mainGlobals "_law_cell" = some (some (.ref f__law_cell)))
    (l__law_cell : K.lookup f__law_cell = some ⟨oc__law_cell, od__law_cell, .func (PySem.W.fnOf "_law_cell" "_law_cell" (defArgs s__law_cell) (defBody s__law_cell) (defScope s__law_cell) .none kV__law_cell dc__law_cell pm__law_cell an__law_cell cd__law_cell ct__law_cell), sl__law_cell⟩)
    (c__law_cell : PySem.W.codeIn K cd__law_cell "_law_cell" = true)
    (k__law_cell : PySem.W.keepIn K (.ref f__law_cell) = true)
    (a__law_whole : PySem.W.nsIn K mainGlobals "_law_whole" = some (some (.ref f__law_whole)))
    (l__law_whole : K.lookup f__law_whole = some ⟨oc__law_whole, od__law_whole, .func (PySem.W.fnOf "_law_whole" "_law_whole" (defArgs s__law_whole) (defBody s__law_whole) (defScope s__law_whole) .none kV__law_whole dc__law_whole pm__law_whole an__law_whole cd__law_whole ct__law_whole), sl__law_whole⟩)
    (c__law_whole : PySem.W.codeIn K cd__law_whole "_law_whole" = true)
    (k__law_whole : PySem.W.keepIn K (.ref f__law_whole) = true)
    (a__law_divisor : PySem.W.nsIn K mainGlobals "_law_divisor" = some (some (.ref f__law_divisor)))
    (l__law_divisor : K.lookup f__law_divisor = some ⟨oc__law_divisor, od__law_divisor, .func (PySem.W.fnOf "_law_divisor" "_law_divisor" (defArgs s__law_divisor) (defBody s__law_divisor) (defScope s__law_divisor) .none kV__law_divisor dc__law_divisor pm__law_divisor an__law_divisor cd__law_divisor ct__law_divisor), sl__law_divisor⟩)
    (c__law_divisor : PySem.W.codeIn K cd__law_divisor "_law_divisor" = true)
    (k__law_divisor : PySem.W.keepIn K (.ref f__law_divisor) = true)
    (a__law_low : PySem.W.nsIn K mainGlobals "_law_low" = some (some (.ref f__law_low)))
    (l__law_low : K.lookup f__law_low = some ⟨oc__law_low, od__law_low, .func (PySem.W.fnOf "_law_low" "_law_low" (defArgs s__law_low) (defBody s__law_low) (defScope s__law_low) .none kV__law_low dc__law_low pm__law_low an__law_low cd__law_low ct__law_low), sl__law_low⟩)
    (c__law_low : PySem.W.codeIn K cd__law_low "_law_low" = true)
    (k__law_low : PySem.W.keepIn K (.ref f__law_low) = true)
    (a__law_tops : PySem.W.nsIn K mainGlobals "_law_tops" = some (some (.ref f__law_tops)))
    (l__law_tops : K.lookup f__law_tops = some ⟨oc__law_tops, od__law_tops, .func (PySem.W.fnOf "_law_tops" "_law_tops" (defArgs s__law_tops) (defBody s__law_tops) (defScope s__law_tops) .none kV__law_tops dc__law_tops pm__law_tops an__law_tops cd__law_tops ct__law_tops), sl__law_tops⟩)
    (c__law_tops : PySem.W.codeIn K cd__law_tops "_law_tops" = true)
    (k__law_tops : PySem.W.keepIn K (.ref f__law_tops) = true)
    (a__law_share : PySem.W.nsIn K mainGlobals "_law_share" = some (some (.ref f__law_share)))
    (l__law_share : K.lookup f__law_share = some ⟨oc__law_share, od__law_share, .func (PySem.W.fnOf "_law_share" "_law_share" (defArgs s__law_share) (defBody s__law_share) (defScope s__law_share) .none kV__law_share dc__law_share pm__law_share an__law_share cd__law_share ct__law_share), sl__law_share⟩)
    (c__law_share : PySem.W.codeIn K cd__law_share "_law_share" = true)
    (k__law_share : PySem.W.keepIn K (.ref f__law_share) = true)
    (a__law_shares : PySem.W.nsIn K mainGlobals "_law_shares" = some (some (.ref f__law_shares)))
    (l__law_shares : K.lookup f__law_shares = some ⟨oc__law_shares, od__law_shares, .func (PySem.W.fnOf "_law_shares" "_law_shares" (defArgs s__law_shares) (defBody s__law_shares) (defScope s__law_shares) .none kV__law_shares dc__law_shares pm__law_shares an__law_shares cd__law_shares ct__law_shares), sl__law_shares⟩)
    (c__law_shares : PySem.W.codeIn K cd__law_shares "_law_shares" = true)
    (k__law_shares : PySem.W.keepIn K (.ref f__law_shares) = true)
    (a__law_drawn : PySem.W.nsIn K mainGlobals "_law_drawn" = some (some (.ref f__law_drawn)))
    (l__law_drawn : K.lookup f__law_drawn = some ⟨oc__law_drawn, od__law_drawn, .func (PySem.W.fnOf "_law_drawn" "_law_drawn" (defArgs s__law_drawn) (defBody s__law_drawn) (defScope s__law_drawn) .none kV__law_drawn dc__law_drawn pm__law_drawn an__law_drawn cd__law_drawn ct__law_drawn), sl__law_drawn⟩)
    (c__law_drawn : PySem.W.codeIn K cd__law_drawn "_law_drawn" = true)
    (k__law_drawn : PySem.W.keepIn K (.ref f__law_drawn) = true)
    (a__law_odd : PySem.W.nsIn K mainGlobals "_law_odd" = some (some (.ref f__law_odd)))
    (l__law_odd : K.lookup f__law_odd = some ⟨oc__law_odd, od__law_odd, .func (PySem.W.fnOf "_law_odd" "_law_odd" (defArgs s__law_odd) (defBody s__law_odd) (defScope s__law_odd) .none kV__law_odd dc__law_odd pm__law_odd an__law_odd cd__law_odd ct__law_odd), sl__law_odd⟩)
    (c__law_odd : PySem.W.codeIn K cd__law_odd "_law_odd" = true)
    (k__law_odd : PySem.W.keepIn K (.ref f__law_odd) = true)
    (a__law_amiss : PySem.W.nsIn K mainGlobals "_law_amiss" = some (some (.ref f__law_amiss)))
    (l__law_amiss : K.lookup f__law_amiss = some ⟨oc__law_amiss, od__law_amiss, .func (PySem.W.fnOf "_law_amiss" "_law_amiss" (defArgs s__law_amiss) (defBody s__law_amiss) (defScope s__law_amiss) .none kV__law_amiss dc__law_amiss pm__law_amiss an__law_amiss cd__law_amiss ct__law_amiss), sl__law_amiss⟩)
    (c__law_amiss : PySem.W.codeIn K cd__law_amiss "_law_amiss" = true)
    (k__law_amiss : PySem.W.keepIn K (.ref f__law_amiss) = true)
    (a__law_own : PySem.W.nsIn K mainGlobals "_law_own" = some (some (.ref f__law_own)))
    (l__law_own : K.lookup f__law_own = some ⟨oc__law_own, od__law_own, .func (PySem.W.fnOf "_law_own" "_law_own" (defArgs s__law_own) (defBody s__law_own) (defScope s__law_own) .none kV__law_own dc__law_own pm__law_own an__law_own cd__law_own ct__law_own), sl__law_own⟩)
    (c__law_own : PySem.W.codeIn K cd__law_own "_law_own" = true)
    (k__law_own : PySem.W.keepIn K (.ref f__law_own) = true)
    (a__law_refused : PySem.W.nsIn K mainGlobals "_law_refused" = some (some (.ref f__law_refused)))
    (l__law_refused : K.lookup f__law_refused = some ⟨oc__law_refused, od__law_refused, .func (PySem.W.fnOf "_law_refused" "_law_refused" (defArgs s__law_refused) (defBody s__law_refused) (defScope s__law_refused) .none kV__law_refused dc__law_refused pm__law_refused an__law_refused cd__law_refused ct__law_refused), sl__law_refused⟩)
    (c__law_refused : PySem.W.codeIn K cd__law_refused "_law_refused" = true)
    (k__law_refused : PySem.W.keepIn K (.ref f__law_refused) = true)
    (a__law_groups : PySem.W.nsIn K mainGlobals "_law_groups" = some (some (.ref f__law_groups)))
    (l__law_groups : K.lookup f__law_groups = some ⟨oc__law_groups, od__law_groups, .func (PySem.W.fnOf "_law_groups" "_law_groups" (defArgs s__law_groups) (defBody s__law_groups) (defScope s__law_groups) .none kV__law_groups dc__law_groups pm__law_groups an__law_groups cd__law_groups ct__law_groups), sl__law_groups⟩)
    (c__law_groups : PySem.W.codeIn K cd__law_groups "_law_groups" = true)
    (k__law_groups : PySem.W.keepIn K (.ref f__law_groups) = true)
    (a_law : PySem.W.nsIn K mainGlobals "law" = some (some (.ref f_law)))
    (l_law : K.lookup f_law = some ⟨oc_law, od_law, .func (PySem.W.fnOf "law" "law" (defArgs s_law) (defBody s_law) (defScope s_law) .none kV_law dc_law pm_law an_law cd_law ct_law), sl_law⟩)
    (c_law : PySem.W.codeIn K cd_law "law" = true)
    (k_law : PySem.W.keepIn K (.ref f_law) = true)
    (ac_ShareError : PySem.W.nsIn K mainGlobals "ShareError" = some (some (.ref C_ShareError)))
    (tc_ShareError : PySem.W.typeIn K (.ref C_ShareError) = some (.type "type"))
    (ec_ShareError : PySem.W.subIn K (.ref C_ShareError) (.type "BaseException") = some true)
    (ac_NoNumber : PySem.W.nsIn K mainGlobals "NoNumber" = some (some (.ref C_NoNumber)))
    (tc_NoNumber : PySem.W.typeIn K (.ref C_NoNumber) = some (.type "type"))
    (ec_NoNumber : PySem.W.subIn K (.ref C_NoNumber) (.type "BaseException") = some true)
    (ac_NoGroup : PySem.W.nsIn K mainGlobals "NoGroup" = some (some (.ref C_NoGroup)))
    (tc_NoGroup : PySem.W.typeIn K (.ref C_NoGroup) = some (.type "type"))
    (ec_NoGroup : PySem.W.subIn K (.ref C_NoGroup) (.type "BaseException") = some true)
    (ac_NoRule : PySem.W.nsIn K mainGlobals "NoRule" = some (some (.ref C_NoRule)))
    (tc_NoRule : PySem.W.typeIn K (.ref C_NoRule) = some (.type "type"))
    (ec_NoRule : PySem.W.subIn K (.ref C_NoRule) (.type "BaseException") = some true)
    (ac_NoText : PySem.W.nsIn K mainGlobals "NoText" = some (some (.ref C_NoText)))
    (tc_NoText : PySem.W.typeIn K (.ref C_NoText) = some (.type "type"))
    (ec_NoText : PySem.W.subIn K (.ref C_NoText) (.type "BaseException") = some true)
    (ac_NoTable : PySem.W.nsIn K mainGlobals "NoTable" = some (some (.ref C_NoTable)))
    (kc_NoTable : PySem.W.keepIn K (.ref C_NoTable) = true)
    (ec_NoTable : PySem.W.subIn K (.ref C_NoTable) (.type "BaseException") = some true)
    (tc_NoTable : PySem.W.typeIn K (.ref C_NoTable) = some (.type "type"))
    (xc_NoTable : PySem.W.excIn K C_NoTable [.type "ValueError", .type "Exception", .type "BaseException", .type "object"] "ValueError.__new__" = true)
    (ac_Unlike : PySem.W.nsIn K mainGlobals "Unlike" = some (some (.ref C_Unlike)))
    (tc_Unlike : PySem.W.typeIn K (.ref C_Unlike) = some (.type "type"))
    (ec_Unlike : PySem.W.subIn K (.ref C_Unlike) (.type "BaseException") = some true)
    (ac_TooMany : PySem.W.nsIn K mainGlobals "TooMany" = some (some (.ref C_TooMany)))
    (tc_TooMany : PySem.W.typeIn K (.ref C_TooMany) = some (.type "type"))
    (ec_TooMany : PySem.W.subIn K (.ref C_TooMany) (.type "BaseException") = some true)
    (ac_NoOrder : PySem.W.nsIn K mainGlobals "NoOrder" = some (some (.ref C_NoOrder)))
    (tc_NoOrder : PySem.W.typeIn K (.ref C_NoOrder) = some (.type "type"))
    (ec_NoOrder : PySem.W.subIn K (.ref C_NoOrder) (.type "BaseException") = some true)
    (ac_NoRows : PySem.W.nsIn K mainGlobals "NoRows" = some (some (.ref C_NoRows)))
    (tc_NoRows : PySem.W.typeIn K (.ref C_NoRows) = some (.type "type"))
    (ec_NoRows : PySem.W.subIn K (.ref C_NoRows) (.type "BaseException") = some true)
    (ac_NoShares : PySem.W.nsIn K mainGlobals "NoShares" = some (some (.ref C_NoShares)))
    (kc_NoShares : PySem.W.keepIn K (.ref C_NoShares) = true)
    (ec_NoShares : PySem.W.subIn K (.ref C_NoShares) (.type "BaseException") = some true)
    (tc_NoShares : PySem.W.typeIn K (.ref C_NoShares) = some (.type "type"))
    (xc_NoShares : PySem.W.excIn K C_NoShares [.type "ValueError", .type "Exception", .type "BaseException", .type "object"] "ValueError.__new__" = true)
    (ac_NoVotes : PySem.W.nsIn K mainGlobals "NoVotes" = some (some (.ref C_NoVotes)))
    (tc_NoVotes : PySem.W.typeIn K (.ref C_NoVotes) = some (.type "type"))
    (ec_NoVotes : PySem.W.subIn K (.ref C_NoVotes) (.type "BaseException") = some true)
    (ic_NoGroup : PySem.W.isClsIn K C_NoGroup = true)
    (sc_NoGroup : PySem.W.subIn K (.ref C_NoGroup) (.ref C_NoGroup) = some true)
    (ic_NoNumber : PySem.W.isClsIn K C_NoNumber = true)
    (sc_NoNumber : PySem.W.subIn K (.ref C_NoNumber) (.ref C_NoNumber) = some true)
    (ic_NoOrder : PySem.W.isClsIn K C_NoOrder = true)
    (sc_NoOrder : PySem.W.subIn K (.ref C_NoOrder) (.ref C_NoOrder) = some true)
    (ic_NoRows : PySem.W.isClsIn K C_NoRows = true)
    (sc_NoRows : PySem.W.subIn K (.ref C_NoRows) (.ref C_NoRows) = some true)
    (ic_NoRule : PySem.W.isClsIn K C_NoRule = true)
    (sc_NoRule : PySem.W.subIn K (.ref C_NoRule) (.ref C_NoRule) = some true)
    (ic_NoShares : PySem.W.isClsIn K C_NoShares = true)
    (sc_NoShares : PySem.W.subIn K (.ref C_NoShares) (.ref C_NoShares) = some true)
    (ic_NoTable : PySem.W.isClsIn K C_NoTable = true)
    (sc_NoTable : PySem.W.subIn K (.ref C_NoTable) (.ref C_NoTable) = some true)
    (ic_NoText : PySem.W.isClsIn K C_NoText = true)
    (sc_NoText : PySem.W.subIn K (.ref C_NoText) (.ref C_NoText) = some true)
    (ic_NoVotes : PySem.W.isClsIn K C_NoVotes = true)
    (sc_NoVotes : PySem.W.subIn K (.ref C_NoVotes) (.ref C_NoVotes) = some true)
    (ic_ShareError : PySem.W.isClsIn K C_ShareError = true)
    (sc_ShareError : PySem.W.subIn K (.ref C_ShareError) (.ref C_ShareError) = some true)
    (ic_TooMany : PySem.W.isClsIn K C_TooMany = true)
    (sc_TooMany : PySem.W.subIn K (.ref C_TooMany) (.ref C_TooMany) = some true)
    (ic_Unlike : PySem.W.isClsIn K C_Unlike = true)
    (sc_Unlike : PySem.W.subIn K (.ref C_Unlike) (.ref C_Unlike) = some true)
    (xg_NoTable : PySem.W.findIn K (.ref C_NoTable) "__getattribute__" = some (some (.builtin "BaseException.__getattribute__")))
    (xk_NoTable : PySem.W.findIn K (.ref C_NoTable) "__getattr__" = some none)
    (xh_NoTable : PySem.W.hasDictIn K C_NoTable = true)
    (xa_NoTable : PySem.W.findIn K (.ref C_NoTable) "__class__" = some (some (.builtin "object.__class__")))
    (xm_NoTable : PySem.W.mroIn K C_NoTable (.type "object") = some true)
    (xn : PySem.W.specialIn K (.builtin "object.__class__") "__get__" = some (some (.builtin "getset_descriptor.__get__")))
    (xt : PySem.W.takesIn K (.builtin "object.__class__") = some true)
    (us_NoTable_NoGroup : PySem.W.subIn K (.ref C_NoTable) (.ref C_NoGroup) = some false)
    (us_NoTable_NoNumber : PySem.W.subIn K (.ref C_NoTable) (.ref C_NoNumber) = some false)
    (us_NoTable_NoOrder : PySem.W.subIn K (.ref C_NoTable) (.ref C_NoOrder) = some false)
    (us_NoTable_NoRows : PySem.W.subIn K (.ref C_NoTable) (.ref C_NoRows) = some false)
    (us_NoTable_NoRule : PySem.W.subIn K (.ref C_NoTable) (.ref C_NoRule) = some false)
    (us_NoTable_NoShares : PySem.W.subIn K (.ref C_NoTable) (.ref C_NoShares) = some false)
    (us_NoTable_NoTable : PySem.W.subIn K (.ref C_NoTable) (.ref C_NoTable) = some true)
    (us_NoTable_NoText : PySem.W.subIn K (.ref C_NoTable) (.ref C_NoText) = some false)
    (us_NoTable_NoVotes : PySem.W.subIn K (.ref C_NoTable) (.ref C_NoVotes) = some false)
    (us_NoTable_ShareError : PySem.W.subIn K (.ref C_NoTable) (.ref C_ShareError) = some true)
    (us_NoTable_TooMany : PySem.W.subIn K (.ref C_NoTable) (.ref C_TooMany) = some false)
    (us_NoTable_Unlike : PySem.W.subIn K (.ref C_NoTable) (.ref C_Unlike) = some false)
    (uv_NoTable : PySem.W.subIn K (.ref C_NoTable) (.type "ValueError") = some true)
    (hh_NoTable_ShareError : PySem.W.hasDictIn K C_ShareError = true)
    (xg_NoShares : PySem.W.findIn K (.ref C_NoShares) "__getattribute__" = some (some (.builtin "BaseException.__getattribute__")))
    (xk_NoShares : PySem.W.findIn K (.ref C_NoShares) "__getattr__" = some none)
    (xh_NoShares : PySem.W.hasDictIn K C_NoShares = true)
    (xa_NoShares : PySem.W.findIn K (.ref C_NoShares) "__class__" = some (some (.builtin "object.__class__")))
    (xm_NoShares : PySem.W.mroIn K C_NoShares (.type "object") = some true)
    (us_NoShares_NoGroup : PySem.W.subIn K (.ref C_NoShares) (.ref C_NoGroup) = some false)
    (us_NoShares_NoNumber : PySem.W.subIn K (.ref C_NoShares) (.ref C_NoNumber) = some false)
    (us_NoShares_NoOrder : PySem.W.subIn K (.ref C_NoShares) (.ref C_NoOrder) = some false)
    (us_NoShares_NoRows : PySem.W.subIn K (.ref C_NoShares) (.ref C_NoRows) = some false)
    (us_NoShares_NoRule : PySem.W.subIn K (.ref C_NoShares) (.ref C_NoRule) = some false)
    (us_NoShares_NoShares : PySem.W.subIn K (.ref C_NoShares) (.ref C_NoShares) = some true)
    (us_NoShares_NoTable : PySem.W.subIn K (.ref C_NoShares) (.ref C_NoTable) = some false)
    (us_NoShares_NoText : PySem.W.subIn K (.ref C_NoShares) (.ref C_NoText) = some false)
    (us_NoShares_NoVotes : PySem.W.subIn K (.ref C_NoShares) (.ref C_NoVotes) = some false)
    (us_NoShares_ShareError : PySem.W.subIn K (.ref C_NoShares) (.ref C_ShareError) = some true)
    (us_NoShares_TooMany : PySem.W.subIn K (.ref C_NoShares) (.ref C_TooMany) = some false)
    (us_NoShares_Unlike : PySem.W.subIn K (.ref C_NoShares) (.ref C_Unlike) = some false)
    (uv_NoShares : PySem.W.subIn K (.ref C_NoShares) (.type "ValueError") = some true)
    (hh_NoShares_ShareError : PySem.W.hasDictIn K C_ShareError = true)
    (cn_MOST : PySem.W.nsIn K mainGlobals "MOST" = some (some (.int 6 t_MOST)))
    (z_ValueError : PySem.W.nsIn K mainGlobals "ValueError" = some none)
    (z_abs : PySem.W.nsIn K mainGlobals "abs" = some none)
    (z_bool : PySem.W.nsIn K mainGlobals "bool" = some none)
    (z_int : PySem.W.nsIn K mainGlobals "int" = some none)
    (z_isinstance : PySem.W.nsIn K mainGlobals "isinstance" = some none)
    (z_len : PySem.W.nsIn K mainGlobals "len" = some none)
    (z_list : PySem.W.nsIn K mainGlobals "list" = some none)
    (z_max : PySem.W.nsIn K mainGlobals "max" = some none)
    (z_range : PySem.W.nsIn K mainGlobals "range" = some none)
    (z_sum : PySem.W.nsIn K mainGlobals "sum" = some none)
    (z_tuple : PySem.W.nsIn K mainGlobals "tuple" = some none)
    (z_zip : PySem.W.nsIn K mainGlobals "zip" = some none)
    : ∃ fd : FuncData, (∀ (s : Shared) (v : Value), BindsTo s fd ⟨[v], []⟩ [("_law_script", v)]) ∧ ∀ base : Heap, K.In base → base.Ns mainGlobals mg → FnOk l.prog w K mg base (L2.CX l.prog w) 7 fa fd ["_law_script"] (sp_law K) := by
  have e := hfa.symm.trans (PySem.W.mg_of X G a_law)
  cases e
  have T : Txt K mg ⟨f_is_whole, PySem.W.fnOf "is_whole" "is_whole" (defArgs s_is_whole) (defBody s_is_whole) (defScope s_is_whole) .none kV_is_whole dc_is_whole pm_is_whole an_is_whole cd_is_whole ct_is_whole, f_divisor, PySem.W.fnOf "divisor" "divisor" (defArgs s_divisor) (defBody s_divisor) (defScope s_divisor) .none kV_divisor dc_divisor pm_divisor an_divisor cd_divisor ct_divisor, f_bottom_of_both, PySem.W.fnOf "bottom_of_both" "bottom_of_both" (defArgs s_bottom_of_both) (defBody s_bottom_of_both) (defScope s_bottom_of_both) .none kV_bottom_of_both dc_bottom_of_both pm_bottom_of_both an_bottom_of_both cd_bottom_of_both ct_bottom_of_both, f_shortest, PySem.W.fnOf "shortest" "shortest" (defArgs s_shortest) (defBody s_shortest) (defScope s_shortest) .none kV_shortest dc_shortest pm_shortest an_shortest cd_shortest ct_shortest, f_is_fraction, PySem.W.fnOf "is_fraction" "is_fraction" (defArgs s_is_fraction) (defBody s_is_fraction) (defScope s_is_fraction) .none kV_is_fraction dc_is_fraction pm_is_fraction an_is_fraction cd_is_fraction ct_is_fraction, f_plus, PySem.W.fnOf "plus" "plus" (defArgs s_plus) (defBody s_plus) (defScope s_plus) .none kV_plus dc_plus pm_plus an_plus cd_plus ct_plus, f_under, PySem.W.fnOf "under" "under" (defArgs s_under) (defBody s_under) (defScope s_under) .none kV_under dc_under pm_under an_under cd_under ct_under, f_look, PySem.W.fnOf "look" "look" (defArgs s_look) (defBody s_look) (defScope s_look) .none kV_look dc_look pm_look an_look cd_look ct_look, f_share_of, PySem.W.fnOf "share_of" "share_of" (defArgs s_share_of) (defBody s_share_of) (defScope s_share_of) .none kV_share_of dc_share_of pm_share_of an_share_of cd_share_of ct_share_of, f_bettering, PySem.W.fnOf "bettering" "bettering" (defArgs s_bettering) (defBody s_bettering) (defScope s_bettering) .none kV_bettering dc_bettering pm_bettering an_bettering cd_bettering ct_bettering, f__law_cell, PySem.W.fnOf "_law_cell" "_law_cell" (defArgs s__law_cell) (defBody s__law_cell) (defScope s__law_cell) .none kV__law_cell dc__law_cell pm__law_cell an__law_cell cd__law_cell ct__law_cell, f__law_whole, PySem.W.fnOf "_law_whole" "_law_whole" (defArgs s__law_whole) (defBody s__law_whole) (defScope s__law_whole) .none kV__law_whole dc__law_whole pm__law_whole an__law_whole cd__law_whole ct__law_whole, f__law_divisor, PySem.W.fnOf "_law_divisor" "_law_divisor" (defArgs s__law_divisor) (defBody s__law_divisor) (defScope s__law_divisor) .none kV__law_divisor dc__law_divisor pm__law_divisor an__law_divisor cd__law_divisor ct__law_divisor, f__law_low, PySem.W.fnOf "_law_low" "_law_low" (defArgs s__law_low) (defBody s__law_low) (defScope s__law_low) .none kV__law_low dc__law_low pm__law_low an__law_low cd__law_low ct__law_low, f__law_tops, PySem.W.fnOf "_law_tops" "_law_tops" (defArgs s__law_tops) (defBody s__law_tops) (defScope s__law_tops) .none kV__law_tops dc__law_tops pm__law_tops an__law_tops cd__law_tops ct__law_tops, f__law_share, PySem.W.fnOf "_law_share" "_law_share" (defArgs s__law_share) (defBody s__law_share) (defScope s__law_share) .none kV__law_share dc__law_share pm__law_share an__law_share cd__law_share ct__law_share, f__law_shares, PySem.W.fnOf "_law_shares" "_law_shares" (defArgs s__law_shares) (defBody s__law_shares) (defScope s__law_shares) .none kV__law_shares dc__law_shares pm__law_shares an__law_shares cd__law_shares ct__law_shares, f__law_drawn, PySem.W.fnOf "_law_drawn" "_law_drawn" (defArgs s__law_drawn) (defBody s__law_drawn) (defScope s__law_drawn) .none kV__law_drawn dc__law_drawn pm__law_drawn an__law_drawn cd__law_drawn ct__law_drawn, f__law_odd, PySem.W.fnOf "_law_odd" "_law_odd" (defArgs s__law_odd) (defBody s__law_odd) (defScope s__law_odd) .none kV__law_odd dc__law_odd pm__law_odd an__law_odd cd__law_odd ct__law_odd, f__law_amiss, PySem.W.fnOf "_law_amiss" "_law_amiss" (defArgs s__law_amiss) (defBody s__law_amiss) (defScope s__law_amiss) .none kV__law_amiss dc__law_amiss pm__law_amiss an__law_amiss cd__law_amiss ct__law_amiss, f__law_own, PySem.W.fnOf "_law_own" "_law_own" (defArgs s__law_own) (defBody s__law_own) (defScope s__law_own) .none kV__law_own dc__law_own pm__law_own an__law_own cd__law_own ct__law_own, f__law_refused, PySem.W.fnOf "_law_refused" "_law_refused" (defArgs s__law_refused) (defBody s__law_refused) (defScope s__law_refused) .none kV__law_refused dc__law_refused pm__law_refused an__law_refused cd__law_refused ct__law_refused, f__law_groups, PySem.W.fnOf "_law_groups" "_law_groups" (defArgs s__law_groups) (defBody s__law_groups) (defScope s__law_groups) .none kV__law_groups dc__law_groups pm__law_groups an__law_groups cd__law_groups ct__law_groups, fa, PySem.W.fnOf "law" "law" (defArgs s_law) (defBody s_law) (defScope s_law) .none kV_law dc_law pm_law an_law cd_law ct_law, C_ShareError, C_NoNumber, C_NoGroup, C_NoRule, C_NoText, C_NoTable, C_Unlike, C_TooMany, C_NoOrder, C_NoRows, C_NoShares, C_NoVotes, t_MOST⟩ := {
    F_is_whole := fun_mk (st := s_is_whole) l_is_whole c_is_whole k_is_whole
    b_is_whole := (fun_mk (st := s_is_whole) l_is_whole c_is_whole k_is_whole).binds (ps := ["thing"]) fun _ _ _ _ _ _ us hl => match us, hl with | [_], _ => rfl
    g_is_whole := PySem.W.mg_of X G a_is_whole
    F_divisor := fun_mk (st := s_divisor) l_divisor c_divisor k_divisor
    b_divisor := (fun_mk (st := s_divisor) l_divisor c_divisor k_divisor).binds (ps := ["one", "other"]) fun _ _ _ _ _ _ us hl => match us, hl with | [_, _], _ => rfl
    g_divisor := PySem.W.mg_of X G a_divisor
    F_bottom_of_both := fun_mk (st := s_bottom_of_both) l_bottom_of_both c_bottom_of_both k_bottom_of_both
    b_bottom_of_both := (fun_mk (st := s_bottom_of_both) l_bottom_of_both c_bottom_of_both k_bottom_of_both).binds (ps := ["one", "other"]) fun _ _ _ _ _ _ us hl => match us, hl with | [_, _], _ => rfl
    g_bottom_of_both := PySem.W.mg_of X G a_bottom_of_both
    F_shortest := fun_mk (st := s_shortest) l_shortest c_shortest k_shortest
    b_shortest := (fun_mk (st := s_shortest) l_shortest c_shortest k_shortest).binds (ps := ["top", "bottom"]) fun _ _ _ _ _ _ us hl => match us, hl with | [_, _], _ => rfl
    g_shortest := PySem.W.mg_of X G a_shortest
    F_is_fraction := fun_mk (st := s_is_fraction) l_is_fraction c_is_fraction k_is_fraction
    b_is_fraction := (fun_mk (st := s_is_fraction) l_is_fraction c_is_fraction k_is_fraction).binds (ps := ["thing"]) fun _ _ _ _ _ _ us hl => match us, hl with | [_], _ => rfl
    g_is_fraction := PySem.W.mg_of X G a_is_fraction
    F_plus := fun_mk (st := s_plus) l_plus c_plus k_plus
    b_plus := (fun_mk (st := s_plus) l_plus c_plus k_plus).binds (ps := ["one", "other"]) fun _ _ _ _ _ _ us hl => match us, hl with | [_, _], _ => rfl
    g_plus := PySem.W.mg_of X G a_plus
    F_under := fun_mk (st := s_under) l_under c_under k_under
    b_under := (fun_mk (st := s_under) l_under c_under k_under).binds (ps := ["one", "other"]) fun _ _ _ _ _ _ us hl => match us, hl with | [_, _], _ => rfl
    g_under := PySem.W.mg_of X G a_under
    F_look := fun_mk (st := s_look) l_look c_look k_look
    b_look := (fun_mk (st := s_look) l_look c_look k_look).binds (ps := ["table"]) fun _ _ _ _ _ _ us hl => match us, hl with | [_], _ => rfl
    g_look := PySem.W.mg_of X G a_look
    F_share_of := fun_mk (st := s_share_of) l_share_of c_share_of k_share_of
    b_share_of := (fun_mk (st := s_share_of) l_share_of c_share_of k_share_of).binds (ps := ["shares", "group"]) fun _ _ _ _ _ _ us hl => match us, hl with | [_, _], _ => rfl
    g_share_of := PySem.W.mg_of X G a_share_of
    F_bettering := fun_mk (st := s_bettering) l_bettering c_bettering k_bettering
    b_bettering := (fun_mk (st := s_bettering) l_bettering c_bettering k_bettering).binds (ps := ["table", "shares"]) fun _ _ _ _ _ _ us hl => match us, hl with | [_, _], _ => rfl
    g_bettering := PySem.W.mg_of X G a_bettering
    F__law_cell := fun_mk (st := s__law_cell) l__law_cell c__law_cell k__law_cell
    b__law_cell := (fun_mk (st := s__law_cell) l__law_cell c__law_cell k__law_cell).binds (ps := ["_law_script", "_law_k"]) fun _ _ _ _ _ _ us hl => match us, hl with | [_, _], _ => rfl
    g__law_cell := PySem.W.mg_of X G a__law_cell
    F__law_whole := fun_mk (st := s__law_whole) l__law_whole c__law_whole k__law_whole
    b__law_whole := (fun_mk (st := s__law_whole) l__law_whole c__law_whole k__law_whole).binds (ps := ["_law_found"]) fun _ _ _ _ _ _ us hl => match us, hl with | [_], _ => rfl
    g__law_whole := PySem.W.mg_of X G a__law_whole
    F__law_divisor := fun_mk (st := s__law_divisor) l__law_divisor c__law_divisor k__law_divisor
    b__law_divisor := (fun_mk (st := s__law_divisor) l__law_divisor c__law_divisor k__law_divisor).binds (ps := ["_law_one", "_law_other"]) fun _ _ _ _ _ _ us hl => match us, hl with | [_, _], _ => rfl
    g__law_divisor := PySem.W.mg_of X G a__law_divisor
    F__law_low := fun_mk (st := s__law_low) l__law_low c__law_low k__law_low
    b__law_low := (fun_mk (st := s__law_low) l__law_low c__law_low k__law_low).binds (ps := ["_law_numbers"]) fun _ _ _ _ _ _ us hl => match us, hl with | [_], _ => rfl
    g__law_low := PySem.W.mg_of X G a__law_low
    F__law_tops := fun_mk (st := s__law_tops) l__law_tops c__law_tops k__law_tops
    b__law_tops := (fun_mk (st := s__law_tops) l__law_tops c__law_tops k__law_tops).binds (ps := ["_law_numbers", "_law_low_here"]) fun _ _ _ _ _ _ us hl => match us, hl with | [_, _], _ => rfl
    g__law_tops := PySem.W.mg_of X G a__law_tops
    F__law_share := fun_mk (st := s__law_share) l__law_share c__law_share k__law_share
    b__law_share := (fun_mk (st := s__law_share) l__law_share c__law_share k__law_share).binds (ps := ["_law_tops_here", "_law_group"]) fun _ _ _ _ _ _ us hl => match us, hl with | [_, _], _ => rfl
    g__law_share := PySem.W.mg_of X G a__law_share
    F__law_shares := fun_mk (st := s__law_shares) l__law_shares c__law_shares k__law_shares
    b__law_shares := (fun_mk (st := s__law_shares) l__law_shares c__law_shares k__law_shares).binds (ps := ["_law_script", "_law_many"]) fun _ _ _ _ _ _ us hl => match us, hl with | [_, _], _ => rfl
    g__law_shares := PySem.W.mg_of X G a__law_shares
    F__law_drawn := fun_mk (st := s__law_drawn) l__law_drawn c__law_drawn k__law_drawn
    b__law_drawn := (fun_mk (st := s__law_drawn) l__law_drawn c__law_drawn k__law_drawn).binds (ps := ["_law_script", "_law_tops_here", "_law_low_here"]) fun _ _ _ _ _ _ us hl => match us, hl with | [_, _, _], _ => rfl
    g__law_drawn := PySem.W.mg_of X G a__law_drawn
    F__law_odd := fun_mk (st := s__law_odd) l__law_odd c__law_odd k__law_odd
    b__law_odd := (fun_mk (st := s__law_odd) l__law_odd c__law_odd k__law_odd).binds (ps := ["_law_cell_here"]) fun _ _ _ _ _ _ us hl => match us, hl with | [_], _ => rfl
    g__law_odd := PySem.W.mg_of X G a__law_odd
    F__law_amiss := fun_mk (st := s__law_amiss) l__law_amiss c__law_amiss k__law_amiss
    b__law_amiss := (fun_mk (st := s__law_amiss) l__law_amiss c__law_amiss k__law_amiss).binds (ps := ["_law_shares_here", "_law_cell_here"]) fun _ _ _ _ _ _ us hl => match us, hl with | [_, _], _ => rfl
    g__law_amiss := PySem.W.mg_of X G a__law_amiss
    F__law_own := fun_mk (st := s__law_own) l__law_own c__law_own k__law_own
    b__law_own := (fun_mk (st := s__law_own) l__law_own c__law_own k__law_own).binds (ps := ["_law_error"]) fun _ _ _ _ _ _ us hl => match us, hl with | [_], _ => rfl
    g__law_own := PySem.W.mg_of X G a__law_own
    F__law_refused := fun_mk (st := s__law_refused) l__law_refused c__law_refused k__law_refused
    b__law_refused := (fun_mk (st := s__law_refused) l__law_refused c__law_refused k__law_refused).binds (ps := ["_law_table", "_law_amiss_here"]) fun _ _ _ _ _ _ us hl => match us, hl with | [_, _], _ => rfl
    g__law_refused := PySem.W.mg_of X G a__law_refused
    F__law_groups := fun_mk (st := s__law_groups) l__law_groups c__law_groups k__law_groups
    b__law_groups := (fun_mk (st := s__law_groups) l__law_groups c__law_groups k__law_groups).binds (ps := ["_law_found", "_law_due"]) fun _ _ _ _ _ _ us hl => match us, hl with | [_, _], _ => rfl
    g__law_groups := PySem.W.mg_of X G a__law_groups
    F_law := fun_mk (st := s_law) l_law c_law k_law
    b_law := (fun_mk (st := s_law) l_law c_law k_law).binds (ps := ["_law_script"]) fun _ _ _ _ _ _ us hl => match us, hl with | [_], _ => rfl
    g_law := PySem.W.mg_of X G a_law
    g_ShareError := PySem.W.mg_of X G ac_ShareError
    g_NoNumber := PySem.W.mg_of X G ac_NoNumber
    g_NoGroup := PySem.W.mg_of X G ac_NoGroup
    g_NoRule := PySem.W.mg_of X G ac_NoRule
    g_NoText := PySem.W.mg_of X G ac_NoText
    g_NoTable := PySem.W.mg_of X G ac_NoTable
    k_NoTable := kc_NoTable
    e_NoTable := ec_NoTable
    t_NoTable := tc_NoTable
    x_NoTable := xc_NoTable
    g_Unlike := PySem.W.mg_of X G ac_Unlike
    g_TooMany := PySem.W.mg_of X G ac_TooMany
    g_NoOrder := PySem.W.mg_of X G ac_NoOrder
    g_NoRows := PySem.W.mg_of X G ac_NoRows
    g_NoShares := PySem.W.mg_of X G ac_NoShares
    k_NoShares := kc_NoShares
    e_NoShares := ec_NoShares
    t_NoShares := tc_NoShares
    x_NoShares := xc_NoShares
    g_NoVotes := PySem.W.mg_of X G ac_NoVotes
    q_NoGroup := ⟨ic_NoGroup, tc_NoGroup, sc_NoGroup⟩
    q_NoNumber := ⟨ic_NoNumber, tc_NoNumber, sc_NoNumber⟩
    q_NoOrder := ⟨ic_NoOrder, tc_NoOrder, sc_NoOrder⟩
    q_NoRows := ⟨ic_NoRows, tc_NoRows, sc_NoRows⟩
    q_NoRule := ⟨ic_NoRule, tc_NoRule, sc_NoRule⟩
    q_NoShares := ⟨ic_NoShares, tc_NoShares, sc_NoShares⟩
    q_NoTable := ⟨ic_NoTable, tc_NoTable, sc_NoTable⟩
    q_NoText := ⟨ic_NoText, tc_NoText, sc_NoText⟩
    q_NoVotes := ⟨ic_NoVotes, tc_NoVotes, sc_NoVotes⟩
    q_ShareError := ⟨ic_ShareError, tc_ShareError, sc_ShareError⟩
    q_TooMany := ⟨ic_TooMany, tc_TooMany, sc_TooMany⟩
    q_Unlike := ⟨ic_Unlike, tc_Unlike, sc_Unlike⟩
    X_NoTable := ⟨xg_NoTable, xk_NoTable, ec_NoTable, xh_NoTable, xa_NoTable, xn, xt, xm_NoTable⟩
    u_NoTable_NoGroup := us_NoTable_NoGroup
    u_NoTable_NoNumber := us_NoTable_NoNumber
    u_NoTable_NoOrder := us_NoTable_NoOrder
    u_NoTable_NoRows := us_NoTable_NoRows
    u_NoTable_NoRule := us_NoTable_NoRule
    u_NoTable_NoShares := us_NoTable_NoShares
    u_NoTable_NoTable := us_NoTable_NoTable
    u_NoTable_NoText := us_NoTable_NoText
    u_NoTable_NoVotes := us_NoTable_NoVotes
    u_NoTable_ShareError := us_NoTable_ShareError
    u_NoTable_TooMany := us_NoTable_TooMany
    u_NoTable_Unlike := us_NoTable_Unlike
    v_NoTable := uv_NoTable
    h_NoTable_ShareError := PySem.W.exm_ref ec_ShareError hh_NoTable_ShareError tc_ShareError us_NoTable_ShareError
    X_NoShares := ⟨xg_NoShares, xk_NoShares, ec_NoShares, xh_NoShares, xa_NoShares, xn, xt, xm_NoShares⟩
    u_NoShares_NoGroup := us_NoShares_NoGroup
    u_NoShares_NoNumber := us_NoShares_NoNumber
    u_NoShares_NoOrder := us_NoShares_NoOrder
    u_NoShares_NoRows := us_NoShares_NoRows
    u_NoShares_NoRule := us_NoShares_NoRule
    u_NoShares_NoShares := us_NoShares_NoShares
    u_NoShares_NoTable := us_NoShares_NoTable
    u_NoShares_NoText := us_NoShares_NoText
    u_NoShares_NoVotes := us_NoShares_NoVotes
    u_NoShares_ShareError := us_NoShares_ShareError
    u_NoShares_TooMany := us_NoShares_TooMany
    u_NoShares_Unlike := us_NoShares_Unlike
    v_NoShares := uv_NoShares
    h_NoShares_ShareError := PySem.W.exm_ref ec_ShareError hh_NoShares_ShareError tc_ShareError us_NoShares_ShareError
    c_MOST := PySem.W.mg_of X G cn_MOST
    z_ValueError := PySem.W.mg_none_of X G z_ValueError
    z_abs := PySem.W.mg_none_of X G z_abs
    z_bool := PySem.W.mg_none_of X G z_bool
    z_int := PySem.W.mg_none_of X G z_int
    z_isinstance := PySem.W.mg_none_of X G z_isinstance
    z_len := PySem.W.mg_none_of X G z_len
    z_list := PySem.W.mg_none_of X G z_list
    z_max := PySem.W.mg_none_of X G z_max
    z_range := PySem.W.mg_none_of X G z_range
    z_sum := PySem.W.mg_none_of X G z_sum
    z_tuple := PySem.W.mg_none_of X G z_tuple
    z_zip := PySem.W.mg_none_of X G z_zip
  }
  exact ⟨_, fun s v => .of_eq rfl, fun base _ _ => ok_law T⟩
end Lw
open PySem PySem.W PyProof.Rows
set_option maxHeartbeats 0 in
theorem PySem.Challenge.cw_shareparley_k41_bettering_holds : PySem.Challenge.rw_shareparley_k41_bettering.Holds := by
  w_on; o_law; k_head; (case hw => w_witness2)
  k_fill
  refine L2.walk_of (l := PySem.Challenge.rw_shareparley_k41_bettering) (n := 63) (k := 7) (x := "_law_script") (CX := fun w => L2.CX (PySem.Challenge.rw_shareparley_k41_bettering).prog w) (sp := fun w => Lw.sp_law _) rfl (by decide) rfl ⟨rfl, by decide, by decide⟩ (fun w h Y => PySem.W.kIn_of Y) ?F (fun _ _ a ns hl _ hS => ⟨a, ns, rfl, hS, hl, fun _ => rfl⟩) (fun _ _ _ _ _ h => Sp.cx_none h)
  case F =>
    intro w mg fa h KX G hmg
    refine' Lw.all_mk KX G hmg ?a_is_whole ?l_is_whole ?c_is_whole ?k_is_whole ?a_divisor ?l_divisor ?c_divisor ?k_divisor ?a_bottom_of_both ?l_bottom_of_both ?c_bottom_of_both ?k_bottom_of_both ?a_shortest ?l_shortest ?c_shortest ?k_shortest ?a_is_fraction ?l_is_fraction ?c_is_fraction ?k_is_fraction ?a_plus ?l_plus ?c_plus ?k_plus ?a_under ?l_under ?c_under ?k_under ?a_look ?l_look ?c_look ?k_look ?a_share_of ?l_share_of ?c_share_of ?k_share_of ?a_bettering ?l_bettering ?c_bettering ?k_bettering ?a__law_cell ?l__law_cell ?c__law_cell ?k__law_cell ?a__law_whole ?l__law_whole ?c__law_whole ?k__law_whole ?a__law_divisor ?l__law_divisor ?c__law_divisor ?k__law_divisor ?a__law_low ?l__law_low ?c__law_low ?k__law_low ?a__law_tops ?l__law_tops ?c__law_tops ?k__law_tops ?a__law_share ?l__law_share ?c__law_share ?k__law_share ?a__law_shares ?l__law_shares ?c__law_shares ?k__law_shares ?a__law_drawn ?l__law_drawn ?c__law_drawn ?k__law_drawn ?a__law_odd ?l__law_odd ?c__law_odd ?k__law_odd ?a__law_amiss ?l__law_amiss ?c__law_amiss ?k__law_amiss ?a__law_own ?l__law_own ?c__law_own ?k__law_own ?a__law_refused ?l__law_refused ?c__law_refused ?k__law_refused ?a__law_groups ?l__law_groups ?c__law_groups ?k__law_groups ?a_law ?l_law ?c_law ?k_law ?ac_ShareError ?tc_ShareError ?ec_ShareError ?ac_NoNumber ?tc_NoNumber ?ec_NoNumber ?ac_NoGroup ?tc_NoGroup ?ec_NoGroup ?ac_NoRule ?tc_NoRule ?ec_NoRule ?ac_NoText ?tc_NoText ?ec_NoText ?ac_NoTable ?kc_NoTable ?ec_NoTable ?tc_NoTable ?xc_NoTable ?ac_Unlike ?tc_Unlike ?ec_Unlike ?ac_TooMany ?tc_TooMany ?ec_TooMany ?ac_NoOrder ?tc_NoOrder ?ec_NoOrder ?ac_NoRows ?tc_NoRows ?ec_NoRows ?ac_NoShares ?kc_NoShares ?ec_NoShares ?tc_NoShares ?xc_NoShares ?ac_NoVotes ?tc_NoVotes ?ec_NoVotes ?ic_NoGroup ?sc_NoGroup ?ic_NoNumber ?sc_NoNumber ?ic_NoOrder ?sc_NoOrder ?ic_NoRows ?sc_NoRows ?ic_NoRule ?sc_NoRule ?ic_NoShares ?sc_NoShares ?ic_NoTable ?sc_NoTable ?ic_NoText ?sc_NoText ?ic_NoVotes ?sc_NoVotes ?ic_ShareError ?sc_ShareError ?ic_TooMany ?sc_TooMany ?ic_Unlike ?sc_Unlike ?xg_NoTable ?xk_NoTable ?xh_NoTable ?xa_NoTable ?xm_NoTable ?xn ?xt ?us_NoTable_NoGroup ?us_NoTable_NoNumber ?us_NoTable_NoOrder ?us_NoTable_NoRows ?us_NoTable_NoRule ?us_NoTable_NoShares ?us_NoTable_NoTable ?us_NoTable_NoText ?us_NoTable_NoVotes ?us_NoTable_ShareError ?us_NoTable_TooMany ?us_NoTable_Unlike ?uv_NoTable ?hh_NoTable_ShareError ?xg_NoShares ?xk_NoShares ?xh_NoShares ?xa_NoShares ?xm_NoShares ?us_NoShares_NoGroup ?us_NoShares_NoNumber ?us_NoShares_NoOrder ?us_NoShares_NoRows ?us_NoShares_NoRule ?us_NoShares_NoShares ?us_NoShares_NoTable ?us_NoShares_NoText ?us_NoShares_NoVotes ?us_NoShares_ShareError ?us_NoShares_TooMany ?us_NoShares_Unlike ?uv_NoShares ?hh_NoShares_ShareError ?cn_MOST ?z_ValueError ?z_abs ?z_bool ?z_int ?z_isinstance ?z_len ?z_list ?z_max ?z_range ?z_sum ?z_tuple ?z_zip
    (case a_is_whole => k_is)
    (case l_is_whole => k_is)
    (case c_is_whole => k_is)
    (case k_is_whole => k_is)
    (case a_divisor => k_is)
    (case l_divisor => k_is)
    (case c_divisor => k_is)
    (case k_divisor => k_is)
    (case a_bottom_of_both => k_is)
    (case l_bottom_of_both => k_is)
    (case c_bottom_of_both => k_is)
    (case k_bottom_of_both => k_is)
    (case a_shortest => k_is)
    (case l_shortest => k_is)
    (case c_shortest => k_is)
    (case k_shortest => k_is)
    (case a_is_fraction => k_is)
    (case l_is_fraction => k_is)
    (case c_is_fraction => k_is)
    (case k_is_fraction => k_is)
    (case a_plus => k_is)
    (case l_plus => k_is)
    (case c_plus => k_is)
    (case k_plus => k_is)
    (case a_under => k_is)
    (case l_under => k_is)
    (case c_under => k_is)
    (case k_under => k_is)
    (case a_look => k_is)
    (case l_look => k_is)
    (case c_look => k_is)
    (case k_look => k_is)
    (case a_share_of => k_is)
    (case l_share_of => k_is)
    (case c_share_of => k_is)
    (case k_share_of => k_is)
    (case a_bettering => k_is)
    (case l_bettering => k_is)
    (case c_bettering => k_is)
    (case k_bettering => k_is)
    (case a__law_cell => k_is)
    (case l__law_cell => k_is)
    (case c__law_cell => k_is)
    (case k__law_cell => k_is)
    (case a__law_whole => k_is)
    (case l__law_whole => k_is)
    (case c__law_whole => k_is)
    (case k__law_whole => k_is)
    (case a__law_divisor => k_is)
    (case l__law_divisor => k_is)
    (case c__law_divisor => k_is)
    (case k__law_divisor => k_is)
    (case a__law_low => k_is)
    (case l__law_low => k_is)
    (case c__law_low => k_is)
    (case k__law_low => k_is)
    (case a__law_tops => k_is)
    (case l__law_tops => k_is)
    (case c__law_tops => k_is)
    (case k__law_tops => k_is)
    (case a__law_share => k_is)
    (case l__law_share => k_is)
    (case c__law_share => k_is)
    (case k__law_share => k_is)
    (case a__law_shares => k_is)
    (case l__law_shares => k_is)
    (case c__law_shares => k_is)
    (case k__law_shares => k_is)
    (case a__law_drawn => k_is)
    (case l__law_drawn => k_is)
    (case c__law_drawn => k_is)
    (case k__law_drawn => k_is)
    (case a__law_odd => k_is)
    (case l__law_odd => k_is)
    (case c__law_odd => k_is)
    (case k__law_odd => k_is)
    (case a__law_amiss => k_is)
    (case l__law_amiss => k_is)
    (case c__law_amiss => k_is)
    (case k__law_amiss => k_is)
    (case a__law_own => k_is)
    (case l__law_own => k_is)
    (case c__law_own => k_is)
    (case k__law_own => k_is)
    (case a__law_refused => k_is)
    (case l__law_refused => k_is)
    (case c__law_refused => k_is)
    (case k__law_refused => k_is)
    (case a__law_groups => k_is)
    (case l__law_groups => k_is)
    (case c__law_groups => k_is)
    (case k__law_groups => k_is)
    (case a_law => k_is)
    (case l_law => k_is)
    (case c_law => k_is)
    (case k_law => k_is)
    (case ac_ShareError => k_is)
    (case tc_ShareError => k_is)
    (case ec_ShareError => k_is)
    (case ac_NoNumber => k_is)
    (case tc_NoNumber => k_is)
    (case ec_NoNumber => k_is)
    (case ac_NoGroup => k_is)
    (case tc_NoGroup => k_is)
    (case ec_NoGroup => k_is)
    (case ac_NoRule => k_is)
    (case tc_NoRule => k_is)
    (case ec_NoRule => k_is)
    (case ac_NoText => k_is)
    (case tc_NoText => k_is)
    (case ec_NoText => k_is)
    (case ac_NoTable => k_is)
    (case kc_NoTable => k_is)
    (case ec_NoTable => k_is)
    (case tc_NoTable => k_is)
    (case xc_NoTable => k_exc)
    (case ac_Unlike => k_is)
    (case tc_Unlike => k_is)
    (case ec_Unlike => k_is)
    (case ac_TooMany => k_is)
    (case tc_TooMany => k_is)
    (case ec_TooMany => k_is)
    (case ac_NoOrder => k_is)
    (case tc_NoOrder => k_is)
    (case ec_NoOrder => k_is)
    (case ac_NoRows => k_is)
    (case tc_NoRows => k_is)
    (case ec_NoRows => k_is)
    (case ac_NoShares => k_is)
    (case kc_NoShares => k_is)
    (case ec_NoShares => k_is)
    (case tc_NoShares => k_is)
    (case xc_NoShares => k_exc)
    (case ac_NoVotes => k_is)
    (case tc_NoVotes => k_is)
    (case ec_NoVotes => k_is)
    (case ic_NoGroup => k_is)
    (case sc_NoGroup => k_is)
    (case ic_NoNumber => k_is)
    (case sc_NoNumber => k_is)
    (case ic_NoOrder => k_is)
    (case sc_NoOrder => k_is)
    (case ic_NoRows => k_is)
    (case sc_NoRows => k_is)
    (case ic_NoRule => k_is)
    (case sc_NoRule => k_is)
    (case ic_NoShares => k_is)
    (case sc_NoShares => k_is)
    (case ic_NoTable => k_is)
    (case sc_NoTable => k_is)
    (case ic_NoText => k_is)
    (case sc_NoText => k_is)
    (case ic_NoVotes => k_is)
    (case sc_NoVotes => k_is)
    (case ic_ShareError => k_is)
    (case sc_ShareError => k_is)
    (case ic_TooMany => k_is)
    (case sc_TooMany => k_is)
    (case ic_Unlike => k_is)
    (case sc_Unlike => k_is)
    (case xg_NoTable => k_is)
    (case xk_NoTable => k_is)
    (case xh_NoTable => k_is)
    (case xa_NoTable => k_is)
    (case xm_NoTable => k_is)
    (case xn => k_is)
    (case xt => k_is)
    (case us_NoTable_NoGroup => k_is)
    (case us_NoTable_NoNumber => k_is)
    (case us_NoTable_NoOrder => k_is)
    (case us_NoTable_NoRows => k_is)
    (case us_NoTable_NoRule => k_is)
    (case us_NoTable_NoShares => k_is)
    (case us_NoTable_NoTable => k_is)
    (case us_NoTable_NoText => k_is)
    (case us_NoTable_NoVotes => k_is)
    (case us_NoTable_ShareError => k_is)
    (case us_NoTable_TooMany => k_is)
    (case us_NoTable_Unlike => k_is)
    (case uv_NoTable => k_is)
    (case hh_NoTable_ShareError => k_is)
    (case xg_NoShares => k_is)
    (case xk_NoShares => k_is)
    (case xh_NoShares => k_is)
    (case xa_NoShares => k_is)
    (case xm_NoShares => k_is)
    (case us_NoShares_NoGroup => k_is)
    (case us_NoShares_NoNumber => k_is)
    (case us_NoShares_NoOrder => k_is)
    (case us_NoShares_NoRows => k_is)
    (case us_NoShares_NoRule => k_is)
    (case us_NoShares_NoShares => k_is)
    (case us_NoShares_NoTable => k_is)
    (case us_NoShares_NoText => k_is)
    (case us_NoShares_NoVotes => k_is)
    (case us_NoShares_ShareError => k_is)
    (case us_NoShares_TooMany => k_is)
    (case us_NoShares_Unlike => k_is)
    (case uv_NoShares => k_is)
    (case hh_NoShares_ShareError => k_is)
    (case cn_MOST => k_is)
    (case z_ValueError => k_is)
    (case z_abs => k_is)
    (case z_bool => k_is)
    (case z_int => k_is)
    (case z_isinstance => k_is)
    (case z_len => k_is)
    (case z_list => k_is)
    (case z_max => k_is)
    (case z_range => k_is)
    (case z_sum => k_is)
    (case z_tuple => k_is)
    (case z_zip => k_is)
