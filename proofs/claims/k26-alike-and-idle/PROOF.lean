import PyProof.Rows.All
import Wide.All
import OpenK.AllK
import Wide.FinOn
import HandS.ForMost
import HandS.Exc
import HandS.TryOnly
import HandS.ExcOwn
import HandS.WordsExc
import HandS.IsInst
import HandS.Style
import HandS.Zip
import PySem.Challenge.RW_shareparley_k26_alike_and_idle
set_option Elab.async false
set_option linter.all false
set_option maxRecDepth 100000
set_option maxHeartbeats 4000000
/-! Cm: what every text of ours leans on: the carried heap (Own), the readings walked step by step (x_..), own rules. -/
namespace Sp
open PySem L2 PyProof.Rows

/-! ### the carried heap: B is what stands and stays, cs the cells of our own that may still change -/
abbrev Cells := List (Addr × HO)
structure Own (B : Hp) (cs : Cells) (H : Hp) : Prop where
  ex : Same B H
  cell : ∀ p ∈ cs, H p.1 = some p.2 ∧ B p.1 = none
  nd : (cs.map (·.1)).Nodup
theorem same_upd {H : Hp} {p : Addr} {o : HO} (h : H p = none) : Same H (upd H p o) := fun b x e => by
  rw [upd_ne (ne_of_none e h)]
  exact e
theorem Own.start {H : Hp} : Own H [] H := ⟨Same.refl H, fun _ h => (nomatch h), List.nodup_nil⟩
section
variable {B H H' : Hp} {cs : Cells} {p : Addr} {o o' : HO} {K : PySem.W.Frag} {xs : List V}
theorem Own.ext (w : Own B cs H) (e : Same H H') : Own B cs H' := ⟨w.ex.trans e, fun q h => ⟨e _ _ (w.cell q h).1, (w.cell q h).2⟩, w.nd⟩
theorem Own.fresh (w : Own B cs H) (hp : H p = none) : B p = none := w.ex.free hp
theorem Own.off (w : Own B cs H) (hp : H p = none) : p ∉ cs.map (·.1) := fun m => by
  obtain ⟨q, hq, e⟩ := List.mem_map.mp m
  have := (w.cell q hq).1
  rw [e, hp] at this
  cases this
theorem Own.newE (w : Own B cs H) (hp : H p = none) (e : Same H H') (h : H' p = some o) : Own B ((p, o) :: cs) H' :=
  ⟨w.ex.trans e, fun q hq => by
    rcases List.mem_cons.mp hq with r | r
    · rw [r]; exact ⟨h, w.fresh hp⟩
    · exact ⟨e _ _ (w.cell q r).1, (w.cell q r).2⟩, List.nodup_cons.mpr ⟨w.off hp, w.nd⟩⟩
theorem Own.new (w : Own B cs H) (hp : H p = none) : Own B ((p, o) :: cs) (upd H p o) := w.newE hp (same_upd hp) upd_same
theorem Own.get (w : Own B cs H) (i : Nat) (h : cs[i]? = some (p, o)) : H p = some o := (w.cell _ (List.mem_of_getElem? h)).1
theorem Own.none (w : Own B cs H) (i : Nat) (h : cs[i]? = some (p, o)) : B p = none := (w.cell _ (List.mem_of_getElem? h)).2
theorem Own.put (w : Own B cs H) (i : Nat) (h : cs[i]? = some (p, o)) : Own B (cs.set i (p, o')) (upd H p o') := by
  have hi : i < cs.length := (List.getElem?_eq_some_iff.mp h).1
  have hm : (cs.set i (p, o')).map (·.1) = cs.map (·.1) := by
    rw [List.map_set]
    apply List.ext_getElem?
    intro j
    by_cases e : i = j
    · subst e
      rw [List.getElem?_set_self (by rw [List.length_map]; exact hi), List.getElem?_map, h] <;> rfl
    · rw [List.getElem?_set_ne e]
  refine ⟨fun b x e => ?_, fun q hq => ?_, by rw [hm]; exact w.nd⟩
  · rw [upd_ne (ne_of_none e (w.none i h))]
    exact w.ex b x e
  · obtain ⟨j, hj⟩ := List.mem_iff_getElem?.mp hq
    by_cases e : i = j
    · subst e
      rw [List.getElem?_set_self hi] at hj
      cases hj
      exact ⟨upd_same, w.none i h⟩
    · rw [List.getElem?_set_ne e] at hj
      have hq' := w.cell q (List.mem_of_getElem? hj)
      have hne : q.1 ≠ p := fun z => by
        have a1 : (cs.map (·.1))[i]? = some p := by rw [List.getElem?_map, h] <;> rfl
        have a2 : (cs.map (·.1))[j]? = some p := by rw [List.getElem?_map, hj, ← z] <;> rfl
        obtain ⟨l1, e1⟩ := List.getElem?_eq_some_iff.mp a1
        obtain ⟨l2, e2⟩ := List.getElem?_eq_some_iff.mp a2
        exact e ((List.getElem_inj w.nd).mp (e1.trans e2.symm))
      exact ⟨by rw [upd_ne hne]; exact hq'.1, hq'.2⟩
theorem Own.sub {ds : Cells} (w : Own B cs H) (h : ds.Sublist cs) : Own B ds H := ⟨w.ex, fun q hq => w.cell q (h.mem hq), (h.map (·.1)).nodup w.nd⟩
theorem Own.pop (w : Own B ((p, o) :: cs) H) : Own B cs H := w.sub (List.sublist_cons_self _ _)
theorem Own.freeze (w : Own B ((p, o) :: cs) H) : Own (upd B p o) cs H :=
  ⟨fun b x e => by
    by_cases z : b = p
    · subst z; rw [upd_same] at e; rw [← e]; exact w.get 0 rfl
    · rw [upd_ne z] at e; exact w.ex b x e,
   fun q hq => ⟨(w.cell q (List.mem_cons_of_mem _ hq)).1, by
    rw [upd_ne (fun z => ?_)]
    · exact (w.cell q (List.mem_cons_of_mem _ hq)).2
    · have := (List.nodup_cons.mp w.nd).1
      exact this (List.mem_map.mpr ⟨q, hq, z⟩)⟩, (List.nodup_cons.mp w.nd).2⟩
theorem Own.sq (w : Own B cs H) (i : Nat) (h : cs[i]? = some (p, .lst xs)) : SqL K H p xs := SqL.of (w.get i h)
theorem Own.sqT (w : Own B cs H) (i : Nat) (h : cs[i]? = some (p, .tup xs)) : SqT K H p xs := SqT.of (w.get i h)
theorem same_sqT (e : Same H H') (h : SqT K H p xs) : SqT K H' p xs := by
  rcases h with (h | ⟨u, h⟩) | h
  · exact .inl (.inl (e _ _ h))
  · exact .inl (.inr ⟨u, e _ _ h⟩)
  · exact .inr h
theorem Own.seq (w : Own B cs H) (h : SqL K B p xs) : SqL K H p xs := w.ex.seq h
theorem Own.seqT (w : Own B cs H) (h : SqT K B p xs) : SqT K H p xs := same_sqT w.ex h
end

/-! ### own rules -/
section
variable {X : Cx}
/-- a list that is read: ours, or frozen -/
abbrev RdL (H : Hp) (a : Addr) (xs : List V) : Prop := Rd H a (.lst xs)
theorem rd_list {pins : List (Addr × Obj)} {σ : L2.St} {H : Hp} {s : Shared} {p : Addr} {xs : List V} (I : Inv X pins σ H s) (h : RdL H p xs) :
    xs.length ≤ sizeLine ∧ ∃ (its : List Value) (n : Nat), Vals xs its ∧ xs.length = its.length ∧ s.heap.get? p = some { cls := .type "list", data := .seq its.toArray n } := by
  obtain ⟨z, its, n, r, e⟩ := h.ok I.hok
  exact ⟨z, its, n, r, r.length, e⟩
/-- + of lists (ours or frozen) -/
def rCatS : R2 := fun x y H Q => ∃ l b xs zs, x = .ref l ∧ y = .ref b ∧ RdL H l xs ∧ RdL H b zs ∧ xs.length + zs.length ≤ sizeLine ∧ ∀ p, H p = none → Q (.ref p) (upd H p (.lst (xs ++ zs)))
theorem op_catS : OpR X (binaryOp .Add) rCatS := by
  intro pins s σ H x y v u Q I rx ry h
  obtain ⟨l, b, xs, zs, rfl, rfl, hH, hB, hz, q⟩ := h
  cases rx
  cases ry
  obtain ⟨z, its, n, r, hl, e⟩ := rd_list I hH
  obtain ⟨z2, its2, n2, r2, hl2, e2⟩ := rd_list I hB
  refine PySem.P.add_list e e2 ?_ (by rw [List.size_toArray, List.size_toArray]; omega)
  have ea : its.toArray ++ its2.toArray = (its ++ its2).toArray := by simp
  rw [ea]
  exact ⟨.ref _, _, I.lnew (t' := s.toks) (r.append r2) (by rw [List.length_append]; omega), rfl, q _ I.fresh⟩
/-- + of ints, of lists, of texts: which one, the reading says -/
def rAddX : R2 := fun x y H Q => (rI0 (fun i j => .int (i + j))) x y H Q ∨ rCatS x y H Q ∨ (∃ i j, x = .str i ∧ y = .str j ∧ i.length + j.length ≤ sizeLine ∧ Q (.str (i ++ j)) H)
theorem op_addX : OpR X (binaryOp .Add) rAddX := op_add.or (op_catS.or op_add_str)
/-- * of ints (any that the machine multiplies); of a list and an int -/
def rMulI : R2 := rI IntMulOk fun i j => .int (i * j)
theorem op_mulI : OpR X (binaryOp .Mult) rMulI := opI fun _ _ _ _ _ _ _ hc q => mul_int q hc
def rMulX : R2 := fun x y H Q => rMulI x y H Q ∨ rRep x y H Q
theorem op_mulX : OpR X (binaryOp .Mult) rMulX := op_mulI.or op_rep
/-- // by a divisor that is not nought, below 2 ^ 9000 -/
def CDivX (_ j : Int) : Prop := j ≠ 0 ∧ j.natAbs.log2 < 9000
def rDivX : R2 := rI CDivX fun i j => .int (i.fdiv j)
theorem op_fdivX : OpR X (binaryOp .FloorDiv) rDivX := opI fun _ _ _ _ _ _ _ hc q => floordiv_int hc.1 q (.inl (PyProof.noPylong_of_log2 hc.2))
def rModX : R2 := rI (fun _ j => j ≠ 0) fun i j => .int (i.fmod j)
theorem op_modX : OpR X (binaryOp .Mod) rModX := op_modN
/-- ** and << of a small base; >> -/
def rPow : R2 := rI CPow fun i j => .int (i ^ j.toNat)
theorem op_powX : OpR X (binaryOp .Pow) rPow := op_pow
def rShl : R2 := rI CPow fun i j => .int (i * 2 ^ j.toNat)
theorem op_shlX : OpR X (binaryOp .LShift) rShl := op_shl
def rShr : R2 := rI (fun _ j => 0 ≤ j) fun i j => .int (i / 2 ^ j.toNat)
theorem op_shrX : OpR X (binaryOp .RShift) rShr := op_shr
def rSubI : R2 := rI0 fun i j => .int (i - j)
theorem op_subX : OpR X (binaryOp .Sub) rSubI := op_sub
def rAndI : R2 := rI0 fun i j => .int (Builtin.bitAnd i j)
theorem op_andX : OpR X (binaryOp .BitAnd) rAndI := op_and
def rOrI : R2 := rI0 fun i j => .int (Builtin.bitOr i j)
theorem op_orX : OpR X (binaryOp .BitOr) rOrI := op_or
def rXorI : R2 := rI0 fun i j => .int (Builtin.bitXor i j)
theorem op_xorX : OpR X (binaryOp .BitXor) rXorI := op_xor
def rLtI : R2 := rI0 fun i j => .bl (decide (i < j))
theorem op_ltX : OpR X (compareOp .Lt) rLtI := op_lt
def rLeI : R2 := rI0 fun i j => .bl (decide (i ≤ j))
theorem op_leX : OpR X (compareOp .LtE) rLeI := op_le
def rGtI : R2 := rI0 fun i j => .bl (decide (j < i))
theorem op_gtX : OpR X (compareOp .Gt) rGtI := op_gt
def rGeI : R2 := rI0 fun i j => .bl (decide (j ≤ i))
theorem op_geX : OpR X (compareOp .GtE) rGeI := op_ge
/-- == and != of plain values, of data -/
def rEqX (K : PySem.W.Frag) : R2 := fun x y H Q => rEq x y H Q ∨ rEqD K x y H Q
def rNeX (K : PySem.W.Frag) : R2 := fun x y H Q => rNe x y H Q ∨ rNeD K x y H Q
theorem op_eqX (hu : X.A.units + 64 < cLine) : OpR X (compareOp .Eq) (rEqX X.K) := op_eq.or (op_eqD hu)
theorem op_neX (hu : X.A.units + 64 < cLine) : OpR X (compareOp .NotEq) (rNeX X.K) := op_ne.or (op_neD hu)
/-- is, is not, of anything and a truth -/
def rIsX : R2 := fun x y H Q => ∃ b : Bool, y = .bl b ∧ Q (.bl (decide (x = .bl b))) H
/-- is None -/
def rIsNX : R2 := fun x y H Q => y = .non ∧ Q (.bl (decide (x = .non))) H
def rNotNX : R2 := fun x y H Q => y = .non ∧ Q (.bl (!decide (x = .non))) H
theorem op_isNX : OpR X (compareOp .Is) rIsNX := op_isN
theorem op_notNX : OpR X (compareOp .IsNot) rNotNX := op_notN
theorem op_isX : OpR X (compareOp .Is) rIsX := by
  intro pins s σ H x y v u Q I rx ry h
  obtain ⟨b, rfl, q⟩ := h
  cases (show u = Value.bool b from ry)
  cases x with
  | bl a =>
    cases (show v = Value.bool a from rx)
    by_cases e : a = b
    · subst e
      exact wpAny_is_self rfl ⟨.bl true, H, I, rfl, by simpa using q⟩
    · exact wpAny_is_other rfl (fun z => e (Value.bool.inj z)) ⟨.bl false, H, I, rfl, by simpa [e] using q⟩
  | non => cases (show v = Value.none from rx); exact wpAny_is_other rfl (fun z => nomatch z) ⟨.bl false, H, I, rfl, by simpa using q⟩
  | int i => obtain ⟨t, rfl⟩ := rx; exact wpAny_is_other rfl (fun z => nomatch z) ⟨.bl false, H, I, rfl, by simpa using q⟩
  | str i => obtain ⟨t, rfl⟩ := rx; exact wpAny_is_other rfl (fun z => nomatch z) ⟨.bl false, H, I, rfl, by simpa using q⟩
  | byt i => obtain ⟨t, rfl⟩ := rx; exact wpAny_is_other rfl (fun z => nomatch z) ⟨.bl false, H, I, rfl, by simpa using q⟩
  | flt i => obtain ⟨t, rfl⟩ := rx; exact wpAny_is_other rfl (fun z => nomatch z) ⟨.bl false, H, I, rfl, by simpa using q⟩
  | ref a => cases (show v = Value.ref a from rx); exact wpAny_is_other rfl (fun z => nomatch z) ⟨.bl false, H, I, rfl, by simpa using q⟩
  | ty a => cases (show v = Value.type a from rx); exact wpAny_is_other rfl (fun z => nomatch z) ⟨.bl false, H, I, rfl, by simpa using q⟩
/-- the place of a list's item is read, as a store by an operator reads it -/
theorem get_list : PGet X (rIxL X.K) := by
  intro pins s σ H x y v u Q I rx ry h
  obtain ⟨p, xs, i, z, rfl, rfl, hq, he, q⟩ := h
  cases rx
  obtain ⟨t, rfl⟩ := ry
  obtain ⟨its, r, pl, hz⟩ := I.list hq
  obtain ⟨j, h1, h2, h3, h4, h5⟩ := atI_get he
  obtain ⟨w, ew, rw'⟩ := r.get h2
  have hl := r.length
  have hn := line63
  have fin : EP X pins σ Q w s := ⟨z, H, I, rw', q⟩
  by_cases h0 : 0 ≤ i
  · have hj : i.toNat = j := by
      rw [seqIndex_of h0 h5] at h1
      exact Option.some.inj h1
    exact wpAny_getItem_list pl.isList h0 (by omega) (by rw [hj]; simpa using ew) fin
  · have hj : (i + (its.toArray.size : Int)).toNat = j := by
      rw [seqIndex_neg (by omega) h4] at h1
      rw [List.size_toArray, ← hl]
      exact Option.some.inj h1
    exact wpAny_getItem_list_neg pl.isList (by omega) (by rw [List.size_toArray] <;> omega) (by omega) (by rw [hj]; simpa using ew) fin
/-- len, list, sum, .. by names of ours -/
def rLen (K : PySem.W.Frag) : List V → Hp → VK → Prop := fun xs H Q => ∃ x n, xs = [x] ∧ LenV K x H n ∧ Q (.int n) H
theorem call_lenX : CallR X (.builtin "len") (rLen X.K) := call_len
def rList (K : PySem.W.Frag) : List V → Hp → VK → Prop := fun xs H Q => ∃ p ys, xs = [.ref p] ∧ (SqL K H p ys ∨ SqT K H p ys) ∧ ∀ l, H l = none → Q (.ref l) (upd H l (.lst ys))
theorem call_listX : CallR X (.type "list") (rList X.K) := call_list_of
def rAbs : List V → Hp → VK → Prop := fun xs H Q => ∃ i, xs = [.int i] ∧ Q (.int (if i < 0 then -i else i)) H
theorem call_absX : CallR X (.builtin "abs") rAbs := call_abs
def rMax2 : List V → Hp → VK → Prop := fun xs H Q => ∃ i j, xs = [.int i, .int j] ∧ Q (.int (if j > i then j else i)) H
theorem call_max2X (hc : X.calm = true) : CallR X (.builtin "max") rMax2 := call_max2 hc
def rMin2 : List V → Hp → VK → Prop := fun xs H Q => ∃ i j, xs = [.int i, .int j] ∧ Q (.int (if j < i then j else i)) H
theorem call_min2X (hc : X.calm = true) : CallR X (.builtin "min") rMin2 := call_min2 hc
def rInt1 : List V → Hp → VK → Prop := fun xs H Q => (∃ i, xs = [.int i] ∧ Q (.int i) H) ∨ ∃ k, xs = [.bl k] ∧ Q (.int (if k then 1 else 0)) H
theorem call_int1X : CallR X (.type "int") rInt1 := call_int1
end

/-! ### readings, step by step: each of these takes the head of a reading away -/
section
variable {K : PySem.W.Frag} {σ : L2.St} {H : Hp} {D : Ends} {Q : VK} {te ta tb tl th : TE} {t u : TS} {c c2 : TT} {g : TG} {i : Nat} {v x y : V} {r : R2} {QT : Bool → Hp → Prop} {QA : List V → Hp → Prop} {sp : Sp} {dvs vs : List V} {E : XK}
theorem x_seq (h : t { D with nx := u D } σ H) : tSeq t u D σ H := h
theorem x_next (h : D.nx σ H) : tNext D σ H := h
theorem x_asg (h : te σ H fun x H1 => D.nx (σ.set i (some x)) H1) : tAsg te (gName i) D σ H := h
theorem x_asgS {to ti : TE} {s : TSet} (h : te σ H fun x H1 => to σ H1 fun o H2 => ti σ H2 fun k H3 => s o k x H3 fun H4 => D.nx σ H4) : tAsg te (gSub to ti s) D σ H := h
theorem x_augS {to ti : TE} {tg : V → V → Hp → VK → Prop} {tip : TIp} {ts : TSet} (h : to σ H fun o H1 => ti σ H1 fun k H2 => tg o k H2 fun x H3 => te σ H3 fun y H4 => tip x y H4 fun z H5 => ts o k z H5 fun H6 => D.nx σ H6) : tAugS to ti te tg tip ts D σ H := h
theorem x_aug {tip : TIp} (e : σ[i]? = some (some x)) (h : te σ H fun y H1 => tip x y H1 fun z H2 => D.nx (σ.set i (some z)) H2) : tAug i te tip D σ H := ⟨x, e, h⟩
theorem x_gn {QS : L2.St → Hp → Prop} (h : QS (σ.set i (some v)) H) : gName i v σ H QS := h
theorem x_gt {n : Nat} {gs : TGs} {a : Addr} {xs : List V} {QS : L2.St → Hp → Prop} (h : SqT K H a xs) (hn : xs.length = n) (q : gs xs σ H QS) : gTup K n gs (.ref a) σ H QS := ⟨a, xs, rfl, h, hn, q⟩
theorem x_gc {gs : TGs} {r : List V} {QS : L2.St → Hp → Prop} (q : g v σ H fun σ' H' => gs r σ' H' QS) : gCons g gs (v :: r) σ H QS := ⟨v, r, rfl, q⟩
theorem x_g0 {QS : L2.St → Hp → Prop} (q : QS σ H) : gNil [] σ H QS := ⟨rfl, q⟩
theorem x_ret (h : te σ H D.rt) : tRet te D σ H := h
theorem x_retN (h : D.rt .non H) : tRetN D σ H := h
theorem x_drop (h : te σ H fun _ H1 => D.nx σ H1) : tDrop te D σ H := h
theorem x_if (h : c σ H fun b H1 => if b = true then t D σ H1 else u D σ H1) : tIfS c t u D σ H := h
theorem x_brk (h : D.bk σ H) : tBreak D σ H := h
theorem x_ct (h : D.ct σ H) : tCont D σ H := h
theorem x_var (e : σ[i]? = some (some v)) (q : Q v H) : tVar i σ H Q := ⟨v, e, q⟩
theorem x_c (q : Q v H) : tC v σ H Q := q
theorem x_op (h : ta σ H fun x H1 => tb σ H1 fun y H2 => r x y H2 Q) : tOp r ta tb σ H Q := h
theorem x_un {r : V → Hp → VK → Prop} (h : ta σ H fun x H1 => r x H1 Q) : tUn r ta σ H Q := h
theorem x_test (h : te σ H fun x H1 => ∃ k, x = .bl k ∧ QT k H1) : tTest te σ H QT := h
theorem x_B (h : te σ H fun x H1 => ∃ k, x = .bl k ∧ QT k H1) : tB te σ H QT := h
theorem x_ex {b : Bool} {P : Bool → Prop} (q : P b) : ∃ k, V.bl b = .bl k ∧ P k := ⟨b, rfl, q⟩
theorem x_and (h : c σ H fun b H1 => if b = true then c2 σ H1 QT else QT false H1) : tAnd c c2 σ H QT := h
theorem x_or (h : c σ H fun b H1 => if b = true then QT true H1 else c2 σ H1 QT) : tOr c c2 σ H QT := h
theorem x_not (h : c σ H fun b H1 => QT (!b) H1) : tNot c σ H QT := h
theorem x_andV (h : ta σ H fun x H1 => ∃ b, x = .bl b ∧ if b = true then tb σ H1 Q else Q (.bl false) H1) : tAndV ta tb σ H Q := h
theorem x_orV (h : ta σ H fun x H1 => ∃ b, x = .bl b ∧ if b = true then Q (.bl true) H1 else tb σ H1 Q) : tOrV ta tb σ H Q := h
theorem x_notV (h : ta σ H fun x H1 => ∃ b, x = .bl b ∧ Q (.bl (!b)) H1) : tNotV ta σ H Q := h
theorem x_ifE (h : c σ H fun b H1 => if b = true then ta σ H1 Q else tb σ H1 Q) : tIf c ta tb σ H Q := h
theorem x_nil (q : QA [] H) : tNil σ H QA := q
theorem x_cons {tr : TA} (h : te σ H fun v H1 => tr σ H1 fun vs H2 => QA (v :: vs) H2) : tCons te tr σ H QA := h
theorem x_call {tr : TA} (h : tr σ H fun vs H1 => sp (vs ++ dvs) H1 Q E) : tCall sp dvs E tr σ H Q := h
theorem x_cb {tr : TA} {rc : List V → Hp → VK → Prop} (h : tr σ H fun vs H1 => rc vs H1 Q) : tCB rc tr σ H Q := h
theorem x_tup {tr : TA} (h : tr σ H fun xs H1 => xs.length ≤ sizeLine ∧ ∀ p, H1 p = none → Q (.ref p) (upd H1 p (.tup xs))) : tTup tr σ H Q := h
theorem x_lst {tr : TA} (h : tr σ H fun xs H1 => xs.length ≤ sizeLine ∧ ∀ p, H1 p = none → Q (.ref p) (upd H1 p (.lst xs))) : tLst tr σ H Q := h
theorem x_for {wi : TI} (h : wi σ H fun J H1 => ∃ W : Nat → Nat → L2.St → Hp → Prop, (∃ m, W 0 m σ H1) ∧ ∀ i m σ H, W i m σ H →
  (J.stop i H ∧ D.nx σ H) ∨ (J.go i H ∧ ∃ N : L2.St → Hp → Prop, (∀ σ' H', N σ' H' → ∃ m', m' < m ∧ W (i + 1) m' σ' H') ∧ ∀ x H', J.yld i H x H' → g x σ H' fun σ2 H2 => t { D with nx := N, ct := N, bk := D.nx } σ2 H2)) : tFor wi g t D σ H := h
theorem x_iList {R : It → Hp → Prop} (h : tl σ H fun x H1 => ∃ a, x = .ref a ∧ (∃ xs, SqL K H1 a xs) ∧ R (Itl K a) H1) : iList K tl σ H R := h
theorem x_iTup {R : It → Hp → Prop} (h : tl σ H fun x H1 => ∃ a, x = .ref a ∧ (∃ xs, SqT K H1 a xs) ∧ R (Itt K a) H1) : iTup K tl σ H R := h
theorem x_iR1 {R : It → Hp → Prop} {tr : TA} (h : tr σ H fun vs H1 => ∃ j : Int, vs = [.int j] ∧ -(2 ^ 62) ≤ j ∧ j < 2 ^ 62 ∧ R (Itr 0 j.toNat) H1) : iRng1 tr σ H R := h
theorem x_iR2 {R : It → Hp → Prop} {tr : TA} (h : tr σ H fun vs H1 => ∃ i j : Int, vs = [.int i, .int j] ∧ (-(2 ^ 62) ≤ i ∧ i < 2 ^ 62 ∧ -(2 ^ 62) ≤ j ∧ j < 2 ^ 62) ∧ R (Itr i (j - i).toNat) H1) : iRng2 tr σ H R := h
theorem x_iZip {R : It → Hp → Prop} {tr : TA} (h : tr σ H fun vs H1 => ∃ a b xs ys, vs = [.ref a, .ref b] ∧ SqL K H1 a xs ∧ SqL K H1 b ys ∧ R (Itz K a b) H1) : iZip K tr σ H R := h
theorem x_iEnum {R : It → Hp → Prop} {tr : TA} (h : tr σ H fun vs H1 => ∃ a xs, vs = [.ref a] ∧ SqL K H1 a xs ∧ R (Ite K a) H1) : iEnum K tr σ H R := h
theorem x_lc {wi : TI} {tt : TT} {ws : List Nat} (h : wi σ H fun J H1 => ∀ D, H1 D = none → ∃ W : Nat → Nat → Hp → Prop, (∃ m, W 0 m (upd H1 D (.lst []))) ∧ ∀ i m H, W i m H →
  (J.stop i H ∧ Q (.ref D) H) ∨ (J.go i H ∧ ∃ Nx : Hp → Prop, (∀ H', Nx H' → ∃ m', m' < m ∧ W (i + 1) m' H') ∧ ∀ x H', J.yld i H x H' → g x (wipe σ ws) H' fun σ2 H2 => wipe σ2 ws = wipe σ ws ∧ tt σ2 H2 fun b H3 =>
    if b = true then te σ2 H3 fun y H4 => ∃ acc, H4 D = some (.lst acc) ∧ acc.length < sizeLine ∧ Nx (upd H4 D (.lst (acc ++ [y]))) else Nx H3)) : tLc wi g tt te ws σ H Q := h
theorem x_yes (h : QT true H) : tYes σ H QT := h
theorem x_sl {rs : V → Option Int → Option Int → Hp → VK → Prop} {tlo thi : TO} (h : te σ H fun x H1 => tlo σ H1 fun l H2 => thi σ H2 fun u H3 => rs x l u H3 Q) : tSl rs te tlo thi σ H Q := h
theorem x_noPart {QO : Option Int → Hp → Prop} (h : QO none H) : tNoPart σ H QO := h
theorem x_part {QO : Option Int → Hp → Prop} (h : te σ H fun x H1 => ∃ i, x = .int i ∧ QO (some i) H1) : tPart te σ H QO := h
theorem x_exI {j : Int} {P : Int → Prop} (q : P j) : ∃ k, V.int j = .int k ∧ P k := ⟨j, rfl, q⟩
theorem x_bm {T : String} {rm : V → List V → Hp → VK → Prop} {tr : TA} (h : te σ H fun x H1 => tyV K T x H1 ∧ tr σ H1 fun xs H2 => rm x xs H2 Q) : tBM K T rm te tr σ H Q := h
theorem x_bm0 {T : String} {rm : V → List V → Hp → VK → Prop} (h : te σ H fun x H1 => tyV K T x H1 ∧ rm x [] H1 Q) : tBM0 K T rm te σ H Q := h
/- operators by values -/
theorem x_I0 {G : Int → Int → V} {a b : Int} (q : Q (G a b) H) : rI0 G (.int a) (.int b) H Q := ⟨a, b, rfl, rfl, q⟩
theorem x_I {C : Int → Int → Prop} {G : Int → Int → V} {a b : Int} (hc : C a b) (q : Q (G a b) H) : rI C G (.int a) (.int b) H Q := ⟨a, b, rfl, rfl, hc, q⟩
theorem x_U {G : Int → V} {a : Int} (q : Q (G a) H) : rU G (.int a) H Q := ⟨a, rfl, q⟩
theorem x_addI {a b : Int} (q : Q (.int (a + b)) H) : rAddX (.int a) (.int b) H Q := .inl ⟨a, b, rfl, rfl, q⟩
theorem x_addL {l b : Addr} {xs zs : List V} (h1 : RdL H l xs) (h2 : RdL H b zs) (hz : xs.length + zs.length ≤ sizeLine) (q : ∀ p, H p = none → Q (.ref p) (upd H p (.lst (xs ++ zs)))) : rAddX (.ref l) (.ref b) H Q := .inr (.inl ⟨l, b, xs, zs, rfl, rfl, h1, h2, hz, q⟩)
theorem x_addS {a b : Str} (h : a.length + b.length ≤ sizeLine) (q : Q (.str (a ++ b)) H) : rAddX (.str a) (.str b) H Q := .inr (.inr ⟨a, b, rfl, rfl, h, q⟩)
theorem x_subI {a b : Int} (q : Q (.int (a - b)) H) : rSubI (.int a) (.int b) H Q := ⟨a, b, rfl, rfl, q⟩
theorem x_mulI {a b : Int} (h : IntMulOk a b) (q : Q (.int (a * b)) H) : rMulX (.int a) (.int b) H Q := .inl ⟨a, b, rfl, rfl, h, q⟩
theorem x_mulL {l : Addr} {k : Int} {xs : List V} (h1 : H l = some (.lst xs)) (h2 : -(2 ^ 63) ≤ k ∧ k < 2 ^ 63 ∧ xs.length * k.toNat ≤ sizeLine) (q : ∀ p, H p = none → Q (.ref p) (upd H p (.lst (List.replicate k.toNat xs).flatten))) : rMulX (.ref l) (.int k) H Q :=
  .inr ⟨l, k, xs, rfl, rfl, h1, h2.1, h2.2.1, h2.2.2, q⟩
theorem x_divI {a b : Int} (h : b ≠ 0 ∧ b.natAbs.log2 < 9000) (q : Q (.int (a.fdiv b)) H) : rDivX (.int a) (.int b) H Q := ⟨a, b, rfl, rfl, h, q⟩
theorem x_divP {a b : Int} (h0 : 0 < b) (h : b.natAbs.log2 < 9000) (q : Q (.int (a / b)) H) : rDivX (.int a) (.int b) H Q := ⟨a, b, rfl, rfl, ⟨by omega, h⟩, by show Q (.int (a.fdiv b)) H; rw [Int.fdiv_eq_ediv_of_nonneg a (by omega)]; exact q⟩
theorem x_modP {a b : Int} (h0 : 0 < b) (q : Q (.int (a % b)) H) : rModX (.int a) (.int b) H Q := ⟨a, b, rfl, rfl, by omega, by show Q (.int (a.fmod b)) H; rw [Int.fmod_eq_emod_of_nonneg a (by omega)]; exact q⟩
theorem x_powN {a b : Int} (h : CPow a b) (q : Q (.int (a ^ b.toNat)) H) : rPow (.int a) (.int b) H Q := ⟨a, b, rfl, rfl, h, q⟩
theorem x_shl {a b : Int} (h : CPow a b) (q : Q (.int (a * 2 ^ b.toNat)) H) : rShl (.int a) (.int b) H Q := ⟨a, b, rfl, rfl, h, q⟩
theorem x_shr {a b : Int} (h : 0 ≤ b) (q : Q (.int (a / 2 ^ b.toNat)) H) : rShr (.int a) (.int b) H Q := ⟨a, b, rfl, rfl, h, q⟩
theorem x_andI {a b : Int} (q : Q (.int (Builtin.bitAnd a b)) H) : rAndI (.int a) (.int b) H Q := ⟨a, b, rfl, rfl, q⟩
theorem x_orI {a b : Int} (q : Q (.int (Builtin.bitOr a b)) H) : rOrI (.int a) (.int b) H Q := ⟨a, b, rfl, rfl, q⟩
theorem x_xorI {a b : Int} (q : Q (.int (Builtin.bitXor a b)) H) : rXorI (.int a) (.int b) H Q := ⟨a, b, rfl, rfl, q⟩
theorem x_ltI {a b : Int} (q : Q (.bl (decide (a < b))) H) : rLtI (.int a) (.int b) H Q := ⟨a, b, rfl, rfl, q⟩
theorem x_leI {a b : Int} (q : Q (.bl (decide (a ≤ b))) H) : rLeI (.int a) (.int b) H Q := ⟨a, b, rfl, rfl, q⟩
theorem x_gtI {a b : Int} (q : Q (.bl (decide (b < a))) H) : rGtI (.int a) (.int b) H Q := ⟨a, b, rfl, rfl, q⟩
theorem x_geI {a b : Int} (q : Q (.bl (decide (b ≤ a))) H) : rGeI (.int a) (.int b) H Q := ⟨a, b, rfl, rfl, q⟩
theorem dec_int' {a b : Int} : decide (V.int a = V.int b) = decide (a = b) := by
  by_cases e : a = b
  · subst e; simp
  · rw [decide_eq_false e, decide_eq_false (fun z => e (V.int.inj z))]
theorem x_eqI {a b : Int} (q : Q (.bl (decide (a = b))) H) : rEqX K (.int a) (.int b) H Q := .inl ⟨rfl, by rw [dec_int']; exact q⟩
theorem x_neI {a b : Int} (q : Q (.bl (!decide (a = b))) H) : rNeX K (.int a) (.int b) H Q := .inl ⟨rfl, by rw [dec_int']; exact q⟩
theorem x_eqS {a b : Str} (q : Q (.bl (decide (a = b))) H) : rEqX K (.str a) (.str b) H Q := .inl ⟨rfl, by
  have e : decide (V.str a = V.str b) = decide (a = b) := by
    by_cases e : a = b
    · subst e; simp
    · rw [decide_eq_false e, decide_eq_false (fun z => e (V.str.inj z))]
  rw [e]; exact q⟩
theorem x_eqB {a b : Bool} (q : Q (.bl (decide (a = b))) H) : rEqX K (.bl a) (.bl b) H Q := .inl ⟨rfl, by
  have e : decide (V.bl a = V.bl b) = decide (a = b) := by cases a <;> cases b <;> rfl
  rw [e]; exact q⟩
theorem x_isX {b : Bool} (q : Q (.bl (decide (x = .bl b))) H) : rIsX x (.bl b) H Q := ⟨b, rfl, q⟩
theorem x_isN (q : Q (.bl (decide (x = .non))) H) : rIsNX x .non H Q := ⟨rfl, q⟩
theorem x_notN (q : Q (.bl (!decide (x = .non))) H) : rNotNX x .non H Q := ⟨rfl, q⟩
theorem x_ipI {f : Int → Int → Int} {a b : Int} (q : Q (.int (f a b)) H) : ipI f (.int a) (.int b) H Q := ⟨a, b, rfl, rfl, q⟩
/- lists by values -/
theorem x_ixL {p : Addr} {xs : List V} {i : Int} (h : SqL K H p xs) (ha : atI xs i = some v) (q : Q v H) : rIxL K (.ref p) (.int i) H Q := ⟨p, xs, i, v, rfl, rfl, h, ha, q⟩
theorem x_ixT {p : Addr} {xs : List V} {i : Int} (h : SqT K H p xs) (ha : atI xs i = some v) (q : Q v H) : rIxT K (.ref p) (.int i) H Q := ⟨p, xs, i, v, rfl, rfl, h, ha, q⟩
theorem x_ixXL {p : Addr} {xs : List V} {i : Int} (h : SqL K H p xs) (ha : atI xs i = some v) (q : Q v H) : rIx K (.ref p) (.int i) H Q := .inl ⟨p, xs, i, v, rfl, rfl, h, ha, q⟩
theorem x_ixXT {p : Addr} {xs : List V} {i : Int} (h : SqT K H p xs) (ha : atI xs i = some v) (q : Q v H) : rIx K (.ref p) (.int i) H Q := .inr (.inl ⟨p, xs, i, v, rfl, rfl, h, ha, q⟩)
theorem x_lenL {p : Addr} {xs : List V} (h : SqL K H p xs) (q : Q (.int (xs.length : Int)) H) : rLen K [.ref p] H Q := ⟨_, _, rfl, .inl ⟨xs, h, rfl⟩, q⟩
theorem x_lenT {p : Addr} {xs : List V} (h : SqT K H p xs) (q : Q (.int (xs.length : Int)) H) : rLen K [.ref p] H Q := ⟨_, _, rfl, .inr ⟨xs, h, rfl⟩, q⟩
theorem x_lenS {z : Str} (h : z.length ≤ sizeLine) (q : Q (.int (z.length : Int)) H) : rLen K [.str z] H Q := ⟨_, _, rfl, ⟨h, rfl⟩, q⟩
theorem x_list {p : Addr} {xs : List V} (h : SqL K H p xs) (q : ∀ l, H l = none → Q (.ref l) (upd H l (.lst xs))) : rList K [.ref p] H Q := ⟨p, xs, rfl, .inl h, q⟩
theorem x_append {l : Addr} {xs : List V} (h : H l = some (.lst xs)) (hz : xs.length < sizeLine) (q : Q .non (upd H l (.lst (xs ++ [y])))) : rAppend (.ref l) [y] H Q := ⟨l, xs, y, rfl, rfl, h, hz, q⟩
theorem x_setL {p : Addr} {xs : List V} {k : Int} {j : Nat} {QH : Hp → Prop} (h : H p = some (.lst xs)) (hj : ixN xs.length k = some j) (q : QH (upd H p (.lst (xs.set j v)))) : rSetL (.ref p) (.int k) v H QH := ⟨p, xs, k, j, rfl, rfl, h, hj, q⟩
theorem x_tyL {p : Addr} {xs : List V} (h : H p = some (.lst xs)) : tyV K "list" (.ref p) H := .inl ⟨rfl, _, SqL.of h⟩
theorem x_abs {j : Int} (q : Q (.int (if j < 0 then -j else j)) H) : rAbs [.int j] H Q := ⟨j, rfl, q⟩
theorem x_max2 {a b : Int} (q : Q (.int (if b > a then b else a)) H) : rMax2 [.int a, .int b] H Q := ⟨a, b, rfl, q⟩
theorem x_min2 {a b : Int} (q : Q (.int (if b < a then b else a)) H) : rMin2 [.int a, .int b] H Q := ⟨a, b, rfl, q⟩
theorem x_sum {p : Addr} {ns : List Int} (h : SqL K H p (ns.map V.int)) (q : Q (.int ns.sum) H) : rSum K [.ref p] H Q := ⟨p, ns, rfl, h, q⟩
/-- while: W falls; the turn's test is read as it stands -/
theorem x_while (W : Nat → L2.St → Hp → Prop) (m0 : Nat) (h0 : W m0 σ H) (hs : ∀ m σ H, W m σ H → c σ H fun b H1 => if b = true then ∃ N : L2.St → Hp → Prop, (∀ σ' H', N σ' H' → ∃ m', m' < m ∧ W m' σ' H') ∧ t { D with nx := N, ct := N, bk := D.nx } σ H1 else D.nx σ H1) : tWhile c t D σ H := ⟨W, ⟨m0, h0⟩, hs⟩
theorem x_N {m : Nat} {W : Nat → L2.St → Hp → Prop} {B : L2.St → Hp → Prop} (h : t { D with nx := fun σ' H' => ∃ m', m' < m ∧ W m' σ' H', ct := fun σ' H' => ∃ m', m' < m ∧ W m' σ' H', bk := B } σ H) :
    ∃ N : L2.St → Hp → Prop, (∀ σ' H', N σ' H' → ∃ m', m' < m ∧ W m' σ' H') ∧ t { D with nx := N, ct := N, bk := B } σ H := ⟨_, fun _ _ z => z, h⟩
end
/-! ### places in lists of ints -/
def gi (ns : List Int) (i : Int) : Int := ns.getD i.toNat 0
theorem at_int {ns : List Int} {i : Int} (h0 : 0 ≤ i) (h1 : i < ns.length) : atI (ns.map V.int) i = some (.int (gi ns i)) := by
  obtain ⟨n, rfl⟩ := Int.eq_ofNat_of_zero_le h0
  have hn : n < ns.length := by omega
  refine atI_nat ?_
  rw [List.getElem?_map, List.getElem?_eq_getElem hn]
  show some (V.int ns[n]) = some (V.int (ns.getD n 0))
  rw [List.getD_eq_getElem?_getD, List.getElem?_eq_getElem hn] <;> rfl
theorem ixN_int {n : Nat} {i : Int} (h0 : 0 ≤ i) (h1 : i < n) : ixN n i = some i.toNat := by
  unfold ixN
  rw [if_pos h0, if_pos h1]
theorem map_set_int {ns : List Int} {j : Nat} {z : Int} : (ns.map V.int).set j (.int z) = (ns.set j z).map V.int := (List.map_set).symm
theorem map_app_int {ns : List Int} {z : Int} : ns.map V.int ++ [.int z] = (ns ++ [z]).map V.int := by rw [List.map_append] <;> rfl
theorem mulok {a b : Int} {n m : Nat} (ha : a.natAbs < 2 ^ n) (hb : b.natAbs < 2 ^ m) (h0 : 0 < n) (h1 : 0 < m) (h : n + m ≤ 100000000) : IntMulOk a b := by
  have bb : ∀ x : Int, ∀ k, 0 < k → x.natAbs < 2 ^ k → Builtin.Int.intBits x ≤ k := fun x k hk hx => by
    have := PySem.Flt.log2_lt_of hk hx
    unfold Builtin.Int.intBits
    split <;> omega
  have h2 := bb a n h0 ha
  have h3 := bb b m h1 hb
  have e : bitsLine = 134217728 := by decide
  unfold IntMulOk
  intro z
  rw [Bool.and_eq_true] at z
  have z2 := z.2
  unfold Builtin.Int.intTooBig at z2
  have z3 := of_decide_eq_true z2
  rw [e] at z3
  omega

/-! ### things of any kind, as a caller hands them in -/
inductive Thing (H : Hp) : V → Prop
  | non : Thing H .non
  | bl (b : Bool) : Thing H (.bl b)
  | int (i : Int) : Thing H (.int i)
  | str (x : Str) : Thing H (.str x)
  | lst {a : Addr} {xs : List V} (e : Rd H a (.lst xs)) : Thing H (.ref a)
  | tup {a : Addr} {xs : List V} (e : Rd H a (.tup xs)) : Thing H (.ref a)
  | dic {a : Addr} {kvs : List (Key × V)} (e : H a = some (.dK kvs)) : Thing H (.ref a)
def isI : V → Bool
  | .int _ => true
  | _ => false
def isB : V → Bool
  | .bl _ => true
  | _ => false
theorem rd_same {H H' : Hp} {a : Addr} {u : HO} (e : Same H H') (h : Rd H a u) : Rd H' a u := by
  rcases h with h | ⟨o, h⟩
  · exact .inl (e _ _ h)
  · exact .inr ⟨o, e _ _ h⟩
theorem Thing.same {H H' : Hp} {v : V} (e : Same H H') (h : Thing H v) : Thing H' v := by
  cases h with
  | non => exact .non
  | bl b => exact .bl b
  | int i => exact .int i
  | str x => exact .str x
  | lst q => exact .lst (rd_same e q)
  | tup q => exact .tup (rd_same e q)
  | dic q => exact .dic (e _ _ q)
theorem Thing.ty {K : PySem.W.Frag} {H : Hp} {v : V} (h : Thing H v) : ∃ t : String, TyX K H v (.type t) ∧ kitB t "int" = some (isI v || isB v) ∧ kitB t "bool" = some (isB v) := by
  cases h with
  | non => exact ⟨"NoneType", .base .non, by decide +kernel, by decide +kernel⟩
  | bl b => exact ⟨"bool", .base (.bl b), by cases b <;> decide +kernel, by cases b <;> decide +kernel⟩
  | int i => exact ⟨"int", .base (.int i), by show kitB "int" "int" = some true; decide +kernel, by show kitB "int" "bool" = some false; decide +kernel⟩
  | str x => exact ⟨"str", .base (.str x), by show kitB "str" "int" = some false; decide +kernel, by show kitB "str" "bool" = some false; decide +kernel⟩
  | lst q =>
    rcases q with q | ⟨o, q⟩
    · exact ⟨"list", .base (.lst q), by show kitB "list" "int" = some false; decide +kernel, by show kitB "list" "bool" = some false; decide +kernel⟩
    · exact ⟨"list", .base (.frz q), by show kitB "list" "int" = some false; decide +kernel, by show kitB "list" "bool" = some false; decide +kernel⟩
  | tup q =>
    rcases q with q | ⟨o, q⟩
    · exact ⟨"tuple", .base (.tup q), by show kitB "tuple" "int" = some false; decide +kernel, by show kitB "tuple" "bool" = some false; decide +kernel⟩
    · exact ⟨"tuple", .fTuple q, by show kitB "tuple" "int" = some false; decide +kernel, by show kitB "tuple" "bool" = some false; decide +kernel⟩
  | dic q => exact ⟨"dict", .base (.dK q), by show kitB "dict" "int" = some false; decide +kernel, by show kitB "dict" "bool" = some false; decide +kernel⟩
section
variable {K : PySem.W.Frag} {H : Hp} {Q : VK} {v : V}
theorem x_isiInt (h : Thing H v) (q : Q (.bl (isI v || isB v)) H) : rIsi K [v, .ty "int"] H Q := by
  obtain ⟨t, h1, h2, _⟩ := h.ty (K := K)
  exact ⟨v, .ty "int", _, _, _, rfl, .ty _, h1, kit_ty h2, q⟩
theorem x_isiBool (h : Thing H v) (q : Q (.bl (isB v)) H) : rIsi K [v, .ty "bool"] H Q := by
  obtain ⟨t, h1, _, h2⟩ := h.ty (K := K)
  exact ⟨v, .ty "bool", _, _, _, rfl, .ty _, h1, kit_ty h2, q⟩
theorem x_isiListL {a : Addr} {xs : List V} (h : Rd H a (.lst xs)) (q : Q (.bl true) H) : rIsi K [.ref a, .ty "list"] H Q := by
  rcases h with h | ⟨o, h⟩
  · exact ⟨_, .ty "list", _, _, _, rfl, .ty _, .base (.lst h), kit_ty (by decide +kernel), q⟩
  · exact ⟨_, .ty "list", _, _, _, rfl, .ty _, .base (.frz h), kit_ty (by decide +kernel), q⟩
theorem x_isiTupT {a : Addr} {xs : List V} (h : Rd H a (.tup xs)) (q : Q (.bl true) H) : rIsi K [.ref a, .ty "tuple"] H Q := by
  rcases h with h | ⟨o, h⟩
  · exact ⟨_, .ty "tuple", _, _, _, rfl, .ty _, .base (.tup h), kit_ty (by decide +kernel), q⟩
  · exact ⟨_, .ty "tuple", _, _, _, rfl, .ty _, .fTuple h, kit_ty (by decide +kernel), q⟩
end
/-- what a def tells and leaves: a value; a new list -/
def RetV (v : V) (H : Hp) (Q : VK) : Prop := ∀ H', Same H H' → Q v H'
def RetL (xs : List V) (H : Hp) (Q : VK) : Prop := ∀ p H', H p = none → Same H H' → H' p = some (.lst xs) → Q (.ref p) H'
def RetT (xs : List V) (H : Hp) (Q : VK) : Prop := ∀ p H', H p = none → Same H H' → H' p = some (.tup xs) → Q (.ref p) H'
theorem RetV.go {v : V} {H H' : Hp} {Q : VK} (h : RetV v H Q) (e : Same H H') : Q v H' := h H' e
theorem RetL.go {xs : List V} {H H' : Hp} {Q : VK} (h : RetL xs H Q) {p : Addr} (w : Own H ((p, .lst xs) :: []) H') : Q (.ref p) H' := h p H' (w.none 0 rfl) w.ex (w.get 0 rfl)
theorem RetT.go {xs : List V} {H H' : Hp} {Q : VK} (h : RetT xs H Q) {p : Addr} (w : Own H ((p, .tup xs) :: []) H') : Q (.ref p) H' := h p H' (w.none 0 rfl) w.ex (w.get 0 rfl)

/-! ### comprehensions: what the list at D holds behind i turns: F i -/
def PvC (B : Hp) (cs : Cells) (D : Addr) (F : Nat → List V) (i : Nat) (H : Hp) : Prop := Own B ((D, .lst (F i)) :: cs) H
section
variable {K : PySem.W.Frag} {σ : L2.St} {B H : Hp} {cs : Cells} {Q : VK} {te : TE} {g : TG} {tt : TT} {vs : List Nat}
/-- a turn's end: the item goes behind what is there -/
theorem cp_fin {D : Addr} {F : Nat → List V} {i : Nat} {H4 : Hp} {y : V} (w : PvC B cs D F i H4) (e : F (i + 1) = F i ++ [y]) (hl : (F i).length < 1000000) :
    ∃ acc, H4 D = some (.lst acc) ∧ acc.length < sizeLine ∧ PvC B cs D F (i + 1) (upd H4 D (.lst (acc ++ [y]))) := by
  refine ⟨F i, Own.get w 0 rfl, Nat.lt_of_lt_of_le hl (by decide), ?_⟩
  have := Own.put (o' := .lst (F i ++ [y])) w 0 rfl
  rw [← e] at this
  rw [← e]
  exact this
/-- the same where the test says no -/
theorem cp_no {D : Addr} {F : Nat → List V} {i : Nat} {H4 : Hp} (w : PvC B cs D F i H4) (e : F (i + 1) = F i) : PvC B cs D F (i + 1) H4 := by
  unfold PvC at *
  rw [e]
  exact w
theorem cp_range {QD : Addr → Hp → Prop} {lo : Int} {n : Nat} (F : Nat → List V) (w : Own B cs H) (h0 : F 0 = [])
    (hs : ∀ D i H', i < n → PvC B cs D F i H' → g (.int (lo + i)) (wipe σ vs) H' fun σ2 H2 => wipe σ2 vs = wipe σ vs ∧ tt σ2 H2 fun b H3 =>
      if b = true then te σ2 H3 fun y H4 => ∃ acc, H4 D = some (.lst acc) ∧ acc.length < sizeLine ∧ PvC B cs D F (i + 1) (upd H4 D (.lst (acc ++ [y]))) else PvC B cs D F (i + 1) H3)
    (hq : ∀ D H', Own B ((D, .lst (F n)) :: cs) H' → QD D H') : ∀ D, H D = none → ∃ W : Nat → Nat → Hp → Prop, (∃ m, W 0 m (upd H D (.lst []))) ∧ ∀ i m H, W i m H →
      ((Itr lo n).stop i H ∧ QD D H) ∨ ((Itr lo n).go i H ∧ ∃ Nx : Hp → Prop, (∀ H', Nx H' → ∃ m', m' < m ∧ W (i + 1) m' H') ∧ ∀ x H', (Itr lo n).yld i H x H' → g x (wipe σ vs) H' fun σ2 H2 => wipe σ2 vs = wipe σ vs ∧ tt σ2 H2 fun b H3 =>
        if b = true then te σ2 H3 fun y H4 => ∃ acc, H4 D = some (.lst acc) ∧ acc.length < sizeLine ∧ Nx (upd H4 D (.lst (acc ++ [y]))) else Nx H3) := fun D hD =>
  lc_range (PvC B cs D F) (by unfold PvC; rw [h0]; exact w.new hD) (fun i H' hi p => hs D i H' hi p) (fun H' p => hq D H' p)
theorem cp_list {QD : Addr → Hp → Prop} {a : Addr} {xs : List V} (F : Nat → List V) (w : Own B cs H) (hx : SqL K B a xs) (h0 : F 0 = [])
    (hs : ∀ D i x H', xs[i]? = some x → PvC B cs D F i H' → g x (wipe σ vs) H' fun σ2 H2 => wipe σ2 vs = wipe σ vs ∧ tt σ2 H2 fun b H3 =>
      if b = true then te σ2 H3 fun y H4 => ∃ acc, H4 D = some (.lst acc) ∧ acc.length < sizeLine ∧ PvC B cs D F (i + 1) (upd H4 D (.lst (acc ++ [y]))) else PvC B cs D F (i + 1) H3)
    (hq : ∀ D H', Own B ((D, .lst (F xs.length)) :: cs) H' → QD D H') : ∀ D, H D = none → ∃ W : Nat → Nat → Hp → Prop, (∃ m, W 0 m (upd H D (.lst []))) ∧ ∀ i m H, W i m H →
      ((Itl K a).stop i H ∧ QD D H) ∨ ((Itl K a).go i H ∧ ∃ Nx : Hp → Prop, (∀ H', Nx H' → ∃ m', m' < m ∧ W (i + 1) m' H') ∧ ∀ x H', (Itl K a).yld i H x H' → g x (wipe σ vs) H' fun σ2 H2 => wipe σ2 vs = wipe σ vs ∧ tt σ2 H2 fun b H3 =>
        if b = true then te σ2 H3 fun y H4 => ∃ acc, H4 D = some (.lst acc) ∧ acc.length < sizeLine ∧ Nx (upd H4 D (.lst (acc ++ [y]))) else Nx H3) := fun D hD =>
  lc_list (PvC B cs D F) (by unfold PvC; rw [h0]; exact w.new hD) (fun i H' hi p => Own.seq p hx) (fun i x H' hi p => hs D i x H' hi p) (fun H' p => hq D H' p)
/-- behind the first i items of a range: their images -/
theorem range_map {α : Type} (f : Nat → α) (i : Nat) : (List.range (i + 1)).map f = (List.range i).map f ++ [f i] := by rw [List.range_succ, List.map_append] <;> rfl
end

/-! ### the rules with the written part told (a comprehension's block has its own context) -/
section
variable {X : Cx} {K : PySem.W.Frag}
theorem ix_seqK (h : X.K = K) : IxR X (rIx K) := h ▸ ix_seq
theorem get_listK (h : X.K = K) : PGet X (rIxL K) := h ▸ get_list
theorem op_eqK (h : X.K = K) (hu : X.A.units + 64 < cLine) : OpR X (compareOp .Eq) (rEqX K) := h ▸ op_eqX hu
theorem op_neK (h : X.K = K) (hu : X.A.units + 64 < cLine) : OpR X (compareOp .NotEq) (rNeX K) := h ▸ op_neX hu
theorem call_lenK (h : X.K = K) : CallR X (.builtin "len") (rLen K) := h ▸ call_lenX
theorem call_listK (h : X.K = K) : CallR X (.type "list") (rList K) := h ▸ call_listX
theorem cr_sumK (h : X.K = K) (hc : X.calm = true) : CallR X (.builtin "sum") (rSum K) := h ▸ cr_sum hc
theorem cr_anyK (h : X.K = K) (hc : X.calm = true) : CallR X (.builtin "any") (rAny K) := h ▸ cr_any hc
theorem cr_maxK (h : X.K = K) (hc : X.calm = true) : CallR X (.builtin "max") (rMax K) := h ▸ cr_max hc
theorem cr_minK (h : X.K = K) (hc : X.calm = true) : CallR X (.builtin "min") (rMin K) := h ▸ cr_min hc
theorem cr_sortedK (h : X.K = K) : CallR X (.builtin "sorted") (rSorted K) := h ▸ cr_sorted
theorem call_isiX (h : X.K = K) : CallR X (.builtin "isinstance") (rIsi K) := h ▸ call_isi
theorem call_isiTX (h : X.K = K) : CallR X (.builtin "isinstance") (rIsiT K) := h ▸ call_isiT
theorem op_in_seqK (h : X.K = K) : OpR X (compareOp .In) (rIn K false) := h ▸ op_in_seq
theorem op_notIn_seqK (h : X.K = K) : OpR X (compareOp .NotIn) (rIn K true) := h ▸ op_notIn_seq
theorem sl_listK (h : X.K = K) : SlR X (rSlL K) := h ▸ sl_list
theorem sl_tupK (h : X.K = K) : SlR X (rSlT K) := h ▸ sl_tup
theorem pi_listK (h : X.K = K) {tg l : Expr} {tl : TE} (hl : PE X l tl) : PI X tg l (iList K tl) := h ▸ pi_list hl
theorem pi_tupK (h : X.K = K) {tg l : Expr} {tl : TE} (hl : PE X l tl) : PI X tg l (iTup K tl) := h ▸ pi_tup hl
theorem pi_zipK (h : X.K = K) {e e2 : Expr} {ta : TA} {p pos tpos : Pos} {elts : List Expr} {kk : Nat} (hg : Gl X "zip") (hm : X.mg "zip" = none) (ha : PA X [e, e2] ta)
    (hs : starEach [e, e2] X.env = (false, eval e X.env) :: starEach [e2] X.env := by rfl) (hpl : (backTo pos (starEach [e2] X.env)).any (·.1) = false := by rfl) :
    PI X (.Tuple elts kk tpos) (.Call (.Name "zip" p) [e, e2] [] pos) (iZip K ta) := h ▸ pi_zip hg hm ha hs hpl
theorem pi_enumK (h : X.K = K) {e : Expr} {ta : TA} {p pos tpos : Pos} {elts : List Expr} {kk : Nat} (hg : Gl X "enumerate") (hm : X.mg "enumerate" = none) (ha : PA X [e] ta) (hs : starEach [e] X.env = [(false, eval e X.env)] := by rfl) :
    PI X (.Tuple elts kk tpos) (.Call (.Name "enumerate" p) [e] [] pos) (iEnum K ta) := h ▸ pi_enum hg hm ha hs
theorem pi_reversedK (h : X.K = K) {tg e : Expr} {ta : TA} {p pos : Pos} (hg : Gl X "reversed") (hm : X.mg "reversed" = none) (ha : PA X [e] ta) (hs : starEach [e] X.env = [(false, eval e X.env)] := by rfl) :
    PI X tg (.Call (.Name "reversed" p) [e] [] pos) (iRev K ta) := h ▸ pi_reversed hg hm ha hs
theorem pg_tupK (h : X.K = K) {pos : Pos} {es : List Expr} {k : Nat} {t : TGs} {n : Nat} (hc : X.calm = true) (hg : PGs X es t)
    (hn : (assignEach es X.env).length = n := by rfl) (hst : (assignEach es X.env).findIdx? (·.1) = none := by rfl) : PG X (.Tuple es k pos) (gTup K n t) := h ▸ pg_tup hc hg hn hst
theorem pe_bmK (h : X.K = K) {T : String} {name : Str} {id : String} {r : V → List V → Hp → VK → Prop} {o e : Expr} {es : List Expr} {to : TE} {t : TA} {apos cpos : Pos}
    (pa : PlainAttrs T) (slot : Slot T name id) (hty : typeOf (.builtin id) = pure (.type "method_descriptor")) (hm : MtR X id r) (ho : PE X o to) (ha : PA X (e :: es) t)
    (f : PE X (.Call (.Attribute o name apos) (e :: es) [] cpos) (tBM X.K T r to t)) : PE X (.Call (.Attribute o name apos) (e :: es) [] cpos) (tBM K T r to t) := h ▸ f
theorem pe_fldK (h : X.K = K) {e : Expr} {f : Str} {ta : TE} {pos : Pos} (he : PE X e ta) (hb : attributeBase e f X.env (eval e X.env) = eval e X.env) : PE X (.Attribute e f pos) (tFld K ta f) := h ▸ pe_fld he hb
end

/-! ### == of lists of ints -/
theorem dpAll_ints {K : PySem.W.Frag} {H : Hp} : ∀ ns : List Int, DpAll K H (ns.map V.int) (ns.map PyData.int)
  | [] => .nil
  | n :: r => .cons (.int n) (dpAll_ints r)
theorem dp_ints {K : PySem.W.Frag} {H : Hp} {p : Addr} {ns : List Int} (h : SqL K H p (ns.map V.int)) : Dp K H (.ref p) (.list (ns.map PyData.int)) := .lst h (dpAll_ints ns)
theorem canLay_ints : ∀ ns : List Int, PyData.canLayAll0 (ns.map PyData.int) = true
  | [] => by simp [PyData.canLayAll0]
  | n :: r => by simp [PyData.canLayAll0, PyData.canLay0, canLay_ints r]
theorem depth_ints : ∀ ns : List Int, PyData.depthAll (ns.map PyData.int) ≤ 1
  | [] => by simp [PyData.depthAll]
  | n :: r => by
    have := depth_ints r
    simp only [List.map_cons, PyData.depthAll, PyData.depth]
    omega
theorem shaped_ints (ns : List Int) : SeqAt.shaped (.list (ns.map PyData.int)) = true := by
  have := depth_ints ns
  unfold SeqAt.shaped
  rw [Bool.and_eq_true]
  refine ⟨by simp [PyData.canLay0, canLay_ints ns], decide_eq_true ?_⟩
  simp only [PyData.depth]
  omega
theorem eqvAll_ints : ∀ ns ms : List Int, PyData.eqvAll (ns.map PyData.int) (ms.map PyData.int) = decide (ns = ms)
  | [], [] => by simp [PyData.eqvAll]
  | [], m :: r => by simp [PyData.eqvAll]
  | n :: r, [] => by simp [PyData.eqvAll]
  | n :: r, m :: q => by
    simp only [List.map_cons, PyData.eqvAll, PyData.eqv, eqvAll_ints r q, List.cons.injEq]
    by_cases e : n = m
    · subst e; simp
    · simp [e]
theorem eqv_ints (ns ms : List Int) : PyData.eqv (.list (ns.map PyData.int)) (.list (ms.map PyData.int)) = decide (ns = ms) := by
  rw [PyData.eqv, eqvAll_ints]
section
variable {K : PySem.W.Frag} {H : Hp} {Q : VK} {p q : Addr} {ns ms : List Int}
theorem x_eqLI (h1 : SqL K H p (ns.map V.int)) (h2 : SqL K H q (ms.map V.int)) (k : Q (.bl (decide (ns = ms))) H) : rEqX K (.ref p) (.ref q) H Q :=
  .inr ⟨_, _, dp_ints h1, dp_ints h2, shaped_ints ns, shaped_ints ms, by rw [eqv_ints]; exact k⟩
theorem x_neLI (h1 : SqL K H p (ns.map V.int)) (h2 : SqL K H q (ms.map V.int)) (k : Q (.bl (!decide (ns = ms))) H) : rNeX K (.ref p) (.ref q) H Q :=
  .inr ⟨_, _, dp_ints h1, dp_ints h2, shaped_ints ns, shaped_ints ms, by rw [eqv_ints]; exact k⟩
end

theorem cx_none {P : Program} {w : World} {H : Hp} {s : Shared} {e : Value} {s' : Shared} (h : L2.CX P w [] H s (fun _ _ _ => False) e s') : False := by
  obtain ⟨_, _, _, _, _, _, _, _, _, _, _, _, z⟩ := h
  exact z.elim

/-! ### for over range(n), the number told plainly -/
theorem for_r0 {n : Int} {g : TG} {tb : TS} {D : Ends} {σ : L2.St} {H : Hp} (Pv : Nat → L2.St → Hp → Prop) (h0 : Pv 0 σ H)
    (hs : ∀ (i : Nat) σ H, (i : Int) < n → Pv i σ H → g (.int (i : Int)) σ H fun σ2 H2 => tb { D with nx := Pv (i + 1), ct := Pv (i + 1), bk := D.nx } σ2 H2) (hd : ∀ σ H, Pv n.toNat σ H → D.nx σ H) :
    ∃ W : Nat → Nat → L2.St → Hp → Prop, (∃ m, W 0 m σ H) ∧ ∀ i m σ H, W i m σ H →
      ((Itr 0 n.toNat).stop i H ∧ D.nx σ H) ∨ ((Itr 0 n.toNat).go i H ∧ ∃ N : L2.St → Hp → Prop, (∀ σ' H', N σ' H' → ∃ m', m' < m ∧ W (i + 1) m' σ' H') ∧ ∀ x H', (Itr 0 n.toNat).yld i H x H' → g x σ H' fun σ2 H2 => tb { D with nx := N, ct := N, bk := D.nx } σ2 H2) :=
  for_range (lo := 0) (n := n.toNat) Pv h0 (fun i σ H hi p => by rw [Int.zero_add]; exact hs i σ H (by omega) p) hd
theorem cp_r0 {QD : Addr → Hp → Prop} {B : Hp} {cs : Cells} {n : Int} {σ : L2.St} {H : Hp} {te : TE} {g : TG} {tt : TT} {vs : List Nat} (F : Nat → List V) (w : Own B cs H) (h0 : F 0 = [])
    (hs : ∀ D (i : Nat) H', (i : Int) < n → PvC B cs D F i H' → g (.int (i : Int)) (wipe σ vs) H' fun σ2 H2 => wipe σ2 vs = wipe σ vs ∧ tt σ2 H2 fun b H3 =>
      if b = true then te σ2 H3 fun y H4 => ∃ acc, H4 D = some (.lst acc) ∧ acc.length < sizeLine ∧ PvC B cs D F (i + 1) (upd H4 D (.lst (acc ++ [y]))) else PvC B cs D F (i + 1) H3)
    (hq : ∀ D H', Own B ((D, .lst (F n.toNat)) :: cs) H' → QD D H') : ∀ D, H D = none → ∃ W : Nat → Nat → Hp → Prop, (∃ m, W 0 m (upd H D (.lst []))) ∧ ∀ i m H, W i m H →
      ((Itr 0 n.toNat).stop i H ∧ QD D H) ∨ ((Itr 0 n.toNat).go i H ∧ ∃ Nx : Hp → Prop, (∀ H', Nx H' → ∃ m', m' < m ∧ W (i + 1) m' H') ∧ ∀ x H', (Itr 0 n.toNat).yld i H x H' → g x (wipe σ vs) H' fun σ2 H2 => wipe σ2 vs = wipe σ vs ∧ tt σ2 H2 fun b H3 =>
        if b = true then te σ2 H3 fun y H4 => ∃ acc, H4 D = some (.lst acc) ∧ acc.length < sizeLine ∧ Nx (upd H4 D (.lst (acc ++ [y]))) else Nx H3) :=
  cp_range (lo := 0) F w h0 (fun D i H' hi p => by rw [Int.zero_add]; exact hs D i H' (by omega) p) hq

/-! ### enumerate, zip: loops and comprehensions -/
section
variable {K : PySem.W.Frag} {a b : Addr} {xs ys : List V} {g : TG} {tb : TS} {D : Ends} {σ : L2.St} {H B : Hp} {cs : Cells} {te : TE} {tt : TT} {vs : List Nat} {Q : VK}
theorem for_enumL (Pv : Nat → L2.St → Hp → Prop) (h0 : Pv 0 σ H) (hq : ∀ i σ H, Pv i σ H → SqL K H a xs)
    (hs : ∀ (i : Nat) (x : V) (T : Addr) (σ : L2.St) (H : Hp), xs[i]? = some x → Pv i σ H → H T = none → g (.ref T) σ (upd H T (.tup [.int (i : Int), x])) fun σ2 H2 => tb { D with nx := Pv (i + 1), ct := Pv (i + 1), bk := D.nx } σ2 H2) (hd : ∀ σ H, Pv xs.length σ H → D.nx σ H) :
    ∃ W : Nat → Nat → L2.St → Hp → Prop, (∃ m, W 0 m σ H) ∧ ∀ i m σ H, W i m σ H →
      ((Ite K a).stop i H ∧ D.nx σ H) ∨ ((Ite K a).go i H ∧ ∃ N : L2.St → Hp → Prop, (∀ σ' H', N σ' H' → ∃ m', m' < m ∧ W (i + 1) m' σ' H') ∧ ∀ v H', (Ite K a).yld i H v H' → g v σ H' fun σ2 H2 => tb { D with nx := N, ct := N, bk := D.nx } σ2 H2) := by
  refine ⟨fun i m σ H => m = xs.length - i ∧ i ≤ xs.length ∧ Pv i σ H, ⟨xs.length, rfl, Nat.zero_le _, h0⟩, ?_⟩
  rintro i m σ H ⟨rfl, hi, p⟩
  have qx := hq i σ H p
  by_cases hlt : i < xs.length
  · have hx : xs[i]? = some xs[i] := List.getElem?_eq_getElem hlt
    refine .inr ⟨⟨xs, _, qx, hx⟩, Pv (i + 1), fun σ' H' p' => ⟨xs.length - (i + 1), by omega, rfl, hlt, p'⟩, fun v H' y => ?_⟩
    obtain ⟨T, x', rfl, hT, rfl, f1⟩ := y
    exact hs i x' T σ H (f1 xs qx) p hT
  · have e : i = xs.length := by omega
    subst e
    exact .inl ⟨⟨xs, qx, Nat.le_refl _⟩, hd σ H p⟩
theorem cp_enum {QD : Addr → Hp → Prop} (F : Nat → List V) (w : Own B cs H) (hx : SqL K B a xs) (h0 : F 0 = [])
    (hs : ∀ D i x T H', xs[i]? = some x → PvC B cs D F i H' → H' T = none → g (.ref T) (wipe σ vs) (upd H' T (.tup [.int ((i : Nat) : Int), x])) fun σ2 H2 => wipe σ2 vs = wipe σ vs ∧ tt σ2 H2 fun b H3 =>
      if b = true then te σ2 H3 fun y H4 => ∃ acc, H4 D = some (.lst acc) ∧ acc.length < sizeLine ∧ PvC B cs D F (i + 1) (upd H4 D (.lst (acc ++ [y]))) else PvC B cs D F (i + 1) H3)
    (hq : ∀ D H', Own B ((D, .lst (F xs.length)) :: cs) H' → QD D H') : ∀ D, H D = none → ∃ W : Nat → Nat → Hp → Prop, (∃ m, W 0 m (upd H D (.lst []))) ∧ ∀ i m H, W i m H →
      ((Ite K a).stop i H ∧ QD D H) ∨ ((Ite K a).go i H ∧ ∃ Nx : Hp → Prop, (∀ H', Nx H' → ∃ m', m' < m ∧ W (i + 1) m' H') ∧ ∀ x H', (Ite K a).yld i H x H' → g x (wipe σ vs) H' fun σ2 H2 => wipe σ2 vs = wipe σ vs ∧ tt σ2 H2 fun b H3 =>
        if b = true then te σ2 H3 fun y H4 => ∃ acc, H4 D = some (.lst acc) ∧ acc.length < sizeLine ∧ Nx (upd H4 D (.lst (acc ++ [y]))) else Nx H3) := fun D hD => by
  refine ⟨fun i m H => m = xs.length - i ∧ i ≤ xs.length ∧ PvC B cs D F i H, ⟨xs.length, rfl, Nat.zero_le _, by unfold PvC; rw [h0]; exact w.new hD⟩, ?_⟩
  rintro i m H ⟨rfl, hi, p⟩
  have qx : SqL K H a xs := Own.seq p hx
  by_cases hlt : i < xs.length
  · have hxi : xs[i]? = some xs[i] := List.getElem?_eq_getElem hlt
    refine .inr ⟨⟨xs, _, qx, hxi⟩, PvC B cs D F (i + 1), fun H' p' => ⟨xs.length - (i + 1), by omega, rfl, hlt, p'⟩, fun v H' y => ?_⟩
    obtain ⟨T, x', rfl, hT, rfl, f1⟩ := y
    exact hs D i x' T H (f1 xs qx) p hT
  · have e : i = xs.length := by omega
    subst e
    exact .inl ⟨⟨xs, qx, Nat.le_refl _⟩, hq D H p⟩
theorem cp_zip {QD : Addr → Hp → Prop} (F : Nat → List V) (w : Own B cs H) (hl : xs.length = ys.length) (hx : SqL K B a xs) (hy : SqL K B b ys) (h0 : F 0 = [])
    (hs : ∀ D i x y T H', xs[i]? = some x → ys[i]? = some y → PvC B cs D F i H' → H' T = none → g (.ref T) (wipe σ vs) (upd H' T (.tup [x, y])) fun σ2 H2 => wipe σ2 vs = wipe σ vs ∧ tt σ2 H2 fun b H3 =>
      if b = true then te σ2 H3 fun y H4 => ∃ acc, H4 D = some (.lst acc) ∧ acc.length < sizeLine ∧ PvC B cs D F (i + 1) (upd H4 D (.lst (acc ++ [y]))) else PvC B cs D F (i + 1) H3)
    (hq : ∀ D H', Own B ((D, .lst (F xs.length)) :: cs) H' → QD D H') : ∀ D, H D = none → ∃ W : Nat → Nat → Hp → Prop, (∃ m, W 0 m (upd H D (.lst []))) ∧ ∀ i m H, W i m H →
      ((Itz K a b).stop i H ∧ QD D H) ∨ ((Itz K a b).go i H ∧ ∃ Nx : Hp → Prop, (∀ H', Nx H' → ∃ m', m' < m ∧ W (i + 1) m' H') ∧ ∀ x H', (Itz K a b).yld i H x H' → g x (wipe σ vs) H' fun σ2 H2 => wipe σ2 vs = wipe σ vs ∧ tt σ2 H2 fun b H3 =>
        if b = true then te σ2 H3 fun y H4 => ∃ acc, H4 D = some (.lst acc) ∧ acc.length < sizeLine ∧ Nx (upd H4 D (.lst (acc ++ [y]))) else Nx H3) := fun D hD => by
  refine ⟨fun i m H => m = xs.length - i ∧ i ≤ xs.length ∧ PvC B cs D F i H, ⟨xs.length, rfl, Nat.zero_le _, by unfold PvC; rw [h0]; exact w.new hD⟩, ?_⟩
  rintro i m H ⟨rfl, hi, p⟩
  have qx : SqL K H a xs := Own.seq p hx
  have qy : SqL K H b ys := Own.seq p hy
  by_cases hlt : i < xs.length
  · have hxi : xs[i]? = some xs[i] := List.getElem?_eq_getElem hlt
    have hlt2 : i < ys.length := by omega
    have hyi : ys[i]? = some ys[i] := List.getElem?_eq_getElem hlt2
    refine .inr ⟨⟨xs, ys, _, _, qx, qy, hxi, hyi⟩, PvC B cs D F (i + 1), fun H' p' => ⟨xs.length - (i + 1), by omega, rfl, hlt, p'⟩, fun v H' y => ?_⟩
    obtain ⟨T, x', y', rfl, hT, rfl, f1, f2⟩ := y
    exact hs D i x' y' T H (f1 xs qx) (f2 ys qy) p hT
  · have e : i = xs.length := by omega
    subst e
    exact .inl ⟨⟨xs, ys, qx, qy, .inl (Nat.le_refl _)⟩, hq D H p⟩
end

def rStr : List V → Hp → VK → Prop := fun xs H Q => ∃ i, xs = [.int i] ∧ i.natAbs.log2 < 1920 ∧ Q (.str (toString i)) H
theorem call_strX {X : Cx} : CallR X (.type "str") rStr := call_str_int
theorem x_str {H : Hp} {Q : VK} {i : Int} (h : i.natAbs.log2 < 1920) (q : Q (.str (toString i)) H) : rStr [.int i] H Q := ⟨i, rfl, h, q⟩
theorem log2_small {n : Nat} {k : Nat} (h0 : 0 < k) (h : n < 2 ^ k) (hk : k ≤ 1920) : n.log2 < 1920 := Nat.lt_of_lt_of_le (PySem.Flt.log2_lt_of h0 h) hk
end Sp

/-! Ml: tables, bounds: plain words about lists of ints. -/
namespace Sp
open PySem L2 PyProof.Rows
def manyOf (n : Nat) : Nat := if n ≤ 2 then 1 else if n ≤ 4 then 2 else if n ≤ 8 then 3 else if n ≤ 16 then 4 else if n ≤ 32 then 5 else 6
theorem manyOf_lo (n : Nat) : 1 ≤ manyOf n ∧ manyOf n ≤ 6 := by
  unfold manyOf
  repeat' split
  all_goals omega
theorem manyOf_is {n k : Nat} (h1 : 1 ≤ k) (h6 : k ≤ 6) (hlo : k = 1 ∨ 2 ^ (k - 1) < n) (hhi : k = 6 ∨ n ≤ 2 ^ k) : manyOf n = k := by
  unfold manyOf
  have h : k = 1 ∨ k = 2 ∨ k = 3 ∨ k = 4 ∨ k = 5 ∨ k = 6 := by omega
  rcases h with rfl | rfl | rfl | rfl | rfl | rfl <;> simp only [Nat.reducePow, Nat.reduceSub] at hlo hhi <;> repeat' split
  all_goals omega
def lookM (xs : List V) : Option Int := if xs.length = 2 ^ manyOf xs.length ∧ xs.all isI = true ∧ xs[0]? = some (.int 0) then some (manyOf xs.length : Nat) else none
/-- a table of k hands -/
structure Tab (ns : List Int) (k : Nat) : Prop where
  len : ns.length = 2 ^ k
  lo : 1 ≤ k
  hi : k ≤ 6
  zero : ns[0]? = some 0
theorem Tab.look {ns : List Int} {k : Nat} (h : Tab ns k) : lookM (ns.map V.int) = some (k : Int) := by
  have e : manyOf (ns.map V.int).length = k := by
    rw [List.length_map, h.len]
    exact manyOf_is h.lo h.hi (by
      have := h.lo
      by_cases e : k = 1
      · exact .inl e
      · refine .inr (Nat.pow_lt_pow_right (by decide) (by omega))) (.inr (Nat.le_refl _))
  unfold lookM
  rw [e, if_pos]
  refine ⟨by rw [List.length_map]; exact h.len, ?_, ?_⟩
  · rw [List.all_map]; exact List.all_eq_true.mpr fun _ _ => rfl
  · rw [List.getElem?_map, h.zero] <;> rfl
theorem things_int {H : Hp} {ns : List Int} : ∀ v ∈ ns.map V.int, Thing H v := fun v hv => by
  obtain ⟨z, _, rfl⟩ := List.mem_map.mp hv
  exact .int z
theorem look_tab {xs : List V} {n : Int} (h : lookM xs = some n) : ∃ ns k, Tab ns k ∧ xs = ns.map V.int ∧ n = (k : Nat) := by
  unfold lookM at h
  by_cases c : xs.length = 2 ^ manyOf xs.length ∧ xs.all isI = true ∧ xs[0]? = some (.int 0)
  · rw [if_pos c] at h
    obtain ⟨c1, c2, c3⟩ := c
    have hm := manyOf_lo xs.length
    have all : ∀ ys : List V, ys.all isI = true → ∃ ns : List Int, ys = ns.map V.int := by
      intro ys
      induction ys with
      | nil => intro _; exact ⟨[], rfl⟩
      | cons y r ih =>
        intro e
        rw [List.all_cons, Bool.and_eq_true] at e
        obtain ⟨ns, rfl⟩ := ih e.2
        cases y with
        | int z => exact ⟨z :: ns, rfl⟩
        | _ => exact absurd e.1 Bool.false_ne_true
    obtain ⟨ns, rfl⟩ := all xs c2
    refine ⟨ns, manyOf (ns.map V.int).length, ⟨by rw [List.length_map] at c1; rw [List.length_map]; exact c1, hm.1, hm.2, ?_⟩, rfl, (Option.some.inj h).symm⟩
    rw [List.getElem?_map] at c3
    cases e : ns[0]? with
    | none => rw [e] at c3; cases c3
    | some z => rw [e] at c3; exact congrArg some (V.int.inj (Option.some.inj c3))
  · rw [if_neg c] at h; cases h
/-- a number of these laws' tables -/
def Small (z : Int) : Prop := -1000000000000000000 ≤ z ∧ z ≤ 1000000000000000000
/-- bounds of a table's numbers -/
def Bnd (b : Int) (ns : List Int) : Prop := ∀ z ∈ ns, -b ≤ z ∧ z ≤ b
theorem Bnd.app {b : Int} {ns : List Int} {z : Int} (h : Bnd b ns) (h1 : -b ≤ z) (h2 : z ≤ b) : Bnd b (ns ++ [z]) := fun y hy => by
  rcases List.mem_append.mp hy with m | m
  · exact h y m
  · rw [List.mem_singleton.mp m]; exact ⟨h1, h2⟩
theorem Bnd.set {b : Int} {ns : List Int} {j : Nat} {z : Int} (h : Bnd b ns) (h1 : -b ≤ z) (h2 : z ≤ b) : Bnd b (ns.set j z) := fun y hy => by
  rcases List.mem_or_eq_of_mem_set hy with m | rfl
  · exact h y m
  · exact ⟨h1, h2⟩
theorem Bnd.mono {b c : Int} {ns : List Int} (h : Bnd b ns) (hbc : b ≤ c) : Bnd c ns := fun y hy => by
  have := h y hy
  exact ⟨by omega, by omega⟩
theorem Bnd.at {b : Int} {ns : List Int} (hb : 0 ≤ b) (h : Bnd b ns) (i : Int) : -b ≤ gi ns i ∧ gi ns i ≤ b := by
  unfold gi
  rw [List.getD_eq_getElem?_getD]
  cases e : ns[i.toNat]? with
  | none => exact ⟨by show -b ≤ 0; omega, by show (0 : Int) ≤ b; omega⟩
  | some z => exact h z (List.mem_of_getElem? e)
theorem pow_toNat {k : Nat} {i : Int} (h : i = (k : Int)) : (1 : Int) * 2 ^ i.toNat = ((2 ^ k : Nat) : Int) := by
  rw [h, Int.one_mul, Int.toNat_natCast, Int.natCast_pow] <;> rfl
/-- the table turned about -/
def turnM (ns : List Int) : List Int := (List.range ns.length).map fun g : Nat => gi ns ((ns.length : Int) - 1) - gi ns ((ns.length : Int) - 1 - (g : Int))
theorem turnM_len (ns : List Int) : (turnM ns).length = ns.length := by unfold turnM; rw [List.length_map, List.length_range]
theorem gi_map_range {n : Nat} {f : Nat → Int} {i : Int} (h0 : 0 ≤ i) (h : i < n) : gi ((List.range n).map f) i = f i.toNat := by
  unfold gi
  rw [List.getD_eq_getElem?_getD, List.getElem?_map, List.getElem?_range (by omega)] <;> rfl
theorem turnM_at {ns : List Int} {i : Int} (h0 : 0 ≤ i) (h : i < ns.length) : gi (turnM ns) i = gi ns ((ns.length : Int) - 1) - gi ns ((ns.length : Int) - 1 - i) := by
  unfold turnM
  rw [gi_map_range h0 h, Int.toNat_of_nonneg h0]
theorem gi_ext {ns ms : List Int} (hl : ns.length = ms.length) (h : ∀ i : Int, 0 ≤ i → i < ns.length → gi ns i = gi ms i) : ns = ms := by
  apply List.ext_getElem hl
  intro i h1 h2
  have := h (i : Int) (by omega) (by omega)
  unfold gi at this
  rw [Int.toNat_natCast, List.getD_eq_getElem?_getD, List.getD_eq_getElem?_getD, List.getElem?_eq_getElem h1, List.getElem?_eq_getElem h2] at this
  exact this
theorem Tab.pos {ns : List Int} {k : Nat} (h : Tab ns k) : 2 ≤ ns.length ∧ ns.length ≤ 64 := by
  rw [h.len]
  exact ⟨Nat.pow_le_pow_right (n := 2) (by decide) h.lo, Nat.pow_le_pow_right (n := 2) (by decide) h.hi⟩
theorem Tab.gi0 {ns : List Int} {k : Nat} (h : Tab ns k) : gi ns 0 = 0 := by
  unfold gi
  rw [List.getD_eq_getElem?_getD, show (0 : Int).toNat = 0 from rfl, h.zero] <;> rfl
theorem gi_zero {ns : List Int} (h : 0 < ns.length) (e : gi ns 0 = 0) : ns[0]? = some 0 := by
  unfold gi at e
  rw [List.getD_eq_getElem?_getD, show (0 : Int).toNat = 0 from rfl, List.getElem?_eq_getElem h] at e
  rw [List.getElem?_eq_getElem h]
  exact congrArg some e
theorem Tab.turn {ns : List Int} {k : Nat} (h : Tab ns k) : Tab (turnM ns) k := by
  have hp := h.pos
  refine ⟨by rw [turnM_len]; exact h.len, h.lo, h.hi, gi_zero (by rw [turnM_len]; omega) ?_⟩
  rw [turnM_at (by decide) (by omega)]
  simp
theorem turnM_turnM {ns : List Int} {k : Nat} (h : Tab ns k) : turnM (turnM ns) = ns := by
  have hp := h.pos
  refine gi_ext (by rw [turnM_len, turnM_len]) fun i h0 h1 => ?_
  rw [turnM_len, turnM_len] at h1
  rw [turnM_at h0 (by rw [turnM_len]; exact h1), turnM_len, turnM_at (by omega) (by omega), turnM_at (by omega) (by omega)]
  have e1 : (ns.length : Int) - 1 - ((ns.length : Int) - 1) = 0 := by omega
  have e2 : (ns.length : Int) - 1 - ((ns.length : Int) - 1 - i) = i := by omega
  rw [e1, e2, h.gi0]
  omega
theorem Tab.set {ns : List Int} {k : Nat} (h : Tab ns k) {j : Nat} {z : Int} (hj : 0 < j) : Tab (ns.set j z) k :=
  ⟨by rw [List.length_set]; exact h.len, h.lo, h.hi, by rw [List.getElem?_set_ne (by omega)]; exact h.zero⟩
theorem map_int_inj {ns ms : List Int} (h : ns.map V.int = ms.map V.int) : ns = ms := (List.map_inj_right (f := V.int) fun _ _ => V.int.inj).mp h
theorem Tab.same {ns : List Int} {j k : Nat} (h : Tab ns j) (h' : Tab ns k) : j = k := by
  have e : 2 ^ j = 2 ^ k := h.len.symm.trans h'.len
  rcases Nat.lt_trichotomy j k with l | l | l
  · have := Nat.pow_lt_pow_right (a := 2) (by decide) l; omega
  · exact l
  · have := Nat.pow_lt_pow_right (a := 2) (by decide) l; omega
end Sp

/-! Sub: groups as numbers below 64, their parts, sums over parts, dividends. -/
namespace Sp
open PySem L2 PyProof.Rows
/-- hand h stands in group g -/
def bitOn (h g : Nat) : Bool := (g &&& 2 ^ h) != 0
theorem bit_facts : ∀ h, h < 6 → ∀ g, g < 64 → (bitOn h g = true → g ^^^ 2 ^ h < g ∧ bitOn h (g ^^^ 2 ^ h) = false) ∧ (∀ j, j < 6 → j ≠ h → bitOn j (g ^^^ 2 ^ h) = bitOn j g) := by decide +kernel
def stepD (h : Nat) (f : Nat → Int) : Nat → Int := fun g => if bitOn h g = true then f g - f (g ^^^ 2 ^ h) else f g
def stepE (h : Nat) (f : Nat → Int) : Nat → Int := fun g => if bitOn h g = true then f g + f (g ^^^ 2 ^ h) else f g
def allD : Nat → (Nat → Int) → Nat → Int
  | 0, f => f
  | k + 1, f => stepD k (allD k f)
def allE : Nat → (Nat → Int) → Nat → Int
  | 0, f => f
  | k + 1, f => stepE k (allE k f)
def On64 (f f' : Nat → Int) : Prop := ∀ g, g < 64 → f g = f' g
theorem On64.trans {f f' f'' : Nat → Int} (a : On64 f f') (b : On64 f' f'') : On64 f f'' := fun g h => (a g h).trans (b g h)
theorem On64.symm {f f' : Nat → Int} (a : On64 f f') : On64 f' f := fun g h => (a g h).symm
theorem stepD_on {h : Nat} (hh : h < 6) {f f' : Nat → Int} (e : On64 f f') : On64 (stepD h f) (stepD h f') := fun g hg => by
  unfold stepD
  by_cases c : bitOn h g = true
  · have := ((bit_facts h hh g hg).1 c).1
    rw [if_pos c, if_pos c, e g hg, e _ (by omega)]
  · rw [if_neg c, if_neg c, e g hg]
theorem stepE_on {h : Nat} (hh : h < 6) {f f' : Nat → Int} (e : On64 f f') : On64 (stepE h f) (stepE h f') := fun g hg => by
  unfold stepE
  by_cases c : bitOn h g = true
  · have := ((bit_facts h hh g hg).1 c).1
    rw [if_pos c, if_pos c, e g hg, e _ (by omega)]
  · rw [if_neg c, if_neg c, e g hg]
theorem stepED {h : Nat} (hh : h < 6) (f : Nat → Int) : On64 (stepE h (stepD h f)) f := fun g hg => by
  unfold stepE
  by_cases c : bitOn h g = true
  · have b := (bit_facts h hh g hg).1 c
    rw [if_pos c]
    unfold stepD
    rw [if_pos c, if_neg (by rw [b.2]; exact Bool.false_ne_true)]
    omega
  · rw [if_neg c]; unfold stepD; rw [if_neg c]
theorem stepDE {h : Nat} (hh : h < 6) (f : Nat → Int) : On64 (stepD h (stepE h f)) f := fun g hg => by
  unfold stepD
  by_cases c : bitOn h g = true
  · have b := (bit_facts h hh g hg).1 c
    rw [if_pos c]
    unfold stepE
    rw [if_pos c, if_neg (by rw [b.2]; exact Bool.false_ne_true)]
    omega
  · rw [if_neg c]; unfold stepE; rw [if_neg c]
theorem xor_swap (g a b : Nat) : (g ^^^ a) ^^^ b = (g ^^^ b) ^^^ a := by rw [Nat.xor_assoc, Nat.xor_comm a b, ← Nat.xor_assoc]
theorem step_comm {h j : Nat} (hh : h < 6) (hj : j < 6) (hne : j ≠ h) (f : Nat → Int) : On64 (stepE h (stepD j f)) (stepD j (stepE h f)) := fun g hg => by
  have bh := bit_facts h hh g hg
  have bj := bit_facts j hj g hg
  have e1 : bitOn j (g ^^^ 2 ^ h) = bitOn j g := bh.2 j hj hne
  have e2 : bitOn h (g ^^^ 2 ^ j) = bitOn h g := bj.2 h hh (Ne.symm hne)
  unfold stepE stepD
  simp only [e1, e2, xor_swap g (2 ^ j) (2 ^ h)]
  by_cases c : bitOn h g = true <;> by_cases d : bitOn j g = true <;> simp [c, d] <;> omega
theorem allE_comm {j : Nat} (hj : j < 6) (f : Nat → Int) : ∀ k, k ≤ j → On64 (allE k (stepD j f)) (stepD j (allE k f))
  | 0, _ => fun _ _ => rfl
  | k + 1, hk => by
    have ih := allE_comm hj f k (by omega)
    exact (stepE_on (by omega) ih).trans (step_comm (by omega) hj (by omega) (allE k f))
theorem allED (f : Nat → Int) : ∀ k, k ≤ 6 → On64 (allE k (allD k f)) f
  | 0, _ => fun _ _ => rfl
  | k + 1, hk => by
    have ih := allED f k (by omega)
    have c := allE_comm (j := k) (by omega) (allD k f) k (Nat.le_refl k)
    have a : On64 (allE (k + 1) (allD (k + 1) f)) (stepE k (stepD k (allE k (allD k f)))) := stepE_on (by omega) c
    exact (a.trans (stepED (by omega) _)).trans ih
theorem allD_comm {j : Nat} (hj : j < 6) (f : Nat → Int) : ∀ k, k ≤ j → On64 (allD k (stepE j f)) (stepE j (allD k f))
  | 0, _ => fun _ _ => rfl
  | k + 1, hk => by
    have ih := allD_comm hj f k (by omega)
    exact (stepD_on (by omega) ih).trans (step_comm hj (by omega) (by omega) (allD k f)).symm
theorem allDE (f : Nat → Int) : ∀ k, k ≤ 6 → On64 (allD k (allE k f)) f
  | 0, _ => fun _ _ => rfl
  | k + 1, hk => by
    have ih := allDE f k (by omega)
    have c := allD_comm (j := k) (by omega) (allE k f) k (Nat.le_refl k)
    have a : On64 (allD (k + 1) (allE (k + 1) f)) (stepD k (stepE k (allD k (allE k f)))) := stepD_on (by omega) c
    exact (a.trans (stepDE (by omega) _)).trans ih
/-! ### parts of a group, rising -/
def subs (g : Nat) : List Nat := (List.range 64).filter fun q => (q &&& g) == q
def partSum (f : Nat → Int) (g : Nat) : Int := ((subs g).map f).sum
def el : Nat → Nat → List Nat
  | 0, g => [g]
  | k + 1, g => if bitOn k g = true then el k (g ^^^ 2 ^ k) ++ el k g else el k g
theorem el_subs : ∀ k, k < 7 → ∀ g, g < 2 ^ k → el k g = subs g := by decide +kernel
theorem sum_app (a b : List Int) : (a ++ b).sum = a.sum + b.sum := List.sum_append
theorem allE_el (f : Nat → Int) : ∀ k g, allE k f g = ((el k g).map f).sum
  | 0, g => by show f g = ([g].map f).sum; simp
  | k + 1, g => by
    show stepE k (allE k f) g = _
    unfold stepE el
    by_cases c : bitOn k g = true
    · rw [if_pos c, if_pos c, List.map_append, sum_app, allE_el f k g, allE_el f k _]
      omega
    · rw [if_neg c, if_neg c, allE_el f k g]
theorem allE_sum (f : Nat → Int) {k g : Nat} (hk : k ≤ 6) (hg : g < 2 ^ k) : allE k f g = partSum f g := by
  rw [allE_el, el_subs k (by omega) g hg]
  rfl
/-- the parts but nobody, up to p -/
def someSubs (g p : Nat) : List Nat := (List.range (p + 1)).filter fun q => (q &&& g) == q && decide (0 < q)
theorem someSubs_step : ∀ g, g < 64 → ∀ p, p < 64 → (0 < p ∧ p &&& g = p) → someSubs g p = someSubs g ((p - 1) &&& g) ++ [p] ∧ (p - 1) &&& g < p ∧ ((p - 1) &&& g) &&& g = (p - 1) &&& g := by decide +kernel
theorem someSubs_all : ∀ g, g < 64 → subs g = 0 :: someSubs g g := by decide +kernel
theorem someSubs_zero (g : Nat) : someSubs g 0 = [] := by
  unfold someSubs
  rw [show List.range (0 + 1) = [0] from rfl]
  simp
def someSum (f : Nat → Int) (g p : Nat) : Int := ((someSubs g p).map f).sum
theorem someSum_step (f : Nat → Int) {g p : Nat} (hg : g < 64) (hp : p < 64) (h0 : 0 < p) (hs : p &&& g = p) : someSum f g p = someSum f g ((p - 1) &&& g) + f p := by
  unfold someSum
  rw [(someSubs_step g hg p hp ⟨h0, hs⟩).1, List.map_append, sum_app]
  simp
theorem partSum_some (f : Nat → Int) {g : Nat} (hg : g < 64) : partSum f g = f 0 + someSum f g g := by
  unfold partSum someSum
  rw [someSubs_all g hg, List.map_cons, List.sum_cons]
/-! ### lists by their places -/
/-- the list of f's values at 0 .. n - 1 -/
def tl (n : Nat) (f : Nat → Int) : List Int := (List.range n).map f
def fn (ns : List Int) : Nat → Int := fun g => gi ns (g : Int)
theorem tl_len (n : Nat) (f : Nat → Int) : (tl n f).length = n := by unfold tl; rw [List.length_map, List.length_range]
theorem gi_tl {n : Nat} {f : Nat → Int} {i : Int} (h0 : 0 ≤ i) (h : i < n) : gi (tl n f) i = f i.toNat := gi_map_range h0 h
theorem gi_tln {n : Nat} {f : Nat → Int} {i : Nat} (h : i < n) : gi (tl n f) (i : Int) = f i := by rw [gi_tl (by omega) (by omega), Int.toNat_natCast]
theorem tl_fn (ns : List Int) : tl ns.length (fn ns) = ns := by
  refine gi_ext (tl_len _ _) fun i h0 h1 => ?_
  rw [tl_len] at h1
  rw [gi_tl h0 h1]
  unfold fn
  rw [Int.toNat_of_nonneg h0]
theorem tl_congr {n : Nat} {f f' : Nat → Int} (h : ∀ i, i < n → f i = f' i) : tl n f = tl n f' := by
  unfold tl
  exact List.map_congr_left fun i hi => h i (List.mem_range.mp hi)
theorem tl_set {n : Nat} {f : Nat → Int} {j : Nat} {z : Int} (hj : j < n) : (tl n f).set j z = tl n fun i => if i = j then z else f i := by
  apply List.ext_getElem?
  intro i
  unfold tl
  by_cases e : j = i
  · subst e
    rw [List.getElem?_set_self (by rw [List.length_map, List.length_range]; exact hj), List.getElem?_map, List.getElem?_range hj]
    simp
  · rw [List.getElem?_set_ne e, List.getElem?_map, List.getElem?_map]
    cases h : (List.range n)[i]? with
    | none => rfl
    | some x =>
      have : x = i := by
        have hi := (List.getElem?_eq_some_iff.mp h).1
        rw [List.length_range] at hi
        rw [List.getElem?_range hi] at h
        exact (Option.some.inj h).symm
      subst this
      simp [Ne.symm e]
/-! ### bits of Python's ints -/
theorem and_nat (a b : Nat) : Builtin.bitAnd (a : Int) (b : Int) = ((a &&& b : Nat) : Int) := by rw [bitAnd_pp (by omega) (by omega), Int.toNat_natCast, Int.toNat_natCast]
theorem or_nat (a b : Nat) : Builtin.bitOr (a : Int) (b : Int) = ((a ||| b : Nat) : Int) := by rw [Bits.bitOr_pp (by omega) (by omega), Int.toNat_natCast, Int.toNat_natCast]
theorem xor_nat (a b : Nat) : Builtin.bitXor (a : Int) (b : Int) = ((a ^^^ b : Nat) : Int) := by rw [Bits.bitXor_pp (by omega) (by omega), Int.toNat_natCast, Int.toNat_natCast]
theorem shl_nat (h : Nat) : (1 : Int) * 2 ^ ((h : Int)).toNat = ((2 ^ h : Nat) : Int) := pow_toNat rfl
theorem bitOn_iff {h g : Nat} : (!decide (((g &&& 2 ^ h : Nat) : Int) = 0)) = bitOn h g := by
  unfold bitOn
  by_cases e : g &&& 2 ^ h = 0
  · rw [e]; rfl
  · rw [decide_eq_false (by omega), bne_iff_ne.mpr e] <;> rfl
/-- below 2 ^ k only the values below 2 ^ k are asked -/
theorem bit_cut : ∀ k, k < 7 → ∀ h, h < k → ∀ g, g < 2 ^ k → bitOn h g = true → g ^^^ 2 ^ h < 2 ^ k := by decide +kernel
theorem allE_cut' {k : Nat} (hk : k ≤ 6) {f f' : Nat → Int} (e : ∀ i, i < 2 ^ k → f i = f' i) : ∀ j, j ≤ k → ∀ g, g < 2 ^ k → allE j f g = allE j f' g
  | 0, _, g, hg => e g hg
  | j + 1, hj, g, hg => by
    show stepE j (allE j f) g = stepE j (allE j f') g
    unfold stepE
    by_cases c : bitOn j g = true
    · rw [if_pos c, if_pos c, allE_cut' hk e j (by omega) g hg, allE_cut' hk e j (by omega) _ (bit_cut k (by omega) j (by omega) g hg c)]
    · rw [if_neg c, if_neg c, allE_cut' hk e j (by omega) g hg]
theorem allE_cut {k : Nat} (hk : k ≤ 6) {f f' : Nat → Int} (e : ∀ i, i < 2 ^ k → f i = f' i) {g : Nat} (hg : g < 2 ^ k) : allE k f g = allE k f' g := allE_cut' hk e k (Nat.le_refl k) g hg
theorem allD_cut' {k : Nat} (hk : k ≤ 6) {f f' : Nat → Int} (e : ∀ i, i < 2 ^ k → f i = f' i) : ∀ j, j ≤ k → ∀ g, g < 2 ^ k → allD j f g = allD j f' g
  | 0, _, g, hg => e g hg
  | j + 1, hj, g, hg => by
    show stepD j (allD j f) g = stepD j (allD j f') g
    unfold stepD
    by_cases c : bitOn j g = true
    · rw [if_pos c, if_pos c, allD_cut' hk e j (by omega) g hg, allD_cut' hk e j (by omega) _ (bit_cut k (by omega) j (by omega) g hg c)]
    · rw [if_neg c, if_neg c, allD_cut' hk e j (by omega) g hg]
theorem allD_cut {k : Nat} (hk : k ≤ 6) {f f' : Nat → Int} (e : ∀ i, i < 2 ^ k → f i = f' i) {g : Nat} (hg : g < 2 ^ k) : allD k f g = allD k f' g := allD_cut' hk e k (Nat.le_refl k) g hg
/-! ### hands of a group -/
theorem bitOn_div : ∀ h, h < 6 → ∀ g, g < 64 → bitOn h g = decide (g / 2 ^ h % 2 = 1) := by decide +kernel
theorem bit_int {h g : Nat} (hh : h < 6) (hg : g < 64) : decide (Builtin.bitAnd ((g : Int) / 2 ^ ((h : Int)).toNat) 1 = 1) = bitOn h g := by
  rw [bitOn_div h hh g hg, bitAnd_m1, Int.toNat_natCast]
  have e : (g : Int) / 2 ^ h % 2 = ((g / 2 ^ h % 2 : Nat) : Int) := by
    rw [Int.natCast_emod, Int.natCast_ediv, Int.natCast_pow] <;> rfl
  rw [e]
  by_cases c : g / 2 ^ h % 2 = 1
  · rw [c]; rfl
  · rw [decide_eq_false c, decide_eq_false (by omega)]
def handsM (g : Nat) : List Nat := (List.range 6).filter fun h => bitOn h g
theorem filter_yes {p : Nat → Bool} {n : Nat} (h : p n = true) {α : Type} (f : Nat → α) : ((List.range (n + 1)).filter p).map f = ((List.range n).filter p).map f ++ [f n] := by
  rw [List.range_succ, List.filter_append, List.map_append, List.filter_cons, if_pos h] <;> rfl
theorem filter_no {p : Nat → Bool} {n : Nat} (h : p n = false) {α : Type} (f : Nat → α) : ((List.range (n + 1)).filter p).map f = ((List.range n).filter p).map f := by
  rw [List.range_succ, List.filter_append, List.map_append, List.filter_cons, if_neg (by rw [h]; exact Bool.false_ne_true)]
  show _ ++ [] = _
  rw [List.append_nil]
theorem filter_len (p : Nat → Bool) (n : Nat) : ((List.range n).filter p).length ≤ n := by
  have := List.length_filter_le p (List.range n)
  rw [List.length_range] at this
  exact this
/-- a list of naturals as Python's ints -/
abbrev vnat : Nat → V := fun n => .int (n : Int)
theorem vnat_map (l : List Nat) : l.map vnat = (l.map fun n : Nat => (n : Int)).map V.int := by rw [List.map_map] <;> rfl
theorem handsM_lt {g h : Nat} (hm : h ∈ handsM g) : h < 6 := by
  unfold handsM at hm
  exact List.mem_range.mp (List.mem_filter.mp hm).1
/-! ### spread: the hands of a group of blocks -/
def spreadTo (g : Nat) (bs : List Nat) : Nat → Nat
  | 0 => 0
  | i + 1 => if bitOn i g = true then spreadTo g bs i ||| bs.getD i 0 else spreadTo g bs i
def spreadM (g : Nat) (bs : List Nat) : Nat := spreadTo g bs bs.length
theorem spreadTo_step {g : Nat} {bs : List Nat} {i z : Nat} (h : bs[i]? = some z) : spreadTo g bs (i + 1) = if bitOn i g = true then spreadTo g bs i ||| z else spreadTo g bs i := by
  show (if bitOn i g = true then spreadTo g bs i ||| bs.getD i 0 else spreadTo g bs i) = _
  rw [List.getD_eq_getElem?_getD, h] <;> rfl
theorem map_at {α : Type} {f : α → V} {l : List α} {i : Nat} {x : V} (h : (l.map f)[i]? = some x) : ∃ z, l[i]? = some z ∧ x = f z := by
  rw [List.getElem?_map] at h
  cases e : l[i]? with
  | none => rw [e] at h; cases h
  | some z => rw [e] at h; exact ⟨z, rfl, (Option.some.inj h).symm⟩
theorem take_map {α β : Type} {l : List α} {i : Nat} {z : α} (h : l[i]? = some z) (f : α → β) : (l.take (i + 1)).map f = (l.take i).map f ++ [f z] := by
  rw [List.take_add_one, h, List.map_append] <;> rfl
theorem handsM_len (g : Nat) : (handsM g).length ≤ 6 := filter_len _ 6
theorem pow6 {n : Nat} (h : n ≤ 6) : 2 ^ n ≤ 64 := Nat.pow_le_pow_right (n := 2) (by decide) h
/-- the table cut to g -/
def cutM (ns : List Int) (g : Nat) : List Int := (List.range (2 ^ (handsM g).length)).map fun q => gi ns ((spreadM q ((handsM g).map (2 ^ ·)) : Nat) : Int)
theorem spread_le : ∀ {g : Nat}, g < 64 → ∀ q, q < 2 ^ (handsM g).length → spreadM q ((handsM g).map (2 ^ ·)) ≤ g := by decide +kernel
theorem at_mem {xs : List V} {i : Int} (h0 : 0 ≤ i) (h1 : i < xs.length) : ∃ v, atI xs i = some v ∧ v ∈ xs := by
  obtain ⟨n, rfl⟩ := Int.eq_ofNat_of_zero_le h0
  have hn : n < xs.length := by omega
  exact ⟨xs[n], atI_nat (List.getElem?_eq_getElem hn), List.getElem_mem hn⟩
theorem ixN_last {n : Nat} (h : 0 < n) : ixN n (-1) = some (n - 1) := by
  unfold ixN
  rw [if_neg (by decide), if_pos (by omega)]
  congr 1
  omega
theorem at_last {ns : List Int} (h : 0 < ns.length) : atI (ns.map V.int) (-1) = some (.int (gi ns ((ns.length : Int) - 1))) := by
  unfold atI
  rw [List.length_map, ixN_last h, Option.bind_some, List.getElem?_map, List.getElem?_eq_getElem (by omega)]
  unfold gi
  rw [List.getD_eq_getElem?_getD, show ((ns.length : Int) - 1).toNat = ns.length - 1 by omega, List.getElem?_eq_getElem (by omega)]
  rfl
theorem handsM_whole : ∀ k, k < 7 → (handsM (2 ^ k - 1)).length = k := by decide +kernel
theorem handsM_pos : ∀ g, g < 64 → 0 < g → 1 ≤ (handsM g).length := by decide +kernel
theorem spread_whole : ∀ k, k < 7 → ∀ q, q < 2 ^ k → spreadM q ((handsM (2 ^ k - 1)).map (2 ^ ·)) = q := by decide +kernel
theorem spread_nought : ∀ g, g < 64 → spreadM 0 ((handsM g).map (2 ^ ·)) = 0 := by decide +kernel
theorem cutM_len (ns : List Int) (g : Nat) : (cutM ns g).length = 2 ^ (handsM g).length := by unfold cutM; rw [List.length_map, List.length_range]
theorem cutM_tab {ns : List Int} {k g : Nat} (tb : Tab ns k) (h0 : 0 < g) (hg : g < ns.length) : Tab (cutM ns g) (handsM g).length := by
  have hp := tb.pos
  have h64 : g < 64 := by omega
  refine ⟨cutM_len _ _, handsM_pos g h64 h0, handsM_len g, gi_zero (by rw [cutM_len]; exact Nat.two_pow_pos _) ?_⟩
  unfold cutM
  rw [gi_map_range (by decide) (by have := Nat.two_pow_pos (handsM g).length; omega), show (0 : Int).toNat = 0 from rfl, spread_nought g h64]
  exact tb.gi0
theorem cutM_whole {ns : List Int} {k : Nat} (tb : Tab ns k) : cutM ns (ns.length - 1) = ns := by
  have e : (handsM (ns.length - 1)).length = k := by rw [tb.len]; exact handsM_whole k (by have := tb.hi; omega)
  refine gi_ext (by rw [cutM_len, e, tb.len]) fun i h0 h1 => ?_
  rw [cutM_len, e] at h1
  unfold cutM
  rw [gi_map_range h0 (by rw [e]; exact h1), tb.len, spread_whole k (by have := tb.hi; omega) i.toNat (by omega), Int.toNat_of_nonneg h0]
def sumSpread (q : Nat) (bs : List Nat) : Nat := (((List.range bs.length).filter fun j => bitOn j q).map fun j => bs.getD j 0).sum
theorem sumSpread_is : ∀ g, g < 64 → ∀ q, q < 2 ^ (handsM g).length → sumSpread q ((handsM g).map (2 ^ ·)) = spreadM q ((handsM g).map (2 ^ ·)) := by decide +kernel
theorem sum_cast (l : List Nat) : (l.map fun n : Nat => (n : Int)).sum = ((l.sum : Nat) : Int) := by
  induction l with
  | nil => rfl
  | cons x r ih => rw [List.map_cons, List.sum_cons, List.sum_cons, ih, Int.natCast_add]
end Sp

/-! Mg: a table with the hands of a group merged into one. -/
namespace Sp
open PySem PySem.Spec L2 PyProof.Rows
def leastM (g : Nat) : Nat := (handsM g).headD 0
def keepP (g h : Nat) : Bool := h == leastM g || !bitOn h g
def keptM (g k : Nat) : List Nat := (List.range k).filter (keepP g)
def blockOf (g h : Nat) : Nat := if h = leastM g then g else 2 ^ h
def blocksM (g k : Nat) : List Nat := (keptM g k).map (blockOf g)
def mergedM (ns : List Int) (g k : Nat) : List Int := (List.range (2 ^ (keptM g k).length)).map fun q => gi ns ((spreadM q (blocksM g k) : Nat) : Int)
def leftP (g k h : Nat) : Bool := decide (2 ^ h < 2 ^ k) && (h == leastM g || !decide (h ∈ handsM g))
def lawW (g q : Nat) (ls : List Nat) : Nat := if bitOn (leastM g) (sumSpread q (ls.map (2 ^ ·))) = true then sumSpread q (ls.map (2 ^ ·)) - 2 ^ leastM g + g else sumSpread q (ls.map (2 ^ ·))
def mgOne (g k q : Nat) : Bool := decide (spreadM q (blocksM g k) < 2 ^ k) && (lawW g q (keptM g k) == spreadM q (blocksM g k)) && (!bitOn (leastM g) (sumSpread q ((keptM g k).map (2 ^ ·))) || decide (2 ^ leastM g ≤ sumSpread q ((keptM g k).map (2 ^ ·)))) && decide (sumSpread q ((keptM g k).map (2 ^ ·)) < 64)
def mgOk (g k : Nat) : Bool := decide (1 ≤ (keptM g k).length) && ((List.range 6).filter (leftP g k) == keptM g k) && (spreadM 0 (blocksM g k) == 0) && (List.range (2 ^ (keptM g k).length)).all (mgOne g k)
theorem mgOk_all : ∀ k, k < 7 → ∀ g, g < 2 ^ k → 0 < g → mgOk g k = true := by decide +kernel
theorem mgF (k : Nat) (hk : k < 7) (g : Nat) (hg : g < 2 ^ k) (h0 : 0 < g) : 1 ≤ (keptM g k).length ∧ (List.range 6).filter (leftP g k) = keptM g k ∧ spreadM 0 (blocksM g k) = 0 ∧
    ∀ q, q < 2 ^ (keptM g k).length → spreadM q (blocksM g k) < 2 ^ k ∧ lawW g q (keptM g k) = spreadM q (blocksM g k) ∧ (bitOn (leastM g) (sumSpread q ((keptM g k).map (2 ^ ·))) = true → 2 ^ leastM g ≤ sumSpread q ((keptM g k).map (2 ^ ·))) ∧ sumSpread q ((keptM g k).map (2 ^ ·)) < 64 := by
  have h := mgOk_all k hk g hg h0
  unfold mgOk at h
  simp only [Bool.and_eq_true, decide_eq_true_eq, beq_iff_eq, List.all_eq_true] at h
  obtain ⟨⟨⟨a, b⟩, c⟩, d⟩ := h
  refine ⟨a, b, c, fun q hq => ?_⟩
  have h2 := d q (List.mem_range.mpr hq)
  unfold mgOne at h2
  simp only [Bool.and_eq_true, decide_eq_true_eq, beq_iff_eq, Bool.or_eq_true, Bool.not_eq_true'] at h2
  obtain ⟨⟨⟨a2, b2⟩, c2⟩, d2⟩ := h2
  refine ⟨a2, b2, fun e => ?_, d2⟩
  rcases c2 with c2 | c2
  · rw [e] at c2; cases c2
  · exact c2
theorem leastF : ∀ g, g < 64 → 0 < g → (handsM g)[0]? = some (leastM g) ∧ leastM g < 6 := by decide +kernel
theorem mgWhole : ∀ k, k < 7 → 1 ≤ k → keptM (2 ^ k - 1) k = [0] ∧ spreadM 0 (blocksM (2 ^ k - 1) k) = 0 ∧ spreadM 1 (blocksM (2 ^ k - 1) k) = 2 ^ k - 1 := by decide +kernel
theorem handsM_all : ∀ k, k < 7 → handsM (2 ^ k - 1) = List.range k := by decide +kernel
theorem keptM_len (g k : Nat) : (keptM g k).length ≤ k := filter_len _ k
theorem blocksM_len (g k : Nat) : (blocksM g k).length = (keptM g k).length := by unfold blocksM; rw [List.length_map]
theorem mergedM_len (ns : List Int) (g k : Nat) : (mergedM ns g k).length = 2 ^ (keptM g k).length := by unfold mergedM; rw [List.length_map, List.length_range]
theorem mergedM_tab {ns : List Int} {k g : Nat} (tb : Tab ns k) (h0 : 0 < g) (hg : g < ns.length) : Tab (mergedM ns g k) (keptM g k).length := by
  have hp := tb.pos
  obtain ⟨f1, _, f3, _⟩ := mgF k (by have := tb.hi; omega) g (by rw [← tb.len]; exact hg) h0
  refine ⟨mergedM_len _ _ _, f1, Nat.le_trans (keptM_len g k) tb.hi, gi_zero (by rw [mergedM_len]; exact Nat.two_pow_pos _) ?_⟩
  unfold mergedM
  rw [gi_map_range (by decide) (by have := Nat.two_pow_pos (keptM g k).length; omega), show (0 : Int).toNat = 0 from rfl, f3]
  exact tb.gi0
theorem mergedM_whole {ns : List Int} {k : Nat} (tb : Tab ns k) : mergedM ns (ns.length - 1) k = [0, gi ns ((ns.length : Int) - 1)] := by
  have hp := tb.pos
  obtain ⟨f1, f2, f3⟩ := mgWhole k (by have := tb.hi; omega) tb.lo
  unfold mergedM
  rw [tb.len, f1, show List.range (2 ^ [0].length) = [0, 1] from rfl]
  show [gi ns _, gi ns _] = _
  rw [f2, f3, show gi ns ((0 : Nat) : Int) = 0 from tb.gi0]
  have h2 : 1 ≤ 2 ^ k := Nat.two_pow_pos k
  congr 3
  omega
theorem bit_int0 {h g : Nat} (hh : h < 6) (hg : g < 64) : decide (Builtin.bitAnd ((g : Int) / 2 ^ ((h : Int)).toNat) 1 = 0) = !bitOn h g := by
  have e := bit_int hh hg
  rw [← e, bitAnd_m1]
  by_cases c : (g : Int) / 2 ^ ((h : Int)).toNat % 2 = 1
  · rw [c]; rfl
  · rw [decide_eq_false c, decide_eq_true (by omega)] <;> rfl
theorem range_at {n i z : Nat} (h : (List.range n)[i]? = some z) : z = i ∧ i < n := by
  obtain ⟨h1, h2⟩ := List.getElem?_eq_some_iff.mp h
  rw [List.length_range] at h1
  rw [List.getElem_range] at h2
  exact ⟨h2.symm, h1⟩
theorem keep_yes {g i : Nat} (h : keepP g i = true) : (((List.range (i + 1)).filter (keepP g)).map (blockOf g)).map vnat = (((List.range i).filter (keepP g)).map (blockOf g)).map vnat ++ [vnat (blockOf g i)] := by
  rw [List.range_succ, List.filter_append, List.map_append, List.map_append, List.filter_cons, if_pos h] <;> rfl
theorem keep_no {g i : Nat} (h : keepP g i = false) : (((List.range (i + 1)).filter (keepP g)).map (blockOf g)).map vnat = (((List.range i).filter (keepP g)).map (blockOf g)).map vnat := by
  rw [List.range_succ, List.filter_append, List.map_append, List.map_append, List.filter_cons, if_neg (by rw [h]; exact Bool.false_ne_true)]
  show _ ++ [] = _
  rw [List.append_nil]
def offOk (m h g : Nat) : Bool := bitOn h g || (decide (g ||| 2 ^ h = g + 2 ^ h) && decide (g + 2 ^ h < 2 ^ m))
theorem off_all : ∀ m, m < 7 → ∀ h, h < m → ∀ g, g < 2 ^ m → offOk m h g = true := by decide +kernel
theorem off_bit {m h g : Nat} (hm : m < 7) (hh : h < m) (hg : g < 2 ^ m) (hb : bitOn h g = false) : g ||| 2 ^ h = g + 2 ^ h ∧ g + 2 ^ h < 2 ^ m := by
  have e := off_all m hm h hh g hg
  unfold offOk at e
  rw [hb, Bool.false_or, Bool.and_eq_true, decide_eq_true_eq, decide_eq_true_eq] at e
  exact e
theorem bits_len : ∀ m, m < 7 → (List.range 6).filter (fun k => decide (2 ^ k < 2 ^ m)) = List.range m := by decide +kernel
theorem rep_flat (m : Nat) : (List.replicate m [V.int 0]).flatten = (List.replicate m (0 : Int)).map V.int := by
  induction m with
  | zero => rfl
  | succ m ih => rw [List.replicate_succ, List.replicate_succ, List.flatten_cons, List.map_cons, ih] <;> rfl
theorem rep_tl {m : Nat} {f : Nat → Int} (h : ∀ i, i < m → f i = 0) : List.replicate m (0 : Int) = tl m f := by
  unfold tl
  apply List.ext_getElem?
  intro i
  rw [List.getElem?_map, List.getElem?_replicate]
  by_cases hi : i < m
  · rw [if_pos hi, List.getElem?_range hi, Option.map_some, h i hi]
  · rw [if_neg hi, List.getElem?_eq_none (by rw [List.length_range]; omega)] <;> rfl
/-- the comprehension over a list of our own -/
theorem cp_listO {K : PySem.W.Frag} {B : Hp} {cs : Cells} {H : Hp} {σ : L2.St} {te : TE} {g : TG} {tt : TT} {vs : List Nat} {QD : Addr → Hp → Prop} {a : Addr} {xs : List V} (F : Nat → List V) (w : Own B cs H) (j : Nat) (hx : cs[j]? = some (a, .lst xs)) (h0 : F 0 = [])
    (hs : ∀ D i x H', xs[i]? = some x → PvC B cs D F i H' → g x (wipe σ vs) H' fun σ2 H2 => wipe σ2 vs = wipe σ vs ∧ tt σ2 H2 fun b H3 =>
      if b = true then te σ2 H3 fun y H4 => ∃ acc, H4 D = some (.lst acc) ∧ acc.length < sizeLine ∧ PvC B cs D F (i + 1) (upd H4 D (.lst (acc ++ [y]))) else PvC B cs D F (i + 1) H3)
    (hq : ∀ D H', Own B ((D, .lst (F xs.length)) :: cs) H' → QD D H') : ∀ D, H D = none → ∃ W : Nat → Nat → Hp → Prop, (∃ m, W 0 m (upd H D (.lst []))) ∧ ∀ i m H, W i m H →
      ((Itl K a).stop i H ∧ QD D H) ∨ ((Itl K a).go i H ∧ ∃ Nx : Hp → Prop, (∀ H', Nx H' → ∃ m', m' < m ∧ W (i + 1) m' H') ∧ ∀ x H', (Itl K a).yld i H x H' → g x (wipe σ vs) H' fun σ2 H2 => wipe σ2 vs = wipe σ vs ∧ tt σ2 H2 fun b H3 =>
        if b = true then te σ2 H3 fun y H4 => ∃ acc, H4 D = some (.lst acc) ∧ acc.length < sizeLine ∧ Nx (upd H4 D (.lst (acc ++ [y]))) else Nx H3) := fun D hD =>
  lc_list (PvC B cs D F) (by unfold PvC; rw [h0]; exact w.new hD) (fun i H' hi p => Own.sq p (j + 1) hx) (fun i x H' hi p => hs D i x H' hi p) (fun H' p => hq D H' p)
theorem cut_to {xs : List V} {i : Nat} : cutV xs none (some (i : Int)) = xs.take i := by
  unfold cutV
  rw [HT.sIx_none, HT.sIx_nat, List.drop_zero, Nat.sub_zero]
  by_cases h : i ≤ xs.length
  · rw [Nat.min_eq_left h]
  · rw [Nat.min_eq_right (by omega), List.take_of_length_le (Nat.le_refl _), List.take_of_length_le (by omega)]
theorem cut_from {xs : List V} {i : Nat} : cutV xs (some (i : Int)) none = xs.drop i := by
  unfold cutV
  rw [HT.sIx_none, HT.sIx_nat, List.take_of_length_le (by rw [List.length_drop]; omega)]
  by_cases h : i ≤ xs.length
  · rw [Nat.min_eq_left h]
  · rw [Nat.min_eq_right (by omega), List.drop_eq_nil_of_le (Nat.le_refl _), List.drop_eq_nil_of_le (by omega)]
/-- x not in a list of whole numbers -/
theorem inV_nat {h : Nat} : ∀ {ns : List Nat}, inV (.int (h : Int)) (ns.map vnat) = decide (h ∈ ns)
  | [] => rfl
  | n :: ns => by
    have ih := inV_nat (h := h) (ns := ns)
    unfold inV at ih ⊢
    rw [List.map_cons, List.any_cons, ih]
    show (((n : Int) == (h : Int)) || decide (h ∈ ns)) = _
    rw [Bool.eq_iff_iff]
    simp only [Bool.or_eq_true, beq_iff_eq, decide_eq_true_eq, List.mem_cons]
    constructor
    · rintro (e | e)
      · exact .inl (by omega)
      · exact .inr e
    · rintro (e | e)
      · exact .inl (by omega)
      · exact .inr e
theorem all_flat_nat : ∀ ns : List Nat, (ns.map vnat).all flatV = true
  | [] => rfl
  | n :: ns => by rw [List.map_cons, List.all_cons, all_flat_nat ns] <;> rfl
theorem x_notInN {K : PySem.W.Frag} {H : Hp} {Q : VK} {p : Addr} {h : Nat} {ns : List Nat} (hS : SqL K H p (ns.map vnat)) (q : Q (.bl (!decide (h ∈ ns))) H) : rIn K true (.int (h : Int)) (.ref p) H Q :=
  ⟨p, _, rfl, .inl hS, rfl, all_flat_nat ns, by rw [inV_nat]; exact q⟩
end Sp

/-! LinA: sums that are linear in a table's numbers, told by their coefficients. -/
namespace Sp
open PySem PySem.Spec L2 PyProof.Rows
abbrev LinF := List (Int × Nat)
def ev (T : Nat → Int) (L : LinF) : Int := (L.map fun p => p.1 * T p.2).sum
def co (L : LinF) (i : Nat) : Int := (L.map fun p => if p.2 = i then p.1 else 0).sum
theorem ev_cons (T : Nat → Int) (p : Int × Nat) (L : LinF) : ev T (p :: L) = p.1 * T p.2 + ev T L := by unfold ev; rw [List.map_cons, List.sum_cons]
theorem co_cons (p : Int × Nat) (L : LinF) (i : Nat) : co (p :: L) i = (if p.2 = i then p.1 else 0) + co L i := by unfold co; rw [List.map_cons, List.sum_cons]
theorem sum_app2 (a b : List Int) : (a ++ b).sum = a.sum + b.sum := by
  induction a with
  | nil => simp
  | cons x r ih => rw [List.cons_append, List.sum_cons, List.sum_cons, ih, Int.add_assoc]
theorem ev_app (T : Nat → Int) (L L' : LinF) : ev T (L ++ L') = ev T L + ev T L' := by unfold ev; rw [List.map_append, sum_app2]
theorem sum_add (f g : Nat → Int) : ∀ l : List Nat, (l.map fun i => f i + g i).sum = (l.map f).sum + (l.map g).sum
  | [] => rfl
  | x :: l => by rw [List.map_cons, List.map_cons, List.map_cons, List.sum_cons, List.sum_cons, List.sum_cons, sum_add f g l]; omega
theorem sum_zero : ∀ l : List Nat, (l.map fun _ => (0 : Int)).sum = 0
  | [] => rfl
  | x :: l => by rw [List.map_cons, List.sum_cons, sum_zero l] <;> rfl
theorem sum_one (c : Int) (T : Nat → Int) (j : Nat) : ∀ n, ((List.range n).map fun i => (if j = i then c else 0) * T i).sum = if j < n then c * T j else 0
  | 0 => by rw [if_neg (Nat.not_lt_zero j)] <;> rfl
  | n + 1 => by
    rw [List.range_succ, List.map_append, sum_app2, sum_one c T j n, List.map_cons, List.map_nil, List.sum_cons, List.sum_nil]
    by_cases h : j = n
    · subst h; rw [if_neg (Nat.lt_irrefl j), if_pos rfl, if_pos (Nat.lt_succ_self j)]; omega
    · rw [if_neg h]
      by_cases h2 : j < n
      · rw [if_pos h2, if_pos (by omega)]; omega
      · rw [if_neg h2, if_neg (by omega)]; omega
theorem ev_co (T : Nat → Int) (n : Nat) : ∀ L : LinF, (∀ p ∈ L, p.2 < n) → ev T L = ((List.range n).map fun i => co L i * T i).sum
  | [], _ => by
    show (0 : Int) = _
    rw [show ((List.range n).map fun i => co [] i * T i) = (List.range n).map fun _ => (0 : Int) from List.map_congr_left fun i _ => Int.zero_mul _, sum_zero]
  | p :: L, h => by
    rw [ev_cons, ev_co T n L fun q hq => h q (.tail _ hq)]
    rw [show ((List.range n).map fun i => co (p :: L) i * T i) = (List.range n).map fun i => (if p.2 = i then p.1 else 0) * T i + co L i * T i from List.map_congr_left fun i _ => by rw [co_cons, Int.add_mul]]
    rw [sum_add, sum_one, if_pos (h p (.head _))]
def sameL (n : Nat) (L L' : LinF) : Bool := L.all (fun p => decide (p.2 < n)) && L'.all (fun p => decide (p.2 < n)) && (List.range n).all fun i => decide (co L i = co L' i)
theorem ev_same {n : Nat} {L L' : LinF} (h : sameL n L L' = true) (T : Nat → Int) : ev T L = ev T L' := by
  unfold sameL at h
  simp only [Bool.and_eq_true, List.all_eq_true, decide_eq_true_eq] at h
  obtain ⟨⟨h1, h2⟩, h3⟩ := h
  rw [ev_co T n L h1, ev_co T n L' h2]
  congr 1
  exact List.map_congr_left fun i hi => by rw [h3 i hi]
theorem ev_congr {T T' : Nat → Int} {L : LinF} (h : ∀ p ∈ L, T p.2 = T' p.2) : ev T L = ev T' L := by
  unfold ev
  congr 1
  exact List.map_congr_left fun p hp => by rw [h p hp]
theorem ev_bump (T : Nat → Int) (j : Nat) : ∀ L : LinF, ev (fun i => if i = j then T i + 1 else T i) L = ev T L + co L j
  | [] => rfl
  | p :: L => by
    rw [ev_cons, ev_cons, co_cons, ev_bump T j L]
    by_cases h : p.2 = j
    · rw [if_pos h, if_pos h, Int.mul_add]; omega
    · rw [if_neg h, if_neg h]; omega
/-- L, read through s -/
def thr (s : Nat → Nat) (L : LinF) : LinF := L.map fun p => (p.1, s p.2)
theorem ev_thr (T : Nat → Int) (s : Nat → Nat) (L : LinF) : ev T (thr s L) = ev (fun i => T (s i)) L := by unfold ev thr; rw [List.map_map] <;> rfl
def offs (h n : Nat) : List Nat := (List.range n).filter fun g => !bitOn h g
def addsM (ms : List Int) (h : Nat) : List Int := (offs h ms.length).map fun g => fn ms (g + 2 ^ h) - fn ms g
end Sp

/-! Dp: == of nested data. -/
namespace Sp
open PySem PySem.Spec L2 PyProof.Rows
mutual
theorem eqv_self : ∀ d : PyData, d.canLay0 = true → PyData.eqv d d = true
  | .none, _ => by simp [PyData.eqv]
  | .bool b, _ => by simp [PyData.eqv]
  | .int i, _ => by simp [PyData.eqv]
  | .str x, _ => by simp [PyData.eqv]
  | .list xs, h => by
    rw [PyData.canLay0] at h
    rw [PyData.eqv]
    exact eqvAll_self xs h
  | .tuple xs, h => by
    rw [PyData.canLay0] at h
    rw [PyData.eqv]
    exact eqvAll_self xs h
  | .dict _, h => by rw [PyData.canLay0] at h; cases h
theorem eqvAll_self : ∀ ds : List PyData, PyData.canLayAll0 ds = true → PyData.eqvAll ds ds = true
  | [], _ => by simp [PyData.eqvAll]
  | d :: ds, h => by
    rw [PyData.canLayAll0, Bool.and_eq_true] at h
    rw [PyData.eqvAll, eqv_self d h.1, eqvAll_self ds h.2] <;> rfl
end
/-- laid without dicts, at most k deep -/
structure LayD (k : Nat) (d : PyData) : Prop where
  lay : d.canLay0 = true
  dep : d.depth ≤ k
theorem layAll : ∀ {k : Nat} {ds : List PyData}, (∀ d ∈ ds, LayD k d) → PyData.canLayAll0 ds = true ∧ PyData.depthAll ds ≤ k
  | k, [], _ => ⟨by simp [PyData.canLayAll0], by simp [PyData.depthAll]⟩
  | k, d :: ds, h => by
    have ⟨h1, h2⟩ := layAll fun x hx => h x (.tail _ hx)
    have h0 := h d (.head _)
    exact ⟨by rw [PyData.canLayAll0, h0.lay, h1] <;> rfl, by have := h0.dep; simp only [PyData.depthAll]; omega⟩
theorem LayD.int {k : Nat} (h : 1 ≤ k) (i : Int) : LayD k (.int i) := ⟨by simp [PyData.canLay0], by simp only [PyData.depth]; omega⟩
theorem LayD.bool {k : Nat} (h : 1 ≤ k) (b : Bool) : LayD k (.bool b) := ⟨by simp [PyData.canLay0], by simp only [PyData.depth]; omega⟩
theorem LayD.none {k : Nat} (h : 1 ≤ k) : LayD k .none := ⟨by simp [PyData.canLay0], by simp only [PyData.depth]; omega⟩
theorem LayD.str {k : Nat} (h : 1 ≤ k) {x : Str} (hx : PyData.strOk x = true) : LayD k (.str x) := ⟨by simpa [PyData.canLay0] using hx, by simp only [PyData.depth]; omega⟩
theorem LayD.list {k : Nat} {ds : List PyData} (h : ∀ d ∈ ds, LayD k d) : LayD (k + 1) (.list ds) := by
  have ⟨h1, h2⟩ := layAll h
  exact ⟨by rw [PyData.canLay0]; exact h1, by simp only [PyData.depth]; omega⟩
theorem LayD.tuple {k : Nat} {ds : List PyData} (h : ∀ d ∈ ds, LayD k d) : LayD (k + 1) (.tuple ds) := by
  have ⟨h1, h2⟩ := layAll h
  exact ⟨by rw [PyData.canLay0]; exact h1, by simp only [PyData.depth]; omega⟩
theorem LayD.ints {ns : List Int} : LayD 2 (.list (ns.map PyData.int)) := LayD.list fun d hd => by
  obtain ⟨n, _, rfl⟩ := List.mem_map.mp hd
  exact LayD.int (by decide) n
theorem LayD.shaped {k : Nat} {d : PyData} (h : LayD k d) (hk : k ≤ 64 := by decide) : SeqAt.shaped d = true := by
  unfold SeqAt.shaped
  rw [Bool.and_eq_true]
  exact ⟨h.lay, decide_eq_true (Nat.le_trans h.dep hk)⟩
section
variable {K : PySem.W.Frag} {H : Hp} {Q : VK} {x y : V} {d : PyData} {k : Nat}
theorem x_eqD (h1 : Dp K H x d) (h2 : Dp K H y d) (l : LayD k d) (q : Q (.bl true) H) (hk : k ≤ 64 := by decide) : rEqX K x y H Q :=
  .inr ⟨_, _, h1, h2, l.shaped hk, l.shaped hk, by rw [eqv_self d l.lay]; exact q⟩
theorem x_neD (h1 : Dp K H x d) (h2 : Dp K H y d) (l : LayD k d) (q : Q (.bl false) H) (hk : k ≤ 64 := by decide) : rNeX K x y H Q :=
  .inr ⟨_, _, h1, h2, l.shaped hk, l.shaped hk, by rw [eqv_self d l.lay]; exact q⟩
end
mutual
theorem Dp.same {K : PySem.W.Frag} {H H' : Hp} (s : Same H H') : ∀ (d : PyData) (v : V), Dp K H v d → Dp K H' v d
  | .none, _, h => by cases h; exact .non
  | .bool b, _, h => by cases h; exact .bl b
  | .int i, _, h => by cases h; exact .int i
  | .str x, _, h => by cases h; exact .str x
  | .list ds, _, h => by
    cases h with
    | lst h1 h2 => exact .lst (s.seq h1) (DpAll.same s ds _ h2)
  | .tuple ds, _, h => by
    cases h with
    | tup h1 h2 => exact .tup (same_sqT s h1) (DpAll.same s ds _ h2)
  | .dict _, _, h => by cases h
theorem DpAll.same {K : PySem.W.Frag} {H H' : Hp} (s : Same H H') : ∀ (ds : List PyData) (vs : List V), DpAll K H vs ds → DpAll K H' vs ds
  | [], _, h => by cases h; exact .nil
  | d :: ds, _, h => by
    cases h with
    | cons h1 h2 => exact .cons (Dp.same s d _ h1) (DpAll.same s ds _ h2)
end
theorem DpAll.app {K : PySem.W.Frag} {H : Hp} : ∀ {vs ws : List V} {ds es : List PyData}, DpAll K H vs ds → DpAll K H ws es → DpAll K H (vs ++ ws) (ds ++ es)
  | _, _, _, _, .nil, h => h
  | _, _, _, _, .cons h1 h2, h => .cons h1 (DpAll.app h2 h)
end Sp

/-! Alk: hands that are alike, hands that add nothing; any of whole numbers. -/
namespace Sp
open PySem PySem.Spec L2 PyProof.Rows
theorem truth_ints {prog : Program} {w : World} {A : Around} {ns : List Int} {its : List Value} (r : Vals (ns.map V.int) its) :
    TruthOf prog w A (fun i v => its.toArray[i]? = some v) (fun i => !decide (ns.getD i 0 = 0)) := fun i v s Q E hv hq => by
  have hv' : its[i]? = some v := by simpa using hv
  obtain ⟨n, t, rfl, hn⟩ := r.ints.at i v hv'
  have hg : ns.getD i 0 = n := by rw [List.getD_eq_getElem?_getD, hn] <;> rfl
  have hq' : Q (!decide (ns.getD i 0 = 0)) s := hq
  rw [hg] at hq'
  refine PySem.P.truthy_int ?_
  have e : (n != 0) = !decide (n = 0) := rfl
  rw [e]
  exact hq'
theorem anyI_range : ∀ ns : List Int, (List.range ns.length).any (fun i => !decide (ns.getD i 0 = 0)) = ns.any (fun n => !decide (n = 0))
  | [] => rfl
  | b :: bs => by
    rw [List.length_cons, List.range_succ_eq_map, List.any_cons, List.any_map, List.any_cons, ← anyI_range bs]
    all_goals rfl
def rAnyI (K : PySem.W.Frag) : List V → Hp → VK → Prop := fun vs H Q => ∃ (a : Addr) (ns : List Int), vs = [V.ref a] ∧ SqL K H a (ns.map V.int) ∧ Q (.bl (ns.any fun n => !decide (n = 0))) H
theorem cr_anyI {X : Cx} (hc : X.calm = true) : CallR X (.builtin "any") (rAnyI X.K) := by
  intro pins s σ H vs us Q I r h
  obtain ⟨a, ns, rfl, hs, q⟩ := h
  obtain ⟨its, rv, hl, _⟩ := I.list hs
  rw [Vals.ref1 r]
  refine call_any_walk (iter_any hl.isList fun s₂ e2 st hne => ?_)
  subst e2
  refine ⟨_, _, _, _, _, _, _, rfl, Walks.list (A := X.A.in1) (I.ok.hd hc) _ a hne its.toArray, st, truth_ints rv, fun h' tk hk => ?_⟩
  refine ⟨.bl _, H, I.kept fun b o eo => hk b o (fun hmem => ?_) (Heap.get?_push_of_some _ eo), ?_, q⟩
  · rcases List.mem_cons.mp hmem with e1 | hmem
    · exact absurd (e1 ▸ Heap.lt_size eo) (Nat.lt_irrefl _)
    · cases hmem
  · show Value.bool _ = Value.bool _
    rw [← anyI_range, List.size_toArray, ← rv.length, List.length_map]
theorem cr_anyIK {X : Cx} {K : PySem.W.Frag} (h : X.K = K) (hc : X.calm = true) : CallR X (.builtin "any") (rAnyI K) := h ▸ cr_anyI hc
theorem x_anyI {K : PySem.W.Frag} {H : Hp} {Q : VK} {a : Addr} {ns : List Int} (h : SqL K H a (ns.map V.int)) (q : Q (.bl (ns.any fun n => !decide (n = 0))) H) : rAnyI K [.ref a] H Q := ⟨a, ns, rfl, h, q⟩
/-- a list told by a def stands in its own cells -/
theorem own_join {B H H' : Hp} {cs ds : Cells} (w : Own B cs H) (r : Own H ds H') : Own B (ds ++ cs) H' := by
  refine ⟨w.ex.trans r.ex, fun q hq => ?_, ?_⟩
  · rcases List.mem_append.mp hq with h | h
    · exact ⟨(r.cell q h).1, w.ex.free (r.cell q h).2⟩
    · exact ⟨r.ex _ _ (w.cell q h).1, (w.cell q h).2⟩
  · rw [List.map_append, List.nodup_append]
    refine ⟨r.nd, w.nd, fun x hx y hy e => ?_⟩
    subst e
    obtain ⟨q, hq, rfl⟩ := List.mem_map.mp hx
    obtain ⟨q2, hq2, e2⟩ := List.mem_map.mp hy
    have h1 := (r.cell q hq).2
    have h2 := (w.cell q2 hq2).1
    rw [e2, h1] at h2
    cases h2
def alikeB (ms : List Int) (i j : Nat) : Bool := (List.range ms.length).all fun g => bitOn i g || bitOn j g || decide (fn ms (g ||| 2 ^ i) = fn ms (g ||| 2 ^ j))
def leastA (ms : List Int) (h : Nat) : Nat := ((List.range (h + 1)).find? fun i => alikeB ms i h).getD 0
def idleB (ms : List Int) (h : Nat) : Bool := !((addsM ms h).any fun n => !decide (n = 0))
theorem alike_self (ms : List Int) (h : Nat) : alikeB ms h h = true := by
  unfold alikeB
  rw [List.all_eq_true]
  intro g _
  rw [decide_eq_true rfl, Bool.or_true]
theorem least_is {ms : List Int} {h i : Nat} (hi : i ≤ h) (ha : alikeB ms i h = true) (hn : ∀ j, j < i → alikeB ms j h = false) : leastA ms h = i := by
  unfold leastA
  have : (List.range (h + 1)).find? (fun i => alikeB ms i h) = some i := by
    rw [List.find?_range_eq_some]
    exact ⟨ha, List.mem_range.mpr (by omega), fun j hj => by rw [hn j hj] <;> rfl⟩
  rw [this] <;> rfl
theorem least_ex (ms : List Int) (h : Nat) : leastA ms h ≤ h ∧ alikeB ms (leastA ms h) h = true ∧ ∀ j, j < leastA ms h → alikeB ms j h = false := by
  unfold leastA
  cases e : (List.range (h + 1)).find? (fun i => alikeB ms i h) with
  | none =>
    rw [List.find?_eq_none] at e
    exact absurd (alike_self ms h) (e h (List.mem_range.mpr (by omega)))
  | some i =>
    rw [List.find?_range_eq_some] at e
    obtain ⟨h1, h2, h3⟩ := e
    exact ⟨by have := List.mem_range.mp h2; show i ≤ h; omega, h1, fun j hj => by simpa using h3 j hj⟩
def leasts (ms : List Int) (m : Nat) : List Nat := (List.range m).map (leastA ms)
def idles (ms : List Int) (m : Nat) : List Nat := (List.range m).filter (idleB ms)
def swapOk (m i j g : Nat) : Bool := !(bitOn i g && !bitOn j g) || (decide (2 ^ i ≤ g) && decide (g - 2 ^ i + 2 ^ j < 2 ^ m))
theorem swap_all : ∀ m, m < 7 → ∀ i, i < m → ∀ j, j < m → ∀ g, g < 2 ^ m → swapOk m i j g = true := by decide +kernel
theorem swap_in {m i j g : Nat} (hm : m < 7) (hi : i < m) (hj : j < m) (hg : g < 2 ^ m) (h1 : bitOn i g = true) (h2 : bitOn j g = false) : 2 ^ i ≤ g ∧ g - 2 ^ i + 2 ^ j < 2 ^ m := by
  have e := swap_all m hm i hi j hj g hg
  unfold swapOk at e
  rw [h1, h2, Bool.not_false, Bool.and_true, Bool.not_true, Bool.false_or, Bool.and_eq_true, decide_eq_true_eq, decide_eq_true_eq] at e
  exact e
theorem bit_le : ∀ i, i < 6 → ∀ g, g < 64 → bitOn i g = true → 2 ^ i ≤ g := by decide +kernel
theorem hands_few : ∀ m, m < 7 → ∀ g, g < 2 ^ m → (handsM g).length ≤ m := by decide +kernel
theorem own_swap {B H : Hp} {a b : Addr × HO} {cs : Cells} (w : Own B (a :: b :: cs) H) : Own B (b :: a :: cs) H := by
  refine ⟨w.ex, fun q hq => w.cell q ?_, ?_⟩
  · cases hq with
    | head => exact .tail _ (.head _)
    | tail _ hq => cases hq with
      | head => exact .head _
      | tail _ hq => exact .tail _ (.tail _ hq)
  · have h := w.nd
    rw [List.map_cons, List.map_cons, List.nodup_cons, List.nodup_cons] at h ⊢
    refine ⟨fun m => ?_, fun m => h.1 (.tail _ m), h.2.2⟩
    rcases List.mem_cons.mp m with e | m
    · exact h.1 (List.mem_cons.mpr (.inl e.symm))
    · exact h.2.1 m
def difs (ms : List Int) (h : Nat) (l : List Nat) : List Nat := l.filter fun g => !decide (fn ms (g + 2 ^ h) = fn ms g)
theorem difs_yes {ms : List Int} {h i z : Nat} {l : List Nat} (hz : l[i]? = some z) (c : ¬ fn ms (z + 2 ^ h) = fn ms z) : (difs ms h (l.take (i + 1))).map vnat = (difs ms h (l.take i)).map vnat ++ [vnat z] := by
  unfold difs
  rw [List.take_add_one, hz, List.filter_append, List.map_append]
  congr 1
  show (List.filter _ [z]).map vnat = _
  rw [List.filter_cons, if_pos (by rw [decide_eq_false c] <;> rfl)] <;> rfl
theorem difs_no {ms : List Int} {h i z : Nat} {l : List Nat} (hz : l[i]? = some z) (c : fn ms (z + 2 ^ h) = fn ms z) : (difs ms h (l.take (i + 1))).map vnat = (difs ms h (l.take i)).map vnat := by
  unfold difs
  rw [List.take_add_one, hz, List.filter_append, List.map_append]
  show _ ++ (List.filter _ [z]).map vnat = _
  rw [List.filter_cons, if_neg (by rw [decide_eq_true c]; exact Bool.false_ne_true), List.filter_nil, List.map_nil, List.append_nil]
theorem difs_idle (ms : List Int) (h : Nat) : decide (((difs ms h (offs h ms.length)).map fun n : Nat => (n : Int)) = []) = idleB ms h := by
  unfold idleB addsM
  rw [Bool.eq_iff_iff, decide_eq_true_eq, Bool.not_eq_true', List.map_eq_nil_iff]
  unfold difs
  rw [List.filter_eq_nil_iff, List.any_map, Bool.eq_false_iff]
  constructor
  · intro hA hB
    obtain ⟨g, hg, hv⟩ := List.any_eq_true.mp hB
    have h1 := hA g hg
    simp only [Function.comp, Bool.not_eq_true', decide_eq_false_iff_not, Bool.not_eq_true, Bool.not_eq_false', decide_eq_true_eq] at h1 hv
    omega
  · intro hA g hg hv
    apply hA
    refine List.any_eq_true.mpr ⟨g, hg, ?_⟩
    simp only [Function.comp, Bool.not_eq_true', decide_eq_false_iff_not] at hv ⊢
    omega
theorem mem_of_filter_least {ms : List Int} {h m : Nat} (_ : h < m) : leastA ms h ∈ (List.range (h + 1)).filter (fun k => alikeB ms k h) ∧ ∀ y ∈ (List.range (h + 1)).filter (fun k => alikeB ms k h), leastA ms h ≤ y := by
  obtain ⟨e1, e2, e3⟩ := least_ex ms h
  refine ⟨List.mem_filter.mpr ⟨List.mem_range.mpr (by omega), e2⟩, fun y hy => ?_⟩
  have h1 := (List.mem_filter.mp hy).2
  by_cases c : leastA ms h ≤ y
  · exact c
  · have := e3 y (by omega)
    rw [this] at h1; cases h1
/-- an if without an else: what stands behind it is told once -/
theorem x_ifJ {c : TT} {t u : TS} {D : Ends} {σ : L2.St} {H : Hp} (P : Hp → Prop) (hP : ∀ H', P H' → u D σ H') (h : (∀ H', P H' → u D σ H') → c σ H fun b H1 => if b = true then t { D with nx := u D } σ H1 else u D σ H1) : tSeq (tIfS c t tNext) u D σ H := h hP
/-- two lists of whole numbers in one list, told -/
def RetLL (l1 l2 : List Nat) (H : Hp) (Q : VK) : Prop := ∀ p q r H', Own H [(p, .lst [.ref q, .ref r]), (q, .lst (l1.map vnat)), (r, .lst (l2.map vnat))] H' → Q (.ref p) H'
def llD (l1 l2 : List Nat) : PyData := .list [.list ((l1.map fun n : Nat => (n : Int)).map PyData.int), .list ((l2.map fun n : Nat => (n : Int)).map PyData.int)]
theorem dp_ll {K : PySem.W.Frag} {H : Hp} {p q r : Addr} {l1 l2 : List Nat} (h1 : SqL K H p [.ref q, .ref r]) (h2 : SqL K H q (l1.map vnat)) (h3 : SqL K H r (l2.map vnat)) : Dp K H (.ref p) (llD l1 l2) := by
  rw [vnat_map] at h2 h3
  exact .lst h1 (.cons (dp_ints h2) (.cons (dp_ints h3) .nil))
theorem lay_ll (l1 l2 : List Nat) : LayD 3 (llD l1 l2) := LayD.list fun d hd => by
  simp only [List.mem_cons, List.not_mem_nil, or_false] at hd
  rcases hd with rfl | rfl
  · exact LayD.ints
  · exact LayD.ints
theorem x_eqN {K : PySem.W.Frag} {H : Hp} {Q : VK} {p q : Addr} {l : List Nat} (h1 : SqL K H p (l.map vnat)) (h2 : SqL K H q (l.map vnat)) (k : Q (.bl true) H) : rEqX K (.ref p) (.ref q) H Q := by
  rw [vnat_map] at h1 h2
  refine x_eqLI h1 h2 ?_
  rw [decide_eq_true rfl]
  exact k
theorem x_minN {K : PySem.W.Frag} {H : Hp} {Q : VK} {p : Addr} {l : List Nat} {z : Nat} (h : SqL K H p (l.map vnat)) (hz : z ∈ l) (hl : ∀ y ∈ l, z ≤ y) (k : Q (.int (z : Int)) H) : rMin K [.ref p] H Q := by
  rw [vnat_map] at h
  refine ⟨p, _, rfl, h, by rw [List.length_map]; exact List.length_pos_of_mem hz, fun m hm hle => ?_⟩
  obtain ⟨y, hy, rfl⟩ := List.mem_map.mp hm
  have h1 := hl y hy
  have h2 := hle (z : Int) (List.mem_map.mpr ⟨z, hz, rfl⟩)
  have h3 : ((y : Nat) : Int) ≤ (z : Int) := h2
  rw [show y = z by omega]
  exact k
/-- both bits asked at once -/
theorem two_bits : ∀ g, g < 64 → ∀ i, i < 6 → ∀ j, j < 6 → (decide (g &&& (2 ^ i ||| 2 ^ j) = 0)) = (!bitOn i g && !bitOn j g) := by decide +kernel
theorem all_to {p : Nat → Bool} {n : Nat} (h : p n = true) : (List.range (n + 1)).all p = (List.range n).all p := by
  rw [List.range_succ, List.all_append, List.all_cons, List.all_nil, h, Bool.and_true, Bool.and_true]
theorem all_no {p : Nat → Bool} {n k : Nat} (h : p n = false) (hk : n < k) : (List.range k).all p = false := by
  rw [Bool.eq_false_iff]
  intro ha
  have := List.all_eq_true.mp ha n (List.mem_range.mpr hk)
  rw [h] at this; cases this
end Sp

namespace Lw
open PySem PySem.Spec PyProof.Rows L2 Sp
def topS (i : Nat) : Stmt := PySem.Challenge.pw_shareparley_k26_alike_and_idle.main.body.getD i (.Pass ⟨0, 0, 0, 0⟩)
abbrev s_is_whole : Stmt := topS 4
abbrev N_is_whole : List Str := ["thing"]
theorem sc_is_whole : FnScope N_is_whole ["thing"] (defScope s_is_whole) := ⟨rfl, rfl, rfl, by decide +kernel, rfl, by decide +kernel, by decide +kernel⟩
abbrev s_look : Stmt := topS 7
abbrev N_look : List Str := ["table", "many", "number"]
theorem sc_look : FnScope N_look ["table"] (defScope s_look) := ⟨rfl, rfl, rfl, by decide +kernel, rfl, by decide +kernel, by decide +kernel⟩
abbrev s_adds_of : Stmt := topS 9
abbrev N_adds_of : List Str := ["table", "hand", "bit", "group"]
theorem sc_adds_of : FnScope N_adds_of ["table", "hand"] (defScope s_adds_of) := ⟨rfl, rfl, rfl, by decide +kernel, rfl, by decide +kernel, by decide +kernel⟩
abbrev s_are_alike : Stmt := topS 10
abbrev N_are_alike : List Str := ["table", "one", "other", "left", "right", "group"]
theorem sc_are_alike : FnScope N_are_alike ["table", "one", "other"] (defScope s_are_alike) := ⟨rfl, rfl, rfl, by decide +kernel, rfl, by decide +kernel, by decide +kernel⟩
abbrev s_alike : Stmt := topS 11
abbrev N_alike : List Str := ["table", "many", "found", "hand", "least"]
theorem sc_alike : FnScope N_alike ["table"] (defScope s_alike) := ⟨rfl, rfl, rfl, by decide +kernel, rfl, by decide +kernel, by decide +kernel⟩
abbrev s_idle : Stmt := topS 12
abbrev N_idle : List Str := ["table", "many", "hand"]
theorem sc_idle : FnScope N_idle ["table"] (defScope s_idle) := ⟨rfl, rfl, rfl, by decide +kernel, rfl, by decide +kernel, by decide +kernel⟩
abbrev s__law_whole : Stmt := topS 14
abbrev N__law_whole : List Str := ["_law_found"]
theorem sc__law_whole : FnScope N__law_whole ["_law_found"] (defScope s__law_whole) := ⟨rfl, rfl, rfl, by decide +kernel, rfl, by decide +kernel, by decide +kernel⟩
abbrev s__law_cell : Stmt := topS 15
abbrev N__law_cell : List Str := ["_law_script", "_law_k", "_law_number_here"]
theorem sc__law_cell : FnScope N__law_cell ["_law_script", "_law_k"] (defScope s__law_cell) := ⟨rfl, rfl, rfl, by decide +kernel, rfl, by decide +kernel, by decide +kernel⟩
abbrev s__law_number : Stmt := topS 16
abbrev N__law_number : List Str := ["_law_cell_here", "_law_way"]
theorem sc__law_number : FnScope N__law_number ["_law_cell_here", "_law_way"] (defScope s__law_number) := ⟨rfl, rfl, rfl, by decide +kernel, rfl, by decide +kernel, by decide +kernel⟩
abbrev s__law_table : Stmt := topS 17
abbrev N__law_table : List Str := ["_law_script", "_law_head", "_law_size", "_law_table_here", "_law_group", "_law_k"]
theorem sc__law_table : FnScope N__law_table ["_law_script"] (defScope s__law_table) := ⟨rfl, rfl, rfl, by decide +kernel, rfl, by decide +kernel, by decide +kernel⟩
abbrev s__law_shaped : Stmt := topS 18
abbrev N__law_shaped : List Str := ["_law_table_here", "_law_cell_here", "_law_many", "_law_one", "_law_other", "_law_found", "_law_group", "_law_k"]
theorem sc__law_shaped : FnScope N__law_shaped ["_law_table_here", "_law_cell_here"] (defScope s__law_shaped) := ⟨rfl, rfl, rfl, by decide +kernel, rfl, by decide +kernel, by decide +kernel⟩
abbrev s__law_same : Stmt := topS 19
abbrev N__law_same : List Str := ["_law_table_here", "_law_one", "_law_other", "_law_group"]
theorem sc__law_same : FnScope N__law_same ["_law_table_here", "_law_one", "_law_other"] (defScope s__law_same) := ⟨rfl, rfl, rfl, by decide +kernel, rfl, by decide +kernel, by decide +kernel⟩
abbrev s__law_due : Stmt := topS 20
abbrev N__law_due : List Str := ["_law_table_here", "_law_many", "_law_least", "_law_none", "_law_hand", "_law_some", "_law_k", "_law_group"]
theorem sc__law_due : FnScope N__law_due ["_law_table_here"] (defScope s__law_due) := ⟨rfl, rfl, rfl, by decide +kernel, rfl, by decide +kernel, by decide +kernel⟩
abbrev s__law_wholes : Stmt := topS 21
abbrev N__law_wholes : List Str := ["_law_found", "_law_number_here"]
theorem sc__law_wholes : FnScope N__law_wholes ["_law_found"] (defScope s__law_wholes) := ⟨rfl, rfl, rfl, by decide +kernel, rfl, by decide +kernel, by decide +kernel⟩
abbrev s__law_told : Stmt := topS 22
abbrev N__law_told : List Str := ["_law_handed", "_law_idle_first", "_law_none", "_law_least"]
theorem sc__law_told : FnScope N__law_told ["_law_handed", "_law_idle_first"] (defScope s__law_told) := ⟨rfl, rfl, rfl, by decide +kernel, rfl, by decide +kernel, by decide +kernel⟩
abbrev s_law : Stmt := topS 23
abbrev N_law : List Str := ["_law_script", "_law_table_here", "_law_handed", "_law_first", "_law_later", "_law_second", "_law_again"]
theorem sc_law : FnScope N_law ["_law_script"] (defScope s_law) := ⟨rfl, rfl, rfl, by decide +kernel, rfl, by decide +kernel, by decide +kernel⟩
structure Ads where
  a_is_whole : Addr
  d_is_whole : FuncData
  a_look : Addr
  d_look : FuncData
  a_adds_of : Addr
  d_adds_of : FuncData
  a_are_alike : Addr
  d_are_alike : FuncData
  a_alike : Addr
  d_alike : FuncData
  a_idle : Addr
  d_idle : FuncData
  a__law_whole : Addr
  d__law_whole : FuncData
  a__law_cell : Addr
  d__law_cell : FuncData
  a__law_number : Addr
  d__law_number : FuncData
  a__law_table : Addr
  d__law_table : FuncData
  a__law_shaped : Addr
  d__law_shaped : FuncData
  a__law_same : Addr
  d__law_same : FuncData
  a__law_due : Addr
  d__law_due : FuncData
  a__law_wholes : Addr
  d__law_wholes : FuncData
  a__law_told : Addr
  d__law_told : FuncData
  a_law : Addr
  d_law : FuncData
  NoTable : Addr
  t_MOST : Tok
/-- what the top has written -/
structure Txt (K : PySem.W.Frag) (mg : Str → Option Value) (A : Ads) : Prop where
  F_is_whole : Fun K "is_whole" "is_whole" s_is_whole A.a_is_whole A.d_is_whole
  b_is_whole : Binds K A.d_is_whole ["thing"] []
  g_is_whole : mg "is_whole" = some (.ref A.a_is_whole)
  F_look : Fun K "look" "look" s_look A.a_look A.d_look
  b_look : Binds K A.d_look ["table"] []
  g_look : mg "look" = some (.ref A.a_look)
  F_adds_of : Fun K "adds_of" "adds_of" s_adds_of A.a_adds_of A.d_adds_of
  b_adds_of : Binds K A.d_adds_of ["table", "hand"] []
  g_adds_of : mg "adds_of" = some (.ref A.a_adds_of)
  F_are_alike : Fun K "are_alike" "are_alike" s_are_alike A.a_are_alike A.d_are_alike
  b_are_alike : Binds K A.d_are_alike ["table", "one", "other"] []
  g_are_alike : mg "are_alike" = some (.ref A.a_are_alike)
  F_alike : Fun K "alike" "alike" s_alike A.a_alike A.d_alike
  b_alike : Binds K A.d_alike ["table"] []
  g_alike : mg "alike" = some (.ref A.a_alike)
  F_idle : Fun K "idle" "idle" s_idle A.a_idle A.d_idle
  b_idle : Binds K A.d_idle ["table"] []
  g_idle : mg "idle" = some (.ref A.a_idle)
  F__law_whole : Fun K "_law_whole" "_law_whole" s__law_whole A.a__law_whole A.d__law_whole
  b__law_whole : Binds K A.d__law_whole ["_law_found"] []
  g__law_whole : mg "_law_whole" = some (.ref A.a__law_whole)
  F__law_cell : Fun K "_law_cell" "_law_cell" s__law_cell A.a__law_cell A.d__law_cell
  b__law_cell : Binds K A.d__law_cell ["_law_script", "_law_k"] []
  g__law_cell : mg "_law_cell" = some (.ref A.a__law_cell)
  F__law_number : Fun K "_law_number" "_law_number" s__law_number A.a__law_number A.d__law_number
  b__law_number : Binds K A.d__law_number ["_law_cell_here", "_law_way"] []
  g__law_number : mg "_law_number" = some (.ref A.a__law_number)
  F__law_table : Fun K "_law_table" "_law_table" s__law_table A.a__law_table A.d__law_table
  b__law_table : Binds K A.d__law_table ["_law_script"] []
  g__law_table : mg "_law_table" = some (.ref A.a__law_table)
  F__law_shaped : Fun K "_law_shaped" "_law_shaped" s__law_shaped A.a__law_shaped A.d__law_shaped
  b__law_shaped : Binds K A.d__law_shaped ["_law_table_here", "_law_cell_here"] []
  g__law_shaped : mg "_law_shaped" = some (.ref A.a__law_shaped)
  F__law_same : Fun K "_law_same" "_law_same" s__law_same A.a__law_same A.d__law_same
  b__law_same : Binds K A.d__law_same ["_law_table_here", "_law_one", "_law_other"] []
  g__law_same : mg "_law_same" = some (.ref A.a__law_same)
  F__law_due : Fun K "_law_due" "_law_due" s__law_due A.a__law_due A.d__law_due
  b__law_due : Binds K A.d__law_due ["_law_table_here"] []
  g__law_due : mg "_law_due" = some (.ref A.a__law_due)
  F__law_wholes : Fun K "_law_wholes" "_law_wholes" s__law_wholes A.a__law_wholes A.d__law_wholes
  b__law_wholes : Binds K A.d__law_wholes ["_law_found"] []
  g__law_wholes : mg "_law_wholes" = some (.ref A.a__law_wholes)
  F__law_told : Fun K "_law_told" "_law_told" s__law_told A.a__law_told A.d__law_told
  b__law_told : Binds K A.d__law_told ["_law_handed", "_law_idle_first"] []
  g__law_told : mg "_law_told" = some (.ref A.a__law_told)
  F_law : Fun K "law" "law" s_law A.a_law A.d_law
  b_law : Binds K A.d_law ["_law_script"] []
  g_law : mg "law" = some (.ref A.a_law)
  g_NoTable : mg "NoTable" = some (.ref A.NoTable)
  k_NoTable : PySem.W.keepIn K (.ref A.NoTable) = true
  e_NoTable : PySem.W.subIn K (.ref A.NoTable) (.type "BaseException") = some true
  t_NoTable : PySem.W.typeIn K (.ref A.NoTable) = some (.type "type")
  x_NoTable : PySem.W.excIn K A.NoTable [.type "ValueError", .type "Exception", .type "BaseException", .type "object"] "ValueError.__new__" = true
  c_MOST : mg "MOST" = some (.int 6 A.t_MOST)
  z_any : mg "any" = none
  z_bool : mg "bool" = none
  z_int : mg "int" = none
  z_isinstance : mg "isinstance" = none
  z_len : mg "len" = none
  z_list : mg "list" = none
  z_min : mg "min" = none
  z_range : mg "range" = none
local macro_rules | `(tactic| walk_at "x") => `(tactic| repeat (first
  | with_reducible refine x_seq ?_ | with_reducible refine x_asg ?_ | with_reducible refine x_op ?_ | with_reducible refine x_un ?_ | ((with_reducible refine' x_var ?e ?_); (case e => rfl)) | with_reducible refine x_c ?_
  | with_reducible refine x_if ?_ | with_reducible refine x_test ?_ | with_reducible refine x_B ?_ | with_reducible refine x_ex ?_ | with_reducible refine x_exI ?_ | with_reducible refine x_ret ?_ | with_reducible refine x_drop ?_
  | with_reducible refine x_rev ?_ | with_reducible refine x_lstRg1 ?_ | with_reducible refine x_dIn ?_ | with_reducible refine x_dPut ?_ | with_reducible refine x_dNew ?_ | with_reducible refine x_par ?_ | with_reducible refine x_call ?_ | with_reducible refine x_callS ?_ | with_reducible refine x_cons ?_ | with_reducible refine x_nil ?_ | with_reducible refine x_cb ?_
  | with_reducible refine x_addI ?_ | with_reducible refine x_subI ?_ | with_reducible refine x_ltI ?_ | with_reducible refine x_leI ?_ | with_reducible refine x_gtI ?_ | with_reducible refine x_geI ?_ | with_reducible refine x_eqI ?_ | with_reducible refine x_neI ?_
  | with_reducible refine x_eqS ?_ | with_reducible refine x_eqB ?_ | with_reducible refine x_isX ?_ | with_reducible refine x_isN ?_ | with_reducible refine x_notN ?_ | with_reducible refine x_ipI ?_
  | with_reducible refine x_andI ?_ | with_reducible refine x_orI ?_ | with_reducible refine x_xorI ?_ | with_reducible refine x_U ?_
  | with_reducible refine x_and ?_ | with_reducible refine x_or ?_ | with_reducible refine x_not ?_ | with_reducible refine x_andV ?_ | with_reducible refine x_orV ?_ | with_reducible refine x_notV ?_ | with_reducible refine x_ifE ?_
  | with_reducible refine x_for ?_ | with_reducible refine x_iList ?_ | with_reducible refine x_iTup ?_ | with_reducible refine x_iR1 ?_ | with_reducible refine x_iR2 ?_ | with_reducible refine x_iZip ?_ | with_reducible refine x_iEnum ?_
  | with_reducible refine x_sl ?_ | with_reducible refine x_noPart ?_ | with_reducible refine x_part ?_ | with_reducible refine x_asgS ?_ | with_reducible refine x_augS ?_ | ((with_reducible refine' x_aug ?e ?_); (case e => rfl))
  | with_reducible refine x_bm ?_ | with_reducible refine x_bm0 ?_ | with_reducible refine x_tup ?_ | with_reducible refine x_lst ?_ | with_reducible refine x_next ?_ | with_reducible refine x_retN ?_ | with_reducible refine x_brk ?_ | with_reducible refine x_ct ?_
  | with_reducible refine x_lc ?_ | with_reducible refine x_yes ?_ | with_reducible refine x_gn ?_ | with_reducible refine x_gc ?_ | with_reducible refine x_g0 ?_ | with_reducible refine x_abs ?_ | with_reducible refine x_max2 ?_ | with_reducible refine x_min2 ?_))
local macro_rules | `(tactic| walk_at "sq") => `(tactic| first
  | assumption | exact .inl (by assumption) | exact Own.sq (by assumption) 0 rfl | exact Own.sq (by assumption) 1 rfl | exact Own.sq (by assumption) 2 rfl | exact Own.sq (by assumption) 3 rfl
  | exact Own.seq (by assumption) (by first | assumption | exact .inl (by assumption)))
section
variable {P : Program} {w : World} {K : PySem.W.Frag} {mg : Str → Option Value} {base : Heap} {A : Ads}
/-! ### is_whole -/
def sp_is_whole : Sp := fun vs H Q _ => ∃ v, vs = [v] ∧ Thing H v ∧ RetV (.bl (isI v)) H Q
theorem ok_is_whole (T : Txt K mg A) : FnOk P w K mg base (L2.CX P w) 1 A.a_is_whole A.d_is_whole ["thing"] sp_is_whole := by
  refine T.F_is_whole.okX sc_is_whole (fun vs H Q E h => ?_) (fun cdv A0 outer s H vs Q E hr h => ?_)
  · obtain ⟨v, rfl, _⟩ := h; rfl
  · obtain ⟨v, rfl, hv, k⟩ := h
    refine ⟨_, (pss_cons (ps_if (PW.pt (pw_or (pt_cmpR op_isX (pv 0) pe_bl (nomark _)) (pw_or1 (pt_cmpR op_isX (pv 0) pe_bl (nomark _))))) (pss_one (ps_ret pe_bl)) pss_nil)
      (pss_one (ps_ret (pe_callB (call_isiX (K := K) rfl) (by rfl) T.z_isinstance (by decide +kernel) (pa_cons (pv 0) (pa_cons (pe_bltn (v := .ty "int") (by rfl) T.z_int (by decide +kernel) rfl) pa_nil)))))), ?_⟩
    walk_at "x"
    have go : isB v = false → rIsi K [v, .ty "int"] H Q := fun e => x_isiInt hv (by rw [e, Bool.or_false]; exact k.go (Same.refl H))
    cases v with
    | bl b =>
      cases b
      · refine iteF ?_
        walk_at "x"
        exact iteT (k.go (Same.refl H))
      · exact iteT (iteT (k.go (Same.refl H)))
    | _ =>
      refine iteF ?_
      walk_at "x"
      refine iteF ?_
      walk_at "x"
      exact go rfl

/-! ### look -/
def sp_look (A : Ads) : Sp := fun vs H Q E => ∃ (a : Addr) (xs : List V), vs = [.ref a] ∧ Rd H a (.lst xs) ∧ (∀ v ∈ xs, Thing H v) ∧
  (∀ n, lookM xs = some n → RetV (.int n) H Q) ∧ (lookM xs = none → ∀ H', Same H H' → E (.ref A.NoTable) none H')
theorem ok_look (T : Txt K mg A) : FnOk P w K mg base (L2.CX P w) 2 A.a_look A.d_look ["table"] (sp_look A) := by
  refine T.F_look.okX sc_look (fun vs H Q E h => ?_) (fun cdv A0 outer s H vs Q E hr h => ?_)
  · obtain ⟨a, xs, rfl, _⟩ := h; rfl
  · obtain ⟨a, xs, rfl, hR, hT, k, kE⟩ := h
    have hS : SqL K H a xs := .inl hR
    refine ⟨_, (pss_cons (ps_set (i := 1) sc_look.nd rfl (.inl rfl) pe_int)
      (pss_cons (ps_while (passes_of rfl) (PW.pt (pw_and (pt_cmpR op_ltX (pv 1) (pe_glob (v := .int 6) (by rfl) T.c_MOST ⟨_, rfl⟩) (nomark _)) (pw_and1 (pt_cmpR op_ltX (pe_op op_shlX pe_int (pv 1)) (pe_callB (call_lenK (K := K) rfl) (by rfl) T.z_len (by decide +kernel) (pa_cons (pv 0) pa_nil)) (nomark _))))) (pss_one (ps_set (i := 1) sc_look.nd rfl (.inl rfl) (pe_op op_addX (pv 1) pe_int))))
      (pss_cons (ps_if (pt_cmpR (op_neK (K := K) rfl hr.units) (pe_callB (call_lenK (K := K) rfl) (by rfl) T.z_len (by decide +kernel) (pa_cons (pv 0) pa_nil)) (pe_op op_shlX pe_int (pv 1)) (nomark _)) (pss_one (ps_raise rfl (takes_of rfl rfl rfl rfl) (pmk_own PySem.F.excBase_ValueError T.x_NoTable T.g_NoTable T.k_NoTable (raises_own T.e_NoTable T.t_NoTable) (by rfl)))) pss_nil)
      (pss_cons (ps_for (passes_of rfl) rfl (pi_listK (K := K) rfl (pv 0)) (pg_name (i := 2) sc_look.nd rfl (.inl rfl)) (pss_one (ps_if (pt_not (pt_val (pe_call (ok_is_whole T) (hr.mono (by decide)) (by rfl) T.g_is_whole T.F_is_whole.kp T.b_is_whole .nil (passes_call (takes_of rfl rfl rfl rfl) (fun _ _ _ _ h => h)) (pa_cons (pv 2) pa_nil)))) (pss_one (ps_raise rfl (takes_of rfl rfl rfl rfl) (pmk_own PySem.F.excBase_ValueError T.x_NoTable T.g_NoTable T.k_NoTable (raises_own T.e_NoTable T.t_NoTable) (by rfl)))) pss_nil)))
      (pss_cons (ps_if (pt_cmpR (op_neK (K := K) rfl hr.units) (pe_ix (ix_seqK (K := K) rfl) (pv 0) pe_int (fun _ _ => rfl)) pe_int (nomark _)) (pss_one (ps_raise rfl (takes_of rfl rfl rfl rfl) (pmk_own PySem.F.excBase_ValueError T.x_NoTable T.g_NoTable T.k_NoTable (raises_own T.e_NoTable T.t_NoTable) (by rfl)))) pss_nil)
      (pss_one (ps_ret (pv 1)))))))), ?_⟩
    walk_at "x"
    refine x_while (fun m σ' H' => ∃ k : Nat, σ' = [some (.ref a), some (.int k), none] ∧ H' = H ∧ m = 6 - k ∧ 1 ≤ k ∧ k ≤ 6 ∧ (k = 1 ∨ 2 ^ (k - 1) < xs.length)) 5 ⟨1, rfl, rfl, rfl, by decide, by decide, .inl rfl⟩ ?_
    rintro m σ' H' ⟨n, rfl, rfl, rfl, h1, h6, hlo⟩
    have out : (n = 6 ∨ xs.length ≤ 2 ^ n) → manyOf xs.length = n := fun h => manyOf_is h1 h6 hlo h
    walk_at "x"
    -- what stands behind the loop
    have fin : manyOf xs.length = n → tSeq
        (tIfS (tTest (tOp (rNeX K) (tCB (rLen K) (tCons (tVar 0) tNil)) (tOp rShl (tC (V.int 1)) (tVar 1)))) (fun x σ H => E (.ref A.NoTable) none H) tNext) (tSeq
        (tFor (iList K (tVar 0)) (gName 2) (tIfS (tNot (tB (tCall sp_is_whole [] E (tCons (tVar 2) tNil)))) (fun x σ H => E (.ref A.NoTable) none H) tNext)) (tSeq
        (tIfS (tTest (tOp (rNeX K) (tOp (rIx K) (tVar 0) (tC (V.int 0))) (tC (V.int 0)))) (fun x σ H => E (.ref A.NoTable) none H) tNext) (tRet (tVar 1))))
        { nx := fun _ H' => Q .non H', rt := Q } [some (.ref a), some (.int n), none] H' := fun en => by
      have bad' : ∀ H2, Same H' H2 → ¬ (xs.length = 2 ^ manyOf xs.length ∧ xs.all isI = true ∧ xs[0]? = some (.int 0)) → E (.ref A.NoTable) none H2 := fun H2 s2 z => kE (by unfold lookM; rw [if_neg z]) H2 s2
      walk_at "x"
      refine x_lenL hS ?_
      walk_at "x"
      refine x_shl ⟨by omega, by omega, by decide⟩ ?_
      walk_at "x"
      have e1 : (1 : Int) * 2 ^ (n : Int).toNat = ((2 ^ n : Nat) : Int) := by rw [Int.one_mul, Int.toNat_natCast, Int.natCast_pow] <;> rfl
      rw [e1]
      by_cases c1 : xs.length = 2 ^ n
      · rw [decide_eq_true (show (xs.length : Int) = ((2 ^ n : Nat) : Int) by omega)]
        refine iteF ?_
        walk_at "x"
        refine ⟨_, rfl, ⟨_, hS⟩, for_list (xs := xs) (fun i σ' H2 => (∃ v, σ' = [some (.ref a), some (.int n), v]) ∧ Same H' H2 ∧ (xs.take i).all isI = true) ⟨⟨_, rfl⟩, Same.refl _, rfl⟩ (fun i σ' H2 _ p => p.2.1.seq hS) ?_ ?_⟩
        · rintro i x σ' H2 hx ⟨⟨v, rfl⟩, s2, p⟩
          have hxm := List.mem_of_getElem? hx
          walk_at "x"
          refine ⟨x, rfl, (hT x hxm).same s2, fun H3 s3 => ?_⟩
          walk_at "x"
          cases hI : isI x with
          | false =>
            refine iteT (bad' H3 (s2.trans s3) fun z => ?_)
            have := List.all_eq_true.mp z.2.1 x hxm
            rw [hI] at this; cases this
          | true =>
            refine iteF ?_
            walk_at "x"
            refine ⟨⟨_, rfl⟩, s2.trans s3, ?_⟩
            rw [List.take_add_one, hx, List.all_append, p]
            simp [hI]
        · rintro σ' H2 ⟨⟨v, rfl⟩, s2, p⟩
          rw [List.take_length] at p
          walk_at "x"
          have h0 : 0 < xs.length := by rw [c1]; exact Nat.two_pow_pos n
          have hI := List.all_eq_true.mp p xs[0] (List.getElem_mem h0)
          obtain ⟨z, hz⟩ : ∃ z, xs[0] = .int z := by
            cases e : xs[0] with
            | int z => exact ⟨z, rfl⟩
            | _ => rw [e] at hI; cases hI
          have h0' : xs[0]? = some (.int z) := by rw [List.getElem?_eq_getElem h0, hz]
          refine x_ixXL (s2.seq hS) (atI_nat (j := 0) h0') ?_
          walk_at "x"
          by_cases ez : z = 0
          · rw [decide_eq_true ez]
            refine iteF ?_
            walk_at "x"
            refine k n (by unfold lookM; rw [en, if_pos ⟨c1, p, by rw [h0', ez]⟩]) _ s2
          · rw [decide_eq_false ez]
            refine iteT (bad' H2 s2 fun y => ez ?_)
            rw [h0'] at y
            exact V.int.inj (Option.some.inj y.2.2)
      · rw [decide_eq_false (show ¬ (xs.length : Int) = ((2 ^ n : Nat) : Int) by omega)]
        exact iteT (bad' H' (Same.refl _) fun z => c1 (by rw [en] at z; exact z.1))
    by_cases hk : (n : Int) < 6
    · rw [decide_eq_true hk]
      refine iteT ?_
      walk_at "x"
      refine x_shl ⟨by omega, by omega, by decide⟩ ?_
      walk_at "x"
      refine x_lenL hS ?_
      walk_at "x"
      have e1 : (1 : Int) * 2 ^ (n : Int).toNat = ((2 ^ n : Nat) : Int) := by rw [Int.one_mul, Int.toNat_natCast, Int.natCast_pow] <;> rfl
      rw [e1]
      refine ite2 (fun hl => ?_) (fun hl => ?_)
      · have hl := of_decide_eq_true hl
        refine x_N ?_
        walk_at "x"
        exact ⟨6 - (n + 1), by omega, n + 1, by rw [Int.natCast_add] <;> rfl, rfl, rfl, by omega, by omega, .inr (by rw [Nat.add_sub_cancel]; omega)⟩
      · exact fin (out (.inr (by have := mt decide_eq_true hl; omega)))
    · rw [decide_eq_false hk]
      exact iteF (fin (out (.inl (by omega))))

/-! ### adds_of -/
def sp_adds_of (K : PySem.W.Frag) : Sp := fun vs H Q _ => ∃ (a : Addr) (ms : List Int) (m h : Nat), vs = [.ref a, .int (h : Int)] ∧ SqL K H a (ms.map V.int) ∧ Tab ms m ∧ h < m ∧ RetL ((addsM ms h).map V.int) H Q
theorem ok_adds_of (T : Txt K mg A) : FnOk P w K mg base (L2.CX P w) 1 A.a_adds_of A.d_adds_of ["table", "hand"] (sp_adds_of K) := by
  refine T.F_adds_of.okX sc_adds_of (fun vs H Q E h => ?_) (fun cdv A0 outer s H vs Q E hr h => ?_)
  · obtain ⟨a, ms, m, h, rfl, _⟩ := h; rfl
  · obtain ⟨a, ms, m, h, rfl, hS, tb, hh, k⟩ := h
    have hp := tb.pos
    have hm := tb.hi
    have ht := tb.len
    have w := Own.start (H := H)
    refine ⟨_, (pss_cons (ps_set (i := 2) sc_adds_of.nd rfl (.inr rfl) (pe_op op_shlX pe_int (pv 1)))
      (pss_one (ps_ret (pe_lc (own := [("group", 3)]) rfl sc_adds_of.nd (pi_range1 (by rfl) T.z_range (pa_cons (pe_callB (call_lenK (K := K) rfl) (by rfl) T.z_len (by decide +kernel) (pa_cons (pv 0) pa_nil)) pa_nil)) (blkOk_by (own := [("group", 3)]) (N := N_adds_of) (sc := defScope s_adds_of) (by decide +kernel)) (fun _ _ _ _ _ => (pg_name (i := 3) sc_adds_of.nd rfl (.inl rfl))) (fun _ _ _ _ _ => (pts_one (pt_cmpR (op_eqK (K := K) rfl hr.units) (pe_op op_andX (pv 3) (pv 2)) pe_int (nomark _)))) (fun _ _ _ _ _ => (pe_op op_subX (pe_ix (ix_seqK (K := K) rfl) (pv 0) (pe_op op_orX (pv 3) (pv 2)) (fun _ _ => rfl)) (pe_ix (ix_seqK (K := K) rfl) (pv 0) (pv 3) (fun _ _ => rfl)))))))), ?_⟩
    walk_at "x"
    refine x_shl ⟨by omega, by omega, by decide⟩ ?_
    rw [shl_nat]
    walk_at "x"
    refine x_lenL hS ?_
    walk_at "x"
    rw [List.length_map]
    refine ⟨_, rfl, by omega, by omega, cp_r0 (fun i => ((List.range i).filter fun g => !bitOn h g).map fun g => V.int (fn ms (g + 2 ^ h) - fn ms g)) w rfl ?_ ?_⟩
    · intro D i H' hi p
      walk_at "x"
      refine ⟨rfl, ?_⟩
      walk_at "x"
      rw [and_nat, show decide (((i &&& 2 ^ h : Nat) : Int) = 0) = !bitOn h i by rw [← bitOn_iff, Bool.not_not]]
      cases c : bitOn h i with
      | false =>
        obtain ⟨f1, f2⟩ := off_bit (by omega) hh (show i < 2 ^ m by omega) c
        refine iteT ?_
        walk_at "x"
        rw [or_nat, f1]
        refine x_ixXL (Own.seq p hS) (at_int (by omega) (by omega)) ?_
        walk_at "x"
        refine x_ixXL (Own.seq p hS) (at_int (by omega) (by omega)) ?_
        walk_at "x"
        exact cp_fin p (filter_yes (p := fun g => !bitOn h g) (by rw [c] <;> rfl) _) (by rw [List.length_map]; have := filter_len (fun g => !bitOn h g) i; omega)
      | true => exact iteF (cp_no p (filter_no (p := fun g => !bitOn h g) (by rw [c] <;> rfl) _))
    · intro D H' w2
      rw [Int.toNat_natCast] at w2
      have e : ((List.range ms.length).filter fun g => !bitOn h g).map (fun g => V.int (fn ms (g + 2 ^ h) - fn ms g)) = (addsM ms h).map V.int := by
        unfold addsM offs
        rw [List.map_map] <;> rfl
      rw [e] at w2
      exact k.go w2

/-! ### are_alike -/
def sp_are_alike (K : PySem.W.Frag) : Sp := fun vs H Q _ => ∃ (a : Addr) (ms : List Int) (m i j : Nat), vs = [.ref a, .int (i : Int), .int (j : Int)] ∧ SqL K H a (ms.map V.int) ∧ Tab ms m ∧ i < m ∧ j < m ∧ RetV (.bl (alikeB ms i j)) H Q
theorem ok_are_alike (T : Txt K mg A) : FnOk P w K mg base (L2.CX P w) 1 A.a_are_alike A.d_are_alike ["table", "one", "other"] (sp_are_alike K) := by
  refine T.F_are_alike.okX sc_are_alike (fun vs H Q E h => ?_) (fun cdv A0 outer s H vs Q E hr h => ?_)
  · obtain ⟨a, ms, m, i, j, rfl, _⟩ := h; rfl
  · obtain ⟨a, ms, m, i, j, rfl, hS, tb, hi, hj, k⟩ := h
    have hm := tb.hi
    have hp := tb.pos
    have ht := tb.len
    have w := Own.start (H := H)
    refine ⟨_, (pss_cons (ps_set (i := 3) sc_are_alike.nd rfl (.inl rfl) (pe_op op_shlX pe_int (pv 1)))
      (pss_cons (ps_set (i := 4) sc_are_alike.nd rfl (.inl rfl) (pe_op op_shlX pe_int (pv 2)))
      (pss_cons (ps_for (passes_of rfl) rfl (pi_range1 (by rfl) T.z_range (pa_cons (pe_callB (call_lenK (K := K) rfl) (by rfl) T.z_len (by decide +kernel) (pa_cons (pv 0) pa_nil)) pa_nil)) (pg_name (i := 5) sc_are_alike.nd rfl (.inl rfl)) (pss_one (ps_if (PW.pt (pw_and (pt_cmpR (op_eqK (K := K) rfl hr.units) (pe_op op_andX (pv 5) (pe_op op_orX (pv 3) (pv 4))) pe_int (nomark _)) (pw_and1 (pt_cmpR (op_neK (K := K) rfl hr.units) (pe_ix (ix_seqK (K := K) rfl) (pv 0) (pe_op op_orX (pv 5) (pv 3)) (fun _ _ => rfl)) (pe_ix (ix_seqK (K := K) rfl) (pv 0) (pe_op op_orX (pv 5) (pv 4)) (fun _ _ => rfl)) (nomark _))))) (pss_one (ps_ret pe_bl)) pss_nil)))
      (pss_one (ps_ret pe_bl))))), ?_⟩
    walk_at "x"
    refine x_shl ⟨by omega, by omega, by decide⟩ ?_
    rw [shl_nat]
    walk_at "x"
    refine x_shl ⟨by omega, by omega, by decide⟩ ?_
    rw [shl_nat]
    walk_at "x"
    refine x_lenL hS ?_
    walk_at "x"
    rw [List.length_map]
    refine ⟨_, rfl, by omega, by omega, for_r0 (n := (ms.length : Int)) (fun q σ' H' => (∃ v, σ' = [some (.ref a), some (.int (i : Int)), some (.int (j : Int)), some (vnat (2 ^ i)), some (vnat (2 ^ j)), v]) ∧ Own H [] H' ∧ (List.range q).all (fun g => bitOn i g || bitOn j g || decide (fn ms (g ||| 2 ^ i) = fn ms (g ||| 2 ^ j))) = true) ⟨⟨_, rfl⟩, w, rfl⟩ ?_ ?_⟩
    · rintro g σ' H' hg ⟨⟨v, rfl⟩, w, ok⟩
      have hg64 : g < 64 := by omega
      walk_at "x"
      rw [or_nat]
      walk_at "x"
      rw [and_nat, show decide (((g &&& (2 ^ i ||| 2 ^ j) : Nat) : Int) = 0) = (!bitOn i g && !bitOn j g) by rw [← two_bits g hg64 i (by omega) j (by omega)]; exact decide_eq_decide.mpr (by omega)]
      cases ci : bitOn i g with
      | true =>
        refine iteF ?_
        refine iteF ?_
        walk_at "x"
        exact ⟨⟨_, rfl⟩, w, by rw [all_to (by rw [ci] <;> rfl)]; exact ok⟩
      | false =>
        cases cj : bitOn j g with
        | true =>
          refine iteF ?_
          refine iteF ?_
          walk_at "x"
          exact ⟨⟨_, rfl⟩, w, by rw [all_to (by rw [ci, cj] <;> rfl)]; exact ok⟩
        | false =>
          obtain ⟨f1, f2⟩ := off_bit (by omega) hi (show g < 2 ^ m by omega) ci
          obtain ⟨g1, g2⟩ := off_bit (by omega) hj (show g < 2 ^ m by omega) cj
          refine iteT ?_
          walk_at "x"
          rw [or_nat]
          refine x_ixXL (w.seq hS) (at_int (by omega) (by omega)) ?_
          walk_at "x"
          rw [or_nat]
          refine x_ixXL (w.seq hS) (at_int (by omega) (by omega)) ?_
          walk_at "x"
          by_cases c : gi ms ((g ||| 2 ^ i : Nat) : Int) = gi ms ((g ||| 2 ^ j : Nat) : Int)
          · rw [decide_eq_true c]
            refine iteF ?_
            walk_at "x"
            exact ⟨⟨_, rfl⟩, w, by rw [all_to (by rw [ci, cj, decide_eq_true (show fn ms (g ||| 2 ^ i) = fn ms (g ||| 2 ^ j) from c)] <;> rfl)]; exact ok⟩
          · rw [decide_eq_false c]
            refine iteT ?_
            walk_at "x"
            unfold alikeB at k
            rw [all_no (n := g) (by rw [ci, cj, decide_eq_false (show ¬ fn ms (g ||| 2 ^ i) = fn ms (g ||| 2 ^ j) from c)] <;> rfl) (by omega)] at k
            exact k.go w.ex
    · rintro σ' H' ⟨⟨v, rfl⟩, w, ok⟩
      walk_at "x"
      rw [Int.toNat_natCast] at ok
      unfold alikeB at k
      rw [ok] at k
      exact k.go w.ex

/-! ### alike -/
def sp_alike : Sp := fun vs H Q _ => ∃ (a : Addr) (ms : List Int) (m : Nat), vs = [.ref a] ∧ Rd H a (.lst (ms.map V.int)) ∧ Tab ms m ∧ RetL ((leasts ms m).map vnat) H Q
theorem ok_alike (T : Txt K mg A) : FnOk P w K mg base (L2.CX P w) 3 A.a_alike A.d_alike ["table"] sp_alike := by
  refine T.F_alike.okX sc_alike (fun vs H Q E h => ?_) (fun cdv A0 outer s H vs Q E hr h => ?_)
  · obtain ⟨a, ms, m, rfl, _⟩ := h; rfl
  · obtain ⟨a, ms, m, rfl, hR, tb, k⟩ := h
    have hS : SqL K H a (ms.map V.int) := .inl hR
    have hm := tb.hi
    refine ⟨_, (pss_cons (ps_set (i := 1) sc_alike.nd rfl (.inl rfl) (pe_call (ok_look T) (hr.mono (by decide)) (by rfl) T.g_look T.F_look.kp T.b_look .nil (passes_call (takes_of rfl rfl rfl rfl) (fun _ _ _ _ h => h)) (pa_cons (pv 0) pa_nil)))
      (pss_cons (ps_set (i := 2) sc_alike.nd rfl (.inl rfl) (pe_lst pa_nil))
      (pss_cons (ps_for (passes_of rfl) rfl (pi_range1 (by rfl) T.z_range (pa_cons (pv 1) pa_nil)) (pg_name (i := 3) sc_alike.nd rfl (.inl rfl)) (pss_cons (ps_set (i := 4) sc_alike.nd rfl (.inl rfl) pe_int)
      (pss_cons (ps_while (passes_of rfl) (pt_not (pt_val (pe_call (ok_are_alike T) (hr.mono (by decide)) (by rfl) T.g_are_alike T.F_are_alike.kp T.b_are_alike .nil (passes_call (takes_of rfl rfl rfl rfl) (fun _ _ _ _ h => h)) (pa_cons (pv 0) (pa_cons (pv 4) (pa_cons (pv 3) pa_nil)))))) (pss_one (ps_aug (i := 4) sc_alike.nd rfl (.inl rfl) pe_int ip_add)))
      (pss_one (ps_expr (pe_bm PySem.F.plainAttrs_list PySem.F.slot_list_append PySem.F.type_list_append mt_append (pv 2) (pa_cons (pv 4) pa_nil)))))))
      (pss_one (ps_ret (pv 2)))))), ?_⟩
    walk_at "x"
    refine ⟨a, _, rfl, hR, things_int, fun n hn H1 s1 => ?_, fun hn => by rw [tb.look] at hn; cases hn⟩
    rw [tb.look] at hn
    obtain rfl := (Option.some.inj hn).symm
    have w := Own.start.ext s1
    walk_at "x"
    refine ⟨Nat.zero_le _, fun p np => ?_⟩
    have w2 := w.new (o := .lst []) np
    walk_at "x"
    refine ⟨_, rfl, by omega, by omega, for_r0 (fun i σ' H' => (∃ v1 v2, σ' = [some (.ref a), some (.int (m : Int)), some (.ref p), v1, v2]) ∧ Own H [(p, .lst (((List.range i).map (leastA ms)).map vnat))] H') ⟨⟨_, _, rfl⟩, w2⟩ ?_ ?_⟩
    · rintro h σ' H5 hh ⟨⟨v1, v2, rfl⟩, w5⟩
      have hhm : h < m := by omega
      obtain ⟨e1, e2, e3⟩ := least_ex ms h
      walk_at "x"
      refine x_while (fun d σ' H' => ∃ l : Nat, σ' = [some (.ref a), some (.int (m : Int)), some (.ref p), some (.int (h : Int)), some (.int (l : Int))] ∧ Own H [(p, .lst (((List.range h).map (leastA ms)).map vnat))] H' ∧ d = leastA ms h - l ∧ l ≤ leastA ms h) (leastA ms h) ⟨0, rfl, w5, rfl, Nat.zero_le _⟩ ?_
      rintro d σ' H6 ⟨l, rfl, w6, rfl, hl⟩
      walk_at "x"
      refine ⟨a, ms, m, l, h, rfl, w6.seq hS, tb, by omega, hhm, fun H7 s7 => ?_⟩
      have w7 := w6.ext s7
      walk_at "x"
      by_cases c : l = leastA ms h
      · rw [c, e2]
        refine iteF ?_
        walk_at "x"
        refine ⟨x_tyL (w7.get 0 rfl), ?_⟩
        walk_at "x"
        refine x_append (w7.get 0 rfl) (by rw [List.length_map, List.length_map, List.length_range]; exact small1000 (by omega)) ?_
        have w8 := w7.put (o' := .lst (((List.range (h + 1)).map (leastA ms)).map vnat)) 0 rfl
        have e : ((List.range (h + 1)).map (leastA ms)).map vnat = ((List.range h).map (leastA ms)).map vnat ++ [vnat (leastA ms h)] := by rw [range_map, List.map_append] <;> rfl
        rw [e] at w8
        exact ⟨⟨_, _, rfl⟩, by rw [e]; exact w8⟩
      · rw [e3 l (by omega)]
        refine iteT ?_
        refine x_N ?_
        walk_at "x"
        exact ⟨leastA ms h - (l + 1), by omega, l + 1, rfl, w7, rfl, by omega⟩
    · rintro σ' H5 ⟨⟨v1, v2, rfl⟩, w5⟩
      rw [Int.toNat_natCast] at w5
      walk_at "x"
      exact k.go w5

/-! ### idle -/
def sp_idle : Sp := fun vs H Q _ => ∃ (a : Addr) (ms : List Int) (m : Nat), vs = [.ref a] ∧ Rd H a (.lst (ms.map V.int)) ∧ Tab ms m ∧ RetL ((idles ms m).map vnat) H Q
theorem ok_idle (T : Txt K mg A) : FnOk P w K mg base (L2.CX P w) 3 A.a_idle A.d_idle ["table"] sp_idle := by
  refine T.F_idle.okX sc_idle (fun vs H Q E h => ?_) (fun cdv A0 outer s H vs Q E hr h => ?_)
  · obtain ⟨a, ms, m, rfl, _⟩ := h; rfl
  · obtain ⟨a, ms, m, rfl, hR, tb, k⟩ := h
    have hS : SqL K H a (ms.map V.int) := .inl hR
    have hm := tb.hi
    refine ⟨_, (pss_cons (ps_set (i := 1) sc_idle.nd rfl (.inl rfl) (pe_call (ok_look T) (hr.mono (by decide)) (by rfl) T.g_look T.F_look.kp T.b_look .nil (passes_call (takes_of rfl rfl rfl rfl) (fun _ _ _ _ h => h)) (pa_cons (pv 0) pa_nil)))
      (pss_one (ps_ret (pe_lc (own := [("hand", 2)]) rfl sc_idle.nd (pi_range1 (by rfl) T.z_range (pa_cons (pv 1) pa_nil)) (blkOk_by (own := [("hand", 2)]) (N := N_idle) (sc := defScope s_idle) (by decide +kernel)) (fun _ _ _ _ _ => (pg_name (i := 2) sc_idle.nd rfl (.inl rfl))) (fun _ _ _ _ _ => (pts_one (pt_not (pt_val (pe_callB (cr_anyIK (K := K) rfl rfl) (by rfl) T.z_any (by decide +kernel) (pa_cons (pe_call (ok_adds_of T) (hr.mono (by decide)) (by rfl) T.g_adds_of T.F_adds_of.kp T.b_adds_of .nil passL (pa_cons (pv 0) (pa_cons (pv 2) pa_nil))) pa_nil)))))) (fun _ _ _ _ _ => (pv 2)))))), ?_⟩
    walk_at "x"
    refine ⟨a, _, rfl, hR, things_int, fun n hn H1 s1 => ?_, fun hn => by rw [tb.look] at hn; cases hn⟩
    rw [tb.look] at hn
    obtain rfl := (Option.some.inj hn).symm
    have w := Own.start.ext s1
    walk_at "x"
    refine ⟨_, rfl, by omega, by omega, cp_r0 (fun i => ((List.range i).filter (idleB ms)).map vnat) w rfl ?_ ?_⟩
    · intro D i H' hi p
      walk_at "x"
      refine ⟨rfl, ?_⟩
      walk_at "x"
      refine ⟨a, ms, m, i, rfl, Own.seq p hS, tb, by omega, fun p2 H2 n2 s2 c2 => ?_⟩
      have w2 := Own.newE p n2 s2 c2
      walk_at "x"
      refine x_anyI (w2.sq 0 rfl) ?_
      have p2 := Own.pop w2
      cases c : (addsM ms i).any fun n => !decide (n = 0) with
      | false =>
        walk_at "x"
        refine iteT ?_
        walk_at "x"
        exact cp_fin p2 (filter_yes (p := idleB ms) (by unfold idleB; rw [c] <;> rfl) vnat) (by rw [List.length_map]; have := filter_len (idleB ms) i; omega)
      | true =>
        walk_at "x"
        exact iteF (cp_no p2 (filter_no (p := idleB ms) (by unfold idleB; rw [c] <;> rfl) vnat))
    · intro D H' w2
      rw [Int.toNat_natCast] at w2
      exact k.go w2

/-! ### _law_whole -/
def sp__law_whole : Sp := fun vs H Q _ => ∃ v, vs = [v] ∧ Thing H v ∧ RetV (.bl (isI v)) H Q
theorem ok__law_whole (T : Txt K mg A) : FnOk P w K mg base (L2.CX P w) 1 A.a__law_whole A.d__law_whole ["_law_found"] sp__law_whole := by
  refine T.F__law_whole.okX sc__law_whole (fun vs H Q E h => ?_) (fun cdv A0 outer s H vs Q E hr h => ?_)
  · obtain ⟨v, rfl, _⟩ := h; rfl
  · obtain ⟨v, rfl, hv, k⟩ := h
    refine ⟨_, (pss_one (ps_ret (pe_and (pe_callB (call_isiX (K := K) rfl) (by rfl) T.z_isinstance (by decide +kernel) (pa_cons (pv 0) (pa_cons (pe_bltn (v := .ty "int") (by rfl) T.z_int (by decide +kernel) rfl) pa_nil))) (pe_one (pe_not (pe_callB (call_isiX (K := K) rfl) (by rfl) T.z_isinstance (by decide +kernel) (pa_cons (pv 0) (pa_cons (pe_bltn (v := .ty "bool") (by rfl) T.z_bool (by decide +kernel) rfl) pa_nil)))))))), ?_⟩
    walk_at "x"
    refine x_isiInt hv ?_
    walk_at "x"
    have e : isI v = ((isI v || isB v) && !isB v) := by cases v <;> rfl
    have k' := k.go (Same.refl H)
    rw [e] at k'
    cases c : (isI v || isB v) with
    | false => rw [c, Bool.false_and] at k'; exact iteF k'
    | true =>
      rw [c, Bool.true_and] at k'
      refine iteT ?_
      walk_at "x"
      refine x_isiBool hv ?_
      walk_at "x"
      exact k'

/-! ### _law_cell -/
def sp__law_cell (K : PySem.W.Frag) : Sp := fun vs H Q _ => ∃ (a : Addr) (ns : List Int) (j : Int), vs = [.ref a, .int j] ∧ SqL K H a (ns.map V.int) ∧ ns.length ≤ 63 ∧ 0 ≤ j ∧ j < 2 ^ 20 ∧ ∀ z, RetV (.int z) H Q
theorem ok__law_cell (T : Txt K mg A) : FnOk P w K mg base (L2.CX P w) 1 A.a__law_cell A.d__law_cell ["_law_script", "_law_k"] (sp__law_cell K) := by
  refine T.F__law_cell.okX sc__law_cell (fun vs H Q E h => ?_) (fun cdv A0 outer s H vs Q E hr h => ?_)
  · obtain ⟨a, ns, j, rfl, _⟩ := h; rfl
  · obtain ⟨a, ns, j, rfl, hS, hl, h0, h1, k⟩ := h
    have k' : ∀ z, Q (.int z) H := fun z => (k z).go (Same.refl H)
    refine ⟨_, (pss_cons (ps_if (pt_cmpR op_ltX (pv 1) (pe_callB (call_lenK (K := K) rfl) (by rfl) T.z_len (by decide +kernel) (pa_cons (pv 0) pa_nil)) (nomark _)) (pss_one (ps_ret (pe_ix (ix_seqK (K := K) rfl) (pv 0) (pv 1) (fun _ _ => rfl)))) pss_nil)
      (pss_cons (ps_set (i := 2) sc__law_cell.nd rfl (.inl rfl) (pe_op op_addX (pe_op op_mulX (pe_op op_mulX (pv 1) (pv 1)) pe_int) pe_int))
      (pss_cons (ps_if (pt_cmpR op_gtX (pe_callB (call_lenK (K := K) rfl) (by rfl) T.z_len (by decide +kernel) (pa_cons (pv 0) pa_nil)) pe_int (nomark _)) (pss_one (ps_set (i := 2) sc__law_cell.nd rfl (.inl rfl) (pe_op op_addX (pv 2) (pe_op op_mulX (pe_op op_modX (pe_ix (ix_seqK (K := K) rfl) (pv 0) (pe_op op_modX (pe_op op_mulX (pv 1) pe_int) (pe_callB (call_lenK (K := K) rfl) (by rfl) T.z_len (by decide +kernel) (pa_cons (pv 0) pa_nil))) (fun _ _ => rfl)) pe_int) pe_int)))) pss_nil)
      (pss_one (ps_ret (pe_op op_modX (pe_op op_mulX (pv 2) pe_int) pe_int)))))), ?_⟩
    walk_at "x"
    refine x_lenL hS ?_
    walk_at "x"
    rw [List.length_map]
    refine ite2 (fun c => ?_) (fun c => ?_)
    · have c := of_decide_eq_true c
      walk_at "x"
      exact x_ixXL hS (at_int h0 c) (k' _)
    · walk_at "x"
      refine x_mulI (.of_left (intBits_le_64 (by omega) (by omega))) ?_
      walk_at "x"
      refine x_mulI (.of_right (by decide)) ?_
      walk_at "x"
      refine x_lenL hS ?_
      walk_at "x"
      rw [List.length_map]
      refine ite2 (fun d => ?_) (fun d => ?_)
      · have d := of_decide_eq_true d
        walk_at "x"
        refine x_mulI (.of_right (by decide)) ?_
        walk_at "x"
        refine x_lenL hS ?_
        walk_at "x"
        rw [List.length_map]
        refine x_modP d ?_
        walk_at "x"
        refine x_ixXL hS (at_int (Int.emod_nonneg _ (by omega)) (Int.emod_lt_of_pos _ d)) ?_
        walk_at "x"
        refine x_modP (by decide) ?_
        walk_at "x"
        refine x_mulI (.of_right (by decide)) ?_
        walk_at "x"
        refine x_mulI (.of_right (by decide)) ?_
        walk_at "x"
        exact x_modP (by decide) (k' _)
      · walk_at "x"
        refine x_mulI (.of_right (by decide)) ?_
        walk_at "x"
        exact x_modP (by decide) (k' _)

/-! ### _law_number -/
def sp__law_number : Sp := fun vs H Q _ => ∃ c j : Int, vs = [.int c, .int j] ∧ ∀ z, Small z → RetV (.int z) H Q
theorem ok__law_number (T : Txt K mg A) : FnOk P w K mg base (L2.CX P w) 1 A.a__law_number A.d__law_number ["_law_cell_here", "_law_way"] sp__law_number := by
  refine T.F__law_number.okX sc__law_number (fun vs H Q E h => ?_) (fun cdv A0 outer s H vs Q E hr h => ?_)
  · obtain ⟨c, j, rfl, _⟩ := h; rfl
  · obtain ⟨c, j, rfl, k⟩ := h
    have k' : ∀ z, Small z → Q (.int z) H := fun z hz => (k z hz).go (Same.refl H)
    refine ⟨_, (pss_cons (ps_if (pt_cmpR (op_eqK (K := K) rfl hr.units) (pv 1) pe_int (nomark _)) (pss_one (ps_ret (pe_op op_subX (pe_op op_modX (pv 0) pe_int) pe_int))) pss_nil)
      (pss_cons (ps_if (pt_cmpR (op_eqK (K := K) rfl hr.units) (pv 1) pe_int (nomark _)) (pss_one (ps_ret (pe_op op_subX (pe_op op_modX (pe_op op_mulX (pv 0) pe_int) (pe_op op_addX (pe_op op_mulX pe_int (pe_op op_powX pe_int pe_int)) pe_int)) (pe_op op_powX pe_int pe_int)))) pss_nil)
      (pss_cons (ps_if (pt_cmpR (op_eqK (K := K) rfl hr.units) (pv 1) pe_int (nomark _)) (pss_one (ps_ret (pe_op op_modX (pv 0) pe_int))) pss_nil)
      (pss_one (ps_ret (pe_op op_subX (pe_op op_modX (pv 0) pe_int) pe_int)))))), ?_⟩
    walk_at "x"
    refine ite2 (fun _ => ?_) (fun _ => ?_)
    · walk_at "x"
      refine x_modP (by decide) ?_
      walk_at "x"
      exact k' _ ⟨by omega, by omega⟩
    · walk_at "x"
      refine ite2 (fun _ => ?_) (fun _ => ?_)
      · walk_at "x"
        refine x_mulI (.of_right (by decide)) ?_
        walk_at "x"
        refine x_powN ⟨by decide, by decide, by decide⟩ ?_
        walk_at "x"
        refine x_mulI (.of_left (by decide)) ?_
        walk_at "x"
        have e : (2 : Int) * 10 ^ (18 : Int).toNat + 1 = 2000000000000000001 := by decide
        rw [e]
        refine x_modP (by decide) ?_
        walk_at "x"
        refine x_powN ⟨by decide, by decide, by decide⟩ ?_
        walk_at "x"
        have e2 : (10 : Int) ^ (18 : Int).toNat = 1000000000000000000 := by decide
        rw [e2]
        exact k' _ ⟨by omega, by omega⟩
      · walk_at "x"
        refine ite2 (fun _ => ?_) (fun _ => ?_)
        · walk_at "x"
          exact x_modP (by decide) (k' _ ⟨by omega, by omega⟩)
        · walk_at "x"
          refine x_modP (by decide) ?_
          walk_at "x"
          exact k' _ ⟨by omega, by omega⟩

/-! ### _law_table -/
def sp__law_table (K : PySem.W.Frag) : Sp := fun vs H Q _ => ∃ (a : Addr) (ns : List Int), vs = [.ref a] ∧ SqL K H a (ns.map V.int) ∧ ns.length ≤ 63 ∧ ∀ ms k, Tab ms k → Bnd 200000000000000000000 ms → RetL (ms.map V.int) H Q
theorem ok__law_table (T : Txt K mg A) : FnOk P w K mg base (L2.CX P w) 2 A.a__law_table A.d__law_table ["_law_script"] (sp__law_table K) := by
  refine T.F__law_table.okX sc__law_table (fun vs H Q E h => ?_) (fun cdv A0 outer s H vs Q E hr h => ?_)
  · obtain ⟨a, ns, rfl, _⟩ := h; rfl
  · obtain ⟨a, ns, rfl, hS, hl, k⟩ := h
    refine ⟨_, (pss_cons (ps_set (i := 1) sc__law_table.nd rfl (.inl rfl) (pe_op op_modX (pe_call (ok__law_cell T) (hr.mono (by decide)) (by rfl) T.g__law_cell T.F__law_cell.kp T.b__law_cell .nil (passes_call (takes_of rfl rfl rfl rfl) (fun _ _ _ _ h => h)) (pa_cons (pv 0) (pa_cons pe_int pa_nil))) pe_int))
      (pss_cons (ps_set (i := 2) sc__law_table.nd rfl (.inl rfl) (pe_op op_shlX pe_int (pe_op op_addX pe_int (pe_op op_modX (pv 1) pe_int))))
      (pss_cons (ps_set (i := 3) sc__law_table.nd rfl (.inl rfl) (pe_lst (pa_cons pe_int (pa_cons (pe_call (ok__law_number T) (hr.mono (by decide)) (by rfl) T.g__law_number T.F__law_number.kp T.b__law_number .nil (passes_call (takes_of rfl rfl rfl rfl) (fun _ _ _ _ h => h)) (pa_cons (pe_op op_fdivX (pe_call (ok__law_cell T) (hr.mono (by decide)) (by rfl) T.g__law_cell T.F__law_cell.kp T.b__law_cell .nil (passes_call (takes_of rfl rfl rfl rfl) (fun _ _ _ _ h => h)) (pa_cons (pv 0) (pa_cons pe_int pa_nil))) pe_int) (pa_cons (pe_op op_fdivX (pv 1) pe_int) pa_nil))) pa_nil))))
      (pss_cons (ps_for (passes_of rfl) rfl (pi_range2 (by rfl) T.z_range (pa_cons pe_int (pa_cons (pv 2) pa_nil))) (pg_name (i := 4) sc__law_table.nd rfl (.inl rfl)) (pss_one (ps_expr (pe_bm PySem.F.plainAttrs_list PySem.F.slot_list_append PySem.F.type_list_append mt_append (pv 3) (pa_cons (pe_call (ok__law_number T) (hr.mono (by decide)) (by rfl) T.g__law_number T.F__law_number.kp T.b__law_number .nil (passes_call (takes_of rfl rfl rfl rfl) (fun _ _ _ _ h => h)) (pa_cons (pe_call (ok__law_cell T) (hr.mono (by decide)) (by rfl) T.g__law_cell T.F__law_cell.kp T.b__law_cell .nil (passes_call (takes_of rfl rfl rfl rfl) (fun _ _ _ _ h => h)) (pa_cons (pv 0) (pa_cons (pe_op op_subX (pv 4) pe_int) pa_nil))) (pa_cons (pe_op op_fdivX (pv 1) pe_int) pa_nil))) pa_nil)))))
      (pss_cons (ps_for (passes_of rfl) rfl (pi_range2 (by rfl) T.z_range (pa_cons (pe_op op_subX (pv 2) pe_int) (pa_cons (pe_callB (call_min2X rfl) (by rfl) T.z_min (by decide +kernel) (pa_cons (pe_callB (call_lenK (K := K) rfl) (by rfl) T.z_len (by decide +kernel) (pa_cons (pv 0) pa_nil)) (pa_cons pe_int pa_nil))) pa_nil))) (pg_name (i := 5) sc__law_table.nd rfl (.inl rfl)) (pss_one (ps_augS (pv 3) (pe_op op_addX pe_int (pe_op op_modX (pv 5) (pe_op op_subX (pv 2) pe_int))) (get_listK (K := K) rfl) (pe_call (ok__law_number T) (hr.mono (by decide)) (by rfl) T.g__law_number T.F__law_number.kp T.b__law_number .nil (passes_call (takes_of rfl rfl rfl rfl) (fun _ _ _ _ h => h)) (pa_cons (pe_ix (ix_seqK (K := K) rfl) (pv 0) (pv 5) (fun _ _ => rfl)) (pa_cons (pe_op op_fdivX (pv 1) pe_int) pa_nil))) ip_add set_list)))
      (pss_one (ps_ret (pv 3)))))))), ?_⟩
    walk_at "x"
    refine ⟨a, ns, 0, rfl, hS, hl, by decide, by decide, fun z0 H1 s1 => ?_⟩
    have w1 : Own H [] H1 := Own.start.ext s1
    walk_at "x"
    refine x_modP (by decide) ?_
    walk_at "x"
    refine x_modP (by decide) ?_
    obtain ⟨m, hm⟩ : ∃ m : Nat, (1 : Int) + z0 % 24 % 6 = (m : Int) := ⟨(1 + z0 % 24 % 6).toNat, by omega⟩
    have hm1 : 1 ≤ m ∧ m ≤ 6 := by omega
    have hp : 2 ≤ 2 ^ m ∧ 2 ^ m ≤ 64 := ⟨Nat.pow_le_pow_right (n := 2) (by decide) hm1.1, Nat.pow_le_pow_right (n := 2) (by decide) hm1.2⟩
    walk_at "x"
    refine x_shl ⟨by omega, by omega, by decide⟩ ?_
    rw [pow_toNat hm]
    walk_at "x"
    refine ⟨a, ns, 0, rfl, w1.seq hS, hl, by decide, by decide, fun z1 H2 s2 => ?_⟩
    have w2 := w1.ext s2
    walk_at "x"
    refine x_divP (by decide) (by decide) ?_
    walk_at "x"
    refine x_divP (by decide) (by decide) ?_
    walk_at "x"
    refine ⟨_, _, rfl, fun z2 hz2 H3 s3 => ?_⟩
    have w3 := w2.ext s3
    walk_at "x"
    refine ⟨by show 2 ≤ sizeLine; decide, fun p np => ?_⟩
    have w4 : Own H [(p, .lst ([0, z2].map V.int))] (upd H3 p (.lst [.int 0, .int z2])) := w3.new np
    walk_at "x"
    -- for group in range(2, size)
    refine ⟨_, _, rfl, ⟨by omega, by omega, by omega, by omega⟩, for_range (lo := 2) (n := (((2 ^ m : Nat) : Int) - 2).toNat) (fun i σ H' => ∃ (ms : List Int) (v : Option V),
      σ = [some (.ref a), some (.int (z0 % 24)), some (.int ((2 ^ m : Nat) : Int)), some (.ref p), v, none] ∧ Own H [(p, .lst (ms.map V.int))] H' ∧ ms.length = i + 2 ∧ ms[0]? = some 0 ∧ Bnd 1000000000000000000 ms)
      ⟨[0, z2], none, rfl, w4, rfl, rfl, fun y hy => by
        rcases List.mem_cons.mp hy with rfl | hy
        · exact ⟨by decide, by decide⟩
        · rw [List.mem_singleton.mp hy]; exact hz2⟩ ?_ ?_⟩
    · rintro i σ H' hi ⟨ms, v, rfl, w, hlen, hz, hb⟩
      walk_at "x"
      refine ⟨x_tyL (w.get 0 rfl), ?_⟩
      walk_at "x"
      refine ⟨a, ns, _, rfl, w.seq hS, hl, by omega, by omega, fun z5 H5 s5 => ?_⟩
      walk_at "x"
      refine x_divP (by decide) (by decide) ?_
      walk_at "x"
      refine ⟨_, _, rfl, fun z6 hz6 H6 s6 => ?_⟩
      have w6 := (w.ext s5).ext s6
      walk_at "x"
      refine x_append (w6.get 0 rfl) (by rw [List.length_map]; exact small1000 (by omega)) ?_
      rw [map_app_int]
      have w7 := w6.put (o' := .lst ((ms ++ [z6]).map V.int)) 0 rfl
      exact ⟨ms ++ [z6], _, rfl, w7, by rw [List.length_append, hlen] <;> rfl, by rw [List.getElem?_append_left (by omega)]; exact hz, hb.app hz6.1 hz6.2⟩
    · rintro σ H' ⟨ms, v, rfl, w, hlen, hz, hb⟩
      have hlm : ms.length = 2 ^ m := by omega
      walk_at "x"
      refine x_lenL (w.seq hS) ?_
      walk_at "x"
      rw [List.length_map]
      have hmn : (if (120 : Int) < (ns.length : Int) then (120 : Int) else (ns.length : Int)) = (ns.length : Int) := if_neg (by omega)
      rw [hmn]
      refine ⟨_, _, rfl, ⟨by omega, by omega, by omega, by omega⟩, for_range (lo := ((2 ^ m : Nat) : Int) - 1) (n := ((ns.length : Int) - (((2 ^ m : Nat) : Int) - 1)).toNat) (fun i σ H' => ∃ (ms : List Int) (v u : Option V),
        σ = [some (.ref a), some (.int (z0 % 24)), some (.int ((2 ^ m : Nat) : Int)), some (.ref p), v, u] ∧ Own H [(p, .lst (ms.map V.int))] H' ∧ ms.length = 2 ^ m ∧ ms[0]? = some 0 ∧ Bnd (1000000000000000000 * (i + 1)) ms)
        ⟨ms, v, none, rfl, w, hlm, hz, by simpa using hb⟩ ?_ ?_⟩
      · rintro i σ H' hi ⟨ms, v, u, rfl, w, hlen, hz, hb⟩
        walk_at "x"
        refine x_modP (by omega) ?_
        walk_at "x"
        have hr0 : 0 ≤ (((2 ^ m : Nat) : Int) - 1 + (i : Int)) % (((2 ^ m : Nat) : Int) - 1) := Int.emod_nonneg _ (by omega)
        have hr1 : (((2 ^ m : Nat) : Int) - 1 + (i : Int)) % (((2 ^ m : Nat) : Int) - 1) < ((2 ^ m : Nat) : Int) - 1 := Int.emod_lt_of_pos _ (by omega)
        refine x_ixL (w.sq 0 rfl) (at_int (i := 1 + (((2 ^ m : Nat) : Int) - 1 + (i : Int)) % (((2 ^ m : Nat) : Int) - 1)) (by omega) (by omega)) ?_
        walk_at "x"
        refine x_ixXL (w.seq hS) (at_int (by omega) (by omega)) ?_
        walk_at "x"
        refine x_divP (by decide) (by decide) ?_
        walk_at "x"
        refine ⟨_, _, rfl, fun z6 hz6 H6 s6 => ?_⟩
        have w6 := w.ext s6
        walk_at "x"
        refine x_setL (w6.get 0 rfl) (by rw [List.length_map]; exact ixN_int (by omega) (by omega)) ?_
        rw [map_set_int]
        have hb6 := Bnd.at (by omega) hb (1 + (((2 ^ m : Nat) : Int) - 1 + (i : Int)) % (((2 ^ m : Nat) : Int) - 1))
        have hz6' : -1000000000000000000 ≤ z6 ∧ z6 ≤ 1000000000000000000 := hz6
        refine ⟨_, _, _, rfl, w6.put (o' := .lst _) 0 rfl, by rw [List.length_set]; exact hlen, ?_, ?_⟩
        · rw [List.getElem?_set_ne (by omega)]; exact hz
        · exact (hb.mono (by omega)).set (by omega) (by omega)
      · rintro σ H' ⟨ms, v, u, rfl, w, hlen, hz, hb⟩
        walk_at "x"
        exact (k ms m ⟨hlen, hm1.1, hm1.2, hz⟩ (hb.mono (by omega))).go w

/-! ### _law_shaped -/
def sp__law_shaped (K : PySem.W.Frag) : Sp := fun vs H Q _ => ∃ (a : Addr) (ms : List Int) (m : Nat) (c : Int), vs = [.ref a, .int c] ∧ SqL K H a (ms.map V.int) ∧ Tab ms m ∧ ∀ ns, Tab ns m → RetL (ns.map V.int) H Q
theorem ok__law_shaped (T : Txt K mg A) : FnOk P w K mg base (L2.CX P w) 1 A.a__law_shaped A.d__law_shaped ["_law_table_here", "_law_cell_here"] (sp__law_shaped K) := by
  refine T.F__law_shaped.okX sc__law_shaped (fun vs H Q E h => ?_) (fun cdv A0 outer s H vs Q E hr h => ?_)
  · obtain ⟨a, ms, m, c, rfl, _⟩ := h; rfl
  · obtain ⟨a, ms, m, c, rfl, hS, tb, k⟩ := h
    have hm := tb.hi
    have hlo := tb.lo
    have hp := tb.pos
    have ht := tb.len
    have w := Own.start (H := H)
    refine ⟨_, (pss_cons (ps_set (i := 1) sc__law_shaped.nd rfl (.inl rfl) (pe_op op_modX (pe_op op_mulX (pe_op op_modX (pv 1) pe_int) pe_int) pe_int))
      (pss_cons (ps_set (i := 2) sc__law_shaped.nd rfl (.inl rfl) (pe_callB (call_lenK (K := K) rfl) (by rfl) T.z_len (by decide +kernel) (pa_cons (pe_lc (own := [("_law_k", 7)]) rfl sc__law_shaped.nd (pi_range1 (by rfl) T.z_range (pa_cons pe_int pa_nil)) (blkOk_by (own := [("_law_k", 7)]) (N := N__law_shaped) (sc := defScope s__law_shaped) (by decide +kernel)) (fun _ _ _ _ _ => (pg_name (i := 7) sc__law_shaped.nd rfl (.inl rfl))) (fun _ _ _ _ _ => (pts_one (pt_cmpR op_ltX (pe_op op_shlX pe_int (pv 7)) (pe_callB (call_lenK (K := K) rfl) (by rfl) T.z_len (by decide +kernel) (pa_cons (pv 0) pa_nil)) (nomark _)))) (fun _ _ _ _ _ => (pv 7))) pa_nil)))
      (pss_cons (ps_set (i := 3) sc__law_shaped.nd rfl (.inl rfl) (pe_op op_shlX pe_int (pe_op op_modX (pe_op op_fdivX (pv 1) pe_int) (pv 2))))
      (pss_cons (ps_set (i := 4) sc__law_shaped.nd rfl (.inl rfl) (pe_op op_shlX pe_int (pe_op op_modX (pe_op op_fdivX (pv 1) pe_int) (pv 2))))
      (pss_cons (ps_set (i := 5) sc__law_shaped.nd rfl (.inl rfl) (pe_callTy (call_listK (K := K) rfl) (by rfl) T.z_list (by decide +kernel) (pa_cons (pv 0) pa_nil)))
      (pss_cons (ps_for (passes_of rfl) rfl (pi_range2 (by rfl) T.z_range (pa_cons pe_int (pa_cons (pe_callB (call_lenK (K := K) rfl) (by rfl) T.z_len (by decide +kernel) (pa_cons (pv 0) pa_nil)) pa_nil))) (pg_name (i := 6) sc__law_shaped.nd rfl (.inr rfl)) (pss_cons (ps_if (PW.pt (pw_and (pt_cmpR (op_eqK (K := K) rfl hr.units) (pe_op op_modX (pv 1) pe_int) pe_int (nomark _)) (pw_and (pt_cmpR (op_neK (K := K) rfl hr.units) (pv 3) (pv 4) (nomark _)) (pw_and (pt_cmpR (op_neK (K := K) rfl hr.units) (pe_op op_andX (pv 6) (pv 3)) pe_int (nomark _)) (pw_and1 (pt_cmpR (op_eqK (K := K) rfl hr.units) (pe_op op_andX (pv 6) (pv 4)) pe_int (nomark _))))))) (pss_one (ps_asg (pe_ix (ix_seqK (K := K) rfl) (pv 0) (pe_op op_addX (pe_op op_subX (pv 6) (pv 3)) (pv 4)) (fun _ _ => rfl)) (pg_sub (pv 5) (pv 6) set_list))) pss_nil)
      (pss_cons (ps_if (PW.pt (pw_and (pt_cmpR (op_eqK (K := K) rfl hr.units) (pe_op op_modX (pv 1) pe_int) pe_int (nomark _)) (pw_and1 (pt_cmpR (op_neK (K := K) rfl hr.units) (pe_op op_andX (pv 6) (pv 3)) pe_int (nomark _))))) (pss_one (ps_asg (pe_ix (ix_seqK (K := K) rfl) (pv 0) (pe_op op_subX (pv 6) (pv 3)) (fun _ _ => rfl)) (pg_sub (pv 5) (pv 6) set_list))) pss_nil)
      (pss_one (ps_if (pt_cmpR (op_eqK (K := K) rfl hr.units) (pe_op op_modX (pv 1) pe_int) pe_int (nomark _)) (pss_one (ps_asg (pe_ix (ix_seqK (K := K) rfl) (pv 0) (pe_op op_subX (pe_op op_shlX pe_int (pe_callB (call_lenK (K := K) rfl) (by rfl) T.z_len (by decide +kernel) (pa_cons (pe_lc (own := [("_law_k", 7)]) rfl sc__law_shaped.nd (pi_range1 (by rfl) T.z_range (pa_cons pe_int pa_nil)) (blkOk_by (own := [("_law_k", 7)]) (N := N__law_shaped) (sc := defScope s__law_shaped) (by decide +kernel)) (fun _ _ _ _ _ => (pg_name (i := 7) sc__law_shaped.nd rfl (.inl rfl))) (fun _ _ _ _ _ => (pts_one (pt_cmpR (op_eqK (K := K) rfl hr.units) (pe_op op_andX (pe_op op_shrX (pv 6) (pv 7)) pe_int) pe_int (nomark _)))) (fun _ _ _ _ _ => (pv 7))) pa_nil))) pe_int) (fun _ _ => rfl)) (pg_sub (pv 5) (pv 6) set_list))) pss_nil)))))
      (pss_one (ps_ret (pv 5))))))))), ?_⟩
    walk_at "x"
    refine x_modP (by decide) ?_
    walk_at "x"
    refine x_mulI (.of_right (by decide)) ?_
    walk_at "x"
    refine x_modP (by decide) ?_
    generalize c % 1000003 * 48271 % 2147483629 = c
    walk_at "x"
    refine ⟨_, rfl, by decide, by decide, cp_r0 (n := 6) (fun i => ((List.range i).filter fun k => decide (2 ^ k < 2 ^ m)).map vnat) w rfl ?_ ?_⟩
    · intro D i H' hi p
      walk_at "x"
      refine ⟨rfl, ?_⟩
      walk_at "x"
      refine x_shl ⟨by omega, by omega, by decide⟩ ?_
      rw [shl_nat]
      walk_at "x"
      refine x_lenL (Own.seq p hS) ?_
      walk_at "x"
      rw [List.length_map, show decide (((2 ^ i : Nat) : Int) < (ms.length : Int)) = decide (2 ^ i < 2 ^ m) by rw [ht]; exact decide_eq_decide.mpr Int.ofNat_lt]
      cases c : decide (2 ^ i < 2 ^ m) with
      | true =>
        refine iteT ?_
        walk_at "x"
        exact cp_fin p (filter_yes (p := fun k => decide (2 ^ k < 2 ^ m)) c _) (by rw [List.length_map]; have := filter_len (fun k => decide (2 ^ k < 2 ^ m)) i; omega)
      | false => exact iteF (cp_no p (filter_no (p := fun k => decide (2 ^ k < 2 ^ m)) c _))
    intro D H2 w2
    rw [show (List.range (6 : Int).toNat).filter (fun k => decide (2 ^ k < 2 ^ m)) = List.range m from bits_len m (by omega)] at w2
    walk_at "x"
    refine x_lenL (w2.sq 0 rfl) ?_
    walk_at "x"
    rw [List.length_map, List.length_range]
    have w2 := w2.pop
    refine x_divP (by decide) (by decide) ?_
    walk_at "x"
    refine x_modP (by omega) ?_
    have hr0 : 0 ≤ c / 4 % (m : Int) := Int.emod_nonneg _ (by omega)
    have hr1 : c / 4 % (m : Int) < (m : Int) := Int.emod_lt_of_pos _ (by omega)
    generalize c / 4 % (m : Int) = y1 at hr0 hr1 ⊢
    obtain ⟨i, rfl⟩ := Int.eq_ofNat_of_zero_le hr0
    refine x_shl ⟨by omega, by omega, by decide⟩ ?_
    rw [shl_nat]
    walk_at "x"
    refine x_divP (by decide) (by decide) ?_
    walk_at "x"
    refine x_modP (by omega) ?_
    have hq0 : 0 ≤ c / 24 % (m : Int) := Int.emod_nonneg _ (by omega)
    have hq1 : c / 24 % (m : Int) < (m : Int) := Int.emod_lt_of_pos _ (by omega)
    generalize c / 24 % (m : Int) = y2 at hq0 hq1 ⊢
    obtain ⟨j, rfl⟩ := Int.eq_ofNat_of_zero_le hq0
    refine x_shl ⟨by omega, by omega, by decide⟩ ?_
    rw [shl_nat]
    walk_at "x"
    refine x_list (w2.seq hS) (fun p3 n3 => ?_)
    have w3 := w2.new (o := .lst (ms.map V.int)) n3
    walk_at "x"
    refine x_lenL (w3.seq hS) ?_
    walk_at "x"
    rw [List.length_map]
    refine ⟨_, _, rfl, ⟨by omega, by omega, by omega, by omega⟩, for_range (lo := 1) (n := ((ms.length : Int) - 1).toNat) (fun q σ' H' => ∃ ns, Tab ns m ∧ (∃ v1 v2, σ' = [some (.ref a), some (.int c), some (.int (m : Int)), some (vnat (2 ^ i)), some (vnat (2 ^ j)), some (.ref p3), v1, v2]) ∧ Own H [(p3, .lst (ns.map V.int))] H') ⟨ms, tb, ⟨_, _, rfl⟩, w3⟩ ?_ ?_⟩
    · rintro q σ' H5 hq ⟨ns, tn, ⟨v1, v2, rfl⟩, w5⟩
      have hg : 1 + q < 64 := by omega
      rw [show (1 : Int) + (q : Int) = ((1 + q : Nat) : Int) by omega]
      have hg1 : 1 ≤ 1 + q := by omega
      have hgm : 1 + q < 2 ^ m := by omega
      generalize 1 + q = g at *
      have zi := Nat.two_pow_pos i
      have zj := Nat.two_pow_pos j
      refine x_gn ?_
      refine x_ifJ (fun H' => ∃ ns, Tab ns m ∧ Own H [(p3, .lst (ns.map V.int))] H') ?_ ?_
      · rintro H6 ⟨ns, tn, w6⟩
        refine x_ifJ (fun H' => ∃ ns, Tab ns m ∧ Own H [(p3, .lst (ns.map V.int))] H') ?_ ?_
        · rintro H7 ⟨ns, tn, w7⟩
          have hnl := tn.len
          walk_at "x"
          refine x_modP (by decide) ?_
          walk_at "x"
          refine ite2 (fun _ => ?_) (fun _ => ?_)
          · walk_at "x"
            refine ⟨_, rfl, by decide, by decide, cp_r0 (n := 6) (fun i => ((List.range i).filter fun h => bitOn h g).map vnat) w7 rfl ?_ ?_⟩
            · intro D i H' hi p
              walk_at "x"
              refine ⟨rfl, ?_⟩
              walk_at "x"
              refine x_shr (by omega) ?_
              walk_at "x"
              rw [bit_int (by omega) hg]
              cases c : bitOn i g with
              | true =>
                refine iteT ?_
                walk_at "x"
                exact cp_fin p (filter_yes (p := fun h => bitOn h g) c vnat) (by rw [List.length_map]; have := filter_len (fun h => bitOn h g) i; omega)
              | false =>
                exact iteF (cp_no p (filter_no (p := fun h => bitOn h g) c vnat))
            · intro D2 H8 w8
              have w8 : Own H [(D2, .lst ((handsM g).map vnat)), (p3, .lst (ns.map V.int))] H8 := w8
              have hf := hands_few m (by omega) g hgm
              have h2 : 2 ^ (handsM g).length ≤ 2 ^ m := Nat.pow_le_pow_right (by decide) hf
              have h3 := Nat.two_pow_pos (handsM g).length
              have hl6 := handsM_len g
              walk_at "x"
              refine x_lenL (w8.sq 0 rfl) ?_
              walk_at "x"
              rw [List.length_map]
              refine x_shl ⟨by omega, by omega, by decide⟩ ?_
              rw [shl_nat]
              walk_at "x"
              refine x_ixXL (w8.seq hS) (at_int (by omega) (by omega)) ?_
              walk_at "x"
              refine x_setL (w8.get 1 rfl) (by rw [List.length_map]; exact ixN_int (by omega) (by omega)) ?_
              rw [map_set_int, Int.toNat_natCast]
              have w9 := w8.pop.put (o' := .lst ((ns.set g (gi ms (((2 ^ (handsM g).length : Nat) : Int) - 1))).map V.int)) 0 rfl
              exact ⟨_, tn.set (by omega), ⟨_, _, rfl⟩, w9⟩
          · walk_at "x"
            exact ⟨_, tn, ⟨_, _, rfl⟩, w7⟩
        · intro hc
          have hnl := tn.len
          walk_at "x"
          refine x_modP (by decide) ?_
          walk_at "x"
          refine ite2 (fun _ => ?_) (fun _ => ?_)
          · walk_at "x"
            rw [and_nat, bitOn_iff]
            cases cb : bitOn i g with
            | true =>
              have hbl := bit_le i (by omega) g hg cb
              refine iteT ?_
              walk_at "x"
              refine x_ixXL (w6.seq hS) (at_int (by omega) (by omega)) ?_
              walk_at "x"
              refine x_setL (w6.get 0 rfl) (by rw [List.length_map]; exact ixN_int (by omega) (by omega)) ?_
              rw [map_set_int, Int.toNat_natCast]
              exact hc _ ⟨_, tn.set (by omega), w6.put (o' := .lst ((ns.set g _).map V.int)) 0 rfl⟩
            | false =>
              refine iteF ?_
              exact hc _ ⟨ns, tn, w6⟩
          · refine iteF ?_
            exact hc _ ⟨ns, tn, w6⟩
      · intro hc
        have hnl := tn.len
        walk_at "x"
        refine x_modP (by decide) ?_
        walk_at "x"
        refine ite2 (fun _ => ?_) (fun _ => ?_)
        · walk_at "x"
          refine ite2 (fun _ => ?_) (fun _ => ?_)
          · walk_at "x"
            rw [and_nat, bitOn_iff]
            cases ci : bitOn i g with
            | false =>
              refine iteF ?_
              refine iteF ?_
              exact hc _ ⟨ns, tn, w5⟩
            | true =>
              refine iteT ?_
              walk_at "x"
              rw [and_nat, show decide (((g &&& 2 ^ j : Nat) : Int) = 0) = !bitOn j g by rw [← bitOn_iff, Bool.not_not]]
              cases cj : bitOn j g with
              | true =>
                refine iteF ?_
                exact hc _ ⟨ns, tn, w5⟩
              | false =>
                obtain ⟨b1, b2⟩ := swap_in (by omega) (show i < m by omega) (show j < m by omega) hgm ci cj
                refine iteT ?_
                walk_at "x"
                refine x_ixXL (w5.seq hS) (at_int (by omega) (by omega)) ?_
                walk_at "x"
                refine x_setL (w5.get 0 rfl) (by rw [List.length_map]; exact ixN_int (by omega) (by omega)) ?_
                rw [map_set_int, Int.toNat_natCast]
                exact hc _ ⟨_, tn.set (by omega), w5.put (o' := .lst ((ns.set g _).map V.int)) 0 rfl⟩
          · refine iteF ?_
            exact hc _ ⟨ns, tn, w5⟩
        · refine iteF ?_
          exact hc _ ⟨ns, tn, w5⟩
    · rintro σ' H5 ⟨ns, tn, ⟨v1, v2, rfl⟩, w5⟩
      walk_at "x"
      exact (k ns tn).go w5

/-! ### _law_same -/
def sp__law_same (K : PySem.W.Frag) : Sp := fun vs H Q _ => ∃ (a : Addr) (ms : List Int) (m i j : Nat), vs = [.ref a, vnat (2 ^ i), vnat (2 ^ j)] ∧ SqL K H a (ms.map V.int) ∧ Tab ms m ∧ i < m ∧ j < m ∧ RetV (.bl (alikeB ms i j)) H Q
theorem ok__law_same (T : Txt K mg A) : FnOk P w K mg base (L2.CX P w) 1 A.a__law_same A.d__law_same ["_law_table_here", "_law_one", "_law_other"] (sp__law_same K) := by
  refine T.F__law_same.okX sc__law_same (fun vs H Q E h => ?_) (fun cdv A0 outer s H vs Q E hr h => ?_)
  · obtain ⟨a, ms, m, i, j, rfl, _⟩ := h; rfl
  · obtain ⟨a, ms, m, i, j, rfl, hS, tb, hi, hj, k⟩ := h
    have hm := tb.hi
    have hp := tb.pos
    have ht := tb.len
    have w := Own.start (H := H)
    refine ⟨_, (pss_cons (ps_for (passes_of rfl) rfl (pi_range1 (by rfl) T.z_range (pa_cons (pe_callB (call_lenK (K := K) rfl) (by rfl) T.z_len (by decide +kernel) (pa_cons (pv 0) pa_nil)) pa_nil)) (pg_name (i := 3) sc__law_same.nd rfl (.inl rfl)) (pss_one (ps_if (PW.pt (pw_and (pt_cmpR (op_eqK (K := K) rfl hr.units) (pe_op op_andX (pv 3) (pv 1)) pe_int (nomark _)) (pw_and (pt_cmpR (op_eqK (K := K) rfl hr.units) (pe_op op_andX (pv 3) (pv 2)) pe_int (nomark _)) (pw_and1 (pt_cmpR (op_neK (K := K) rfl hr.units) (pe_ix (ix_seqK (K := K) rfl) (pv 0) (pe_op op_addX (pv 3) (pv 1)) (fun _ _ => rfl)) (pe_ix (ix_seqK (K := K) rfl) (pv 0) (pe_op op_addX (pv 3) (pv 2)) (fun _ _ => rfl)) (nomark _)))))) (pss_one (ps_ret pe_bl)) pss_nil)))
      (pss_one (ps_ret pe_bl))), ?_⟩
    walk_at "x"
    refine x_lenL hS ?_
    walk_at "x"
    rw [List.length_map]
    refine ⟨_, rfl, by omega, by omega, for_r0 (n := (ms.length : Int)) (fun q σ' H' => (∃ v, σ' = [some (.ref a), some (vnat (2 ^ i)), some (vnat (2 ^ j)), v]) ∧ Own H [] H' ∧ (List.range q).all (fun g => bitOn i g || bitOn j g || decide (fn ms (g ||| 2 ^ i) = fn ms (g ||| 2 ^ j))) = true) ⟨⟨_, rfl⟩, w, rfl⟩ ?_ ?_⟩
    · rintro g σ' H' hg ⟨⟨v, rfl⟩, w, ok⟩
      have hg64 : g < 64 := by omega
      walk_at "x"
      rw [and_nat, show decide (((g &&& 2 ^ i : Nat) : Int) = 0) = !bitOn i g by rw [← bitOn_iff, Bool.not_not]]
      cases ci : bitOn i g with
      | true =>
        refine iteF ?_
        refine iteF ?_
        walk_at "x"
        exact ⟨⟨_, rfl⟩, w, by rw [all_to (by rw [ci] <;> rfl)]; exact ok⟩
      | false =>
        refine iteT ?_
        walk_at "x"
        rw [and_nat, show decide (((g &&& 2 ^ j : Nat) : Int) = 0) = !bitOn j g by rw [← bitOn_iff, Bool.not_not]]
        cases cj : bitOn j g with
        | true =>
          refine iteF ?_
          refine iteF ?_
          walk_at "x"
          exact ⟨⟨_, rfl⟩, w, by rw [all_to (by rw [ci, cj] <;> rfl)]; exact ok⟩
        | false =>
          obtain ⟨f1, f2⟩ := off_bit (by omega) hi (show g < 2 ^ m by omega) ci
          obtain ⟨g1, g2⟩ := off_bit (by omega) hj (show g < 2 ^ m by omega) cj
          refine iteT ?_
          walk_at "x"
          rw [show (g : Int) + ((2 ^ i : Nat) : Int) = ((g ||| 2 ^ i : Nat) : Int) by rw [f1]; omega]
          refine x_ixXL (w.seq hS) (at_int (by omega) (by omega)) ?_
          walk_at "x"
          rw [show (g : Int) + ((2 ^ j : Nat) : Int) = ((g ||| 2 ^ j : Nat) : Int) by rw [g1]; omega]
          refine x_ixXL (w.seq hS) (at_int (by omega) (by omega)) ?_
          walk_at "x"
          by_cases c : gi ms ((g ||| 2 ^ i : Nat) : Int) = gi ms ((g ||| 2 ^ j : Nat) : Int)
          · rw [decide_eq_true c]
            refine iteF ?_
            walk_at "x"
            exact ⟨⟨_, rfl⟩, w, by rw [all_to (by rw [ci, cj, decide_eq_true (show fn ms (g ||| 2 ^ i) = fn ms (g ||| 2 ^ j) from c)] <;> rfl)]; exact ok⟩
          · rw [decide_eq_false c]
            refine iteT ?_
            walk_at "x"
            unfold alikeB at k
            rw [all_no (n := g) (by rw [ci, cj, decide_eq_false (show ¬ fn ms (g ||| 2 ^ i) = fn ms (g ||| 2 ^ j) from c)] <;> rfl) (by omega)] at k
            exact k.go w.ex
    · rintro σ' H' ⟨⟨v, rfl⟩, w, ok⟩
      walk_at "x"
      rw [Int.toNat_natCast] at ok
      unfold alikeB at k
      rw [ok] at k
      exact k.go w.ex

/-! ### _law_due -/
def sp__law_due (K : PySem.W.Frag) : Sp := fun vs H Q _ => ∃ (a : Addr) (ms : List Int) (m : Nat), vs = [.ref a] ∧ SqL K H a (ms.map V.int) ∧ Tab ms m ∧ RetLL (leasts ms m) (idles ms m) H Q
theorem ok__law_due (T : Txt K mg A) : FnOk P w K mg base (L2.CX P w) 2 A.a__law_due A.d__law_due ["_law_table_here"] (sp__law_due K) := by
  refine T.F__law_due.okX sc__law_due (fun vs H Q E h => ?_) (fun cdv A0 outer s H vs Q E hr h => ?_)
  · obtain ⟨a, ms, m, rfl, _⟩ := h; rfl
  · obtain ⟨a, ms, m, rfl, hS, tb, k⟩ := h
    have hm := tb.hi
    have hlo := tb.lo
    have hp := tb.pos
    have ht := tb.len
    have w := Own.start (H := H)
    refine ⟨_, (pss_cons (ps_set (i := 1) sc__law_due.nd rfl (.inl rfl) (pe_callB (call_lenK (K := K) rfl) (by rfl) T.z_len (by decide +kernel) (pa_cons (pe_lc (own := [("_law_k", 6)]) rfl sc__law_due.nd (pi_range1 (by rfl) T.z_range (pa_cons pe_int pa_nil)) (blkOk_by (own := [("_law_k", 6)]) (N := N__law_due) (sc := defScope s__law_due) (by decide +kernel)) (fun _ _ _ _ _ => (pg_name (i := 6) sc__law_due.nd rfl (.inl rfl))) (fun _ _ _ _ _ => (pts_one (pt_cmpR op_ltX (pe_op op_shlX pe_int (pv 6)) (pe_callB (call_lenK (K := K) rfl) (by rfl) T.z_len (by decide +kernel) (pa_cons (pv 0) pa_nil)) (nomark _)))) (fun _ _ _ _ _ => (pv 6))) pa_nil)))
      (pss_cons (ps_set (i := 2) sc__law_due.nd rfl (.inl rfl) (pe_lst pa_nil))
      (pss_cons (ps_set (i := 3) sc__law_due.nd rfl (.inl rfl) (pe_lst pa_nil))
      (pss_cons (ps_for (passes_of rfl) rfl (pi_range1 (by rfl) T.z_range (pa_cons (pv 1) pa_nil)) (pg_name (i := 4) sc__law_due.nd rfl (.inr rfl)) (pss_cons (ps_expr (pe_bm PySem.F.plainAttrs_list PySem.F.slot_list_append PySem.F.type_list_append mt_append (pv 2) (pa_cons (pe_callB (cr_minK (K := K) rfl rfl) (by rfl) T.z_min (by decide +kernel) (pa_cons (pe_lc (own := [("_law_k", 6)]) rfl sc__law_due.nd (pi_range1 (by rfl) T.z_range (pa_cons (pe_op op_addX (pv 4) pe_int) pa_nil)) (blkOk_by (own := [("_law_k", 6)]) (N := N__law_due) (sc := defScope s__law_due) (by decide +kernel)) (fun _ _ _ _ _ => (pg_name (i := 6) sc__law_due.nd rfl (.inl rfl))) (fun _ _ _ _ _ => (pts_one (pt_val (pe_call (ok__law_same T) (hr.mono (by decide)) (by rfl) T.g__law_same T.F__law_same.kp T.b__law_same .nil passL (pa_cons (pv 0) (pa_cons (pe_op op_shlX pe_int (pv 6)) (pa_cons (pe_op op_shlX pe_int (pv 4)) pa_nil))))))) (fun _ _ _ _ _ => (pv 6))) pa_nil)) pa_nil)))
      (pss_cons (ps_setLc (i := 5) (own := [("_law_group", 7)]) rfl sc__law_due.nd rfl rfl (sw_true rfl rfl rfl (by decide +kernel)) (pi_range1 (by rfl) T.z_range (pa_cons (pe_callB (call_lenK (K := K) rfl) (by rfl) T.z_len (by decide +kernel) (pa_cons (pv 0) pa_nil)) pa_nil)) (blkOk_by (own := [("_law_group", 7)]) (N := N__law_due) (sc := defScope s__law_due) (by decide +kernel)) (fun _ _ _ _ _ => (pg_name (i := 7) sc__law_due.nd rfl (.inl rfl))) (fun _ _ _ _ _ => (pts_one (pt_cmpR (op_eqK (K := K) rfl hr.units) (pe_op op_andX (pe_op op_shrX (pv 7) (pv 4)) pe_int) pe_int (nomark _)))) (fun _ _ _ _ _ => (pv 7)))
      (pss_one (ps_if (pt_cmpR (op_eqK (K := K) rfl hr.units) (pe_lc (own := [("_law_group", 7)]) rfl sc__law_due.nd (pi_listK (K := K) rfl (pv 5)) (blkOk_by (own := [("_law_group", 7)]) (N := N__law_due) (sc := defScope s__law_due) (by decide +kernel)) (fun _ _ _ _ _ => (pg_name (i := 7) sc__law_due.nd rfl (.inl rfl))) (fun _ _ _ _ _ => (pts_one (pt_cmpR (op_neK (K := K) rfl hr.units) (pe_ix (ix_seqK (K := K) rfl) (pv 0) (pe_op op_addX (pv 7) (pe_op op_shlX pe_int (pv 4))) (fun _ _ => rfl)) (pe_ix (ix_seqK (K := K) rfl) (pv 0) (pv 7) (fun _ _ => rfl)) (nomark _)))) (fun _ _ _ _ _ => (pv 7))) (pe_lst pa_nil) (nomark _)) (pss_one (ps_expr (pe_bm PySem.F.plainAttrs_list PySem.F.slot_list_append PySem.F.type_list_append mt_append (pv 3) (pa_cons (pv 4) pa_nil)))) pss_nil)))))
      (pss_one (ps_ret (pe_lst (pa_cons (pv 2) (pa_cons (pv 3) pa_nil))))))))), ?_⟩
    walk_at "x"
    refine ⟨_, rfl, by decide, by decide, cp_r0 (n := 6) (fun i => ((List.range i).filter fun k => decide (2 ^ k < 2 ^ m)).map vnat) w rfl ?_ ?_⟩
    · intro D i H' hi p
      walk_at "x"
      refine ⟨rfl, ?_⟩
      walk_at "x"
      refine x_shl ⟨by omega, by omega, by decide⟩ ?_
      rw [shl_nat]
      walk_at "x"
      refine x_lenL (Own.seq p hS) ?_
      walk_at "x"
      rw [List.length_map, show decide (((2 ^ i : Nat) : Int) < (ms.length : Int)) = decide (2 ^ i < 2 ^ m) by rw [ht]; exact decide_eq_decide.mpr Int.ofNat_lt]
      cases c : decide (2 ^ i < 2 ^ m) with
      | true =>
        refine iteT ?_
        walk_at "x"
        exact cp_fin p (filter_yes (p := fun k => decide (2 ^ k < 2 ^ m)) c _) (by rw [List.length_map]; have := filter_len (fun k => decide (2 ^ k < 2 ^ m)) i; omega)
      | false => exact iteF (cp_no p (filter_no (p := fun k => decide (2 ^ k < 2 ^ m)) c _))
    intro D H2 w2
    rw [show (List.range (6 : Int).toNat).filter (fun k => decide (2 ^ k < 2 ^ m)) = List.range m from bits_len m (by omega)] at w2
    walk_at "x"
    refine x_lenL (w2.sq 0 rfl) ?_
    walk_at "x"
    rw [List.length_map, List.length_range]
    have w2 := w2.pop
    refine ⟨Nat.zero_le _, fun p np => ?_⟩
    have w3 := w2.new (o := .lst ([].map vnat)) np
    walk_at "x"
    refine ⟨Nat.zero_le _, fun r nr => ?_⟩
    have w4 := w3.new (o := .lst ([].map vnat)) nr
    walk_at "x"
    refine ⟨_, rfl, by omega, by omega, for_r0 (fun i σ' H' => (∃ v1 v2 v3 v4, σ' = [some (.ref a), some (.int (m : Int)), some (.ref p), some (.ref r), v1, v2, v3, v4]) ∧ Own H [(r, .lst (((List.range i).filter (idleB ms)).map vnat)), (p, .lst (((List.range i).map (leastA ms)).map vnat))] H') ⟨⟨_, _, _, _, rfl⟩, w4⟩ ?_ ?_⟩
    · rintro h σ' H5 hh ⟨⟨v1, v2, v3, v4, rfl⟩, w5⟩
      have hhm : h < m := by omega
      obtain ⟨e1, e2, e3⟩ := least_ex ms h
      walk_at "x"
      refine ⟨x_tyL (w5.get 1 rfl), ?_⟩
      walk_at "x"
      refine ⟨_, rfl, by omega, by omega, cp_r0 (n := (h : Int) + 1) (fun i => ((List.range i).filter fun k => alikeB ms k h).map vnat) w5 rfl ?_ ?_⟩
      · intro D i H' hi p6
        walk_at "x"
        refine ⟨rfl, ?_⟩
        walk_at "x"
        refine x_shl ⟨by omega, by omega, by decide⟩ ?_
        rw [shl_nat]
        walk_at "x"
        refine x_shl ⟨by omega, by omega, by decide⟩ ?_
        rw [shl_nat]
        walk_at "x"
        refine ⟨a, ms, m, i, h, rfl, Own.seq p6 hS, tb, by omega, hhm, fun H7 s7 => ?_⟩
        have p7 : Own _ _ H7 := Own.ext p6 s7
        walk_at "x"
        cases c : alikeB ms i h with
        | true =>
          refine iteT ?_
          walk_at "x"
          exact cp_fin (F := fun i => ((List.range i).filter fun k => alikeB ms k h).map vnat) p7 (filter_yes (p := fun k => alikeB ms k h) c vnat) (by rw [List.length_map]; have := filter_len (fun k => alikeB ms k h) i; omega)
        | false => exact iteF (cp_no (F := fun i => ((List.range i).filter fun k => alikeB ms k h).map vnat) p7 (filter_no (p := fun k => alikeB ms k h) c vnat))
      intro D6 H6 w6
      rw [show ((h : Int) + 1).toNat = h + 1 by omega] at w6
      obtain ⟨m1, m2⟩ := mem_of_filter_least (ms := ms) hhm
      walk_at "x"
      refine x_minN (w6.sq 0 rfl) m1 m2 ?_
      walk_at "x"
      refine x_append (w6.get 2 rfl) (by rw [List.length_map, List.length_map, List.length_range]; exact small1000 (by omega)) ?_
      have w7 := w6.put (o' := .lst (((List.range (h + 1)).map (leastA ms)).map vnat)) 2 rfl
      have e7 : ((List.range (h + 1)).map (leastA ms)).map vnat = ((List.range h).map (leastA ms)).map vnat ++ [vnat (leastA ms h)] := by rw [range_map, List.map_append] <;> rfl
      rw [e7] at w7
      have w7 := w7.pop
      walk_at "x"
      refine x_lenL (w7.seq hS) ?_
      walk_at "x"
      rw [List.length_map]
      refine ⟨_, rfl, by omega, by omega, cp_r0 (n := (ms.length : Int)) (fun i => ((List.range i).filter fun g => !bitOn h g).map vnat) w7 rfl ?_ ?_⟩
      · intro D i H' hi p8
        walk_at "x"
        refine ⟨rfl, ?_⟩
        walk_at "x"
        refine x_shr (by omega) ?_
        walk_at "x"
        rw [bit_int0 (by omega) (by omega)]
        cases c : bitOn h i with
        | false =>
          refine iteT ?_
          walk_at "x"
          exact cp_fin p8 (filter_yes (p := fun g => !bitOn h g) (by rw [c] <;> rfl) vnat) (by rw [List.length_map]; have := filter_len (fun g => !bitOn h g) i; omega)
        | true => exact iteF (cp_no p8 (filter_no (p := fun g => !bitOn h g) (by rw [c] <;> rfl) vnat))
      intro D8 H8 w8
      rw [Int.toNat_natCast] at w8
      have w8 : Own H [(D8, .lst ((offs h ms.length).map vnat)), (r, .lst (((List.range h).filter (idleB ms)).map vnat)), (p, .lst (((List.range h).map (leastA ms)).map vnat ++ [vnat (leastA ms h)]))] H8 := w8
      walk_at "x"
      refine ⟨_, rfl, ⟨_, w8.sq 0 rfl⟩, cp_listO (xs := (offs h ms.length).map vnat) (fun i => (difs ms h ((offs h ms.length).take i)).map vnat) w8 0 rfl rfl ?_ ?_⟩
      · intro D i x H' hx p9
        obtain ⟨z, hz, rfl⟩ := map_at hx
        have hzm := List.mem_of_getElem? hz
        obtain ⟨z1, z2⟩ := List.mem_filter.mp hzm
        have z1 := List.mem_range.mp z1
        obtain ⟨f1, f2⟩ := off_bit (show m < 7 by omega) hhm (show z < 2 ^ m by omega) (by simpa using z2)
        have hlt : (difs ms h ((offs h ms.length).take i)).length < 1000000 := by
          have h1 : (difs ms h ((offs h ms.length).take i)).length ≤ ((offs h ms.length).take i).length := List.length_filter_le ..
          have h2 : (offs h ms.length).length ≤ ms.length := filter_len _ _
          rw [List.length_take] at h1
          omega
        walk_at "x"
        refine ⟨rfl, ?_⟩
        walk_at "x"
        refine x_shl ⟨by omega, by omega, by decide⟩ ?_
        rw [shl_nat]
        walk_at "x"
        rw [show (z : Int) + ((2 ^ h : Nat) : Int) = ((z + 2 ^ h : Nat) : Int) by omega]
        refine x_ixXL (Own.seq p9 hS) (at_int (by omega) (by omega)) ?_
        walk_at "x"
        refine x_ixXL (Own.seq p9 hS) (at_int (by omega) (by omega)) ?_
        walk_at "x"
        by_cases c : gi ms ((z + 2 ^ h : Nat) : Int) = gi ms (z : Int)
        · rw [decide_eq_true c]
          exact iteF (cp_no p9 (difs_no hz c))
        · rw [decide_eq_false c]
          refine iteT ?_
          walk_at "x"
          exact cp_fin p9 (difs_yes hz c) (by rw [List.length_map]; exact hlt)
      intro D9 H9 w9
      rw [List.length_map, List.take_length] at w9
      walk_at "x"
      refine ⟨Nat.zero_le _, fun p10 n10 => ?_⟩
      have w10 := w9.new (o := .lst []) n10
      have h9 := w10.sq (K := K) (xs := (difs ms h (offs h ms.length)).map vnat) 1 rfl
      rw [vnat_map] at h9
      refine x_eqLI (ms := []) h9 (w10.sq 0 rfl) ?_
      rw [difs_idle]
      walk_at "x"
      have w11 := w10.sub (ds := [(r, .lst (((List.range h).filter (idleB ms)).map vnat)), (p, .lst (((List.range h).map (leastA ms)).map vnat ++ [vnat (leastA ms h)]))]) (.cons _ (.cons _ (.cons _ (.cons_cons _ (.cons_cons _ .slnil)))))
      cases c : idleB ms h with
      | true =>
        refine iteT ?_
        walk_at "x"
        refine ⟨x_tyL (w11.get 0 rfl), ?_⟩
        walk_at "x"
        refine x_append (w11.get 0 rfl) (by rw [List.length_map]; exact small1000 (by have := filter_len (idleB ms) h; omega)) ?_
        have w12 := w11.put (o' := .lst (((List.range (h + 1)).filter (idleB ms)).map vnat)) 0 rfl
        rw [filter_yes (p := idleB ms) c vnat, ← e7] at w12
        exact ⟨⟨_, _, _, _, rfl⟩, by rw [filter_yes (p := idleB ms) c vnat]; exact w12⟩
      | false =>
        refine iteF ?_
        walk_at "x"
        rw [← e7] at w11
        exact ⟨⟨_, _, _, _, rfl⟩, by rw [filter_no (p := idleB ms) c vnat]; exact w11⟩
    · rintro σ' H5 ⟨⟨v1, v2, v3, v4, rfl⟩, w5⟩
      rw [Int.toNat_natCast] at w5
      walk_at "x"
      refine ⟨(by show 2 ≤ sizeLine; decide), fun q nq => ?_⟩
      exact k q p r _ ((own_swap w5).new (o := .lst [.ref p, .ref r]) nq)

/-! ### _law_wholes -/
def sp__law_wholes (K : PySem.W.Frag) : Sp := fun vs H Q _ => ∃ (p : Addr) (l : List Nat), vs = [.ref p] ∧ Rd H p (.lst (l.map vnat)) ∧ RetV (.bl true) H Q
theorem ok__law_wholes (T : Txt K mg A) : FnOk P w K mg base (L2.CX P w) 2 A.a__law_wholes A.d__law_wholes ["_law_found"] (sp__law_wholes K) := by
  refine T.F__law_wholes.okX sc__law_wholes (fun vs H Q E h => ?_) (fun cdv A0 outer s H vs Q E hr h => ?_)
  · obtain ⟨p, l, rfl, _⟩ := h; rfl
  · obtain ⟨p, l, rfl, hR, k⟩ := h
    have hp : SqL K H p (l.map vnat) := .inl hR
    refine ⟨_, (pss_cons (ps_if (pt_not (pt_val (pe_callB (call_isiX (K := K) rfl) (by rfl) T.z_isinstance (by decide +kernel) (pa_cons (pv 0) (pa_cons (pe_bltn (v := .ty "list") (by rfl) T.z_list (by decide +kernel) rfl) pa_nil))))) (pss_one (ps_ret pe_bl)) pss_nil)
      (pss_cons (ps_for (passes_of rfl) rfl (pi_listK (K := K) rfl (pv 0)) (pg_name (i := 1) sc__law_wholes.nd rfl (.inl rfl)) (pss_one (ps_if (pt_not (pt_val (pe_call (ok__law_whole T) (hr.mono (by decide)) (by rfl) T.g__law_whole T.F__law_whole.kp T.b__law_whole .nil (passes_call (takes_of rfl rfl rfl rfl) (fun _ _ _ _ h => h)) (pa_cons (pv 1) pa_nil)))) (pss_one (ps_ret pe_bl)) pss_nil)))
      (pss_one (ps_ret pe_bl)))), ?_⟩
    walk_at "x"
    refine x_isiListL hR ?_
    walk_at "x"
    refine iteF ?_
    walk_at "x"
    refine ⟨_, rfl, ⟨_, hp⟩, for_list (xs := l.map vnat) (fun i σ' H' => (∃ v, σ' = [some (.ref p), v]) ∧ Own H [] H') ⟨⟨_, rfl⟩, Own.start⟩ (fun i σ' H' _ h => h.2.seq hp) ?_ ?_⟩
    · rintro i x σ' H' hx ⟨⟨v, rfl⟩, w⟩
      obtain ⟨z, _, rfl⟩ := List.mem_map.mp (List.mem_of_getElem? hx)
      walk_at "x"
      refine ⟨_, rfl, .int _, fun H2 s2 => ?_⟩
      walk_at "x"
      refine iteF ?_
      walk_at "x"
      exact ⟨⟨_, rfl⟩, w.ext s2⟩
    · rintro σ' H' ⟨⟨v, rfl⟩, w⟩
      walk_at "x"
      exact k.go w.ex

/-! ### _law_told -/
def sp__law_told : Sp := fun vs H Q _ => ∃ (a : Addr) (b : Bool) (ms : List Int) (m : Nat), vs = [.ref a, .bl b] ∧ Rd H a (.lst (ms.map V.int)) ∧ Tab ms m ∧ RetLL (leasts ms m) (idles ms m) H Q
theorem ok__law_told (T : Txt K mg A) : FnOk P w K mg base (L2.CX P w) 4 A.a__law_told A.d__law_told ["_law_handed", "_law_idle_first"] sp__law_told := by
  refine T.F__law_told.okX sc__law_told (fun vs H Q E h => ?_) (fun cdv A0 outer s H vs Q E hr h => ?_)
  · obtain ⟨a, b, ms, m, rfl, _⟩ := h; rfl
  · obtain ⟨a, b, ms, m, rfl, hR, tb, k⟩ := h
    have w := Own.start (H := H)
    refine ⟨_, (pss_cons (ps_if (pt_val (pv 1)) (pss_cons (ps_set (i := 2) sc__law_told.nd rfl (.inl rfl) (pe_call (ok_idle T) (hr.mono (by decide)) (by rfl) T.g_idle T.F_idle.kp T.b_idle .nil (passes_call (takes_of rfl rfl rfl rfl) (fun _ _ _ _ h => h)) (pa_cons (pv 0) pa_nil)))
      (pss_one (ps_ret (pe_lst (pa_cons (pe_call (ok_alike T) (hr.mono (by decide)) (by rfl) T.g_alike T.F_alike.kp T.b_alike .nil (passes_call (takes_of rfl rfl rfl rfl) (fun _ _ _ _ h => h)) (pa_cons (pv 0) pa_nil)) (pa_cons (pv 2) pa_nil)))))) pss_nil)
      (pss_cons (ps_set (i := 3) sc__law_told.nd rfl (.inl rfl) (pe_call (ok_alike T) (hr.mono (by decide)) (by rfl) T.g_alike T.F_alike.kp T.b_alike .nil (passes_call (takes_of rfl rfl rfl rfl) (fun _ _ _ _ h => h)) (pa_cons (pv 0) pa_nil)))
      (pss_one (ps_ret (pe_lst (pa_cons (pv 3) (pa_cons (pe_call (ok_idle T) (hr.mono (by decide)) (by rfl) T.g_idle T.F_idle.kp T.b_idle .nil (passes_call (takes_of rfl rfl rfl rfl) (fun _ _ _ _ h => h)) (pa_cons (pv 0) pa_nil)) pa_nil))))))), ?_⟩
    walk_at "x"
    cases b with
    | true =>
      refine iteT ?_
      walk_at "x"
      refine ⟨a, ms, m, rfl, hR, tb, fun r H1 n1 s1 c1 => ?_⟩
      have w1 := w.newE n1 s1 c1
      walk_at "x"
      refine ⟨a, ms, m, rfl, rd_same w1.ex hR, tb, fun q H2 n2 s2 c2 => ?_⟩
      have w2 := w1.newE n2 s2 c2
      walk_at "x"
      refine ⟨(by show 2 ≤ sizeLine; decide), fun p np => ?_⟩
      exact k p q r _ (w2.new (o := .lst [.ref q, .ref r]) np)
    | false =>
      refine iteF ?_
      walk_at "x"
      refine ⟨a, ms, m, rfl, hR, tb, fun q H1 n1 s1 c1 => ?_⟩
      have w1 := w.newE n1 s1 c1
      walk_at "x"
      refine ⟨a, ms, m, rfl, rd_same w1.ex hR, tb, fun r H2 n2 s2 c2 => ?_⟩
      have w2 := own_swap (w1.newE n2 s2 c2)
      walk_at "x"
      refine ⟨(by show 2 ≤ sizeLine; decide), fun p np => ?_⟩
      exact k p q r _ (w2.new (o := .lst [.ref q, .ref r]) np)

/-! ### law -/
def sp_law (K : PySem.W.Frag) : Sp := fun vs H Q _ => ∃ (a : Addr) (ns : List Int), vs = [.ref a] ∧ SqL K H a (ns.map V.int) ∧ ns.length ≤ 63 ∧ ∀ H', Q (.bl true) H'
theorem ok_law (T : Txt K mg A) : FnOk P w K mg base (L2.CX P w) 5 A.a_law A.d_law ["_law_script"] (sp_law K) := by
  refine T.F_law.okX sc_law (fun vs H Q E h => ?_) (fun cdv A0 outer s H vs Q E hr h => ?_)
  · obtain ⟨a, ns, rfl, _⟩ := h; rfl
  · obtain ⟨a, ns, rfl, hS, hl, k⟩ := h
    refine ⟨_, (pss_cons (ps_set (i := 1) sc_law.nd rfl (.inl rfl) (pe_call (ok__law_shaped T) (hr.mono (by decide)) (by rfl) T.g__law_shaped T.F__law_shaped.kp T.b__law_shaped .nil (passes_call (takes_of rfl rfl rfl rfl) (fun _ _ _ _ h => h)) (pa_cons (pe_call (ok__law_shaped T) (hr.mono (by decide)) (by rfl) T.g__law_shaped T.F__law_shaped.kp T.b__law_shaped .nil (passes_call (takes_of rfl rfl rfl rfl) (fun _ _ _ _ h => h)) (pa_cons (pe_call (ok__law_table T) (hr.mono (by decide)) (by rfl) T.g__law_table T.F__law_table.kp T.b__law_table .nil (passes_call (takes_of rfl rfl rfl rfl) (fun _ _ _ _ h => h)) (pa_cons (pv 0) pa_nil)) (pa_cons (pe_call (ok__law_cell T) (hr.mono (by decide)) (by rfl) T.g__law_cell T.F__law_cell.kp T.b__law_cell .nil (passes_call (takes_of rfl rfl rfl rfl) (fun _ _ _ _ h => h)) (pa_cons (pv 0) (pa_cons pe_int pa_nil))) pa_nil))) (pa_cons (pe_call (ok__law_cell T) (hr.mono (by decide)) (by rfl) T.g__law_cell T.F__law_cell.kp T.b__law_cell .nil (passes_call (takes_of rfl rfl rfl rfl) (fun _ _ _ _ h => h)) (pa_cons (pv 0) (pa_cons pe_int pa_nil))) pa_nil))))
      (pss_cons (ps_set (i := 2) sc_law.nd rfl (.inl rfl) (pe_callTy (call_listK (K := K) rfl) (by rfl) T.z_list (by decide +kernel) (pa_cons (pv 1) pa_nil)))
      (pss_cons (ps_set (i := 3) sc_law.nd rfl (.inl rfl) (pe_call (ok__law_told T) (hr.mono (by decide)) (by rfl) T.g__law_told T.F__law_told.kp T.b__law_told .nil (passes_call (takes_of rfl rfl rfl rfl) (fun _ _ _ _ h => h)) (pa_cons (pv 2) (pa_cons (pe_cmpR (op_eqK (K := K) rfl hr.units) (pe_op op_modX (pe_call (ok__law_cell T) (hr.mono (by decide)) (by rfl) T.g__law_cell T.F__law_cell.kp T.b__law_cell .nil (passes_call (takes_of rfl rfl rfl rfl) (fun _ _ _ _ h => h)) (pa_cons (pv 0) (pa_cons pe_int pa_nil))) pe_int) pe_int (nomark _)) pa_nil))))
      (pss_cons (ps_if (PW.pt (pw_or (pt_not (pt_val (pe_call (ok__law_wholes T) (hr.mono (by decide)) (by rfl) T.g__law_wholes T.F__law_wholes.kp T.b__law_wholes .nil (passes_call (takes_of rfl rfl rfl rfl) (fun _ _ _ _ h => h)) (pa_cons (pe_ix (ix_seqK (K := K) rfl) (pv 3) pe_int (fun _ _ => rfl)) pa_nil)))) (pw_or (pt_not (pt_val (pe_call (ok__law_wholes T) (hr.mono (by decide)) (by rfl) T.g__law_wholes T.F__law_wholes.kp T.b__law_wholes .nil (passes_call (takes_of rfl rfl rfl rfl) (fun _ _ _ _ h => h)) (pa_cons (pe_ix (ix_seqK (K := K) rfl) (pv 3) pe_int (fun _ _ => rfl)) pa_nil)))) (pw_or (pt_cmpR (op_neK (K := K) rfl hr.units) (pv 3) (pe_call (ok__law_due T) (hr.mono (by decide)) (by rfl) T.g__law_due T.F__law_due.kp T.b__law_due .nil (passes_call (takes_of rfl rfl rfl rfl) (fun _ _ _ _ h => h)) (pa_cons (pv 1) pa_nil)) (nomark _)) (pw_or1 (pt_cmpR (op_neK (K := K) rfl hr.units) (pv 2) (pv 1) (nomark _))))))) (pss_one (ps_ret pe_bl)) pss_nil)
      (pss_cons (ps_augS (pv 2) (pe_op op_addX pe_int (pe_op op_modX (pe_call (ok__law_cell T) (hr.mono (by decide)) (by rfl) T.g__law_cell T.F__law_cell.kp T.b__law_cell .nil (passes_call (takes_of rfl rfl rfl rfl) (fun _ _ _ _ h => h)) (pa_cons (pv 0) (pa_cons pe_int pa_nil))) (pe_op op_subX (pe_callB (call_lenK (K := K) rfl) (by rfl) T.z_len (by decide +kernel) (pa_cons (pv 1) pa_nil)) pe_int))) (get_listK (K := K) rfl) (pe_op op_addX pe_int (pe_op op_modX (pe_call (ok__law_cell T) (hr.mono (by decide)) (by rfl) T.g__law_cell T.F__law_cell.kp T.b__law_cell .nil (passes_call (takes_of rfl rfl rfl rfl) (fun _ _ _ _ h => h)) (pa_cons (pv 0) (pa_cons pe_int pa_nil))) pe_int)) ip_add set_list)
      (pss_cons (ps_set (i := 4) sc_law.nd rfl (.inl rfl) (pe_callTy (call_listK (K := K) rfl) (by rfl) T.z_list (by decide +kernel) (pa_cons (pv 2) pa_nil)))
      (pss_cons (ps_set (i := 5) sc_law.nd rfl (.inl rfl) (pe_call (ok__law_told T) (hr.mono (by decide)) (by rfl) T.g__law_told T.F__law_told.kp T.b__law_told .nil (passes_call (takes_of rfl rfl rfl rfl) (fun _ _ _ _ h => h)) (pa_cons (pv 2) (pa_cons (pe_cmpR (op_eqK (K := K) rfl hr.units) (pe_op op_modX (pe_op op_fdivX (pe_call (ok__law_cell T) (hr.mono (by decide)) (by rfl) T.g__law_cell T.F__law_cell.kp T.b__law_cell .nil (passes_call (takes_of rfl rfl rfl rfl) (fun _ _ _ _ h => h)) (pa_cons (pv 0) (pa_cons pe_int pa_nil))) pe_int) pe_int) pe_int (nomark _)) pa_nil))))
      (pss_cons (ps_if (PW.pt (pw_or (pt_not (pt_val (pe_call (ok__law_wholes T) (hr.mono (by decide)) (by rfl) T.g__law_wholes T.F__law_wholes.kp T.b__law_wholes .nil (passes_call (takes_of rfl rfl rfl rfl) (fun _ _ _ _ h => h)) (pa_cons (pe_ix (ix_seqK (K := K) rfl) (pv 5) pe_int (fun _ _ => rfl)) pa_nil)))) (pw_or (pt_not (pt_val (pe_call (ok__law_wholes T) (hr.mono (by decide)) (by rfl) T.g__law_wholes T.F__law_wholes.kp T.b__law_wholes .nil (passes_call (takes_of rfl rfl rfl rfl) (fun _ _ _ _ h => h)) (pa_cons (pe_ix (ix_seqK (K := K) rfl) (pv 5) pe_int (fun _ _ => rfl)) pa_nil)))) (pw_or (pt_cmpR (op_neK (K := K) rfl hr.units) (pv 5) (pe_call (ok__law_due T) (hr.mono (by decide)) (by rfl) T.g__law_due T.F__law_due.kp T.b__law_due .nil (passes_call (takes_of rfl rfl rfl rfl) (fun _ _ _ _ h => h)) (pa_cons (pv 4) pa_nil)) (nomark _)) (pw_or1 (pt_cmpR (op_neK (K := K) rfl hr.units) (pv 2) (pv 4) (nomark _))))))) (pss_one (ps_ret pe_bl)) pss_nil)
      (pss_cons (ps_set (i := 6) sc_law.nd rfl (.inl rfl) (pe_call (ok__law_told T) (hr.mono (by decide)) (by rfl) T.g__law_told T.F__law_told.kp T.b__law_told .nil (passes_call (takes_of rfl rfl rfl rfl) (fun _ _ _ _ h => h)) (pa_cons (pv 1) (pa_cons (pe_cmpR (op_eqK (K := K) rfl hr.units) (pe_op op_modX (pe_op op_fdivX (pe_call (ok__law_cell T) (hr.mono (by decide)) (by rfl) T.g__law_cell T.F__law_cell.kp T.b__law_cell .nil (passes_call (takes_of rfl rfl rfl rfl) (fun _ _ _ _ h => h)) (pa_cons (pv 0) (pa_cons pe_int pa_nil))) pe_int) pe_int) pe_int (nomark _)) pa_nil))))
      (pss_cons (ps_expr (pe_bm PySem.F.plainAttrs_list PySem.F.slot_list_append PySem.F.type_list_append mt_append (pe_ix (ix_seqK (K := K) rfl) (pv 6) pe_int (fun _ _ => rfl)) (pa_cons pe_int pa_nil)))
      (pss_one (ps_ret (pe_and (pe_cmpR (op_eqK (K := K) rfl hr.units) (pe_ix (ix_seqK (K := K) rfl) (pv 6) pe_int (fun _ _ => rfl)) (pe_ix (ix_seqK (K := K) rfl) (pv 3) pe_int (fun _ _ => rfl)) (nomark _)) (pe_and (pe_cmpR (op_eqK (K := K) rfl hr.units) (pv 3) (pe_call (ok__law_due T) (hr.mono (by decide)) (by rfl) T.g__law_due T.F__law_due.kp T.b__law_due .nil (passes_call (takes_of rfl rfl rfl rfl) (fun _ _ _ _ h => h)) (pa_cons (pv 1) pa_nil)) (nomark _)) (pe_and (pe_cmpR (op_eqK (K := K) rfl hr.units) (pv 5) (pe_call (ok__law_due T) (hr.mono (by decide)) (by rfl) T.g__law_due T.F__law_due.kp T.b__law_due .nil (passes_call (takes_of rfl rfl rfl rfl) (fun _ _ _ _ h => h)) (pa_cons (pv 4) pa_nil)) (nomark _)) (pe_one (pe_cmpR (op_eqK (K := K) rfl hr.units) (pe_call (ok_idle T) (hr.mono (by decide)) (by rfl) T.g_idle T.F_idle.kp T.b_idle .nil (passes_call (takes_of rfl rfl rfl rfl) (fun _ _ _ _ h => h)) (pa_cons (pv 1) pa_nil)) (pe_ix (ix_seqK (K := K) rfl) (pv 3) pe_int (fun _ _ => rfl)) (nomark _)))))))))))))))))), ?_⟩
    walk_at "x"
    refine ⟨a, ns, rfl, hS, hl, fun ms0 m tb0 _ p1 H1 n1 s1 c1 => ?_⟩
    have w1 : Own H [(p1, .lst (ms0.map V.int))] H1 := Own.start.newE n1 s1 c1
    walk_at "x"
    refine ⟨a, ns, 1, rfl, w1.seq hS, hl, by decide, by decide, fun z2 H2 s2 => ?_⟩
    have w2 := w1.ext s2
    walk_at "x"
    refine ⟨p1, ms0, m, z2, rfl, w2.sq 0 rfl, tb0, fun ms1 tb1 p3 H3 n3 s3 c3 => ?_⟩
    have w3 := w2.newE n3 s3 c3
    walk_at "x"
    refine ⟨a, ns, 2, rfl, w3.seq hS, hl, by decide, by decide, fun z4 H4 s4 => ?_⟩
    have w4 := w3.ext s4
    walk_at "x"
    refine ⟨p3, ms1, m, z4, rfl, w4.sq 0 rfl, tb1, fun ms tb p5 H5 n5 s5 c5 => ?_⟩
    have w5 := w4.newE n5 s5 c5
    have hp := tb.pos
    walk_at "x"
    refine x_list (w5.sq 0 rfl) (fun p6 n6 => ?_)
    have w6 := w5.new (o := .lst (ms.map V.int)) n6
    have w6 := w6.sub (ds := [(p6, .lst (ms.map V.int)), (p5, .lst (ms.map V.int))]) (.cons_cons _ (.cons_cons _ (.cons _ (.cons _ .slnil))))
    walk_at "x"
    refine ⟨a, ns, 3, rfl, w6.seq hS, hl, by decide, by decide, fun z7 H7 s7 => ?_⟩
    have w7 := w6.ext s7
    walk_at "x"
    refine x_modP (by decide) ?_
    walk_at "x"
    refine ⟨p6, _, ms, m, rfl, .inl (w7.get 0 rfl), tb, fun pa qa ra H8 w8 => ?_⟩
    have w8 := own_join w7 w8
    walk_at "x"
    refine x_ixXL (w8.sq 0 rfl) (v := .ref qa) rfl ?_
    walk_at "x"
    refine ⟨qa, _, rfl, .inl (w8.get 1 rfl), fun H9 s9 => ?_⟩
    have w9 := w8.ext s9
    walk_at "x"
    refine iteF ?_
    walk_at "x"
    refine x_ixXL (w9.sq 0 rfl) (v := .ref ra) rfl ?_
    walk_at "x"
    refine ⟨ra, _, rfl, .inl (w9.get 2 rfl), fun H10 s10 => ?_⟩
    have w10 := w9.ext s10
    walk_at "x"
    refine iteF ?_
    walk_at "x"
    refine ⟨p5, ms, m, rfl, w10.sq 4 rfl, tb, fun pd qd rd H11 w11 => ?_⟩
    have w11 := own_join w10 w11
    walk_at "x"
    refine x_neD (dp_ll (w11.sq 3 rfl) (w11.sq 4 rfl) (w11.sq 5 rfl)) (dp_ll (w11.sq 0 rfl) (w11.sq 1 rfl) (w11.sq 2 rfl)) (lay_ll _ _) ?_
    walk_at "x"
    refine iteF ?_
    walk_at "x"
    refine x_neLI (w11.sq 6 rfl) (w11.sq 7 rfl) ?_
    rw [decide_eq_true rfl]
    walk_at "x"
    refine iteF ?_
    walk_at "x"
    refine ⟨a, ns, 4, rfl, w11.seq hS, hl, by decide, by decide, fun z12 H12 s12 => ?_⟩
    have w12 := w11.ext s12
    walk_at "x"
    refine x_lenL (w12.sq 7 rfl) ?_
    walk_at "x"
    rw [List.length_map]
    refine x_modP (by omega) ?_
    walk_at "x"
    have hr0 : 0 ≤ z12 % ((ms.length : Int) - 1) := Int.emod_nonneg _ (by omega)
    have hr1 : z12 % ((ms.length : Int) - 1) < (ms.length : Int) - 1 := Int.emod_lt_of_pos _ (by omega)
    refine x_ixL (w12.sq 6 rfl) (at_int (i := 1 + z12 % ((ms.length : Int) - 1)) (by omega) (by omega)) ?_
    walk_at "x"
    refine ⟨a, ns, 5, rfl, w12.seq hS, hl, by decide, by decide, fun z13 H13 s13 => ?_⟩
    have w13 := w12.ext s13
    walk_at "x"
    refine x_modP (by decide) ?_
    walk_at "x"
    refine x_setL (w13.get 6 rfl) (by rw [List.length_map]; exact ixN_int (by omega) (by omega)) ?_
    rw [map_set_int]
    have tb2 : Tab (ms.set (1 + z12 % ((ms.length : Int) - 1)).toNat (gi ms (1 + z12 % ((ms.length : Int) - 1)) + (1 + z13 % 1000))) m := tb.set (by omega)
    generalize ms.set (1 + z12 % ((ms.length : Int) - 1)).toNat (gi ms (1 + z12 % ((ms.length : Int) - 1)) + (1 + z13 % 1000)) = ms2 at tb2 ⊢
    have w14 := w13.put (o' := .lst (ms2.map V.int)) 6 rfl
    have w14 := w14.sub (ds := [(pa, .lst [.ref qa, .ref ra]), (qa, .lst ((leasts ms m).map vnat)), (ra, .lst ((idles ms m).map vnat)), (p6, .lst (ms2.map V.int)), (p5, .lst (ms.map V.int))]) (.cons _ (.cons _ (.cons _ (.cons_cons _ (.cons_cons _ (.cons_cons _ (.cons_cons _ (.cons_cons _ .slnil))))))))
    walk_at "x"
    refine x_list (w14.sq 3 rfl) (fun p15 n15 => ?_)
    have w15 := w14.new (o := .lst (ms2.map V.int)) n15
    walk_at "x"
    refine ⟨a, ns, 3, rfl, w15.seq hS, hl, by decide, by decide, fun z16 H16 s16 => ?_⟩
    have w16 := w15.ext s16
    walk_at "x"
    refine x_divP (by decide) (by decide) ?_
    walk_at "x"
    refine x_modP (by decide) ?_
    walk_at "x"
    refine ⟨p6, _, ms2, m, rfl, .inl (w16.get 4 rfl), tb2, fun pb qb rb H17 w17 => ?_⟩
    have w17 := own_join w16 w17
    walk_at "x"
    refine x_ixXL (w17.sq 0 rfl) (v := .ref qb) rfl ?_
    walk_at "x"
    refine ⟨qb, _, rfl, .inl (w17.get 1 rfl), fun H18 s18 => ?_⟩
    have w18 := w17.ext s18
    walk_at "x"
    refine iteF ?_
    walk_at "x"
    refine x_ixXL (w18.sq 0 rfl) (v := .ref rb) rfl ?_
    walk_at "x"
    refine ⟨rb, _, rfl, .inl (w18.get 2 rfl), fun H19 s19 => ?_⟩
    have w19 := w18.ext s19
    walk_at "x"
    refine iteF ?_
    walk_at "x"
    refine ⟨p15, ms2, m, rfl, w19.sq 3 rfl, tb2, fun pe qe re H20 w20 => ?_⟩
    have w20 := own_join w19 w20
    walk_at "x"
    refine x_neD (dp_ll (w20.sq 3 rfl) (w20.sq 4 rfl) (w20.sq 5 rfl)) (dp_ll (w20.sq 0 rfl) (w20.sq 1 rfl) (w20.sq 2 rfl)) (lay_ll _ _) ?_
    walk_at "x"
    refine iteF ?_
    walk_at "x"
    refine x_neLI (w20.sq 10 rfl) (w20.sq 6 rfl) ?_
    rw [decide_eq_true rfl]
    walk_at "x"
    refine iteF ?_
    walk_at "x"
    have w20 := w20.sub (ds := [(pb, .lst [.ref qb, .ref rb]), (qb, .lst ((leasts ms2 m).map vnat)), (rb, .lst ((idles ms2 m).map vnat)), (p15, .lst (ms2.map V.int)), (pa, .lst [.ref qa, .ref ra]), (qa, .lst ((leasts ms m).map vnat)), (ra, .lst ((idles ms m).map vnat)), (p6, .lst (ms2.map V.int)), (p5, .lst (ms.map V.int))]) (.cons _ (.cons _ (.cons _ (List.Sublist.refl _))))
    refine ⟨a, ns, 3, rfl, w20.seq hS, hl, by decide, by decide, fun z21 H21 s21 => ?_⟩
    have w21 := w20.ext s21
    walk_at "x"
    refine x_divP (by decide) (by decide) ?_
    walk_at "x"
    refine x_modP (by decide) ?_
    walk_at "x"
    refine ⟨p5, _, ms, m, rfl, .inl (w21.get 8 rfl), tb, fun pc qc rc H22 w22 => ?_⟩
    have w22 := own_join w21 w22
    walk_at "x"
    refine x_ixXL (w22.sq 0 rfl) (v := .ref rc) rfl ?_
    walk_at "x"
    refine ⟨x_tyL (w22.get 2 rfl), ?_⟩
    walk_at "x"
    have hil : (idles ms m).length ≤ m := filter_len _ _
    have hm6 := tb.hi
    refine x_append (w22.get 2 rfl) (by rw [List.length_map]; exact small1000 (by omega)) ?_
    have w23 := w22.put (o' := .lst ((idles ms m).map vnat ++ [.int 1])) 2 rfl
    walk_at "x"
    refine x_ixXL (w23.sq 0 rfl) (v := .ref qc) rfl ?_
    walk_at "x"
    refine x_ixXL (w23.sq 7 rfl) (v := .ref qa) rfl ?_
    refine x_eqN (w23.sq 1 rfl) (w23.sq 8 rfl) ?_
    walk_at "x"
    refine iteT ?_
    walk_at "x"
    refine ⟨p5, ms, m, rfl, w23.sq 11 rfl, tb, fun pd qd rd H24 w24 => ?_⟩
    have w24 := own_join w23 w24
    walk_at "x"
    refine x_eqD (dp_ll (w24.sq 10 rfl) (w24.sq 11 rfl) (w24.sq 12 rfl)) (dp_ll (w24.sq 0 rfl) (w24.sq 1 rfl) (w24.sq 2 rfl)) (lay_ll _ _) ?_
    walk_at "x"
    refine iteT ?_
    walk_at "x"
    refine ⟨p15, ms2, m, rfl, w24.sq 9 rfl, tb2, fun pe qe re H25 w25 => ?_⟩
    have w25 := own_join w24 w25
    walk_at "x"
    refine x_eqD (dp_ll (w25.sq 9 rfl) (w25.sq 10 rfl) (w25.sq 11 rfl)) (dp_ll (w25.sq 0 rfl) (w25.sq 1 rfl) (w25.sq 2 rfl)) (lay_ll _ _) ?_
    walk_at "x"
    refine iteT ?_
    walk_at "x"
    refine ⟨p5, ms, m, rfl, .inl (w25.get 17 rfl), tb, fun p26 H26 n26 s26 c26 => ?_⟩
    have w26 := w25.newE n26 s26 c26
    walk_at "x"
    refine x_ixXL (w26.sq 14 rfl) (v := .ref ra) rfl ?_
    refine x_eqN (w26.sq 0 rfl) (w26.sq 16 rfl) (k _)

end
theorem all_mk {l : PySem.W.OpenLaw} {w : World} {K : PySem.W.Frag} {h : Heap} {mg : Str → Option Value} {fa f_is_whole f_look f_adds_of f_are_alike f_alike f_idle f__law_whole f__law_cell f__law_number f__law_table f__law_shaped f__law_same f__law_due f__law_wholes f__law_told f_law C_NoTable : Addr} (X : K.In h) (G : h.Ns mainGlobals mg) (hfa : mg "law" = some (.ref fa))
    {t_MOST : Tok} {od_is_whole an_is_whole od_look an_look od_adds_of an_adds_of od_are_alike an_are_alike od_alike an_alike od_idle an_idle od__law_whole an__law_whole od__law_cell an__law_cell od__law_number an__law_number od__law_table an__law_table od__law_shaped an__law_shaped od__law_same an__law_same od__law_due an__law_due od__law_wholes an__law_wholes od__law_told an__law_told od_law an_law : Option Addr} {sl_is_whole sl_look sl_adds_of sl_are_alike sl_alike sl_idle sl__law_whole sl__law_cell sl__law_number sl__law_table sl__law_shaped sl__law_same sl__law_due sl__law_wholes sl__law_told sl_law : Array (Option Value)} {oc_is_whole kV_is_whole dc_is_whole pm_is_whole cd_is_whole ct_is_whole oc_look kV_look dc_look pm_look cd_look ct_look oc_adds_of kV_adds_of dc_adds_of pm_adds_of cd_adds_of ct_adds_of oc_are_alike kV_are_alike dc_are_alike pm_are_alike cd_are_alike ct_are_alike oc_alike kV_alike dc_alike pm_alike cd_alike ct_alike oc_idle kV_idle dc_idle pm_idle cd_idle ct_idle oc__law_whole kV__law_whole dc__law_whole pm__law_whole cd__law_whole ct__law_whole oc__law_cell kV__law_cell dc__law_cell pm__law_cell cd__law_cell ct__law_cell oc__law_number kV__law_number dc__law_number pm__law_number cd__law_number ct__law_number oc__law_table kV__law_table dc__law_table pm__law_table cd__law_table ct__law_table oc__law_shaped kV__law_shaped dc__law_shaped pm__law_shaped cd__law_shaped ct__law_shaped oc__law_same kV__law_same dc__law_same pm__law_same cd__law_same ct__law_same oc__law_due kV__law_due dc__law_due pm__law_due cd__law_due ct__law_due oc__law_wholes kV__law_wholes dc__law_wholes pm__law_wholes cd__law_wholes ct__law_wholes oc__law_told kV__law_told dc__law_told pm__law_told cd__law_told ct__law_told oc_law kV_law dc_law pm_law cd_law ct_law : Value}
    (a_is_whole : PySem.W.nsIn K mainGlobals "is_whole" = some (some (.ref f_is_whole)))
    (l_is_whole : K.lookup f_is_whole = some ⟨oc_is_whole, od_is_whole, .func (PySem.W.fnOf "is_whole" "is_whole" (defArgs s_is_whole) (defBody s_is_whole) (defScope s_is_whole) .none kV_is_whole dc_is_whole pm_is_whole an_is_whole cd_is_whole ct_is_whole), sl_is_whole⟩)
    (c_is_whole : PySem.W.codeIn K cd_is_whole "is_whole" = true)
    (k_is_whole : PySem.W.keepIn K (.ref f_is_whole) = true)
    (a_look : PySem.W.nsIn K mainGlobals "look" = some (some (.ref f_look)))
    (l_look : K.lookup f_look = some ⟨oc_look, od_look, .func (PySem.W.fnOf "look" "look" (defArgs s_look) (defBody s_look) (defScope s_look) .none kV_look dc_look pm_look an_look cd_look ct_look), sl_look⟩)
    (c_look : PySem.W.codeIn K cd_look "look" = true)
    (k_look : PySem.W.keepIn K (.ref f_look) = true)
    (a_adds_of : PySem.W.nsIn K mainGlobals "adds_of" = some (some (.ref f_adds_of)))
    (l_adds_of : K.lookup f_adds_of = some ⟨oc_adds_of, od_adds_of, .func (PySem.W.fnOf "adds_of" "adds_of" (defArgs s_adds_of) (defBody s_adds_of) (defScope s_adds_of) .none kV_adds_of dc_adds_of pm_adds_of an_adds_of cd_adds_of ct_adds_of), sl_adds_of⟩)
    (c_adds_of : PySem.W.codeIn K cd_adds_of "adds_of" = true)
    (k_adds_of : PySem.W.keepIn K (.ref f_adds_of) = true)
    (a_are_alike : PySem.W.nsIn K mainGlobals "are_alike" = some (some (.ref f_are_alike)))
    (l_are_alike : K.lookup f_are_alike = some ⟨oc_are_alike, od_are_alike, .func (PySem.W.fnOf "are_alike" "are_alike" (defArgs s_are_alike) (defBody s_are_alike) (defScope s_are_alike) .none kV_are_alike dc_are_alike pm_are_alike an_are_alike cd_are_alike ct_are_alike), sl_are_alike⟩)
    (c_are_alike : PySem.W.codeIn K cd_are_alike "are_alike" = true)
    (k_are_alike : PySem.W.keepIn K (.ref f_are_alike) = true)
    (a_alike : PySem.W.nsIn K mainGlobals "alike" = some (some (.ref f_alike)))
    (l_alike : K.lookup f_alike = some ⟨oc_alike, od_alike, .func (PySem.W.fnOf "alike" "alike" (defArgs s_alike) (defBody s_alike) (defScope s_alike) .none kV_alike dc_alike pm_alike an_alike cd_alike ct_alike), sl_alike⟩)
    (c_alike : PySem.W.codeIn K cd_alike "alike" = true)
    (k_alike : PySem.W.keepIn K (.ref f_alike) = true)
    (a_idle : PySem.W.nsIn K mainGlobals "idle" = some (some (.ref f_idle)))
    (l_idle : K.lookup f_idle = some ⟨oc_idle, od_idle, .func (PySem.W.fnOf "idle" "idle" (defArgs s_idle) (defBody s_idle) (defScope s_idle) .none kV_idle dc_idle pm_idle an_idle cd_idle ct_idle), sl_idle⟩)
    (c_idle : PySem.W.codeIn K cd_idle "idle" = true)
    (k_idle : PySem.W.keepIn K (.ref f_idle) = true)
    (a__law_whole : PySem.W.nsIn K mainGlobals "_law_whole" = some (some (.ref f__law_whole)))
    (l__law_whole : K.lookup f__law_whole = some ⟨oc__law_whole, od__law_whole, .func (PySem.W.fnOf "_law_whole" "_law_whole" (defArgs s__law_whole) (defBody s__law_whole) (defScope s__law_whole) .none kV__law_whole dc__law_whole pm__law_whole an__law_whole cd__law_whole ct__law_whole), sl__law_whole⟩)
    (c__law_whole : PySem.W.codeIn K cd__law_whole "_law_whole" = true)
    (k__law_whole : PySem.W.keepIn K (.ref f__law_whole) = true)
    (a__law_cell : PySem.W.nsIn K mainGlobals "_law_cell" = some (some (.ref f__law_cell)))
    (l__law_cell : K.lookup f__law_cell = some ⟨oc__law_cell, od__law_cell, .func (PySem.W.fnOf "_law_cell" "_law_cell" (defArgs s__law_cell) (defBody s__law_cell) (defScope s__law_cell) .none kV__law_cell dc__law_cell pm__law_cell an__law_cell cd__law_cell ct__law_cell), sl__law_cell⟩)
    (c__law_cell : PySem.W.codeIn K cd__law_cell "_law_cell" = true)
    (k__law_cell : PySem.W.keepIn K (.ref f__law_cell) = true)
    (a__law_number : PySem.W.nsIn K mainGlobals "_law_number" = some (some (.ref f__law_number)))
    (l__law_number : K.lookup f__law_number = some ⟨oc__law_number, od__law_number, .func (PySem.W.fnOf "_law_number" "_law_number" (defArgs s__law_number) (defBody s__law_number) (defScope s__law_number) .none kV__law_number dc__law_number pm__law_number an__law_number cd__law_number ct__law_number), sl__law_number⟩)
    (c__law_number : PySem.W.codeIn K cd__law_number "_law_number" = true)
    (k__law_number : PySem.W.keepIn K (.ref f__law_number) = true)
    (a__law_table : PySem.W.nsIn K mainGlobals "_law_table" = some (some (.ref f__law_table)))
    (l__law_table : K.lookup f__law_table = some ⟨oc__law_table, od__law_table, .func (PySem.W.fnOf "_law_table" "_law_table" (defArgs s__law_table) (defBody s__law_table) (defScope s__law_table) .none kV__law_table dc__law_table pm__law_table an__law_table cd__law_table ct__law_table), sl__law_table⟩)
    (c__law_table : PySem.W.codeIn K cd__law_table "_law_table" = true)
    (k__law_table : PySem.W.keepIn K (.ref f__law_table) = true)
    (a__law_shaped : PySem.W.nsIn K mainGlobals "_law_shaped" = some (some (.ref f__law_shaped)))
    (l__law_shaped : K.lookup f__law_shaped = some ⟨oc__law_shaped, od__law_shaped, .func (PySem.W.fnOf "_law_shaped" "_law_shaped" (defArgs s__law_shaped) (defBody s__law_shaped) (defScope s__law_shaped) .none kV__law_shaped dc__law_shaped pm__law_shaped an__law_shaped cd__law_shaped ct__law_shaped), sl__law_shaped⟩)
    (c__law_shaped : PySem.W.codeIn K cd__law_shaped "_law_shaped" = true)
    (k__law_shaped : PySem.W.keepIn K (.ref f__law_shaped) = true)
    (a__law_same : PySem.W.nsIn K mainGlobals "_law_same" = some (some (.ref f__law_same)))
    (l__law_same : K.lookup f__law_same = some ⟨oc__law_same, od__law_same, .func (PySem.W.fnOf "_law_same" "_law_same" (defArgs s__law_same) (defBody s__law_same) (defScope s__law_same) .none kV__law_same dc__law_same pm__law_same an__law_same cd__law_same ct__law_same), sl__law_same⟩)
    (c__law_same : PySem.W.codeIn K cd__law_same "_law_same" = true)
    (k__law_same : PySem.W.keepIn K (.ref f__law_same) = true)
    (a__law_due : PySem.W.nsIn K mainGlobals "_law_due" = some (some (.ref f__law_due)))
    (l__law_due : K.lookup f__law_due = some ⟨oc__law_due, od__law_due, .func (PySem.W.fnOf "_law_due" "_law_due" (defArgs s__law_due) (defBody s__law_due) (defScope s__law_due) .none kV__law_due dc__law_due pm__law_due an__law_due cd__law_due ct__law_due), sl__law_due⟩)
    (c__law_due : PySem.W.codeIn K cd__law_due "_law_due" = true)
    (k__law_due : PySem.W.keepIn K (.ref f__law_due) = true)
    (a__law_wholes : PySem.W.nsIn K mainGlobals "_law_wholes" = some (some (.ref f__law_wholes)))
    (l__law_wholes : K.lookup f__law_wholes = some ⟨oc__law_wholes, od__law_wholes, .func (PySem.W.fnOf "_law_wholes" "_law_wholes" (defArgs s__law_wholes) (defBody s__law_wholes) (defScope s__law_wholes) .none kV__law_wholes dc__law_wholes pm__law_wholes an__law_wholes cd__law_wholes ct__law_wholes), sl__law_wholes⟩)
    (c__law_wholes : PySem.W.codeIn K cd__law_wholes "_law_wholes" = true)
    (k__law_wholes : PySem.W.keepIn K (.ref f__law_wholes) = true)
    (a__law_told : PySem.W.nsIn K mainGlobals "_law_told" = some (some (.ref f__law_told)))
    (l__law_told : K.lookup f__law_told = some ⟨oc__law_told, od__law_told, .func (PySem.W.fnOf "_law_told" "_law_told" (defArgs s__law_told) (defBody s__law_told) (defScope s__law_told) .none kV__law_told dc__law_told pm__law_told an__law_told cd__law_told ct__law_told), sl__law_told⟩)
    (c__law_told : PySem.W.codeIn K cd__law_told "_law_told" = true)
    (k__law_told : PySem.W.keepIn K (.ref f__law_told) = true)
    (a_law : PySem.W.nsIn K mainGlobals "law" = some (some (.ref f_law)))
    (l_law : K.lookup f_law = some ⟨oc_law, od_law, .func (PySem.W.fnOf "law" "law" (defArgs s_law) (defBody s_law) (defScope s_law) .none kV_law dc_law pm_law an_law cd_law ct_law), sl_law⟩)
    (c_law : PySem.W.codeIn K cd_law "law" = true)
    (k_law : PySem.W.keepIn K (.ref f_law) = true)
    (ac_NoTable : PySem.W.nsIn K mainGlobals "NoTable" = some (some (.ref C_NoTable)))
    (kc_NoTable : PySem.W.keepIn K (.ref C_NoTable) = true)
    (ec_NoTable : PySem.W.subIn K (.ref C_NoTable) (.type "BaseException") = some true)
    (tc_NoTable : PySem.W.typeIn K (.ref C_NoTable) = some (.type "type"))
    (xc_NoTable : PySem.W.excIn K C_NoTable [.type "ValueError", .type "Exception", .type "BaseException", .type "object"] "ValueError.__new__" = true)
    (cn_MOST : PySem.W.nsIn K mainGlobals "MOST" = some (some (.int 6 t_MOST)))
    (z_any : PySem.W.nsIn K mainGlobals "any" = some none)
    (z_bool : PySem.W.nsIn K mainGlobals "bool" = some none)
    (z_int : PySem.W.nsIn K mainGlobals "int" = some none)
    (z_isinstance : PySem.W.nsIn K mainGlobals "isinstance" = some none)
    (z_len : PySem.W.nsIn K mainGlobals "len" = some none)
    (z_list : PySem.W.nsIn K mainGlobals "list" = some none)
    (z_min : PySem.W.nsIn K mainGlobals "min" = some none)
    (z_range : PySem.W.nsIn K mainGlobals "range" = some none)
    : ∃ fd : FuncData, (∀ (s : Shared) (v : Value), BindsTo s fd ⟨[v], []⟩ [("_law_script", v)]) ∧ ∀ base : Heap, K.In base → base.Ns mainGlobals mg → FnOk l.prog w K mg base (L2.CX l.prog w) 5 fa fd ["_law_script"] (sp_law K) := by
  have e := hfa.symm.trans (PySem.W.mg_of X G a_law)
  cases e
  have T : Txt K mg ⟨f_is_whole, PySem.W.fnOf "is_whole" "is_whole" (defArgs s_is_whole) (defBody s_is_whole) (defScope s_is_whole) .none kV_is_whole dc_is_whole pm_is_whole an_is_whole cd_is_whole ct_is_whole, f_look, PySem.W.fnOf "look" "look" (defArgs s_look) (defBody s_look) (defScope s_look) .none kV_look dc_look pm_look an_look cd_look ct_look, f_adds_of, PySem.W.fnOf "adds_of" "adds_of" (defArgs s_adds_of) (defBody s_adds_of) (defScope s_adds_of) .none kV_adds_of dc_adds_of pm_adds_of an_adds_of cd_adds_of ct_adds_of, f_are_alike, PySem.W.fnOf "are_alike" "are_alike" (defArgs s_are_alike) (defBody s_are_alike) (defScope s_are_alike) .none kV_are_alike dc_are_alike pm_are_alike an_are_alike cd_are_alike ct_are_alike, f_alike, PySem.W.fnOf "alike" "alike" (defArgs s_alike) (defBody s_alike) (defScope s_alike) .none kV_alike dc_alike pm_alike an_alike cd_alike ct_alike, f_idle, PySem.W.fnOf "idle" "idle" (defArgs s_idle) (defBody s_idle) (defScope s_idle) .none kV_idle dc_idle pm_idle an_idle cd_idle ct_idle, f__law_whole, PySem.W.fnOf "_law_whole" "_law_whole" (defArgs s__law_whole) (defBody s__law_whole) (defScope s__law_whole) .none kV__law_whole dc__law_whole pm__law_whole an__law_whole cd__law_whole ct__law_whole, f__law_cell, PySem.W.fnOf "_law_cell" "_law_cell" (defArgs s__law_cell) (defBody s__law_cell) (defScope s__law_cell) .none kV__law_cell dc__law_cell pm__law_cell an__law_cell cd__law_cell ct__law_cell, f__law_number, PySem.W.fnOf "_law_number" "_law_number" (defArgs s__law_number) (defBody s__law_number) (defScope s__law_number) .none kV__law_number dc__law_number pm__law_number an__law_number cd__law_number ct__law_number, f__law_table, PySem.W.fnOf "_law_table" "_law_table" (defArgs s__law_table) (defBody s__law_table) (defScope s__law_table) .none kV__law_table dc__law_table pm__law_table an__law_table cd__law_table ct__law_table, f__law_shaped, PySem.W.fnOf "_law_shaped" "_law_shaped" (defArgs s__law_shaped) (defBody s__law_shaped) (defScope s__law_shaped) .none kV__law_shaped dc__law_shaped pm__law_shaped an__law_shaped cd__law_shaped ct__law_shaped, f__law_same, PySem.W.fnOf "_law_same" "_law_same" (defArgs s__law_same) (defBody s__law_same) (defScope s__law_same) .none kV__law_same dc__law_same pm__law_same an__law_same cd__law_same ct__law_same, f__law_due, PySem.W.fnOf "_law_due" "_law_due" (defArgs s__law_due) (defBody s__law_due) (defScope s__law_due) .none kV__law_due dc__law_due pm__law_due an__law_due cd__law_due ct__law_due, f__law_wholes, PySem.W.fnOf "_law_wholes" "_law_wholes" (defArgs s__law_wholes) (defBody s__law_wholes) (defScope s__law_wholes) .none kV__law_wholes dc__law_wholes pm__law_wholes an__law_wholes cd__law_wholes ct__law_wholes, f__law_told, PySem.W.fnOf "_law_told" "_law_told" (defArgs s__law_told) (defBody s__law_told) (defScope s__law_told) .none kV__law_told dc__law_told pm__law_told an__law_told cd__law_told ct__law_told, fa, PySem.W.fnOf "law" "law" (defArgs s_law) (defBody s_law) (defScope s_law) .none kV_law dc_law pm_law an_law cd_law ct_law, C_NoTable, t_MOST⟩ := {
    F_is_whole := fun_mk (st := s_is_whole) l_is_whole c_is_whole k_is_whole
    b_is_whole := (fun_mk (st := s_is_whole) l_is_whole c_is_whole k_is_whole).binds (ps := ["thing"]) fun _ _ _ _ _ _ us hl => match us, hl with | [_], _ => rfl
    g_is_whole := PySem.W.mg_of X G a_is_whole
    F_look := fun_mk (st := s_look) l_look c_look k_look
    b_look := (fun_mk (st := s_look) l_look c_look k_look).binds (ps := ["table"]) fun _ _ _ _ _ _ us hl => match us, hl with | [_], _ => rfl
    g_look := PySem.W.mg_of X G a_look
    F_adds_of := fun_mk (st := s_adds_of) l_adds_of c_adds_of k_adds_of
    b_adds_of := (fun_mk (st := s_adds_of) l_adds_of c_adds_of k_adds_of).binds (ps := ["table", "hand"]) fun _ _ _ _ _ _ us hl => match us, hl with | [_, _], _ => rfl
    g_adds_of := PySem.W.mg_of X G a_adds_of
    F_are_alike := fun_mk (st := s_are_alike) l_are_alike c_are_alike k_are_alike
    b_are_alike := (fun_mk (st := s_are_alike) l_are_alike c_are_alike k_are_alike).binds (ps := ["table", "one", "other"]) fun _ _ _ _ _ _ us hl => match us, hl with | [_, _, _], _ => rfl
    g_are_alike := PySem.W.mg_of X G a_are_alike
    F_alike := fun_mk (st := s_alike) l_alike c_alike k_alike
    b_alike := (fun_mk (st := s_alike) l_alike c_alike k_alike).binds (ps := ["table"]) fun _ _ _ _ _ _ us hl => match us, hl with | [_], _ => rfl
    g_alike := PySem.W.mg_of X G a_alike
    F_idle := fun_mk (st := s_idle) l_idle c_idle k_idle
    b_idle := (fun_mk (st := s_idle) l_idle c_idle k_idle).binds (ps := ["table"]) fun _ _ _ _ _ _ us hl => match us, hl with | [_], _ => rfl
    g_idle := PySem.W.mg_of X G a_idle
    F__law_whole := fun_mk (st := s__law_whole) l__law_whole c__law_whole k__law_whole
    b__law_whole := (fun_mk (st := s__law_whole) l__law_whole c__law_whole k__law_whole).binds (ps := ["_law_found"]) fun _ _ _ _ _ _ us hl => match us, hl with | [_], _ => rfl
    g__law_whole := PySem.W.mg_of X G a__law_whole
    F__law_cell := fun_mk (st := s__law_cell) l__law_cell c__law_cell k__law_cell
    b__law_cell := (fun_mk (st := s__law_cell) l__law_cell c__law_cell k__law_cell).binds (ps := ["_law_script", "_law_k"]) fun _ _ _ _ _ _ us hl => match us, hl with | [_, _], _ => rfl
    g__law_cell := PySem.W.mg_of X G a__law_cell
    F__law_number := fun_mk (st := s__law_number) l__law_number c__law_number k__law_number
    b__law_number := (fun_mk (st := s__law_number) l__law_number c__law_number k__law_number).binds (ps := ["_law_cell_here", "_law_way"]) fun _ _ _ _ _ _ us hl => match us, hl with | [_, _], _ => rfl
    g__law_number := PySem.W.mg_of X G a__law_number
    F__law_table := fun_mk (st := s__law_table) l__law_table c__law_table k__law_table
    b__law_table := (fun_mk (st := s__law_table) l__law_table c__law_table k__law_table).binds (ps := ["_law_script"]) fun _ _ _ _ _ _ us hl => match us, hl with | [_], _ => rfl
    g__law_table := PySem.W.mg_of X G a__law_table
    F__law_shaped := fun_mk (st := s__law_shaped) l__law_shaped c__law_shaped k__law_shaped
    b__law_shaped := (fun_mk (st := s__law_shaped) l__law_shaped c__law_shaped k__law_shaped).binds (ps := ["_law_table_here", "_law_cell_here"]) fun _ _ _ _ _ _ us hl => match us, hl with | [_, _], _ => rfl
    g__law_shaped := PySem.W.mg_of X G a__law_shaped
    F__law_same := fun_mk (st := s__law_same) l__law_same c__law_same k__law_same
    b__law_same := (fun_mk (st := s__law_same) l__law_same c__law_same k__law_same).binds (ps := ["_law_table_here", "_law_one", "_law_other"]) fun _ _ _ _ _ _ us hl => match us, hl with | [_, _, _], _ => rfl
    g__law_same := PySem.W.mg_of X G a__law_same
    F__law_due := fun_mk (st := s__law_due) l__law_due c__law_due k__law_due
    b__law_due := (fun_mk (st := s__law_due) l__law_due c__law_due k__law_due).binds (ps := ["_law_table_here"]) fun _ _ _ _ _ _ us hl => match us, hl with | [_], _ => rfl
    g__law_due := PySem.W.mg_of X G a__law_due
    F__law_wholes := fun_mk (st := s__law_wholes) l__law_wholes c__law_wholes k__law_wholes
    b__law_wholes := (fun_mk (st := s__law_wholes) l__law_wholes c__law_wholes k__law_wholes).binds (ps := ["_law_found"]) fun _ _ _ _ _ _ us hl => match us, hl with | [_], _ => rfl
    g__law_wholes := PySem.W.mg_of X G a__law_wholes
    F__law_told := fun_mk (st := s__law_told) l__law_told c__law_told k__law_told
    b__law_told := (fun_mk (st := s__law_told) l__law_told c__law_told k__law_told).binds (ps := ["_law_handed", "_law_idle_first"]) fun _ _ _ _ _ _ us hl => match us, hl with | [_, _], _ => rfl
    g__law_told := PySem.W.mg_of X G a__law_told
    F_law := fun_mk (st := s_law) l_law c_law k_law
    b_law := (fun_mk (st := s_law) l_law c_law k_law).binds (ps := ["_law_script"]) fun _ _ _ _ _ _ us hl => match us, hl with | [_], _ => rfl
    g_law := PySem.W.mg_of X G a_law
    g_NoTable := PySem.W.mg_of X G ac_NoTable
    k_NoTable := kc_NoTable
    e_NoTable := ec_NoTable
    t_NoTable := tc_NoTable
    x_NoTable := xc_NoTable
    c_MOST := PySem.W.mg_of X G cn_MOST
    z_any := PySem.W.mg_none_of X G z_any
    z_bool := PySem.W.mg_none_of X G z_bool
    z_int := PySem.W.mg_none_of X G z_int
    z_isinstance := PySem.W.mg_none_of X G z_isinstance
    z_len := PySem.W.mg_none_of X G z_len
    z_list := PySem.W.mg_none_of X G z_list
    z_min := PySem.W.mg_none_of X G z_min
    z_range := PySem.W.mg_none_of X G z_range
  }
  exact ⟨_, fun s v => .of_eq rfl, fun base _ _ => ok_law T⟩
end Lw
open PySem PySem.W PyProof.Rows
set_option maxHeartbeats 0 in
theorem PySem.Challenge.cw_shareparley_k26_alike_and_idle_holds : PySem.Challenge.rw_shareparley_k26_alike_and_idle.Holds := by
  w_on; o_law; k_head; (case hw => w_witness2)
  k_fill
  refine L2.walk_of (l := PySem.Challenge.rw_shareparley_k26_alike_and_idle) (n := 63) (k := 5) (x := "_law_script") (CX := fun w => L2.CX (PySem.Challenge.rw_shareparley_k26_alike_and_idle).prog w) (sp := fun w => Lw.sp_law _) rfl (by decide) rfl ⟨rfl, by decide, by decide⟩ (fun w h Y => PySem.W.kIn_of Y) ?F (fun _ _ a ns hl _ hS => ⟨a, ns, rfl, hS, hl, fun _ => rfl⟩) (fun _ _ _ _ _ h => Sp.cx_none h)
  case F =>
    intro w mg fa h KX G hmg
    refine' Lw.all_mk KX G hmg ?a_is_whole ?l_is_whole ?c_is_whole ?k_is_whole ?a_look ?l_look ?c_look ?k_look ?a_adds_of ?l_adds_of ?c_adds_of ?k_adds_of ?a_are_alike ?l_are_alike ?c_are_alike ?k_are_alike ?a_alike ?l_alike ?c_alike ?k_alike ?a_idle ?l_idle ?c_idle ?k_idle ?a__law_whole ?l__law_whole ?c__law_whole ?k__law_whole ?a__law_cell ?l__law_cell ?c__law_cell ?k__law_cell ?a__law_number ?l__law_number ?c__law_number ?k__law_number ?a__law_table ?l__law_table ?c__law_table ?k__law_table ?a__law_shaped ?l__law_shaped ?c__law_shaped ?k__law_shaped ?a__law_same ?l__law_same ?c__law_same ?k__law_same ?a__law_due ?l__law_due ?c__law_due ?k__law_due ?a__law_wholes ?l__law_wholes ?c__law_wholes ?k__law_wholes ?a__law_told ?l__law_told ?c__law_told ?k__law_told ?a_law ?l_law ?c_law ?k_law ?ac_NoTable ?kc_NoTable ?ec_NoTable ?tc_NoTable ?xc_NoTable ?cn_MOST ?z_any ?z_bool ?z_int ?z_isinstance ?z_len ?z_list ?z_min ?z_range
    (case a_is_whole => k_is)
    (case l_is_whole => k_is)
    (case c_is_whole => k_is)
    (case k_is_whole => k_is)
    (case a_look => k_is)
    (case l_look => k_is)
    (case c_look => k_is)
    (case k_look => k_is)
    (case a_adds_of => k_is)
    (case l_adds_of => k_is)
    (case c_adds_of => k_is)
    (case k_adds_of => k_is)
    (case a_are_alike => k_is)
    (case l_are_alike => k_is)
    (case c_are_alike => k_is)
    (case k_are_alike => k_is)
    (case a_alike => k_is)
    (case l_alike => k_is)
    (case c_alike => k_is)
    (case k_alike => k_is)
    (case a_idle => k_is)
    (case l_idle => k_is)
    (case c_idle => k_is)
    (case k_idle => k_is)
    (case a__law_whole => k_is)
    (case l__law_whole => k_is)
    (case c__law_whole => k_is)
    (case k__law_whole => k_is)
    (case a__law_cell => k_is)
    (case l__law_cell => k_is)
    (case c__law_cell => k_is)
    (case k__law_cell => k_is)
    (case a__law_number => k_is)
    (case l__law_number => k_is)
    (case c__law_number => k_is)
    (case k__law_number => k_is)
    (case a__law_table => k_is)
    (case l__law_table => k_is)
    (case c__law_table => k_is)
    (case k__law_table => k_is)
    (case a__law_shaped => k_is)
    (case l__law_shaped => k_is)
    (case c__law_shaped => k_is)
    (case k__law_shaped => k_is)
    (case a__law_same => k_is)
    (case l__law_same => k_is)
    (case c__law_same => k_is)
    (case k__law_same => k_is)
    (case a__law_due => k_is)
    (case l__law_due => k_is)
    (case c__law_due => k_is)
    (case k__law_due => k_is)
    (case a__law_wholes => k_is)
    (case l__law_wholes => k_is)
    (case c__law_wholes => k_is)
    (case k__law_wholes => k_is)
    (case a__law_told => k_is)
    (case l__law_told => k_is)
    (case c__law_told => k_is)
    (case k__law_told => k_is)
    (case a_law => k_is)
    (case l_law => k_is)
    (case c_law => k_is)
    (case k_law => k_is)
    (case ac_NoTable => k_is)
    (case kc_NoTable => k_is)
    (case ec_NoTable => k_is)
    (case tc_NoTable => k_is)
    (case xc_NoTable => k_exc)
    (case cn_MOST => k_is)
    (case z_any => k_is)
    (case z_bool => k_is)
    (case z_int => k_is)
    (case z_isinstance => k_is)
    (case z_len => k_is)
    (case z_list => k_is)
    (case z_min => k_is)
    (case z_range => k_is)
