import PyProof.Rows.All
import Wide.All
import OpenK.AllK
import Wide.FinOn
import HandS.ForMost
import HandS.Exc
import HandS.TryOnly
import HandS.ExcOwn
import HandS.WordsExc
import HandS.IsInst
import HandS.Style
import HandS.Zip
import HandS.ExcIs
import PySem.Challenge.RW_shareparley_k15_summed_and_beside
set_option Elab.async false
set_option linter.all false
set_option maxRecDepth 100000
set_option maxHeartbeats 4000000
/-! Cm: what every text of ours leans on: the carried heap (Own), the readings walked step by step (x_..), own rules. -/
namespace Sp
open PySem L2 PyProof.Rows

/-! ### the carried heap: B is what stands and stays, cs the cells of our own that may still change -/
abbrev Cells := List (Addr × HO)
structure Own (B : Hp) (cs : Cells) (H : Hp) : Prop where
  ex : Same B H
  cell : ∀ p ∈ cs, H p.1 = some p.2 ∧ B p.1 = none
  nd : (cs.map (·.1)).Nodup
theorem same_upd {H : Hp} {p : Addr} {o : HO} (h : H p = none) : Same H (upd H p o) := fun b x e => by
  rw [upd_ne (ne_of_none e h)]
  exact e
theorem Own.start {H : Hp} : Own H [] H := ⟨Same.refl H, fun _ h => (nomatch h), List.nodup_nil⟩
section
variable {B H H' : Hp} {cs : Cells} {p : Addr} {o o' : HO} {K : PySem.W.Frag} {xs : List V}
theorem Own.ext (w : Own B cs H) (e : Same H H') : Own B cs H' := ⟨w.ex.trans e, fun q h => ⟨e _ _ (w.cell q h).1, (w.cell q h).2⟩, w.nd⟩
theorem Own.fresh (w : Own B cs H) (hp : H p = none) : B p = none := w.ex.free hp
theorem Own.off (w : Own B cs H) (hp : H p = none) : p ∉ cs.map (·.1) := fun m => by
  obtain ⟨q, hq, e⟩ := List.mem_map.mp m
  have := (w.cell q hq).1
  rw [e, hp] at this
  cases this
theorem Own.newE (w : Own B cs H) (hp : H p = none) (e : Same H H') (h : H' p = some o) : Own B ((p, o) :: cs) H' :=
  ⟨w.ex.trans e, fun q hq => by
    rcases List.mem_cons.mp hq with r | r
    · rw [r]; exact ⟨h, w.fresh hp⟩
    · exact ⟨e _ _ (w.cell q r).1, (w.cell q r).2⟩, List.nodup_cons.mpr ⟨w.off hp, w.nd⟩⟩
theorem Own.new (w : Own B cs H) (hp : H p = none) : Own B ((p, o) :: cs) (upd H p o) := w.newE hp (same_upd hp) upd_same
theorem Own.get (w : Own B cs H) (i : Nat) (h : cs[i]? = some (p, o)) : H p = some o := (w.cell _ (List.mem_of_getElem? h)).1
theorem Own.none (w : Own B cs H) (i : Nat) (h : cs[i]? = some (p, o)) : B p = none := (w.cell _ (List.mem_of_getElem? h)).2
theorem Own.put (w : Own B cs H) (i : Nat) (h : cs[i]? = some (p, o)) : Own B (cs.set i (p, o')) (upd H p o') := by
  have hi : i < cs.length := (List.getElem?_eq_some_iff.mp h).1
  have hm : (cs.set i (p, o')).map (·.1) = cs.map (·.1) := by
    rw [List.map_set]
    apply List.ext_getElem?
    intro j
    by_cases e : i = j
    · subst e
      rw [List.getElem?_set_self (by rw [List.length_map]; exact hi), List.getElem?_map, h] <;> rfl
    · rw [List.getElem?_set_ne e]
  refine ⟨fun b x e => ?_, fun q hq => ?_, by rw [hm]; exact w.nd⟩
  · rw [upd_ne (ne_of_none e (w.none i h))]
    exact w.ex b x e
  · obtain ⟨j, hj⟩ := List.mem_iff_getElem?.mp hq
    by_cases e : i = j
    · subst e
      rw [List.getElem?_set_self hi] at hj
      cases hj
      exact ⟨upd_same, w.none i h⟩
    · rw [List.getElem?_set_ne e] at hj
      have hq' := w.cell q (List.mem_of_getElem? hj)
      have hne : q.1 ≠ p := fun z => by
        have a1 : (cs.map (·.1))[i]? = some p := by rw [List.getElem?_map, h] <;> rfl
        have a2 : (cs.map (·.1))[j]? = some p := by rw [List.getElem?_map, hj, ← z] <;> rfl
        obtain ⟨l1, e1⟩ := List.getElem?_eq_some_iff.mp a1
        obtain ⟨l2, e2⟩ := List.getElem?_eq_some_iff.mp a2
        exact e ((List.getElem_inj w.nd).mp (e1.trans e2.symm))
      exact ⟨by rw [upd_ne hne]; exact hq'.1, hq'.2⟩
theorem Own.sub {ds : Cells} (w : Own B cs H) (h : ds.Sublist cs) : Own B ds H := ⟨w.ex, fun q hq => w.cell q (h.mem hq), (h.map (·.1)).nodup w.nd⟩
theorem Own.pop (w : Own B ((p, o) :: cs) H) : Own B cs H := w.sub (List.sublist_cons_self _ _)
theorem Own.freeze (w : Own B ((p, o) :: cs) H) : Own (upd B p o) cs H :=
  ⟨fun b x e => by
    by_cases z : b = p
    · subst z; rw [upd_same] at e; rw [← e]; exact w.get 0 rfl
    · rw [upd_ne z] at e; exact w.ex b x e,
   fun q hq => ⟨(w.cell q (List.mem_cons_of_mem _ hq)).1, by
    rw [upd_ne (fun z => ?_)]
    · exact (w.cell q (List.mem_cons_of_mem _ hq)).2
    · have := (List.nodup_cons.mp w.nd).1
      exact this (List.mem_map.mpr ⟨q, hq, z⟩)⟩, (List.nodup_cons.mp w.nd).2⟩
theorem Own.sq (w : Own B cs H) (i : Nat) (h : cs[i]? = some (p, .lst xs)) : SqL K H p xs := SqL.of (w.get i h)
theorem Own.sqT (w : Own B cs H) (i : Nat) (h : cs[i]? = some (p, .tup xs)) : SqT K H p xs := SqT.of (w.get i h)
theorem same_sqT (e : Same H H') (h : SqT K H p xs) : SqT K H' p xs := by
  rcases h with (h | ⟨u, h⟩) | h
  · exact .inl (.inl (e _ _ h))
  · exact .inl (.inr ⟨u, e _ _ h⟩)
  · exact .inr h
theorem Own.seq (w : Own B cs H) (h : SqL K B p xs) : SqL K H p xs := w.ex.seq h
theorem Own.seqT (w : Own B cs H) (h : SqT K B p xs) : SqT K H p xs := same_sqT w.ex h
end

/-! ### own rules -/
section
variable {X : Cx}
/-- a list that is read: ours, or frozen -/
abbrev RdL (H : Hp) (a : Addr) (xs : List V) : Prop := Rd H a (.lst xs)
theorem rd_list {pins : List (Addr × Obj)} {σ : L2.St} {H : Hp} {s : Shared} {p : Addr} {xs : List V} (I : Inv X pins σ H s) (h : RdL H p xs) :
    xs.length ≤ sizeLine ∧ ∃ (its : List Value) (n : Nat), Vals xs its ∧ xs.length = its.length ∧ s.heap.get? p = some { cls := .type "list", data := .seq its.toArray n } := by
  obtain ⟨z, its, n, r, e⟩ := h.ok I.hok
  exact ⟨z, its, n, r, r.length, e⟩
/-- + of lists (ours or frozen) -/
def rCatS : R2 := fun x y H Q => ∃ l b xs zs, x = .ref l ∧ y = .ref b ∧ RdL H l xs ∧ RdL H b zs ∧ xs.length + zs.length ≤ sizeLine ∧ ∀ p, H p = none → Q (.ref p) (upd H p (.lst (xs ++ zs)))
theorem op_catS : OpR X (binaryOp .Add) rCatS := by
  intro pins s σ H x y v u Q I rx ry h
  obtain ⟨l, b, xs, zs, rfl, rfl, hH, hB, hz, q⟩ := h
  cases rx
  cases ry
  obtain ⟨z, its, n, r, hl, e⟩ := rd_list I hH
  obtain ⟨z2, its2, n2, r2, hl2, e2⟩ := rd_list I hB
  refine PySem.P.add_list e e2 ?_ (by rw [List.size_toArray, List.size_toArray]; omega)
  have ea : its.toArray ++ its2.toArray = (its ++ its2).toArray := by simp
  rw [ea]
  exact ⟨.ref _, _, I.lnew (t' := s.toks) (r.append r2) (by rw [List.length_append]; omega), rfl, q _ I.fresh⟩
/-- + of ints, of lists, of texts: which one, the reading says -/
def rAddX : R2 := fun x y H Q => (rI0 (fun i j => .int (i + j))) x y H Q ∨ rCatS x y H Q ∨ (∃ i j, x = .str i ∧ y = .str j ∧ i.length + j.length ≤ sizeLine ∧ Q (.str (i ++ j)) H)
theorem op_addX : OpR X (binaryOp .Add) rAddX := op_add.or (op_catS.or op_add_str)
/-- * of ints (any that the machine multiplies); of a list and an int -/
def rMulI : R2 := rI IntMulOk fun i j => .int (i * j)
theorem op_mulI : OpR X (binaryOp .Mult) rMulI := opI fun _ _ _ _ _ _ _ hc q => mul_int q hc
def rMulX : R2 := fun x y H Q => rMulI x y H Q ∨ rRep x y H Q
theorem op_mulX : OpR X (binaryOp .Mult) rMulX := op_mulI.or op_rep
/-- // by a divisor that is not nought, below 2 ^ 9000 -/
def CDivX (_ j : Int) : Prop := j ≠ 0 ∧ j.natAbs.log2 < 9000
def rDivX : R2 := rI CDivX fun i j => .int (i.fdiv j)
theorem op_fdivX : OpR X (binaryOp .FloorDiv) rDivX := opI fun _ _ _ _ _ _ _ hc q => floordiv_int hc.1 q (.inl (PyProof.noPylong_of_log2 hc.2))
def rModX : R2 := rI (fun _ j => j ≠ 0) fun i j => .int (i.fmod j)
theorem op_modX : OpR X (binaryOp .Mod) rModX := op_modN
/-- ** and << of a small base; >> -/
def rPow : R2 := rI CPow fun i j => .int (i ^ j.toNat)
theorem op_powX : OpR X (binaryOp .Pow) rPow := op_pow
def rShl : R2 := rI CPow fun i j => .int (i * 2 ^ j.toNat)
theorem op_shlX : OpR X (binaryOp .LShift) rShl := op_shl
def rShr : R2 := rI (fun _ j => 0 ≤ j) fun i j => .int (i / 2 ^ j.toNat)
theorem op_shrX : OpR X (binaryOp .RShift) rShr := op_shr
def rSubI : R2 := rI0 fun i j => .int (i - j)
theorem op_subX : OpR X (binaryOp .Sub) rSubI := op_sub
def rAndI : R2 := rI0 fun i j => .int (Builtin.bitAnd i j)
theorem op_andX : OpR X (binaryOp .BitAnd) rAndI := op_and
def rOrI : R2 := rI0 fun i j => .int (Builtin.bitOr i j)
theorem op_orX : OpR X (binaryOp .BitOr) rOrI := op_or
def rXorI : R2 := rI0 fun i j => .int (Builtin.bitXor i j)
theorem op_xorX : OpR X (binaryOp .BitXor) rXorI := op_xor
def rLtI : R2 := rI0 fun i j => .bl (decide (i < j))
theorem op_ltX : OpR X (compareOp .Lt) rLtI := op_lt
def rLeI : R2 := rI0 fun i j => .bl (decide (i ≤ j))
theorem op_leX : OpR X (compareOp .LtE) rLeI := op_le
def rGtI : R2 := rI0 fun i j => .bl (decide (j < i))
theorem op_gtX : OpR X (compareOp .Gt) rGtI := op_gt
def rGeI : R2 := rI0 fun i j => .bl (decide (j ≤ i))
theorem op_geX : OpR X (compareOp .GtE) rGeI := op_ge
/-- == and != of plain values, of data -/
def rEqX (K : PySem.W.Frag) : R2 := fun x y H Q => rEq x y H Q ∨ rEqD K x y H Q
def rNeX (K : PySem.W.Frag) : R2 := fun x y H Q => rNe x y H Q ∨ rNeD K x y H Q
theorem op_eqX (hu : X.A.units + 64 < cLine) : OpR X (compareOp .Eq) (rEqX X.K) := op_eq.or (op_eqD hu)
theorem op_neX (hu : X.A.units + 64 < cLine) : OpR X (compareOp .NotEq) (rNeX X.K) := op_ne.or (op_neD hu)
/-- is, is not, of anything and a truth -/
def rIsX : R2 := fun x y H Q => ∃ b : Bool, y = .bl b ∧ Q (.bl (decide (x = .bl b))) H
/-- is None -/
def rIsNX : R2 := fun x y H Q => y = .non ∧ Q (.bl (decide (x = .non))) H
def rNotNX : R2 := fun x y H Q => y = .non ∧ Q (.bl (!decide (x = .non))) H
theorem op_isNX : OpR X (compareOp .Is) rIsNX := op_isN
theorem op_notNX : OpR X (compareOp .IsNot) rNotNX := op_notN
theorem op_isX : OpR X (compareOp .Is) rIsX := by
  intro pins s σ H x y v u Q I rx ry h
  obtain ⟨b, rfl, q⟩ := h
  cases (show u = Value.bool b from ry)
  cases x with
  | bl a =>
    cases (show v = Value.bool a from rx)
    by_cases e : a = b
    · subst e
      exact wpAny_is_self rfl ⟨.bl true, H, I, rfl, by simpa using q⟩
    · exact wpAny_is_other rfl (fun z => e (Value.bool.inj z)) ⟨.bl false, H, I, rfl, by simpa [e] using q⟩
  | non => cases (show v = Value.none from rx); exact wpAny_is_other rfl (fun z => nomatch z) ⟨.bl false, H, I, rfl, by simpa using q⟩
  | int i => obtain ⟨t, rfl⟩ := rx; exact wpAny_is_other rfl (fun z => nomatch z) ⟨.bl false, H, I, rfl, by simpa using q⟩
  | str i => obtain ⟨t, rfl⟩ := rx; exact wpAny_is_other rfl (fun z => nomatch z) ⟨.bl false, H, I, rfl, by simpa using q⟩
  | byt i => obtain ⟨t, rfl⟩ := rx; exact wpAny_is_other rfl (fun z => nomatch z) ⟨.bl false, H, I, rfl, by simpa using q⟩
  | flt i => obtain ⟨t, rfl⟩ := rx; exact wpAny_is_other rfl (fun z => nomatch z) ⟨.bl false, H, I, rfl, by simpa using q⟩
  | ref a => cases (show v = Value.ref a from rx); exact wpAny_is_other rfl (fun z => nomatch z) ⟨.bl false, H, I, rfl, by simpa using q⟩
  | ty a => cases (show v = Value.type a from rx); exact wpAny_is_other rfl (fun z => nomatch z) ⟨.bl false, H, I, rfl, by simpa using q⟩
/-- the place of a list's item is read, as a store by an operator reads it -/
theorem get_list : PGet X (rIxL X.K) := by
  intro pins s σ H x y v u Q I rx ry h
  obtain ⟨p, xs, i, z, rfl, rfl, hq, he, q⟩ := h
  cases rx
  obtain ⟨t, rfl⟩ := ry
  obtain ⟨its, r, pl, hz⟩ := I.list hq
  obtain ⟨j, h1, h2, h3, h4, h5⟩ := atI_get he
  obtain ⟨w, ew, rw'⟩ := r.get h2
  have hl := r.length
  have hn := line63
  have fin : EP X pins σ Q w s := ⟨z, H, I, rw', q⟩
  by_cases h0 : 0 ≤ i
  · have hj : i.toNat = j := by
      rw [seqIndex_of h0 h5] at h1
      exact Option.some.inj h1
    exact wpAny_getItem_list pl.isList h0 (by omega) (by rw [hj]; simpa using ew) fin
  · have hj : (i + (its.toArray.size : Int)).toNat = j := by
      rw [seqIndex_neg (by omega) h4] at h1
      rw [List.size_toArray, ← hl]
      exact Option.some.inj h1
    exact wpAny_getItem_list_neg pl.isList (by omega) (by rw [List.size_toArray] <;> omega) (by omega) (by rw [hj]; simpa using ew) fin
/-- len, list, sum, .. by names of ours -/
def rLen (K : PySem.W.Frag) : List V → Hp → VK → Prop := fun xs H Q => ∃ x n, xs = [x] ∧ LenV K x H n ∧ Q (.int n) H
theorem call_lenX : CallR X (.builtin "len") (rLen X.K) := call_len
def rList (K : PySem.W.Frag) : List V → Hp → VK → Prop := fun xs H Q => ∃ p ys, xs = [.ref p] ∧ (SqL K H p ys ∨ SqT K H p ys) ∧ ∀ l, H l = none → Q (.ref l) (upd H l (.lst ys))
theorem call_listX : CallR X (.type "list") (rList X.K) := call_list_of
def rAbs : List V → Hp → VK → Prop := fun xs H Q => ∃ i, xs = [.int i] ∧ Q (.int (if i < 0 then -i else i)) H
theorem call_absX : CallR X (.builtin "abs") rAbs := call_abs
def rMax2 : List V → Hp → VK → Prop := fun xs H Q => ∃ i j, xs = [.int i, .int j] ∧ Q (.int (if j > i then j else i)) H
theorem call_max2X (hc : X.calm = true) : CallR X (.builtin "max") rMax2 := call_max2 hc
def rMin2 : List V → Hp → VK → Prop := fun xs H Q => ∃ i j, xs = [.int i, .int j] ∧ Q (.int (if j < i then j else i)) H
theorem call_min2X (hc : X.calm = true) : CallR X (.builtin "min") rMin2 := call_min2 hc
def rInt1 : List V → Hp → VK → Prop := fun xs H Q => (∃ i, xs = [.int i] ∧ Q (.int i) H) ∨ ∃ k, xs = [.bl k] ∧ Q (.int (if k then 1 else 0)) H
theorem call_int1X : CallR X (.type "int") rInt1 := call_int1
end

/-! ### readings, step by step: each of these takes the head of a reading away -/
section
variable {K : PySem.W.Frag} {σ : L2.St} {H : Hp} {D : Ends} {Q : VK} {te ta tb tl th : TE} {t u : TS} {c c2 : TT} {g : TG} {i : Nat} {v x y : V} {r : R2} {QT : Bool → Hp → Prop} {QA : List V → Hp → Prop} {sp : Sp} {dvs vs : List V} {E : XK}
theorem x_seq (h : t { D with nx := u D } σ H) : tSeq t u D σ H := h
theorem x_next (h : D.nx σ H) : tNext D σ H := h
theorem x_asg (h : te σ H fun x H1 => D.nx (σ.set i (some x)) H1) : tAsg te (gName i) D σ H := h
theorem x_asgS {to ti : TE} {s : TSet} (h : te σ H fun x H1 => to σ H1 fun o H2 => ti σ H2 fun k H3 => s o k x H3 fun H4 => D.nx σ H4) : tAsg te (gSub to ti s) D σ H := h
theorem x_augS {to ti : TE} {tg : V → V → Hp → VK → Prop} {tip : TIp} {ts : TSet} (h : to σ H fun o H1 => ti σ H1 fun k H2 => tg o k H2 fun x H3 => te σ H3 fun y H4 => tip x y H4 fun z H5 => ts o k z H5 fun H6 => D.nx σ H6) : tAugS to ti te tg tip ts D σ H := h
theorem x_aug {tip : TIp} (e : σ[i]? = some (some x)) (h : te σ H fun y H1 => tip x y H1 fun z H2 => D.nx (σ.set i (some z)) H2) : tAug i te tip D σ H := ⟨x, e, h⟩
theorem x_gn {QS : L2.St → Hp → Prop} (h : QS (σ.set i (some v)) H) : gName i v σ H QS := h
theorem x_gt {n : Nat} {gs : TGs} {a : Addr} {xs : List V} {QS : L2.St → Hp → Prop} (h : SqT K H a xs) (hn : xs.length = n) (q : gs xs σ H QS) : gTup K n gs (.ref a) σ H QS := ⟨a, xs, rfl, h, hn, q⟩
theorem x_gc {gs : TGs} {r : List V} {QS : L2.St → Hp → Prop} (q : g v σ H fun σ' H' => gs r σ' H' QS) : gCons g gs (v :: r) σ H QS := ⟨v, r, rfl, q⟩
theorem x_g0 {QS : L2.St → Hp → Prop} (q : QS σ H) : gNil [] σ H QS := ⟨rfl, q⟩
theorem x_ret (h : te σ H D.rt) : tRet te D σ H := h
theorem x_retN (h : D.rt .non H) : tRetN D σ H := h
theorem x_drop (h : te σ H fun _ H1 => D.nx σ H1) : tDrop te D σ H := h
theorem x_if (h : c σ H fun b H1 => if b = true then t D σ H1 else u D σ H1) : tIfS c t u D σ H := h
theorem x_brk (h : D.bk σ H) : tBreak D σ H := h
theorem x_ct (h : D.ct σ H) : tCont D σ H := h
theorem x_var (e : σ[i]? = some (some v)) (q : Q v H) : tVar i σ H Q := ⟨v, e, q⟩
theorem x_c (q : Q v H) : tC v σ H Q := q
theorem x_op (h : ta σ H fun x H1 => tb σ H1 fun y H2 => r x y H2 Q) : tOp r ta tb σ H Q := h
theorem x_un {r : V → Hp → VK → Prop} (h : ta σ H fun x H1 => r x H1 Q) : tUn r ta σ H Q := h
theorem x_test (h : te σ H fun x H1 => ∃ k, x = .bl k ∧ QT k H1) : tTest te σ H QT := h
theorem x_B (h : te σ H fun x H1 => ∃ k, x = .bl k ∧ QT k H1) : tB te σ H QT := h
theorem x_ex {b : Bool} {P : Bool → Prop} (q : P b) : ∃ k, V.bl b = .bl k ∧ P k := ⟨b, rfl, q⟩
theorem x_and (h : c σ H fun b H1 => if b = true then c2 σ H1 QT else QT false H1) : tAnd c c2 σ H QT := h
theorem x_or (h : c σ H fun b H1 => if b = true then QT true H1 else c2 σ H1 QT) : tOr c c2 σ H QT := h
theorem x_not (h : c σ H fun b H1 => QT (!b) H1) : tNot c σ H QT := h
theorem x_andV (h : ta σ H fun x H1 => ∃ b, x = .bl b ∧ if b = true then tb σ H1 Q else Q (.bl false) H1) : tAndV ta tb σ H Q := h
theorem x_orV (h : ta σ H fun x H1 => ∃ b, x = .bl b ∧ if b = true then Q (.bl true) H1 else tb σ H1 Q) : tOrV ta tb σ H Q := h
theorem x_notV (h : ta σ H fun x H1 => ∃ b, x = .bl b ∧ Q (.bl (!b)) H1) : tNotV ta σ H Q := h
theorem x_ifE (h : c σ H fun b H1 => if b = true then ta σ H1 Q else tb σ H1 Q) : tIf c ta tb σ H Q := h
theorem x_nil (q : QA [] H) : tNil σ H QA := q
theorem x_cons {tr : TA} (h : te σ H fun v H1 => tr σ H1 fun vs H2 => QA (v :: vs) H2) : tCons te tr σ H QA := h
theorem x_call {tr : TA} (h : tr σ H fun vs H1 => sp (vs ++ dvs) H1 Q E) : tCall sp dvs E tr σ H Q := h
theorem x_cb {tr : TA} {rc : List V → Hp → VK → Prop} (h : tr σ H fun vs H1 => rc vs H1 Q) : tCB rc tr σ H Q := h
theorem x_tup {tr : TA} (h : tr σ H fun xs H1 => xs.length ≤ sizeLine ∧ ∀ p, H1 p = none → Q (.ref p) (upd H1 p (.tup xs))) : tTup tr σ H Q := h
theorem x_lst {tr : TA} (h : tr σ H fun xs H1 => xs.length ≤ sizeLine ∧ ∀ p, H1 p = none → Q (.ref p) (upd H1 p (.lst xs))) : tLst tr σ H Q := h
theorem x_for {wi : TI} (h : wi σ H fun J H1 => ∃ W : Nat → Nat → L2.St → Hp → Prop, (∃ m, W 0 m σ H1) ∧ ∀ i m σ H, W i m σ H →
  (J.stop i H ∧ D.nx σ H) ∨ (J.go i H ∧ ∃ N : L2.St → Hp → Prop, (∀ σ' H', N σ' H' → ∃ m', m' < m ∧ W (i + 1) m' σ' H') ∧ ∀ x H', J.yld i H x H' → g x σ H' fun σ2 H2 => t { D with nx := N, ct := N, bk := D.nx } σ2 H2)) : tFor wi g t D σ H := h
theorem x_iList {R : It → Hp → Prop} (h : tl σ H fun x H1 => ∃ a, x = .ref a ∧ (∃ xs, SqL K H1 a xs) ∧ R (Itl K a) H1) : iList K tl σ H R := h
theorem x_iTup {R : It → Hp → Prop} (h : tl σ H fun x H1 => ∃ a, x = .ref a ∧ (∃ xs, SqT K H1 a xs) ∧ R (Itt K a) H1) : iTup K tl σ H R := h
theorem x_iR1 {R : It → Hp → Prop} {tr : TA} (h : tr σ H fun vs H1 => ∃ j : Int, vs = [.int j] ∧ -(2 ^ 62) ≤ j ∧ j < 2 ^ 62 ∧ R (Itr 0 j.toNat) H1) : iRng1 tr σ H R := h
theorem x_iR2 {R : It → Hp → Prop} {tr : TA} (h : tr σ H fun vs H1 => ∃ i j : Int, vs = [.int i, .int j] ∧ (-(2 ^ 62) ≤ i ∧ i < 2 ^ 62 ∧ -(2 ^ 62) ≤ j ∧ j < 2 ^ 62) ∧ R (Itr i (j - i).toNat) H1) : iRng2 tr σ H R := h
theorem x_iZip {R : It → Hp → Prop} {tr : TA} (h : tr σ H fun vs H1 => ∃ a b xs ys, vs = [.ref a, .ref b] ∧ SqL K H1 a xs ∧ SqL K H1 b ys ∧ R (Itz K a b) H1) : iZip K tr σ H R := h
theorem x_iEnum {R : It → Hp → Prop} {tr : TA} (h : tr σ H fun vs H1 => ∃ a xs, vs = [.ref a] ∧ SqL K H1 a xs ∧ R (Ite K a) H1) : iEnum K tr σ H R := h
theorem x_lc {wi : TI} {tt : TT} {ws : List Nat} (h : wi σ H fun J H1 => ∀ D, H1 D = none → ∃ W : Nat → Nat → Hp → Prop, (∃ m, W 0 m (upd H1 D (.lst []))) ∧ ∀ i m H, W i m H →
  (J.stop i H ∧ Q (.ref D) H) ∨ (J.go i H ∧ ∃ Nx : Hp → Prop, (∀ H', Nx H' → ∃ m', m' < m ∧ W (i + 1) m' H') ∧ ∀ x H', J.yld i H x H' → g x (wipe σ ws) H' fun σ2 H2 => wipe σ2 ws = wipe σ ws ∧ tt σ2 H2 fun b H3 =>
    if b = true then te σ2 H3 fun y H4 => ∃ acc, H4 D = some (.lst acc) ∧ acc.length < sizeLine ∧ Nx (upd H4 D (.lst (acc ++ [y]))) else Nx H3)) : tLc wi g tt te ws σ H Q := h
theorem x_yes (h : QT true H) : tYes σ H QT := h
theorem x_sl {rs : V → Option Int → Option Int → Hp → VK → Prop} {tlo thi : TO} (h : te σ H fun x H1 => tlo σ H1 fun l H2 => thi σ H2 fun u H3 => rs x l u H3 Q) : tSl rs te tlo thi σ H Q := h
theorem x_noPart {QO : Option Int → Hp → Prop} (h : QO none H) : tNoPart σ H QO := h
theorem x_part {QO : Option Int → Hp → Prop} (h : te σ H fun x H1 => ∃ i, x = .int i ∧ QO (some i) H1) : tPart te σ H QO := h
theorem x_exI {j : Int} {P : Int → Prop} (q : P j) : ∃ k, V.int j = .int k ∧ P k := ⟨j, rfl, q⟩
theorem x_bm {T : String} {rm : V → List V → Hp → VK → Prop} {tr : TA} (h : te σ H fun x H1 => tyV K T x H1 ∧ tr σ H1 fun xs H2 => rm x xs H2 Q) : tBM K T rm te tr σ H Q := h
theorem x_bm0 {T : String} {rm : V → List V → Hp → VK → Prop} (h : te σ H fun x H1 => tyV K T x H1 ∧ rm x [] H1 Q) : tBM0 K T rm te σ H Q := h
/- operators by values -/
theorem x_I0 {G : Int → Int → V} {a b : Int} (q : Q (G a b) H) : rI0 G (.int a) (.int b) H Q := ⟨a, b, rfl, rfl, q⟩
theorem x_I {C : Int → Int → Prop} {G : Int → Int → V} {a b : Int} (hc : C a b) (q : Q (G a b) H) : rI C G (.int a) (.int b) H Q := ⟨a, b, rfl, rfl, hc, q⟩
theorem x_U {G : Int → V} {a : Int} (q : Q (G a) H) : rU G (.int a) H Q := ⟨a, rfl, q⟩
theorem x_addI {a b : Int} (q : Q (.int (a + b)) H) : rAddX (.int a) (.int b) H Q := .inl ⟨a, b, rfl, rfl, q⟩
theorem x_addL {l b : Addr} {xs zs : List V} (h1 : RdL H l xs) (h2 : RdL H b zs) (hz : xs.length + zs.length ≤ sizeLine) (q : ∀ p, H p = none → Q (.ref p) (upd H p (.lst (xs ++ zs)))) : rAddX (.ref l) (.ref b) H Q := .inr (.inl ⟨l, b, xs, zs, rfl, rfl, h1, h2, hz, q⟩)
theorem x_addS {a b : Str} (h : a.length + b.length ≤ sizeLine) (q : Q (.str (a ++ b)) H) : rAddX (.str a) (.str b) H Q := .inr (.inr ⟨a, b, rfl, rfl, h, q⟩)
theorem x_subI {a b : Int} (q : Q (.int (a - b)) H) : rSubI (.int a) (.int b) H Q := ⟨a, b, rfl, rfl, q⟩
theorem x_mulI {a b : Int} (h : IntMulOk a b) (q : Q (.int (a * b)) H) : rMulX (.int a) (.int b) H Q := .inl ⟨a, b, rfl, rfl, h, q⟩
theorem x_mulL {l : Addr} {k : Int} {xs : List V} (h1 : H l = some (.lst xs)) (h2 : -(2 ^ 63) ≤ k ∧ k < 2 ^ 63 ∧ xs.length * k.toNat ≤ sizeLine) (q : ∀ p, H p = none → Q (.ref p) (upd H p (.lst (List.replicate k.toNat xs).flatten))) : rMulX (.ref l) (.int k) H Q :=
  .inr ⟨l, k, xs, rfl, rfl, h1, h2.1, h2.2.1, h2.2.2, q⟩
theorem x_divI {a b : Int} (h : b ≠ 0 ∧ b.natAbs.log2 < 9000) (q : Q (.int (a.fdiv b)) H) : rDivX (.int a) (.int b) H Q := ⟨a, b, rfl, rfl, h, q⟩
theorem x_divP {a b : Int} (h0 : 0 < b) (h : b.natAbs.log2 < 9000) (q : Q (.int (a / b)) H) : rDivX (.int a) (.int b) H Q := ⟨a, b, rfl, rfl, ⟨by omega, h⟩, by show Q (.int (a.fdiv b)) H; rw [Int.fdiv_eq_ediv_of_nonneg a (by omega)]; exact q⟩
theorem x_modP {a b : Int} (h0 : 0 < b) (q : Q (.int (a % b)) H) : rModX (.int a) (.int b) H Q := ⟨a, b, rfl, rfl, by omega, by show Q (.int (a.fmod b)) H; rw [Int.fmod_eq_emod_of_nonneg a (by omega)]; exact q⟩
theorem x_powN {a b : Int} (h : CPow a b) (q : Q (.int (a ^ b.toNat)) H) : rPow (.int a) (.int b) H Q := ⟨a, b, rfl, rfl, h, q⟩
theorem x_shl {a b : Int} (h : CPow a b) (q : Q (.int (a * 2 ^ b.toNat)) H) : rShl (.int a) (.int b) H Q := ⟨a, b, rfl, rfl, h, q⟩
theorem x_shr {a b : Int} (h : 0 ≤ b) (q : Q (.int (a / 2 ^ b.toNat)) H) : rShr (.int a) (.int b) H Q := ⟨a, b, rfl, rfl, h, q⟩
theorem x_andI {a b : Int} (q : Q (.int (Builtin.bitAnd a b)) H) : rAndI (.int a) (.int b) H Q := ⟨a, b, rfl, rfl, q⟩
theorem x_orI {a b : Int} (q : Q (.int (Builtin.bitOr a b)) H) : rOrI (.int a) (.int b) H Q := ⟨a, b, rfl, rfl, q⟩
theorem x_xorI {a b : Int} (q : Q (.int (Builtin.bitXor a b)) H) : rXorI (.int a) (.int b) H Q := ⟨a, b, rfl, rfl, q⟩
theorem x_ltI {a b : Int} (q : Q (.bl (decide (a < b))) H) : rLtI (.int a) (.int b) H Q := ⟨a, b, rfl, rfl, q⟩
theorem x_leI {a b : Int} (q : Q (.bl (decide (a ≤ b))) H) : rLeI (.int a) (.int b) H Q := ⟨a, b, rfl, rfl, q⟩
theorem x_gtI {a b : Int} (q : Q (.bl (decide (b < a))) H) : rGtI (.int a) (.int b) H Q := ⟨a, b, rfl, rfl, q⟩
theorem x_geI {a b : Int} (q : Q (.bl (decide (b ≤ a))) H) : rGeI (.int a) (.int b) H Q := ⟨a, b, rfl, rfl, q⟩
theorem dec_int' {a b : Int} : decide (V.int a = V.int b) = decide (a = b) := by
  by_cases e : a = b
  · subst e; simp
  · rw [decide_eq_false e, decide_eq_false (fun z => e (V.int.inj z))]
theorem x_eqI {a b : Int} (q : Q (.bl (decide (a = b))) H) : rEqX K (.int a) (.int b) H Q := .inl ⟨rfl, by rw [dec_int']; exact q⟩
theorem x_neI {a b : Int} (q : Q (.bl (!decide (a = b))) H) : rNeX K (.int a) (.int b) H Q := .inl ⟨rfl, by rw [dec_int']; exact q⟩
theorem x_eqS {a b : Str} (q : Q (.bl (decide (a = b))) H) : rEqX K (.str a) (.str b) H Q := .inl ⟨rfl, by
  have e : decide (V.str a = V.str b) = decide (a = b) := by
    by_cases e : a = b
    · subst e; simp
    · rw [decide_eq_false e, decide_eq_false (fun z => e (V.str.inj z))]
  rw [e]; exact q⟩
theorem x_eqB {a b : Bool} (q : Q (.bl (decide (a = b))) H) : rEqX K (.bl a) (.bl b) H Q := .inl ⟨rfl, by
  have e : decide (V.bl a = V.bl b) = decide (a = b) := by cases a <;> cases b <;> rfl
  rw [e]; exact q⟩
theorem x_isX {b : Bool} (q : Q (.bl (decide (x = .bl b))) H) : rIsX x (.bl b) H Q := ⟨b, rfl, q⟩
theorem x_isN (q : Q (.bl (decide (x = .non))) H) : rIsNX x .non H Q := ⟨rfl, q⟩
theorem x_notN (q : Q (.bl (!decide (x = .non))) H) : rNotNX x .non H Q := ⟨rfl, q⟩
theorem x_ipI {f : Int → Int → Int} {a b : Int} (q : Q (.int (f a b)) H) : ipI f (.int a) (.int b) H Q := ⟨a, b, rfl, rfl, q⟩
/- lists by values -/
theorem x_ixL {p : Addr} {xs : List V} {i : Int} (h : SqL K H p xs) (ha : atI xs i = some v) (q : Q v H) : rIxL K (.ref p) (.int i) H Q := ⟨p, xs, i, v, rfl, rfl, h, ha, q⟩
theorem x_ixT {p : Addr} {xs : List V} {i : Int} (h : SqT K H p xs) (ha : atI xs i = some v) (q : Q v H) : rIxT K (.ref p) (.int i) H Q := ⟨p, xs, i, v, rfl, rfl, h, ha, q⟩
theorem x_ixXL {p : Addr} {xs : List V} {i : Int} (h : SqL K H p xs) (ha : atI xs i = some v) (q : Q v H) : rIx K (.ref p) (.int i) H Q := .inl ⟨p, xs, i, v, rfl, rfl, h, ha, q⟩
theorem x_ixXT {p : Addr} {xs : List V} {i : Int} (h : SqT K H p xs) (ha : atI xs i = some v) (q : Q v H) : rIx K (.ref p) (.int i) H Q := .inr (.inl ⟨p, xs, i, v, rfl, rfl, h, ha, q⟩)
theorem x_lenL {p : Addr} {xs : List V} (h : SqL K H p xs) (q : Q (.int (xs.length : Int)) H) : rLen K [.ref p] H Q := ⟨_, _, rfl, .inl ⟨xs, h, rfl⟩, q⟩
theorem x_lenT {p : Addr} {xs : List V} (h : SqT K H p xs) (q : Q (.int (xs.length : Int)) H) : rLen K [.ref p] H Q := ⟨_, _, rfl, .inr ⟨xs, h, rfl⟩, q⟩
theorem x_lenS {z : Str} (h : z.length ≤ sizeLine) (q : Q (.int (z.length : Int)) H) : rLen K [.str z] H Q := ⟨_, _, rfl, ⟨h, rfl⟩, q⟩
theorem x_list {p : Addr} {xs : List V} (h : SqL K H p xs) (q : ∀ l, H l = none → Q (.ref l) (upd H l (.lst xs))) : rList K [.ref p] H Q := ⟨p, xs, rfl, .inl h, q⟩
theorem x_append {l : Addr} {xs : List V} (h : H l = some (.lst xs)) (hz : xs.length < sizeLine) (q : Q .non (upd H l (.lst (xs ++ [y])))) : rAppend (.ref l) [y] H Q := ⟨l, xs, y, rfl, rfl, h, hz, q⟩
theorem x_setL {p : Addr} {xs : List V} {k : Int} {j : Nat} {QH : Hp → Prop} (h : H p = some (.lst xs)) (hj : ixN xs.length k = some j) (q : QH (upd H p (.lst (xs.set j v)))) : rSetL (.ref p) (.int k) v H QH := ⟨p, xs, k, j, rfl, rfl, h, hj, q⟩
theorem x_tyL {p : Addr} {xs : List V} (h : H p = some (.lst xs)) : tyV K "list" (.ref p) H := .inl ⟨rfl, _, SqL.of h⟩
theorem x_abs {j : Int} (q : Q (.int (if j < 0 then -j else j)) H) : rAbs [.int j] H Q := ⟨j, rfl, q⟩
theorem x_max2 {a b : Int} (q : Q (.int (if b > a then b else a)) H) : rMax2 [.int a, .int b] H Q := ⟨a, b, rfl, q⟩
theorem x_min2 {a b : Int} (q : Q (.int (if b < a then b else a)) H) : rMin2 [.int a, .int b] H Q := ⟨a, b, rfl, q⟩
theorem x_sum {p : Addr} {ns : List Int} (h : SqL K H p (ns.map V.int)) (q : Q (.int ns.sum) H) : rSum K [.ref p] H Q := ⟨p, ns, rfl, h, q⟩
/-- while: W falls; the turn's test is read as it stands -/
theorem x_while (W : Nat → L2.St → Hp → Prop) (m0 : Nat) (h0 : W m0 σ H) (hs : ∀ m σ H, W m σ H → c σ H fun b H1 => if b = true then ∃ N : L2.St → Hp → Prop, (∀ σ' H', N σ' H' → ∃ m', m' < m ∧ W m' σ' H') ∧ t { D with nx := N, ct := N, bk := D.nx } σ H1 else D.nx σ H1) : tWhile c t D σ H := ⟨W, ⟨m0, h0⟩, hs⟩
theorem x_N {m : Nat} {W : Nat → L2.St → Hp → Prop} {B : L2.St → Hp → Prop} (h : t { D with nx := fun σ' H' => ∃ m', m' < m ∧ W m' σ' H', ct := fun σ' H' => ∃ m', m' < m ∧ W m' σ' H', bk := B } σ H) :
    ∃ N : L2.St → Hp → Prop, (∀ σ' H', N σ' H' → ∃ m', m' < m ∧ W m' σ' H') ∧ t { D with nx := N, ct := N, bk := B } σ H := ⟨_, fun _ _ z => z, h⟩
end
/-! ### places in lists of ints -/
def gi (ns : List Int) (i : Int) : Int := ns.getD i.toNat 0
theorem at_int {ns : List Int} {i : Int} (h0 : 0 ≤ i) (h1 : i < ns.length) : atI (ns.map V.int) i = some (.int (gi ns i)) := by
  obtain ⟨n, rfl⟩ := Int.eq_ofNat_of_zero_le h0
  have hn : n < ns.length := by omega
  refine atI_nat ?_
  rw [List.getElem?_map, List.getElem?_eq_getElem hn]
  show some (V.int ns[n]) = some (V.int (ns.getD n 0))
  rw [List.getD_eq_getElem?_getD, List.getElem?_eq_getElem hn] <;> rfl
theorem ixN_int {n : Nat} {i : Int} (h0 : 0 ≤ i) (h1 : i < n) : ixN n i = some i.toNat := by
  unfold ixN
  rw [if_pos h0, if_pos h1]
theorem map_set_int {ns : List Int} {j : Nat} {z : Int} : (ns.map V.int).set j (.int z) = (ns.set j z).map V.int := (List.map_set).symm
theorem map_app_int {ns : List Int} {z : Int} : ns.map V.int ++ [.int z] = (ns ++ [z]).map V.int := by rw [List.map_append] <;> rfl
theorem mulok {a b : Int} {n m : Nat} (ha : a.natAbs < 2 ^ n) (hb : b.natAbs < 2 ^ m) (h0 : 0 < n) (h1 : 0 < m) (h : n + m ≤ 100000000) : IntMulOk a b := by
  have bb : ∀ x : Int, ∀ k, 0 < k → x.natAbs < 2 ^ k → Builtin.Int.intBits x ≤ k := fun x k hk hx => by
    have := PySem.Flt.log2_lt_of hk hx
    unfold Builtin.Int.intBits
    split <;> omega
  have h2 := bb a n h0 ha
  have h3 := bb b m h1 hb
  have e : bitsLine = 134217728 := by decide
  unfold IntMulOk
  intro z
  rw [Bool.and_eq_true] at z
  have z2 := z.2
  unfold Builtin.Int.intTooBig at z2
  have z3 := of_decide_eq_true z2
  rw [e] at z3
  omega

/-! ### things of any kind, as a caller hands them in -/
inductive Thing (H : Hp) : V → Prop
  | non : Thing H .non
  | bl (b : Bool) : Thing H (.bl b)
  | int (i : Int) : Thing H (.int i)
  | str (x : Str) : Thing H (.str x)
  | lst {a : Addr} {xs : List V} (e : Rd H a (.lst xs)) : Thing H (.ref a)
  | tup {a : Addr} {xs : List V} (e : Rd H a (.tup xs)) : Thing H (.ref a)
  | dic {a : Addr} {kvs : List (Key × V)} (e : H a = some (.dK kvs)) : Thing H (.ref a)
def isI : V → Bool
  | .int _ => true
  | _ => false
def isB : V → Bool
  | .bl _ => true
  | _ => false
theorem rd_same {H H' : Hp} {a : Addr} {u : HO} (e : Same H H') (h : Rd H a u) : Rd H' a u := by
  rcases h with h | ⟨o, h⟩
  · exact .inl (e _ _ h)
  · exact .inr ⟨o, e _ _ h⟩
theorem Thing.same {H H' : Hp} {v : V} (e : Same H H') (h : Thing H v) : Thing H' v := by
  cases h with
  | non => exact .non
  | bl b => exact .bl b
  | int i => exact .int i
  | str x => exact .str x
  | lst q => exact .lst (rd_same e q)
  | tup q => exact .tup (rd_same e q)
  | dic q => exact .dic (e _ _ q)
theorem Thing.ty {K : PySem.W.Frag} {H : Hp} {v : V} (h : Thing H v) : ∃ t : String, TyX K H v (.type t) ∧ kitB t "int" = some (isI v || isB v) ∧ kitB t "bool" = some (isB v) := by
  cases h with
  | non => exact ⟨"NoneType", .base .non, by decide +kernel, by decide +kernel⟩
  | bl b => exact ⟨"bool", .base (.bl b), by cases b <;> decide +kernel, by cases b <;> decide +kernel⟩
  | int i => exact ⟨"int", .base (.int i), by show kitB "int" "int" = some true; decide +kernel, by show kitB "int" "bool" = some false; decide +kernel⟩
  | str x => exact ⟨"str", .base (.str x), by show kitB "str" "int" = some false; decide +kernel, by show kitB "str" "bool" = some false; decide +kernel⟩
  | lst q =>
    rcases q with q | ⟨o, q⟩
    · exact ⟨"list", .base (.lst q), by show kitB "list" "int" = some false; decide +kernel, by show kitB "list" "bool" = some false; decide +kernel⟩
    · exact ⟨"list", .base (.frz q), by show kitB "list" "int" = some false; decide +kernel, by show kitB "list" "bool" = some false; decide +kernel⟩
  | tup q =>
    rcases q with q | ⟨o, q⟩
    · exact ⟨"tuple", .base (.tup q), by show kitB "tuple" "int" = some false; decide +kernel, by show kitB "tuple" "bool" = some false; decide +kernel⟩
    · exact ⟨"tuple", .fTuple q, by show kitB "tuple" "int" = some false; decide +kernel, by show kitB "tuple" "bool" = some false; decide +kernel⟩
  | dic q => exact ⟨"dict", .base (.dK q), by show kitB "dict" "int" = some false; decide +kernel, by show kitB "dict" "bool" = some false; decide +kernel⟩
section
variable {K : PySem.W.Frag} {H : Hp} {Q : VK} {v : V}
theorem x_isiInt (h : Thing H v) (q : Q (.bl (isI v || isB v)) H) : rIsi K [v, .ty "int"] H Q := by
  obtain ⟨t, h1, h2, _⟩ := h.ty (K := K)
  exact ⟨v, .ty "int", _, _, _, rfl, .ty _, h1, kit_ty h2, q⟩
theorem x_isiBool (h : Thing H v) (q : Q (.bl (isB v)) H) : rIsi K [v, .ty "bool"] H Q := by
  obtain ⟨t, h1, _, h2⟩ := h.ty (K := K)
  exact ⟨v, .ty "bool", _, _, _, rfl, .ty _, h1, kit_ty h2, q⟩
theorem x_isiListL {a : Addr} {xs : List V} (h : Rd H a (.lst xs)) (q : Q (.bl true) H) : rIsi K [.ref a, .ty "list"] H Q := by
  rcases h with h | ⟨o, h⟩
  · exact ⟨_, .ty "list", _, _, _, rfl, .ty _, .base (.lst h), kit_ty (by decide +kernel), q⟩
  · exact ⟨_, .ty "list", _, _, _, rfl, .ty _, .base (.frz h), kit_ty (by decide +kernel), q⟩
theorem x_isiTupT {a : Addr} {xs : List V} (h : Rd H a (.tup xs)) (q : Q (.bl true) H) : rIsi K [.ref a, .ty "tuple"] H Q := by
  rcases h with h | ⟨o, h⟩
  · exact ⟨_, .ty "tuple", _, _, _, rfl, .ty _, .base (.tup h), kit_ty (by decide +kernel), q⟩
  · exact ⟨_, .ty "tuple", _, _, _, rfl, .ty _, .fTuple h, kit_ty (by decide +kernel), q⟩
end
/-- what a def tells and leaves: a value; a new list -/
def RetV (v : V) (H : Hp) (Q : VK) : Prop := ∀ H', Same H H' → Q v H'
def RetL (xs : List V) (H : Hp) (Q : VK) : Prop := ∀ p H', H p = none → Same H H' → H' p = some (.lst xs) → Q (.ref p) H'
def RetT (xs : List V) (H : Hp) (Q : VK) : Prop := ∀ p H', H p = none → Same H H' → H' p = some (.tup xs) → Q (.ref p) H'
theorem RetV.go {v : V} {H H' : Hp} {Q : VK} (h : RetV v H Q) (e : Same H H') : Q v H' := h H' e
theorem RetL.go {xs : List V} {H H' : Hp} {Q : VK} (h : RetL xs H Q) {p : Addr} (w : Own H ((p, .lst xs) :: []) H') : Q (.ref p) H' := h p H' (w.none 0 rfl) w.ex (w.get 0 rfl)
theorem RetT.go {xs : List V} {H H' : Hp} {Q : VK} (h : RetT xs H Q) {p : Addr} (w : Own H ((p, .tup xs) :: []) H') : Q (.ref p) H' := h p H' (w.none 0 rfl) w.ex (w.get 0 rfl)

/-! ### comprehensions: what the list at D holds behind i turns: F i -/
def PvC (B : Hp) (cs : Cells) (D : Addr) (F : Nat → List V) (i : Nat) (H : Hp) : Prop := Own B ((D, .lst (F i)) :: cs) H
section
variable {K : PySem.W.Frag} {σ : L2.St} {B H : Hp} {cs : Cells} {Q : VK} {te : TE} {g : TG} {tt : TT} {vs : List Nat}
/-- a turn's end: the item goes behind what is there -/
theorem cp_fin {D : Addr} {F : Nat → List V} {i : Nat} {H4 : Hp} {y : V} (w : PvC B cs D F i H4) (e : F (i + 1) = F i ++ [y]) (hl : (F i).length < 1000000) :
    ∃ acc, H4 D = some (.lst acc) ∧ acc.length < sizeLine ∧ PvC B cs D F (i + 1) (upd H4 D (.lst (acc ++ [y]))) := by
  refine ⟨F i, Own.get w 0 rfl, Nat.lt_of_lt_of_le hl (by decide), ?_⟩
  have := Own.put (o' := .lst (F i ++ [y])) w 0 rfl
  rw [← e] at this
  rw [← e]
  exact this
/-- the same where the test says no -/
theorem cp_no {D : Addr} {F : Nat → List V} {i : Nat} {H4 : Hp} (w : PvC B cs D F i H4) (e : F (i + 1) = F i) : PvC B cs D F (i + 1) H4 := by
  unfold PvC at *
  rw [e]
  exact w
theorem cp_range {QD : Addr → Hp → Prop} {lo : Int} {n : Nat} (F : Nat → List V) (w : Own B cs H) (h0 : F 0 = [])
    (hs : ∀ D i H', i < n → PvC B cs D F i H' → g (.int (lo + i)) (wipe σ vs) H' fun σ2 H2 => wipe σ2 vs = wipe σ vs ∧ tt σ2 H2 fun b H3 =>
      if b = true then te σ2 H3 fun y H4 => ∃ acc, H4 D = some (.lst acc) ∧ acc.length < sizeLine ∧ PvC B cs D F (i + 1) (upd H4 D (.lst (acc ++ [y]))) else PvC B cs D F (i + 1) H3)
    (hq : ∀ D H', Own B ((D, .lst (F n)) :: cs) H' → QD D H') : ∀ D, H D = none → ∃ W : Nat → Nat → Hp → Prop, (∃ m, W 0 m (upd H D (.lst []))) ∧ ∀ i m H, W i m H →
      ((Itr lo n).stop i H ∧ QD D H) ∨ ((Itr lo n).go i H ∧ ∃ Nx : Hp → Prop, (∀ H', Nx H' → ∃ m', m' < m ∧ W (i + 1) m' H') ∧ ∀ x H', (Itr lo n).yld i H x H' → g x (wipe σ vs) H' fun σ2 H2 => wipe σ2 vs = wipe σ vs ∧ tt σ2 H2 fun b H3 =>
        if b = true then te σ2 H3 fun y H4 => ∃ acc, H4 D = some (.lst acc) ∧ acc.length < sizeLine ∧ Nx (upd H4 D (.lst (acc ++ [y]))) else Nx H3) := fun D hD =>
  lc_range (PvC B cs D F) (by unfold PvC; rw [h0]; exact w.new hD) (fun i H' hi p => hs D i H' hi p) (fun H' p => hq D H' p)
theorem cp_list {QD : Addr → Hp → Prop} {a : Addr} {xs : List V} (F : Nat → List V) (w : Own B cs H) (hx : SqL K B a xs) (h0 : F 0 = [])
    (hs : ∀ D i x H', xs[i]? = some x → PvC B cs D F i H' → g x (wipe σ vs) H' fun σ2 H2 => wipe σ2 vs = wipe σ vs ∧ tt σ2 H2 fun b H3 =>
      if b = true then te σ2 H3 fun y H4 => ∃ acc, H4 D = some (.lst acc) ∧ acc.length < sizeLine ∧ PvC B cs D F (i + 1) (upd H4 D (.lst (acc ++ [y]))) else PvC B cs D F (i + 1) H3)
    (hq : ∀ D H', Own B ((D, .lst (F xs.length)) :: cs) H' → QD D H') : ∀ D, H D = none → ∃ W : Nat → Nat → Hp → Prop, (∃ m, W 0 m (upd H D (.lst []))) ∧ ∀ i m H, W i m H →
      ((Itl K a).stop i H ∧ QD D H) ∨ ((Itl K a).go i H ∧ ∃ Nx : Hp → Prop, (∀ H', Nx H' → ∃ m', m' < m ∧ W (i + 1) m' H') ∧ ∀ x H', (Itl K a).yld i H x H' → g x (wipe σ vs) H' fun σ2 H2 => wipe σ2 vs = wipe σ vs ∧ tt σ2 H2 fun b H3 =>
        if b = true then te σ2 H3 fun y H4 => ∃ acc, H4 D = some (.lst acc) ∧ acc.length < sizeLine ∧ Nx (upd H4 D (.lst (acc ++ [y]))) else Nx H3) := fun D hD =>
  lc_list (PvC B cs D F) (by unfold PvC; rw [h0]; exact w.new hD) (fun i H' hi p => Own.seq p hx) (fun i x H' hi p => hs D i x H' hi p) (fun H' p => hq D H' p)
/-- behind the first i items of a range: their images -/
theorem range_map {α : Type} (f : Nat → α) (i : Nat) : (List.range (i + 1)).map f = (List.range i).map f ++ [f i] := by rw [List.range_succ, List.map_append] <;> rfl
end

/-! ### the rules with the written part told (a comprehension's block has its own context) -/
section
variable {X : Cx} {K : PySem.W.Frag}
theorem ix_seqK (h : X.K = K) : IxR X (rIx K) := h ▸ ix_seq
theorem get_listK (h : X.K = K) : PGet X (rIxL K) := h ▸ get_list
theorem op_eqK (h : X.K = K) (hu : X.A.units + 64 < cLine) : OpR X (compareOp .Eq) (rEqX K) := h ▸ op_eqX hu
theorem op_neK (h : X.K = K) (hu : X.A.units + 64 < cLine) : OpR X (compareOp .NotEq) (rNeX K) := h ▸ op_neX hu
theorem call_lenK (h : X.K = K) : CallR X (.builtin "len") (rLen K) := h ▸ call_lenX
theorem call_listK (h : X.K = K) : CallR X (.type "list") (rList K) := h ▸ call_listX
theorem cr_sumK (h : X.K = K) (hc : X.calm = true) : CallR X (.builtin "sum") (rSum K) := h ▸ cr_sum hc
theorem cr_anyK (h : X.K = K) (hc : X.calm = true) : CallR X (.builtin "any") (rAny K) := h ▸ cr_any hc
theorem cr_maxK (h : X.K = K) (hc : X.calm = true) : CallR X (.builtin "max") (rMax K) := h ▸ cr_max hc
theorem cr_minK (h : X.K = K) (hc : X.calm = true) : CallR X (.builtin "min") (rMin K) := h ▸ cr_min hc
theorem cr_sortedK (h : X.K = K) : CallR X (.builtin "sorted") (rSorted K) := h ▸ cr_sorted
theorem call_isiX (h : X.K = K) : CallR X (.builtin "isinstance") (rIsi K) := h ▸ call_isi
theorem call_isiTX (h : X.K = K) : CallR X (.builtin "isinstance") (rIsiT K) := h ▸ call_isiT
theorem op_in_seqK (h : X.K = K) : OpR X (compareOp .In) (rIn K false) := h ▸ op_in_seq
theorem op_notIn_seqK (h : X.K = K) : OpR X (compareOp .NotIn) (rIn K true) := h ▸ op_notIn_seq
theorem sl_listK (h : X.K = K) : SlR X (rSlL K) := h ▸ sl_list
theorem sl_tupK (h : X.K = K) : SlR X (rSlT K) := h ▸ sl_tup
theorem pi_listK (h : X.K = K) {tg l : Expr} {tl : TE} (hl : PE X l tl) : PI X tg l (iList K tl) := h ▸ pi_list hl
theorem pi_tupK (h : X.K = K) {tg l : Expr} {tl : TE} (hl : PE X l tl) : PI X tg l (iTup K tl) := h ▸ pi_tup hl
theorem pi_zipK (h : X.K = K) {e e2 : Expr} {ta : TA} {p pos tpos : Pos} {elts : List Expr} {kk : Nat} (hg : Gl X "zip") (hm : X.mg "zip" = none) (ha : PA X [e, e2] ta)
    (hs : starEach [e, e2] X.env = (false, eval e X.env) :: starEach [e2] X.env := by rfl) (hpl : (backTo pos (starEach [e2] X.env)).any (·.1) = false := by rfl) :
    PI X (.Tuple elts kk tpos) (.Call (.Name "zip" p) [e, e2] [] pos) (iZip K ta) := h ▸ pi_zip hg hm ha hs hpl
theorem pi_enumK (h : X.K = K) {e : Expr} {ta : TA} {p pos tpos : Pos} {elts : List Expr} {kk : Nat} (hg : Gl X "enumerate") (hm : X.mg "enumerate" = none) (ha : PA X [e] ta) (hs : starEach [e] X.env = [(false, eval e X.env)] := by rfl) :
    PI X (.Tuple elts kk tpos) (.Call (.Name "enumerate" p) [e] [] pos) (iEnum K ta) := h ▸ pi_enum hg hm ha hs
theorem pi_reversedK (h : X.K = K) {tg e : Expr} {ta : TA} {p pos : Pos} (hg : Gl X "reversed") (hm : X.mg "reversed" = none) (ha : PA X [e] ta) (hs : starEach [e] X.env = [(false, eval e X.env)] := by rfl) :
    PI X tg (.Call (.Name "reversed" p) [e] [] pos) (iRev K ta) := h ▸ pi_reversed hg hm ha hs
theorem pg_tupK (h : X.K = K) {pos : Pos} {es : List Expr} {k : Nat} {t : TGs} {n : Nat} (hc : X.calm = true) (hg : PGs X es t)
    (hn : (assignEach es X.env).length = n := by rfl) (hst : (assignEach es X.env).findIdx? (·.1) = none := by rfl) : PG X (.Tuple es k pos) (gTup K n t) := h ▸ pg_tup hc hg hn hst
theorem pe_bmK (h : X.K = K) {T : String} {name : Str} {id : String} {r : V → List V → Hp → VK → Prop} {o e : Expr} {es : List Expr} {to : TE} {t : TA} {apos cpos : Pos}
    (pa : PlainAttrs T) (slot : Slot T name id) (hty : typeOf (.builtin id) = pure (.type "method_descriptor")) (hm : MtR X id r) (ho : PE X o to) (ha : PA X (e :: es) t)
    (f : PE X (.Call (.Attribute o name apos) (e :: es) [] cpos) (tBM X.K T r to t)) : PE X (.Call (.Attribute o name apos) (e :: es) [] cpos) (tBM K T r to t) := h ▸ f
theorem pe_fldK (h : X.K = K) {e : Expr} {f : Str} {ta : TE} {pos : Pos} (he : PE X e ta) (hb : attributeBase e f X.env (eval e X.env) = eval e X.env) : PE X (.Attribute e f pos) (tFld K ta f) := h ▸ pe_fld he hb
end

/-! ### == of lists of ints -/
theorem dpAll_ints {K : PySem.W.Frag} {H : Hp} : ∀ ns : List Int, DpAll K H (ns.map V.int) (ns.map PyData.int)
  | [] => .nil
  | n :: r => .cons (.int n) (dpAll_ints r)
theorem dp_ints {K : PySem.W.Frag} {H : Hp} {p : Addr} {ns : List Int} (h : SqL K H p (ns.map V.int)) : Dp K H (.ref p) (.list (ns.map PyData.int)) := .lst h (dpAll_ints ns)
theorem canLay_ints : ∀ ns : List Int, PyData.canLayAll0 (ns.map PyData.int) = true
  | [] => by simp [PyData.canLayAll0]
  | n :: r => by simp [PyData.canLayAll0, PyData.canLay0, canLay_ints r]
theorem depth_ints : ∀ ns : List Int, PyData.depthAll (ns.map PyData.int) ≤ 1
  | [] => by simp [PyData.depthAll]
  | n :: r => by
    have := depth_ints r
    simp only [List.map_cons, PyData.depthAll, PyData.depth]
    omega
theorem shaped_ints (ns : List Int) : SeqAt.shaped (.list (ns.map PyData.int)) = true := by
  have := depth_ints ns
  unfold SeqAt.shaped
  rw [Bool.and_eq_true]
  refine ⟨by simp [PyData.canLay0, canLay_ints ns], decide_eq_true ?_⟩
  simp only [PyData.depth]
  omega
theorem eqvAll_ints : ∀ ns ms : List Int, PyData.eqvAll (ns.map PyData.int) (ms.map PyData.int) = decide (ns = ms)
  | [], [] => by simp [PyData.eqvAll]
  | [], m :: r => by simp [PyData.eqvAll]
  | n :: r, [] => by simp [PyData.eqvAll]
  | n :: r, m :: q => by
    simp only [List.map_cons, PyData.eqvAll, PyData.eqv, eqvAll_ints r q, List.cons.injEq]
    by_cases e : n = m
    · subst e; simp
    · simp [e]
theorem eqv_ints (ns ms : List Int) : PyData.eqv (.list (ns.map PyData.int)) (.list (ms.map PyData.int)) = decide (ns = ms) := by
  rw [PyData.eqv, eqvAll_ints]
section
variable {K : PySem.W.Frag} {H : Hp} {Q : VK} {p q : Addr} {ns ms : List Int}
theorem x_eqLI (h1 : SqL K H p (ns.map V.int)) (h2 : SqL K H q (ms.map V.int)) (k : Q (.bl (decide (ns = ms))) H) : rEqX K (.ref p) (.ref q) H Q :=
  .inr ⟨_, _, dp_ints h1, dp_ints h2, shaped_ints ns, shaped_ints ms, by rw [eqv_ints]; exact k⟩
theorem x_neLI (h1 : SqL K H p (ns.map V.int)) (h2 : SqL K H q (ms.map V.int)) (k : Q (.bl (!decide (ns = ms))) H) : rNeX K (.ref p) (.ref q) H Q :=
  .inr ⟨_, _, dp_ints h1, dp_ints h2, shaped_ints ns, shaped_ints ms, by rw [eqv_ints]; exact k⟩
end

theorem cx_none {P : Program} {w : World} {H : Hp} {s : Shared} {e : Value} {s' : Shared} (h : L2.CX P w [] H s (fun _ _ _ => False) e s') : False := by
  obtain ⟨_, _, _, _, _, _, _, _, _, _, _, _, z⟩ := h
  exact z.elim

/-! ### for over range(n), the number told plainly -/
theorem for_r0 {n : Int} {g : TG} {tb : TS} {D : Ends} {σ : L2.St} {H : Hp} (Pv : Nat → L2.St → Hp → Prop) (h0 : Pv 0 σ H)
    (hs : ∀ (i : Nat) σ H, (i : Int) < n → Pv i σ H → g (.int (i : Int)) σ H fun σ2 H2 => tb { D with nx := Pv (i + 1), ct := Pv (i + 1), bk := D.nx } σ2 H2) (hd : ∀ σ H, Pv n.toNat σ H → D.nx σ H) :
    ∃ W : Nat → Nat → L2.St → Hp → Prop, (∃ m, W 0 m σ H) ∧ ∀ i m σ H, W i m σ H →
      ((Itr 0 n.toNat).stop i H ∧ D.nx σ H) ∨ ((Itr 0 n.toNat).go i H ∧ ∃ N : L2.St → Hp → Prop, (∀ σ' H', N σ' H' → ∃ m', m' < m ∧ W (i + 1) m' σ' H') ∧ ∀ x H', (Itr 0 n.toNat).yld i H x H' → g x σ H' fun σ2 H2 => tb { D with nx := N, ct := N, bk := D.nx } σ2 H2) :=
  for_range (lo := 0) (n := n.toNat) Pv h0 (fun i σ H hi p => by rw [Int.zero_add]; exact hs i σ H (by omega) p) hd
theorem cp_r0 {QD : Addr → Hp → Prop} {B : Hp} {cs : Cells} {n : Int} {σ : L2.St} {H : Hp} {te : TE} {g : TG} {tt : TT} {vs : List Nat} (F : Nat → List V) (w : Own B cs H) (h0 : F 0 = [])
    (hs : ∀ D (i : Nat) H', (i : Int) < n → PvC B cs D F i H' → g (.int (i : Int)) (wipe σ vs) H' fun σ2 H2 => wipe σ2 vs = wipe σ vs ∧ tt σ2 H2 fun b H3 =>
      if b = true then te σ2 H3 fun y H4 => ∃ acc, H4 D = some (.lst acc) ∧ acc.length < sizeLine ∧ PvC B cs D F (i + 1) (upd H4 D (.lst (acc ++ [y]))) else PvC B cs D F (i + 1) H3)
    (hq : ∀ D H', Own B ((D, .lst (F n.toNat)) :: cs) H' → QD D H') : ∀ D, H D = none → ∃ W : Nat → Nat → Hp → Prop, (∃ m, W 0 m (upd H D (.lst []))) ∧ ∀ i m H, W i m H →
      ((Itr 0 n.toNat).stop i H ∧ QD D H) ∨ ((Itr 0 n.toNat).go i H ∧ ∃ Nx : Hp → Prop, (∀ H', Nx H' → ∃ m', m' < m ∧ W (i + 1) m' H') ∧ ∀ x H', (Itr 0 n.toNat).yld i H x H' → g x (wipe σ vs) H' fun σ2 H2 => wipe σ2 vs = wipe σ vs ∧ tt σ2 H2 fun b H3 =>
        if b = true then te σ2 H3 fun y H4 => ∃ acc, H4 D = some (.lst acc) ∧ acc.length < sizeLine ∧ Nx (upd H4 D (.lst (acc ++ [y]))) else Nx H3) :=
  cp_range (lo := 0) F w h0 (fun D i H' hi p => by rw [Int.zero_add]; exact hs D i H' (by omega) p) hq

/-! ### enumerate, zip: loops and comprehensions -/
section
variable {K : PySem.W.Frag} {a b : Addr} {xs ys : List V} {g : TG} {tb : TS} {D : Ends} {σ : L2.St} {H B : Hp} {cs : Cells} {te : TE} {tt : TT} {vs : List Nat} {Q : VK}
theorem for_enumL (Pv : Nat → L2.St → Hp → Prop) (h0 : Pv 0 σ H) (hq : ∀ i σ H, Pv i σ H → SqL K H a xs)
    (hs : ∀ (i : Nat) (x : V) (T : Addr) (σ : L2.St) (H : Hp), xs[i]? = some x → Pv i σ H → H T = none → g (.ref T) σ (upd H T (.tup [.int (i : Int), x])) fun σ2 H2 => tb { D with nx := Pv (i + 1), ct := Pv (i + 1), bk := D.nx } σ2 H2) (hd : ∀ σ H, Pv xs.length σ H → D.nx σ H) :
    ∃ W : Nat → Nat → L2.St → Hp → Prop, (∃ m, W 0 m σ H) ∧ ∀ i m σ H, W i m σ H →
      ((Ite K a).stop i H ∧ D.nx σ H) ∨ ((Ite K a).go i H ∧ ∃ N : L2.St → Hp → Prop, (∀ σ' H', N σ' H' → ∃ m', m' < m ∧ W (i + 1) m' σ' H') ∧ ∀ v H', (Ite K a).yld i H v H' → g v σ H' fun σ2 H2 => tb { D with nx := N, ct := N, bk := D.nx } σ2 H2) := by
  refine ⟨fun i m σ H => m = xs.length - i ∧ i ≤ xs.length ∧ Pv i σ H, ⟨xs.length, rfl, Nat.zero_le _, h0⟩, ?_⟩
  rintro i m σ H ⟨rfl, hi, p⟩
  have qx := hq i σ H p
  by_cases hlt : i < xs.length
  · have hx : xs[i]? = some xs[i] := List.getElem?_eq_getElem hlt
    refine .inr ⟨⟨xs, _, qx, hx⟩, Pv (i + 1), fun σ' H' p' => ⟨xs.length - (i + 1), by omega, rfl, hlt, p'⟩, fun v H' y => ?_⟩
    obtain ⟨T, x', rfl, hT, rfl, f1⟩ := y
    exact hs i x' T σ H (f1 xs qx) p hT
  · have e : i = xs.length := by omega
    subst e
    exact .inl ⟨⟨xs, qx, Nat.le_refl _⟩, hd σ H p⟩
theorem cp_enum {QD : Addr → Hp → Prop} (F : Nat → List V) (w : Own B cs H) (hx : SqL K B a xs) (h0 : F 0 = [])
    (hs : ∀ D i x T H', xs[i]? = some x → PvC B cs D F i H' → H' T = none → g (.ref T) (wipe σ vs) (upd H' T (.tup [.int ((i : Nat) : Int), x])) fun σ2 H2 => wipe σ2 vs = wipe σ vs ∧ tt σ2 H2 fun b H3 =>
      if b = true then te σ2 H3 fun y H4 => ∃ acc, H4 D = some (.lst acc) ∧ acc.length < sizeLine ∧ PvC B cs D F (i + 1) (upd H4 D (.lst (acc ++ [y]))) else PvC B cs D F (i + 1) H3)
    (hq : ∀ D H', Own B ((D, .lst (F xs.length)) :: cs) H' → QD D H') : ∀ D, H D = none → ∃ W : Nat → Nat → Hp → Prop, (∃ m, W 0 m (upd H D (.lst []))) ∧ ∀ i m H, W i m H →
      ((Ite K a).stop i H ∧ QD D H) ∨ ((Ite K a).go i H ∧ ∃ Nx : Hp → Prop, (∀ H', Nx H' → ∃ m', m' < m ∧ W (i + 1) m' H') ∧ ∀ x H', (Ite K a).yld i H x H' → g x (wipe σ vs) H' fun σ2 H2 => wipe σ2 vs = wipe σ vs ∧ tt σ2 H2 fun b H3 =>
        if b = true then te σ2 H3 fun y H4 => ∃ acc, H4 D = some (.lst acc) ∧ acc.length < sizeLine ∧ Nx (upd H4 D (.lst (acc ++ [y]))) else Nx H3) := fun D hD => by
  refine ⟨fun i m H => m = xs.length - i ∧ i ≤ xs.length ∧ PvC B cs D F i H, ⟨xs.length, rfl, Nat.zero_le _, by unfold PvC; rw [h0]; exact w.new hD⟩, ?_⟩
  rintro i m H ⟨rfl, hi, p⟩
  have qx : SqL K H a xs := Own.seq p hx
  by_cases hlt : i < xs.length
  · have hxi : xs[i]? = some xs[i] := List.getElem?_eq_getElem hlt
    refine .inr ⟨⟨xs, _, qx, hxi⟩, PvC B cs D F (i + 1), fun H' p' => ⟨xs.length - (i + 1), by omega, rfl, hlt, p'⟩, fun v H' y => ?_⟩
    obtain ⟨T, x', rfl, hT, rfl, f1⟩ := y
    exact hs D i x' T H (f1 xs qx) p hT
  · have e : i = xs.length := by omega
    subst e
    exact .inl ⟨⟨xs, qx, Nat.le_refl _⟩, hq D H p⟩
theorem cp_zip {QD : Addr → Hp → Prop} (F : Nat → List V) (w : Own B cs H) (hl : xs.length = ys.length) (hx : SqL K B a xs) (hy : SqL K B b ys) (h0 : F 0 = [])
    (hs : ∀ D i x y T H', xs[i]? = some x → ys[i]? = some y → PvC B cs D F i H' → H' T = none → g (.ref T) (wipe σ vs) (upd H' T (.tup [x, y])) fun σ2 H2 => wipe σ2 vs = wipe σ vs ∧ tt σ2 H2 fun b H3 =>
      if b = true then te σ2 H3 fun y H4 => ∃ acc, H4 D = some (.lst acc) ∧ acc.length < sizeLine ∧ PvC B cs D F (i + 1) (upd H4 D (.lst (acc ++ [y]))) else PvC B cs D F (i + 1) H3)
    (hq : ∀ D H', Own B ((D, .lst (F xs.length)) :: cs) H' → QD D H') : ∀ D, H D = none → ∃ W : Nat → Nat → Hp → Prop, (∃ m, W 0 m (upd H D (.lst []))) ∧ ∀ i m H, W i m H →
      ((Itz K a b).stop i H ∧ QD D H) ∨ ((Itz K a b).go i H ∧ ∃ Nx : Hp → Prop, (∀ H', Nx H' → ∃ m', m' < m ∧ W (i + 1) m' H') ∧ ∀ x H', (Itz K a b).yld i H x H' → g x (wipe σ vs) H' fun σ2 H2 => wipe σ2 vs = wipe σ vs ∧ tt σ2 H2 fun b H3 =>
        if b = true then te σ2 H3 fun y H4 => ∃ acc, H4 D = some (.lst acc) ∧ acc.length < sizeLine ∧ Nx (upd H4 D (.lst (acc ++ [y]))) else Nx H3) := fun D hD => by
  refine ⟨fun i m H => m = xs.length - i ∧ i ≤ xs.length ∧ PvC B cs D F i H, ⟨xs.length, rfl, Nat.zero_le _, by unfold PvC; rw [h0]; exact w.new hD⟩, ?_⟩
  rintro i m H ⟨rfl, hi, p⟩
  have qx : SqL K H a xs := Own.seq p hx
  have qy : SqL K H b ys := Own.seq p hy
  by_cases hlt : i < xs.length
  · have hxi : xs[i]? = some xs[i] := List.getElem?_eq_getElem hlt
    have hlt2 : i < ys.length := by omega
    have hyi : ys[i]? = some ys[i] := List.getElem?_eq_getElem hlt2
    refine .inr ⟨⟨xs, ys, _, _, qx, qy, hxi, hyi⟩, PvC B cs D F (i + 1), fun H' p' => ⟨xs.length - (i + 1), by omega, rfl, hlt, p'⟩, fun v H' y => ?_⟩
    obtain ⟨T, x', y', rfl, hT, rfl, f1, f2⟩ := y
    exact hs D i x' y' T H (f1 xs qx) (f2 ys qy) p hT
  · have e : i = xs.length := by omega
    subst e
    exact .inl ⟨⟨xs, ys, qx, qy, .inl (Nat.le_refl _)⟩, hq D H p⟩
end

def rStr : List V → Hp → VK → Prop := fun xs H Q => ∃ i, xs = [.int i] ∧ i.natAbs.log2 < 1920 ∧ Q (.str (toString i)) H
theorem call_strX {X : Cx} : CallR X (.type "str") rStr := call_str_int
theorem x_str {H : Hp} {Q : VK} {i : Int} (h : i.natAbs.log2 < 1920) (q : Q (.str (toString i)) H) : rStr [.int i] H Q := ⟨i, rfl, h, q⟩
theorem log2_small {n : Nat} {k : Nat} (h0 : 0 < k) (h : n < 2 ^ k) (hk : k ≤ 1920) : n.log2 < 1920 := Nat.lt_of_lt_of_le (PySem.Flt.log2_lt_of h0 h) hk
end Sp

/-! Ml: tables, bounds: plain words about lists of ints. -/
namespace Sp
open PySem L2 PyProof.Rows
def manyOf (n : Nat) : Nat := if n ≤ 2 then 1 else if n ≤ 4 then 2 else if n ≤ 8 then 3 else if n ≤ 16 then 4 else if n ≤ 32 then 5 else 6
theorem manyOf_lo (n : Nat) : 1 ≤ manyOf n ∧ manyOf n ≤ 6 := by
  unfold manyOf
  repeat' split
  all_goals omega
theorem manyOf_is {n k : Nat} (h1 : 1 ≤ k) (h6 : k ≤ 6) (hlo : k = 1 ∨ 2 ^ (k - 1) < n) (hhi : k = 6 ∨ n ≤ 2 ^ k) : manyOf n = k := by
  unfold manyOf
  have h : k = 1 ∨ k = 2 ∨ k = 3 ∨ k = 4 ∨ k = 5 ∨ k = 6 := by omega
  rcases h with rfl | rfl | rfl | rfl | rfl | rfl <;> simp only [Nat.reducePow, Nat.reduceSub] at hlo hhi <;> repeat' split
  all_goals omega
def lookM (xs : List V) : Option Int := if xs.length = 2 ^ manyOf xs.length ∧ xs.all isI = true ∧ xs[0]? = some (.int 0) then some (manyOf xs.length : Nat) else none
/-- a table of k hands -/
structure Tab (ns : List Int) (k : Nat) : Prop where
  len : ns.length = 2 ^ k
  lo : 1 ≤ k
  hi : k ≤ 6
  zero : ns[0]? = some 0
theorem Tab.look {ns : List Int} {k : Nat} (h : Tab ns k) : lookM (ns.map V.int) = some (k : Int) := by
  have e : manyOf (ns.map V.int).length = k := by
    rw [List.length_map, h.len]
    exact manyOf_is h.lo h.hi (by
      have := h.lo
      by_cases e : k = 1
      · exact .inl e
      · refine .inr (Nat.pow_lt_pow_right (by decide) (by omega))) (.inr (Nat.le_refl _))
  unfold lookM
  rw [e, if_pos]
  refine ⟨by rw [List.length_map]; exact h.len, ?_, ?_⟩
  · rw [List.all_map]; exact List.all_eq_true.mpr fun _ _ => rfl
  · rw [List.getElem?_map, h.zero] <;> rfl
theorem things_int {H : Hp} {ns : List Int} : ∀ v ∈ ns.map V.int, Thing H v := fun v hv => by
  obtain ⟨z, _, rfl⟩ := List.mem_map.mp hv
  exact .int z
theorem look_tab {xs : List V} {n : Int} (h : lookM xs = some n) : ∃ ns k, Tab ns k ∧ xs = ns.map V.int ∧ n = (k : Nat) := by
  unfold lookM at h
  by_cases c : xs.length = 2 ^ manyOf xs.length ∧ xs.all isI = true ∧ xs[0]? = some (.int 0)
  · rw [if_pos c] at h
    obtain ⟨c1, c2, c3⟩ := c
    have hm := manyOf_lo xs.length
    have all : ∀ ys : List V, ys.all isI = true → ∃ ns : List Int, ys = ns.map V.int := by
      intro ys
      induction ys with
      | nil => intro _; exact ⟨[], rfl⟩
      | cons y r ih =>
        intro e
        rw [List.all_cons, Bool.and_eq_true] at e
        obtain ⟨ns, rfl⟩ := ih e.2
        cases y with
        | int z => exact ⟨z :: ns, rfl⟩
        | _ => exact absurd e.1 Bool.false_ne_true
    obtain ⟨ns, rfl⟩ := all xs c2
    refine ⟨ns, manyOf (ns.map V.int).length, ⟨by rw [List.length_map] at c1; rw [List.length_map]; exact c1, hm.1, hm.2, ?_⟩, rfl, (Option.some.inj h).symm⟩
    rw [List.getElem?_map] at c3
    cases e : ns[0]? with
    | none => rw [e] at c3; cases c3
    | some z => rw [e] at c3; exact congrArg some (V.int.inj (Option.some.inj c3))
  · rw [if_neg c] at h; cases h
/-- a number of these laws' tables -/
def Small (z : Int) : Prop := -1000000000000000000 ≤ z ∧ z ≤ 1000000000000000000
/-- bounds of a table's numbers -/
def Bnd (b : Int) (ns : List Int) : Prop := ∀ z ∈ ns, -b ≤ z ∧ z ≤ b
theorem Bnd.app {b : Int} {ns : List Int} {z : Int} (h : Bnd b ns) (h1 : -b ≤ z) (h2 : z ≤ b) : Bnd b (ns ++ [z]) := fun y hy => by
  rcases List.mem_append.mp hy with m | m
  · exact h y m
  · rw [List.mem_singleton.mp m]; exact ⟨h1, h2⟩
theorem Bnd.set {b : Int} {ns : List Int} {j : Nat} {z : Int} (h : Bnd b ns) (h1 : -b ≤ z) (h2 : z ≤ b) : Bnd b (ns.set j z) := fun y hy => by
  rcases List.mem_or_eq_of_mem_set hy with m | rfl
  · exact h y m
  · exact ⟨h1, h2⟩
theorem Bnd.mono {b c : Int} {ns : List Int} (h : Bnd b ns) (hbc : b ≤ c) : Bnd c ns := fun y hy => by
  have := h y hy
  exact ⟨by omega, by omega⟩
theorem Bnd.at {b : Int} {ns : List Int} (hb : 0 ≤ b) (h : Bnd b ns) (i : Int) : -b ≤ gi ns i ∧ gi ns i ≤ b := by
  unfold gi
  rw [List.getD_eq_getElem?_getD]
  cases e : ns[i.toNat]? with
  | none => exact ⟨by show -b ≤ 0; omega, by show (0 : Int) ≤ b; omega⟩
  | some z => exact h z (List.mem_of_getElem? e)
theorem pow_toNat {k : Nat} {i : Int} (h : i = (k : Int)) : (1 : Int) * 2 ^ i.toNat = ((2 ^ k : Nat) : Int) := by
  rw [h, Int.one_mul, Int.toNat_natCast, Int.natCast_pow] <;> rfl
/-- the table turned about -/
def turnM (ns : List Int) : List Int := (List.range ns.length).map fun g : Nat => gi ns ((ns.length : Int) - 1) - gi ns ((ns.length : Int) - 1 - (g : Int))
theorem turnM_len (ns : List Int) : (turnM ns).length = ns.length := by unfold turnM; rw [List.length_map, List.length_range]
theorem gi_map_range {n : Nat} {f : Nat → Int} {i : Int} (h0 : 0 ≤ i) (h : i < n) : gi ((List.range n).map f) i = f i.toNat := by
  unfold gi
  rw [List.getD_eq_getElem?_getD, List.getElem?_map, List.getElem?_range (by omega)] <;> rfl
theorem turnM_at {ns : List Int} {i : Int} (h0 : 0 ≤ i) (h : i < ns.length) : gi (turnM ns) i = gi ns ((ns.length : Int) - 1) - gi ns ((ns.length : Int) - 1 - i) := by
  unfold turnM
  rw [gi_map_range h0 h, Int.toNat_of_nonneg h0]
theorem gi_ext {ns ms : List Int} (hl : ns.length = ms.length) (h : ∀ i : Int, 0 ≤ i → i < ns.length → gi ns i = gi ms i) : ns = ms := by
  apply List.ext_getElem hl
  intro i h1 h2
  have := h (i : Int) (by omega) (by omega)
  unfold gi at this
  rw [Int.toNat_natCast, List.getD_eq_getElem?_getD, List.getD_eq_getElem?_getD, List.getElem?_eq_getElem h1, List.getElem?_eq_getElem h2] at this
  exact this
theorem Tab.pos {ns : List Int} {k : Nat} (h : Tab ns k) : 2 ≤ ns.length ∧ ns.length ≤ 64 := by
  rw [h.len]
  exact ⟨Nat.pow_le_pow_right (n := 2) (by decide) h.lo, Nat.pow_le_pow_right (n := 2) (by decide) h.hi⟩
theorem Tab.gi0 {ns : List Int} {k : Nat} (h : Tab ns k) : gi ns 0 = 0 := by
  unfold gi
  rw [List.getD_eq_getElem?_getD, show (0 : Int).toNat = 0 from rfl, h.zero] <;> rfl
theorem gi_zero {ns : List Int} (h : 0 < ns.length) (e : gi ns 0 = 0) : ns[0]? = some 0 := by
  unfold gi at e
  rw [List.getD_eq_getElem?_getD, show (0 : Int).toNat = 0 from rfl, List.getElem?_eq_getElem h] at e
  rw [List.getElem?_eq_getElem h]
  exact congrArg some e
theorem Tab.turn {ns : List Int} {k : Nat} (h : Tab ns k) : Tab (turnM ns) k := by
  have hp := h.pos
  refine ⟨by rw [turnM_len]; exact h.len, h.lo, h.hi, gi_zero (by rw [turnM_len]; omega) ?_⟩
  rw [turnM_at (by decide) (by omega)]
  simp
theorem turnM_turnM {ns : List Int} {k : Nat} (h : Tab ns k) : turnM (turnM ns) = ns := by
  have hp := h.pos
  refine gi_ext (by rw [turnM_len, turnM_len]) fun i h0 h1 => ?_
  rw [turnM_len, turnM_len] at h1
  rw [turnM_at h0 (by rw [turnM_len]; exact h1), turnM_len, turnM_at (by omega) (by omega), turnM_at (by omega) (by omega)]
  have e1 : (ns.length : Int) - 1 - ((ns.length : Int) - 1) = 0 := by omega
  have e2 : (ns.length : Int) - 1 - ((ns.length : Int) - 1 - i) = i := by omega
  rw [e1, e2, h.gi0]
  omega
theorem Tab.set {ns : List Int} {k : Nat} (h : Tab ns k) {j : Nat} {z : Int} (hj : 0 < j) : Tab (ns.set j z) k :=
  ⟨by rw [List.length_set]; exact h.len, h.lo, h.hi, by rw [List.getElem?_set_ne (by omega)]; exact h.zero⟩
theorem map_int_inj {ns ms : List Int} (h : ns.map V.int = ms.map V.int) : ns = ms := (List.map_inj_right (f := V.int) fun _ _ => V.int.inj).mp h
theorem Tab.same {ns : List Int} {j k : Nat} (h : Tab ns j) (h' : Tab ns k) : j = k := by
  have e : 2 ^ j = 2 ^ k := h.len.symm.trans h'.len
  rcases Nat.lt_trichotomy j k with l | l | l
  · have := Nat.pow_lt_pow_right (a := 2) (by decide) l; omega
  · exact l
  · have := Nat.pow_lt_pow_right (a := 2) (by decide) l; omega
end Sp

/-! Sub: groups as numbers below 64, their parts, sums over parts, dividends. -/
namespace Sp
open PySem L2 PyProof.Rows
/-- hand h stands in group g -/
def bitOn (h g : Nat) : Bool := (g &&& 2 ^ h) != 0
theorem bit_facts : ∀ h, h < 6 → ∀ g, g < 64 → (bitOn h g = true → g ^^^ 2 ^ h < g ∧ bitOn h (g ^^^ 2 ^ h) = false) ∧ (∀ j, j < 6 → j ≠ h → bitOn j (g ^^^ 2 ^ h) = bitOn j g) := by decide +kernel
def stepD (h : Nat) (f : Nat → Int) : Nat → Int := fun g => if bitOn h g = true then f g - f (g ^^^ 2 ^ h) else f g
def stepE (h : Nat) (f : Nat → Int) : Nat → Int := fun g => if bitOn h g = true then f g + f (g ^^^ 2 ^ h) else f g
def allD : Nat → (Nat → Int) → Nat → Int
  | 0, f => f
  | k + 1, f => stepD k (allD k f)
def allE : Nat → (Nat → Int) → Nat → Int
  | 0, f => f
  | k + 1, f => stepE k (allE k f)
def On64 (f f' : Nat → Int) : Prop := ∀ g, g < 64 → f g = f' g
theorem On64.trans {f f' f'' : Nat → Int} (a : On64 f f') (b : On64 f' f'') : On64 f f'' := fun g h => (a g h).trans (b g h)
theorem On64.symm {f f' : Nat → Int} (a : On64 f f') : On64 f' f := fun g h => (a g h).symm
theorem stepD_on {h : Nat} (hh : h < 6) {f f' : Nat → Int} (e : On64 f f') : On64 (stepD h f) (stepD h f') := fun g hg => by
  unfold stepD
  by_cases c : bitOn h g = true
  · have := ((bit_facts h hh g hg).1 c).1
    rw [if_pos c, if_pos c, e g hg, e _ (by omega)]
  · rw [if_neg c, if_neg c, e g hg]
theorem stepE_on {h : Nat} (hh : h < 6) {f f' : Nat → Int} (e : On64 f f') : On64 (stepE h f) (stepE h f') := fun g hg => by
  unfold stepE
  by_cases c : bitOn h g = true
  · have := ((bit_facts h hh g hg).1 c).1
    rw [if_pos c, if_pos c, e g hg, e _ (by omega)]
  · rw [if_neg c, if_neg c, e g hg]
theorem stepED {h : Nat} (hh : h < 6) (f : Nat → Int) : On64 (stepE h (stepD h f)) f := fun g hg => by
  unfold stepE
  by_cases c : bitOn h g = true
  · have b := (bit_facts h hh g hg).1 c
    rw [if_pos c]
    unfold stepD
    rw [if_pos c, if_neg (by rw [b.2]; exact Bool.false_ne_true)]
    omega
  · rw [if_neg c]; unfold stepD; rw [if_neg c]
theorem stepDE {h : Nat} (hh : h < 6) (f : Nat → Int) : On64 (stepD h (stepE h f)) f := fun g hg => by
  unfold stepD
  by_cases c : bitOn h g = true
  · have b := (bit_facts h hh g hg).1 c
    rw [if_pos c]
    unfold stepE
    rw [if_pos c, if_neg (by rw [b.2]; exact Bool.false_ne_true)]
    omega
  · rw [if_neg c]; unfold stepE; rw [if_neg c]
theorem xor_swap (g a b : Nat) : (g ^^^ a) ^^^ b = (g ^^^ b) ^^^ a := by rw [Nat.xor_assoc, Nat.xor_comm a b, ← Nat.xor_assoc]
theorem step_comm {h j : Nat} (hh : h < 6) (hj : j < 6) (hne : j ≠ h) (f : Nat → Int) : On64 (stepE h (stepD j f)) (stepD j (stepE h f)) := fun g hg => by
  have bh := bit_facts h hh g hg
  have bj := bit_facts j hj g hg
  have e1 : bitOn j (g ^^^ 2 ^ h) = bitOn j g := bh.2 j hj hne
  have e2 : bitOn h (g ^^^ 2 ^ j) = bitOn h g := bj.2 h hh (Ne.symm hne)
  unfold stepE stepD
  simp only [e1, e2, xor_swap g (2 ^ j) (2 ^ h)]
  by_cases c : bitOn h g = true <;> by_cases d : bitOn j g = true <;> simp [c, d] <;> omega
theorem allE_comm {j : Nat} (hj : j < 6) (f : Nat → Int) : ∀ k, k ≤ j → On64 (allE k (stepD j f)) (stepD j (allE k f))
  | 0, _ => fun _ _ => rfl
  | k + 1, hk => by
    have ih := allE_comm hj f k (by omega)
    exact (stepE_on (by omega) ih).trans (step_comm (by omega) hj (by omega) (allE k f))
theorem allED (f : Nat → Int) : ∀ k, k ≤ 6 → On64 (allE k (allD k f)) f
  | 0, _ => fun _ _ => rfl
  | k + 1, hk => by
    have ih := allED f k (by omega)
    have c := allE_comm (j := k) (by omega) (allD k f) k (Nat.le_refl k)
    have a : On64 (allE (k + 1) (allD (k + 1) f)) (stepE k (stepD k (allE k (allD k f)))) := stepE_on (by omega) c
    exact (a.trans (stepED (by omega) _)).trans ih
theorem allD_comm {j : Nat} (hj : j < 6) (f : Nat → Int) : ∀ k, k ≤ j → On64 (allD k (stepE j f)) (stepE j (allD k f))
  | 0, _ => fun _ _ => rfl
  | k + 1, hk => by
    have ih := allD_comm hj f k (by omega)
    exact (stepD_on (by omega) ih).trans (step_comm hj (by omega) (by omega) (allD k f)).symm
theorem allDE (f : Nat → Int) : ∀ k, k ≤ 6 → On64 (allD k (allE k f)) f
  | 0, _ => fun _ _ => rfl
  | k + 1, hk => by
    have ih := allDE f k (by omega)
    have c := allD_comm (j := k) (by omega) (allE k f) k (Nat.le_refl k)
    have a : On64 (allD (k + 1) (allE (k + 1) f)) (stepD k (stepE k (allD k (allE k f)))) := stepD_on (by omega) c
    exact (a.trans (stepDE (by omega) _)).trans ih
/-! ### parts of a group, rising -/
def subs (g : Nat) : List Nat := (List.range 64).filter fun q => (q &&& g) == q
def partSum (f : Nat → Int) (g : Nat) : Int := ((subs g).map f).sum
def el : Nat → Nat → List Nat
  | 0, g => [g]
  | k + 1, g => if bitOn k g = true then el k (g ^^^ 2 ^ k) ++ el k g else el k g
theorem el_subs : ∀ k, k < 7 → ∀ g, g < 2 ^ k → el k g = subs g := by decide +kernel
theorem sum_app (a b : List Int) : (a ++ b).sum = a.sum + b.sum := List.sum_append
theorem allE_el (f : Nat → Int) : ∀ k g, allE k f g = ((el k g).map f).sum
  | 0, g => by show f g = ([g].map f).sum; simp
  | k + 1, g => by
    show stepE k (allE k f) g = _
    unfold stepE el
    by_cases c : bitOn k g = true
    · rw [if_pos c, if_pos c, List.map_append, sum_app, allE_el f k g, allE_el f k _]
      omega
    · rw [if_neg c, if_neg c, allE_el f k g]
theorem allE_sum (f : Nat → Int) {k g : Nat} (hk : k ≤ 6) (hg : g < 2 ^ k) : allE k f g = partSum f g := by
  rw [allE_el, el_subs k (by omega) g hg]
  rfl
/-- the parts but nobody, up to p -/
def someSubs (g p : Nat) : List Nat := (List.range (p + 1)).filter fun q => (q &&& g) == q && decide (0 < q)
theorem someSubs_step : ∀ g, g < 64 → ∀ p, p < 64 → (0 < p ∧ p &&& g = p) → someSubs g p = someSubs g ((p - 1) &&& g) ++ [p] ∧ (p - 1) &&& g < p ∧ ((p - 1) &&& g) &&& g = (p - 1) &&& g := by decide +kernel
theorem someSubs_all : ∀ g, g < 64 → subs g = 0 :: someSubs g g := by decide +kernel
theorem someSubs_zero (g : Nat) : someSubs g 0 = [] := by
  unfold someSubs
  rw [show List.range (0 + 1) = [0] from rfl]
  simp
def someSum (f : Nat → Int) (g p : Nat) : Int := ((someSubs g p).map f).sum
theorem someSum_step (f : Nat → Int) {g p : Nat} (hg : g < 64) (hp : p < 64) (h0 : 0 < p) (hs : p &&& g = p) : someSum f g p = someSum f g ((p - 1) &&& g) + f p := by
  unfold someSum
  rw [(someSubs_step g hg p hp ⟨h0, hs⟩).1, List.map_append, sum_app]
  simp
theorem partSum_some (f : Nat → Int) {g : Nat} (hg : g < 64) : partSum f g = f 0 + someSum f g g := by
  unfold partSum someSum
  rw [someSubs_all g hg, List.map_cons, List.sum_cons]
/-! ### lists by their places -/
/-- the list of f's values at 0 .. n - 1 -/
def tl (n : Nat) (f : Nat → Int) : List Int := (List.range n).map f
def fn (ns : List Int) : Nat → Int := fun g => gi ns (g : Int)
theorem tl_len (n : Nat) (f : Nat → Int) : (tl n f).length = n := by unfold tl; rw [List.length_map, List.length_range]
theorem gi_tl {n : Nat} {f : Nat → Int} {i : Int} (h0 : 0 ≤ i) (h : i < n) : gi (tl n f) i = f i.toNat := gi_map_range h0 h
theorem gi_tln {n : Nat} {f : Nat → Int} {i : Nat} (h : i < n) : gi (tl n f) (i : Int) = f i := by rw [gi_tl (by omega) (by omega), Int.toNat_natCast]
theorem tl_fn (ns : List Int) : tl ns.length (fn ns) = ns := by
  refine gi_ext (tl_len _ _) fun i h0 h1 => ?_
  rw [tl_len] at h1
  rw [gi_tl h0 h1]
  unfold fn
  rw [Int.toNat_of_nonneg h0]
theorem tl_congr {n : Nat} {f f' : Nat → Int} (h : ∀ i, i < n → f i = f' i) : tl n f = tl n f' := by
  unfold tl
  exact List.map_congr_left fun i hi => h i (List.mem_range.mp hi)
theorem tl_set {n : Nat} {f : Nat → Int} {j : Nat} {z : Int} (hj : j < n) : (tl n f).set j z = tl n fun i => if i = j then z else f i := by
  apply List.ext_getElem?
  intro i
  unfold tl
  by_cases e : j = i
  · subst e
    rw [List.getElem?_set_self (by rw [List.length_map, List.length_range]; exact hj), List.getElem?_map, List.getElem?_range hj]
    simp
  · rw [List.getElem?_set_ne e, List.getElem?_map, List.getElem?_map]
    cases h : (List.range n)[i]? with
    | none => rfl
    | some x =>
      have : x = i := by
        have hi := (List.getElem?_eq_some_iff.mp h).1
        rw [List.length_range] at hi
        rw [List.getElem?_range hi] at h
        exact (Option.some.inj h).symm
      subst this
      simp [Ne.symm e]
/-! ### bits of Python's ints -/
theorem and_nat (a b : Nat) : Builtin.bitAnd (a : Int) (b : Int) = ((a &&& b : Nat) : Int) := by rw [bitAnd_pp (by omega) (by omega), Int.toNat_natCast, Int.toNat_natCast]
theorem or_nat (a b : Nat) : Builtin.bitOr (a : Int) (b : Int) = ((a ||| b : Nat) : Int) := by rw [Bits.bitOr_pp (by omega) (by omega), Int.toNat_natCast, Int.toNat_natCast]
theorem xor_nat (a b : Nat) : Builtin.bitXor (a : Int) (b : Int) = ((a ^^^ b : Nat) : Int) := by rw [Bits.bitXor_pp (by omega) (by omega), Int.toNat_natCast, Int.toNat_natCast]
theorem shl_nat (h : Nat) : (1 : Int) * 2 ^ ((h : Int)).toNat = ((2 ^ h : Nat) : Int) := pow_toNat rfl
theorem bitOn_iff {h g : Nat} : (!decide (((g &&& 2 ^ h : Nat) : Int) = 0)) = bitOn h g := by
  unfold bitOn
  by_cases e : g &&& 2 ^ h = 0
  · rw [e]; rfl
  · rw [decide_eq_false (by omega), bne_iff_ne.mpr e] <;> rfl
/-- below 2 ^ k only the values below 2 ^ k are asked -/
theorem bit_cut : ∀ k, k < 7 → ∀ h, h < k → ∀ g, g < 2 ^ k → bitOn h g = true → g ^^^ 2 ^ h < 2 ^ k := by decide +kernel
theorem allE_cut' {k : Nat} (hk : k ≤ 6) {f f' : Nat → Int} (e : ∀ i, i < 2 ^ k → f i = f' i) : ∀ j, j ≤ k → ∀ g, g < 2 ^ k → allE j f g = allE j f' g
  | 0, _, g, hg => e g hg
  | j + 1, hj, g, hg => by
    show stepE j (allE j f) g = stepE j (allE j f') g
    unfold stepE
    by_cases c : bitOn j g = true
    · rw [if_pos c, if_pos c, allE_cut' hk e j (by omega) g hg, allE_cut' hk e j (by omega) _ (bit_cut k (by omega) j (by omega) g hg c)]
    · rw [if_neg c, if_neg c, allE_cut' hk e j (by omega) g hg]
theorem allE_cut {k : Nat} (hk : k ≤ 6) {f f' : Nat → Int} (e : ∀ i, i < 2 ^ k → f i = f' i) {g : Nat} (hg : g < 2 ^ k) : allE k f g = allE k f' g := allE_cut' hk e k (Nat.le_refl k) g hg
theorem allD_cut' {k : Nat} (hk : k ≤ 6) {f f' : Nat → Int} (e : ∀ i, i < 2 ^ k → f i = f' i) : ∀ j, j ≤ k → ∀ g, g < 2 ^ k → allD j f g = allD j f' g
  | 0, _, g, hg => e g hg
  | j + 1, hj, g, hg => by
    show stepD j (allD j f) g = stepD j (allD j f') g
    unfold stepD
    by_cases c : bitOn j g = true
    · rw [if_pos c, if_pos c, allD_cut' hk e j (by omega) g hg, allD_cut' hk e j (by omega) _ (bit_cut k (by omega) j (by omega) g hg c)]
    · rw [if_neg c, if_neg c, allD_cut' hk e j (by omega) g hg]
theorem allD_cut {k : Nat} (hk : k ≤ 6) {f f' : Nat → Int} (e : ∀ i, i < 2 ^ k → f i = f' i) {g : Nat} (hg : g < 2 ^ k) : allD k f g = allD k f' g := allD_cut' hk e k (Nat.le_refl k) g hg
/-! ### hands of a group -/
theorem bitOn_div : ∀ h, h < 6 → ∀ g, g < 64 → bitOn h g = decide (g / 2 ^ h % 2 = 1) := by decide +kernel
theorem bit_int {h g : Nat} (hh : h < 6) (hg : g < 64) : decide (Builtin.bitAnd ((g : Int) / 2 ^ ((h : Int)).toNat) 1 = 1) = bitOn h g := by
  rw [bitOn_div h hh g hg, bitAnd_m1, Int.toNat_natCast]
  have e : (g : Int) / 2 ^ h % 2 = ((g / 2 ^ h % 2 : Nat) : Int) := by
    rw [Int.natCast_emod, Int.natCast_ediv, Int.natCast_pow] <;> rfl
  rw [e]
  by_cases c : g / 2 ^ h % 2 = 1
  · rw [c]; rfl
  · rw [decide_eq_false c, decide_eq_false (by omega)]
def handsM (g : Nat) : List Nat := (List.range 6).filter fun h => bitOn h g
theorem filter_yes {p : Nat → Bool} {n : Nat} (h : p n = true) {α : Type} (f : Nat → α) : ((List.range (n + 1)).filter p).map f = ((List.range n).filter p).map f ++ [f n] := by
  rw [List.range_succ, List.filter_append, List.map_append, List.filter_cons, if_pos h] <;> rfl
theorem filter_no {p : Nat → Bool} {n : Nat} (h : p n = false) {α : Type} (f : Nat → α) : ((List.range (n + 1)).filter p).map f = ((List.range n).filter p).map f := by
  rw [List.range_succ, List.filter_append, List.map_append, List.filter_cons, if_neg (by rw [h]; exact Bool.false_ne_true)]
  show _ ++ [] = _
  rw [List.append_nil]
theorem filter_len (p : Nat → Bool) (n : Nat) : ((List.range n).filter p).length ≤ n := by
  have := List.length_filter_le p (List.range n)
  rw [List.length_range] at this
  exact this
/-- a list of naturals as Python's ints -/
abbrev vnat : Nat → V := fun n => .int (n : Int)
theorem vnat_map (l : List Nat) : l.map vnat = (l.map fun n : Nat => (n : Int)).map V.int := by rw [List.map_map] <;> rfl
theorem handsM_lt {g h : Nat} (hm : h ∈ handsM g) : h < 6 := by
  unfold handsM at hm
  exact List.mem_range.mp (List.mem_filter.mp hm).1
/-! ### spread: the hands of a group of blocks -/
def spreadTo (g : Nat) (bs : List Nat) : Nat → Nat
  | 0 => 0
  | i + 1 => if bitOn i g = true then spreadTo g bs i ||| bs.getD i 0 else spreadTo g bs i
def spreadM (g : Nat) (bs : List Nat) : Nat := spreadTo g bs bs.length
theorem spreadTo_step {g : Nat} {bs : List Nat} {i z : Nat} (h : bs[i]? = some z) : spreadTo g bs (i + 1) = if bitOn i g = true then spreadTo g bs i ||| z else spreadTo g bs i := by
  show (if bitOn i g = true then spreadTo g bs i ||| bs.getD i 0 else spreadTo g bs i) = _
  rw [List.getD_eq_getElem?_getD, h] <;> rfl
theorem map_at {α : Type} {f : α → V} {l : List α} {i : Nat} {x : V} (h : (l.map f)[i]? = some x) : ∃ z, l[i]? = some z ∧ x = f z := by
  rw [List.getElem?_map] at h
  cases e : l[i]? with
  | none => rw [e] at h; cases h
  | some z => rw [e] at h; exact ⟨z, rfl, (Option.some.inj h).symm⟩
theorem take_map {α β : Type} {l : List α} {i : Nat} {z : α} (h : l[i]? = some z) (f : α → β) : (l.take (i + 1)).map f = (l.take i).map f ++ [f z] := by
  rw [List.take_add_one, h, List.map_append] <;> rfl
theorem handsM_len (g : Nat) : (handsM g).length ≤ 6 := filter_len _ 6
theorem pow6 {n : Nat} (h : n ≤ 6) : 2 ^ n ≤ 64 := Nat.pow_le_pow_right (n := 2) (by decide) h
/-- the table cut to g -/
def cutM (ns : List Int) (g : Nat) : List Int := (List.range (2 ^ (handsM g).length)).map fun q => gi ns ((spreadM q ((handsM g).map (2 ^ ·)) : Nat) : Int)
theorem spread_le : ∀ {g : Nat}, g < 64 → ∀ q, q < 2 ^ (handsM g).length → spreadM q ((handsM g).map (2 ^ ·)) ≤ g := by decide +kernel
theorem at_mem {xs : List V} {i : Int} (h0 : 0 ≤ i) (h1 : i < xs.length) : ∃ v, atI xs i = some v ∧ v ∈ xs := by
  obtain ⟨n, rfl⟩ := Int.eq_ofNat_of_zero_le h0
  have hn : n < xs.length := by omega
  exact ⟨xs[n], atI_nat (List.getElem?_eq_getElem hn), List.getElem_mem hn⟩
theorem ixN_last {n : Nat} (h : 0 < n) : ixN n (-1) = some (n - 1) := by
  unfold ixN
  rw [if_neg (by decide), if_pos (by omega)]
  congr 1
  omega
theorem at_last {ns : List Int} (h : 0 < ns.length) : atI (ns.map V.int) (-1) = some (.int (gi ns ((ns.length : Int) - 1))) := by
  unfold atI
  rw [List.length_map, ixN_last h, Option.bind_some, List.getElem?_map, List.getElem?_eq_getElem (by omega)]
  unfold gi
  rw [List.getD_eq_getElem?_getD, show ((ns.length : Int) - 1).toNat = ns.length - 1 by omega, List.getElem?_eq_getElem (by omega)]
  rfl
theorem handsM_whole : ∀ k, k < 7 → (handsM (2 ^ k - 1)).length = k := by decide +kernel
theorem handsM_pos : ∀ g, g < 64 → 0 < g → 1 ≤ (handsM g).length := by decide +kernel
theorem spread_whole : ∀ k, k < 7 → ∀ q, q < 2 ^ k → spreadM q ((handsM (2 ^ k - 1)).map (2 ^ ·)) = q := by decide +kernel
theorem spread_nought : ∀ g, g < 64 → spreadM 0 ((handsM g).map (2 ^ ·)) = 0 := by decide +kernel
theorem cutM_len (ns : List Int) (g : Nat) : (cutM ns g).length = 2 ^ (handsM g).length := by unfold cutM; rw [List.length_map, List.length_range]
theorem cutM_tab {ns : List Int} {k g : Nat} (tb : Tab ns k) (h0 : 0 < g) (hg : g < ns.length) : Tab (cutM ns g) (handsM g).length := by
  have hp := tb.pos
  have h64 : g < 64 := by omega
  refine ⟨cutM_len _ _, handsM_pos g h64 h0, handsM_len g, gi_zero (by rw [cutM_len]; exact Nat.two_pow_pos _) ?_⟩
  unfold cutM
  rw [gi_map_range (by decide) (by have := Nat.two_pow_pos (handsM g).length; omega), show (0 : Int).toNat = 0 from rfl, spread_nought g h64]
  exact tb.gi0
theorem cutM_whole {ns : List Int} {k : Nat} (tb : Tab ns k) : cutM ns (ns.length - 1) = ns := by
  have e : (handsM (ns.length - 1)).length = k := by rw [tb.len]; exact handsM_whole k (by have := tb.hi; omega)
  refine gi_ext (by rw [cutM_len, e, tb.len]) fun i h0 h1 => ?_
  rw [cutM_len, e] at h1
  unfold cutM
  rw [gi_map_range h0 (by rw [e]; exact h1), tb.len, spread_whole k (by have := tb.hi; omega) i.toNat (by omega), Int.toNat_of_nonneg h0]
def sumSpread (q : Nat) (bs : List Nat) : Nat := (((List.range bs.length).filter fun j => bitOn j q).map fun j => bs.getD j 0).sum
theorem sumSpread_is : ∀ g, g < 64 → ∀ q, q < 2 ^ (handsM g).length → sumSpread q ((handsM g).map (2 ^ ·)) = spreadM q ((handsM g).map (2 ^ ·)) := by decide +kernel
theorem sum_cast (l : List Nat) : (l.map fun n : Nat => (n : Int)).sum = ((l.sum : Nat) : Int) := by
  induction l with
  | nil => rfl
  | cons x r ih => rw [List.map_cons, List.sum_cons, List.sum_cons, ih, Int.natCast_add]
end Sp

/-! Mg: a table with the hands of a group merged into one. -/
namespace Sp
open PySem PySem.Spec L2 PyProof.Rows
def leastM (g : Nat) : Nat := (handsM g).headD 0
def keepP (g h : Nat) : Bool := h == leastM g || !bitOn h g
def keptM (g k : Nat) : List Nat := (List.range k).filter (keepP g)
def blockOf (g h : Nat) : Nat := if h = leastM g then g else 2 ^ h
def blocksM (g k : Nat) : List Nat := (keptM g k).map (blockOf g)
def mergedM (ns : List Int) (g k : Nat) : List Int := (List.range (2 ^ (keptM g k).length)).map fun q => gi ns ((spreadM q (blocksM g k) : Nat) : Int)
def leftP (g k h : Nat) : Bool := decide (2 ^ h < 2 ^ k) && (h == leastM g || !decide (h ∈ handsM g))
def lawW (g q : Nat) (ls : List Nat) : Nat := if bitOn (leastM g) (sumSpread q (ls.map (2 ^ ·))) = true then sumSpread q (ls.map (2 ^ ·)) - 2 ^ leastM g + g else sumSpread q (ls.map (2 ^ ·))
def mgOne (g k q : Nat) : Bool := decide (spreadM q (blocksM g k) < 2 ^ k) && (lawW g q (keptM g k) == spreadM q (blocksM g k)) && (!bitOn (leastM g) (sumSpread q ((keptM g k).map (2 ^ ·))) || decide (2 ^ leastM g ≤ sumSpread q ((keptM g k).map (2 ^ ·)))) && decide (sumSpread q ((keptM g k).map (2 ^ ·)) < 64)
def mgOk (g k : Nat) : Bool := decide (1 ≤ (keptM g k).length) && ((List.range 6).filter (leftP g k) == keptM g k) && (spreadM 0 (blocksM g k) == 0) && (List.range (2 ^ (keptM g k).length)).all (mgOne g k)
theorem mgOk_all : ∀ k, k < 7 → ∀ g, g < 2 ^ k → 0 < g → mgOk g k = true := by decide +kernel
theorem mgF (k : Nat) (hk : k < 7) (g : Nat) (hg : g < 2 ^ k) (h0 : 0 < g) : 1 ≤ (keptM g k).length ∧ (List.range 6).filter (leftP g k) = keptM g k ∧ spreadM 0 (blocksM g k) = 0 ∧
    ∀ q, q < 2 ^ (keptM g k).length → spreadM q (blocksM g k) < 2 ^ k ∧ lawW g q (keptM g k) = spreadM q (blocksM g k) ∧ (bitOn (leastM g) (sumSpread q ((keptM g k).map (2 ^ ·))) = true → 2 ^ leastM g ≤ sumSpread q ((keptM g k).map (2 ^ ·))) ∧ sumSpread q ((keptM g k).map (2 ^ ·)) < 64 := by
  have h := mgOk_all k hk g hg h0
  unfold mgOk at h
  simp only [Bool.and_eq_true, decide_eq_true_eq, beq_iff_eq, List.all_eq_true] at h
  obtain ⟨⟨⟨a, b⟩, c⟩, d⟩ := h
  refine ⟨a, b, c, fun q hq => ?_⟩
  have h2 := d q (List.mem_range.mpr hq)
  unfold mgOne at h2
  simp only [Bool.and_eq_true, decide_eq_true_eq, beq_iff_eq, Bool.or_eq_true, Bool.not_eq_true'] at h2
  obtain ⟨⟨⟨a2, b2⟩, c2⟩, d2⟩ := h2
  refine ⟨a2, b2, fun e => ?_, d2⟩
  rcases c2 with c2 | c2
  · rw [e] at c2; cases c2
  · exact c2
theorem leastF : ∀ g, g < 64 → 0 < g → (handsM g)[0]? = some (leastM g) ∧ leastM g < 6 := by decide +kernel
theorem mgWhole : ∀ k, k < 7 → 1 ≤ k → keptM (2 ^ k - 1) k = [0] ∧ spreadM 0 (blocksM (2 ^ k - 1) k) = 0 ∧ spreadM 1 (blocksM (2 ^ k - 1) k) = 2 ^ k - 1 := by decide +kernel
theorem handsM_all : ∀ k, k < 7 → handsM (2 ^ k - 1) = List.range k := by decide +kernel
theorem keptM_len (g k : Nat) : (keptM g k).length ≤ k := filter_len _ k
theorem blocksM_len (g k : Nat) : (blocksM g k).length = (keptM g k).length := by unfold blocksM; rw [List.length_map]
theorem mergedM_len (ns : List Int) (g k : Nat) : (mergedM ns g k).length = 2 ^ (keptM g k).length := by unfold mergedM; rw [List.length_map, List.length_range]
theorem mergedM_tab {ns : List Int} {k g : Nat} (tb : Tab ns k) (h0 : 0 < g) (hg : g < ns.length) : Tab (mergedM ns g k) (keptM g k).length := by
  have hp := tb.pos
  obtain ⟨f1, _, f3, _⟩ := mgF k (by have := tb.hi; omega) g (by rw [← tb.len]; exact hg) h0
  refine ⟨mergedM_len _ _ _, f1, Nat.le_trans (keptM_len g k) tb.hi, gi_zero (by rw [mergedM_len]; exact Nat.two_pow_pos _) ?_⟩
  unfold mergedM
  rw [gi_map_range (by decide) (by have := Nat.two_pow_pos (keptM g k).length; omega), show (0 : Int).toNat = 0 from rfl, f3]
  exact tb.gi0
theorem mergedM_whole {ns : List Int} {k : Nat} (tb : Tab ns k) : mergedM ns (ns.length - 1) k = [0, gi ns ((ns.length : Int) - 1)] := by
  have hp := tb.pos
  obtain ⟨f1, f2, f3⟩ := mgWhole k (by have := tb.hi; omega) tb.lo
  unfold mergedM
  rw [tb.len, f1, show List.range (2 ^ [0].length) = [0, 1] from rfl]
  show [gi ns _, gi ns _] = _
  rw [f2, f3, show gi ns ((0 : Nat) : Int) = 0 from tb.gi0]
  have h2 : 1 ≤ 2 ^ k := Nat.two_pow_pos k
  congr 3
  omega
theorem bit_int0 {h g : Nat} (hh : h < 6) (hg : g < 64) : decide (Builtin.bitAnd ((g : Int) / 2 ^ ((h : Int)).toNat) 1 = 0) = !bitOn h g := by
  have e := bit_int hh hg
  rw [← e, bitAnd_m1]
  by_cases c : (g : Int) / 2 ^ ((h : Int)).toNat % 2 = 1
  · rw [c]; rfl
  · rw [decide_eq_false c, decide_eq_true (by omega)] <;> rfl
theorem range_at {n i z : Nat} (h : (List.range n)[i]? = some z) : z = i ∧ i < n := by
  obtain ⟨h1, h2⟩ := List.getElem?_eq_some_iff.mp h
  rw [List.length_range] at h1
  rw [List.getElem_range] at h2
  exact ⟨h2.symm, h1⟩
theorem keep_yes {g i : Nat} (h : keepP g i = true) : (((List.range (i + 1)).filter (keepP g)).map (blockOf g)).map vnat = (((List.range i).filter (keepP g)).map (blockOf g)).map vnat ++ [vnat (blockOf g i)] := by
  rw [List.range_succ, List.filter_append, List.map_append, List.map_append, List.filter_cons, if_pos h] <;> rfl
theorem keep_no {g i : Nat} (h : keepP g i = false) : (((List.range (i + 1)).filter (keepP g)).map (blockOf g)).map vnat = (((List.range i).filter (keepP g)).map (blockOf g)).map vnat := by
  rw [List.range_succ, List.filter_append, List.map_append, List.map_append, List.filter_cons, if_neg (by rw [h]; exact Bool.false_ne_true)]
  show _ ++ [] = _
  rw [List.append_nil]
def offOk (m h g : Nat) : Bool := bitOn h g || (decide (g ||| 2 ^ h = g + 2 ^ h) && decide (g + 2 ^ h < 2 ^ m))
theorem off_all : ∀ m, m < 7 → ∀ h, h < m → ∀ g, g < 2 ^ m → offOk m h g = true := by decide +kernel
theorem off_bit {m h g : Nat} (hm : m < 7) (hh : h < m) (hg : g < 2 ^ m) (hb : bitOn h g = false) : g ||| 2 ^ h = g + 2 ^ h ∧ g + 2 ^ h < 2 ^ m := by
  have e := off_all m hm h hh g hg
  unfold offOk at e
  rw [hb, Bool.false_or, Bool.and_eq_true, decide_eq_true_eq, decide_eq_true_eq] at e
  exact e
theorem bits_len : ∀ m, m < 7 → (List.range 6).filter (fun k => decide (2 ^ k < 2 ^ m)) = List.range m := by decide +kernel
theorem rep_flat (m : Nat) : (List.replicate m [V.int 0]).flatten = (List.replicate m (0 : Int)).map V.int := by
  induction m with
  | zero => rfl
  | succ m ih => rw [List.replicate_succ, List.replicate_succ, List.flatten_cons, List.map_cons, ih] <;> rfl
theorem rep_tl {m : Nat} {f : Nat → Int} (h : ∀ i, i < m → f i = 0) : List.replicate m (0 : Int) = tl m f := by
  unfold tl
  apply List.ext_getElem?
  intro i
  rw [List.getElem?_map, List.getElem?_replicate]
  by_cases hi : i < m
  · rw [if_pos hi, List.getElem?_range hi, Option.map_some, h i hi]
  · rw [if_neg hi, List.getElem?_eq_none (by rw [List.length_range]; omega)] <;> rfl
/-- the comprehension over a list of our own -/
theorem cp_listO {K : PySem.W.Frag} {B : Hp} {cs : Cells} {H : Hp} {σ : L2.St} {te : TE} {g : TG} {tt : TT} {vs : List Nat} {QD : Addr → Hp → Prop} {a : Addr} {xs : List V} (F : Nat → List V) (w : Own B cs H) (j : Nat) (hx : cs[j]? = some (a, .lst xs)) (h0 : F 0 = [])
    (hs : ∀ D i x H', xs[i]? = some x → PvC B cs D F i H' → g x (wipe σ vs) H' fun σ2 H2 => wipe σ2 vs = wipe σ vs ∧ tt σ2 H2 fun b H3 =>
      if b = true then te σ2 H3 fun y H4 => ∃ acc, H4 D = some (.lst acc) ∧ acc.length < sizeLine ∧ PvC B cs D F (i + 1) (upd H4 D (.lst (acc ++ [y]))) else PvC B cs D F (i + 1) H3)
    (hq : ∀ D H', Own B ((D, .lst (F xs.length)) :: cs) H' → QD D H') : ∀ D, H D = none → ∃ W : Nat → Nat → Hp → Prop, (∃ m, W 0 m (upd H D (.lst []))) ∧ ∀ i m H, W i m H →
      ((Itl K a).stop i H ∧ QD D H) ∨ ((Itl K a).go i H ∧ ∃ Nx : Hp → Prop, (∀ H', Nx H' → ∃ m', m' < m ∧ W (i + 1) m' H') ∧ ∀ x H', (Itl K a).yld i H x H' → g x (wipe σ vs) H' fun σ2 H2 => wipe σ2 vs = wipe σ vs ∧ tt σ2 H2 fun b H3 =>
        if b = true then te σ2 H3 fun y H4 => ∃ acc, H4 D = some (.lst acc) ∧ acc.length < sizeLine ∧ Nx (upd H4 D (.lst (acc ++ [y]))) else Nx H3) := fun D hD =>
  lc_list (PvC B cs D F) (by unfold PvC; rw [h0]; exact w.new hD) (fun i H' hi p => Own.sq p (j + 1) hx) (fun i x H' hi p => hs D i x H' hi p) (fun H' p => hq D H' p)
theorem cut_to {xs : List V} {i : Nat} : cutV xs none (some (i : Int)) = xs.take i := by
  unfold cutV
  rw [HT.sIx_none, HT.sIx_nat, List.drop_zero, Nat.sub_zero]
  by_cases h : i ≤ xs.length
  · rw [Nat.min_eq_left h]
  · rw [Nat.min_eq_right (by omega), List.take_of_length_le (Nat.le_refl _), List.take_of_length_le (by omega)]
theorem cut_from {xs : List V} {i : Nat} : cutV xs (some (i : Int)) none = xs.drop i := by
  unfold cutV
  rw [HT.sIx_none, HT.sIx_nat, List.take_of_length_le (by rw [List.length_drop]; omega)]
  by_cases h : i ≤ xs.length
  · rw [Nat.min_eq_left h]
  · rw [Nat.min_eq_right (by omega), List.drop_eq_nil_of_le (Nat.le_refl _), List.drop_eq_nil_of_le (by omega)]
/-- x not in a list of whole numbers -/
theorem inV_nat {h : Nat} : ∀ {ns : List Nat}, inV (.int (h : Int)) (ns.map vnat) = decide (h ∈ ns)
  | [] => rfl
  | n :: ns => by
    have ih := inV_nat (h := h) (ns := ns)
    unfold inV at ih ⊢
    rw [List.map_cons, List.any_cons, ih]
    show (((n : Int) == (h : Int)) || decide (h ∈ ns)) = _
    rw [Bool.eq_iff_iff]
    simp only [Bool.or_eq_true, beq_iff_eq, decide_eq_true_eq, List.mem_cons]
    constructor
    · rintro (e | e)
      · exact .inl (by omega)
      · exact .inr e
    · rintro (e | e)
      · exact .inl (by omega)
      · exact .inr e
theorem all_flat_nat : ∀ ns : List Nat, (ns.map vnat).all flatV = true
  | [] => rfl
  | n :: ns => by rw [List.map_cons, List.all_cons, all_flat_nat ns] <;> rfl
theorem x_notInN {K : PySem.W.Frag} {H : Hp} {Q : VK} {p : Addr} {h : Nat} {ns : List Nat} (hS : SqL K H p (ns.map vnat)) (q : Q (.bl (!decide (h ∈ ns))) H) : rIn K true (.int (h : Int)) (.ref p) H Q :=
  ⟨p, _, rfl, .inl hS, rfl, all_flat_nat ns, by rw [inV_nat]; exact q⟩
end Sp

/-! Dp: == of nested data. -/
namespace Sp
open PySem PySem.Spec L2 PyProof.Rows
mutual
theorem eqv_self : ∀ d : PyData, d.canLay0 = true → PyData.eqv d d = true
  | .none, _ => by simp [PyData.eqv]
  | .bool b, _ => by simp [PyData.eqv]
  | .int i, _ => by simp [PyData.eqv]
  | .str x, _ => by simp [PyData.eqv]
  | .list xs, h => by
    rw [PyData.canLay0] at h
    rw [PyData.eqv]
    exact eqvAll_self xs h
  | .tuple xs, h => by
    rw [PyData.canLay0] at h
    rw [PyData.eqv]
    exact eqvAll_self xs h
  | .dict _, h => by rw [PyData.canLay0] at h; cases h
theorem eqvAll_self : ∀ ds : List PyData, PyData.canLayAll0 ds = true → PyData.eqvAll ds ds = true
  | [], _ => by simp [PyData.eqvAll]
  | d :: ds, h => by
    rw [PyData.canLayAll0, Bool.and_eq_true] at h
    rw [PyData.eqvAll, eqv_self d h.1, eqvAll_self ds h.2] <;> rfl
end
/-- laid without dicts, at most k deep -/
structure LayD (k : Nat) (d : PyData) : Prop where
  lay : d.canLay0 = true
  dep : d.depth ≤ k
theorem layAll : ∀ {k : Nat} {ds : List PyData}, (∀ d ∈ ds, LayD k d) → PyData.canLayAll0 ds = true ∧ PyData.depthAll ds ≤ k
  | k, [], _ => ⟨by simp [PyData.canLayAll0], by simp [PyData.depthAll]⟩
  | k, d :: ds, h => by
    have ⟨h1, h2⟩ := layAll fun x hx => h x (.tail _ hx)
    have h0 := h d (.head _)
    exact ⟨by rw [PyData.canLayAll0, h0.lay, h1] <;> rfl, by have := h0.dep; simp only [PyData.depthAll]; omega⟩
theorem LayD.int {k : Nat} (h : 1 ≤ k) (i : Int) : LayD k (.int i) := ⟨by simp [PyData.canLay0], by simp only [PyData.depth]; omega⟩
theorem LayD.bool {k : Nat} (h : 1 ≤ k) (b : Bool) : LayD k (.bool b) := ⟨by simp [PyData.canLay0], by simp only [PyData.depth]; omega⟩
theorem LayD.none {k : Nat} (h : 1 ≤ k) : LayD k .none := ⟨by simp [PyData.canLay0], by simp only [PyData.depth]; omega⟩
theorem LayD.str {k : Nat} (h : 1 ≤ k) {x : Str} (hx : PyData.strOk x = true) : LayD k (.str x) := ⟨by simpa [PyData.canLay0] using hx, by simp only [PyData.depth]; omega⟩
theorem LayD.list {k : Nat} {ds : List PyData} (h : ∀ d ∈ ds, LayD k d) : LayD (k + 1) (.list ds) := by
  have ⟨h1, h2⟩ := layAll h
  exact ⟨by rw [PyData.canLay0]; exact h1, by simp only [PyData.depth]; omega⟩
theorem LayD.tuple {k : Nat} {ds : List PyData} (h : ∀ d ∈ ds, LayD k d) : LayD (k + 1) (.tuple ds) := by
  have ⟨h1, h2⟩ := layAll h
  exact ⟨by rw [PyData.canLay0]; exact h1, by simp only [PyData.depth]; omega⟩
theorem LayD.ints {ns : List Int} : LayD 2 (.list (ns.map PyData.int)) := LayD.list fun d hd => by
  obtain ⟨n, _, rfl⟩ := List.mem_map.mp hd
  exact LayD.int (by decide) n
theorem LayD.shaped {k : Nat} {d : PyData} (h : LayD k d) (hk : k ≤ 64 := by decide) : SeqAt.shaped d = true := by
  unfold SeqAt.shaped
  rw [Bool.and_eq_true]
  exact ⟨h.lay, decide_eq_true (Nat.le_trans h.dep hk)⟩
section
variable {K : PySem.W.Frag} {H : Hp} {Q : VK} {x y : V} {d : PyData} {k : Nat}
theorem x_eqD (h1 : Dp K H x d) (h2 : Dp K H y d) (l : LayD k d) (q : Q (.bl true) H) (hk : k ≤ 64 := by decide) : rEqX K x y H Q :=
  .inr ⟨_, _, h1, h2, l.shaped hk, l.shaped hk, by rw [eqv_self d l.lay]; exact q⟩
theorem x_neD (h1 : Dp K H x d) (h2 : Dp K H y d) (l : LayD k d) (q : Q (.bl false) H) (hk : k ≤ 64 := by decide) : rNeX K x y H Q :=
  .inr ⟨_, _, h1, h2, l.shaped hk, l.shaped hk, by rw [eqv_self d l.lay]; exact q⟩
end
mutual
theorem Dp.same {K : PySem.W.Frag} {H H' : Hp} (s : Same H H') : ∀ (d : PyData) (v : V), Dp K H v d → Dp K H' v d
  | .none, _, h => by cases h; exact .non
  | .bool b, _, h => by cases h; exact .bl b
  | .int i, _, h => by cases h; exact .int i
  | .str x, _, h => by cases h; exact .str x
  | .list ds, _, h => by
    cases h with
    | lst h1 h2 => exact .lst (s.seq h1) (DpAll.same s ds _ h2)
  | .tuple ds, _, h => by
    cases h with
    | tup h1 h2 => exact .tup (same_sqT s h1) (DpAll.same s ds _ h2)
  | .dict _, _, h => by cases h
theorem DpAll.same {K : PySem.W.Frag} {H H' : Hp} (s : Same H H') : ∀ (ds : List PyData) (vs : List V), DpAll K H vs ds → DpAll K H' vs ds
  | [], _, h => by cases h; exact .nil
  | d :: ds, _, h => by
    cases h with
    | cons h1 h2 => exact .cons (Dp.same s d _ h1) (DpAll.same s ds _ h2)
end
theorem DpAll.app {K : PySem.W.Frag} {H : Hp} : ∀ {vs ws : List V} {ds es : List PyData}, DpAll K H vs ds → DpAll K H ws es → DpAll K H (vs ++ ws) (ds ++ es)
  | _, _, _, _, .nil, h => h
  | _, _, _, _, .cons h1 h2, h => .cons h1 (DpAll.app h2 h)
end Sp

/-! Xc: isinstance of the error that an except suite holds, by one class and by a written tuple of classes. -/
namespace Sp
open PySem PySem.Spec L2 PyProof.Rows
/-- isinstance(e, c): the error at a, of the class cls (an own one, without a dict of its own) -/
def rIsEX (K : PySem.W.Frag) (a : Addr) (cls : Value) (d : Option Addr) : List V → Hp → VK → Prop := fun xs H Q =>
  ∃ (D : Addr) (c : V) (cv : Value) (b : Bool), cls = .ref D ∧ d = none ∧ ExcC K D ∧ xs = [.ref a, c] ∧ ClsV c cv ∧ PySem.W.kitOne K (.ref D) cv = some b ∧ Q (.bl b) H
def rIsETX (K : PySem.W.Frag) (a : Addr) (cls : Value) (d : Option Addr) : List V → Hp → VK → Prop := fun xs H Q =>
  ∃ (D tp : Addr) (cs : List V) (us : List Value) (b : Bool), cls = .ref D ∧ d = none ∧ ExcC K D ∧ xs = [.ref a, .ref tp] ∧ H tp = some (.tup cs) ∧ Paired ClsV cs us ∧ PySem.W.kitAny K (.ref D) us = some b ∧ Q (.bl b) H
theorem suite_at {X : Cx} {pins pn : List (Addr × Obj)} {σ : L2.St} {H : Hp} {s : Shared} {a D : Addr} {oe : Obj} (hz : Zc (.ref D) none oe) (hf : ∃ vs, oe.data = .fields vs) (I : Inv (X.suite a ((a, oe) :: pn)) pins σ H s) : PySem.W.InstAt s.heap a oe D none := by
  obtain ⟨hget, _⟩ := I.pin (a, oe) (List.mem_append.mpr (.inl List.mem_cons_self))
  obtain ⟨vs, hv⟩ := hf
  obtain ⟨oc, od, oda, osl⟩ := oe
  obtain ⟨h1, h2⟩ := hz
  dsimp only at h1 h2 hv
  subst h1 h2 hv
  exact ⟨hget, rfl, rfl, trivial⟩
theorem call_isEX {X : Cx} {K : PySem.W.Frag} (hK : X.K = K) {a : Addr} {cls : Value} {d : Option Addr} {oe : Obj} {pn : List (Addr × Obj)} (hz : Zc cls d oe) (hf : ∃ vs, oe.data = .fields vs) :
    CallR (X.suite a ((a, oe) :: pn)) (.builtin "isinstance") (rIsEX K a cls d) := by
  subst hK
  intro pins s σ H xs us Q I r h
  obtain ⟨D, c, cv, b, rfl, rfl, C, rfl, hc, e, q⟩ := h
  obtain ⟨u1, u2, rfl, r1, r2⟩ := vals2 r
  cases (show u1 = Value.ref a from r1)
  have ec := hc.eq r2
  subst ec
  exact PySem.W.kia_one (PySem.W.handS_kitx_exc C.hg C.hk C.hs C.hd C.ha C.hn C.ht C.hm) I.kIn (suite_at hz hf I) e (fun z => nomatch z) fun tk => ⟨.bl b, H, I.kept (t' := tk) fun _ _ z => z, rfl, q⟩
theorem call_isETX {X : Cx} {K : PySem.W.Frag} (hK : X.K = K) {a : Addr} {cls : Value} {d : Option Addr} {oe : Obj} {pn : List (Addr × Obj)} (hz : Zc cls d oe) (hf : ∃ vs, oe.data = .fields vs) :
    CallR (X.suite a ((a, oe) :: pn)) (.builtin "isinstance") (rIsETX K a cls d) := by
  subst hK
  intro pins s σ H xs us Q I r h
  obtain ⟨D, tp, cs, ws, b, rfl, rfl, C, rfl, hT, k, e, q⟩ := h
  obtain ⟨u1, u2, rfl, r1, r2⟩ := vals2 r
  cases (show u1 = Value.ref a from r1)
  cases (show u2 = Value.ref tp from r2)
  obtain ⟨_, its, rv, o, h1, h2, n, h3⟩ := (show ObjOk _ _ H s.heap tp (.tup cs) from I.hok tp _ hT)
  have e3 := ClsV.all k rv
  subst e3
  obtain ⟨oc, od, dt, sl⟩ := o
  simp only at h2 h3
  subst h2 h3
  exact PySem.W.kia_tup (PySem.W.handS_kitx_exc C.hg C.hk C.hs C.hd C.ha C.hn C.ht C.hm) I.kIn (suite_at hz hf I) h1 e (fun z => nomatch z) fun tk => ⟨.bl b, H, I.kept (t' := tk) fun _ _ z => z, rfl, q⟩
/-- what is told of a class that is asked for -/
structure AskC (K : PySem.W.Frag) (C : Addr) : Prop where
  cls : PySem.W.isClsIn K C = true
  ty : PySem.W.typeIn K (.ref C) = some (.type "type")
  self : PySem.W.subIn K (.ref C) (.ref C) = some true
theorem kit_own {K : PySem.W.Frag} {D C : Addr} {b : Bool} (c : AskC K C) (h : PySem.W.subIn K (.ref D) (.ref C) = some b) : PySem.W.kitOne K (.ref D) (.ref C) = some b := by
  unfold PySem.W.kitOne
  by_cases e : D = C
  · subst e
    rw [c.self] at h
    rw [if_pos (by simp), ← h]
  · rw [if_neg (by simpa using e)]
    unfold PySem.W.kitCls
    have h2 : (PySem.W.clsIn K C).isSome = true := c.cls
    simp only [h2, c.ty]
    simpa using h
theorem kit_VE {K : PySem.W.Frag} {D : Addr} {b : Bool} (h : PySem.W.subIn K (.ref D) (.type "ValueError") = some b) : PySem.W.kitOne K (.ref D) (.type "ValueError") = some b := by
  unfold PySem.W.kitOne
  rw [if_neg (by simp)]
  unfold PySem.W.kitCls
  have h2 : PySem.W.kitMeta "ValueError" = true := by decide +kernel
  simp only [h2, if_true]
  exact h
theorem kit_no {K : PySem.W.Frag} {t : Value} {c : Value} {cs : List Value} (h : PySem.W.kitOne K t c = some false) (hr : PySem.W.kitAny K t cs = some false) : PySem.W.kitAny K t (c :: cs) = some false :=
  kitAny_cons h (fun _ => hr) (fun z => nomatch z)
/-- + of two lists that are read, however they stand -/
def rCatK (K : PySem.W.Frag) : R2 := fun x y H Q => ∃ l b xs zs, x = .ref l ∧ y = .ref b ∧ SqL K H l xs ∧ SqL K H b zs ∧ xs.length + zs.length ≤ sizeLine ∧ ∀ p, H p = none → Q (.ref p) (upd H p (.lst (xs ++ zs)))
theorem op_catX {X : Cx} : OpR X (binaryOp .Add) (rCatK X.K) := by
  intro pins s σ H x y v u Q I rx ry h
  obtain ⟨l, b, xs, zs, rfl, rfl, hH, hB, hz, q⟩ := h
  cases rx
  cases ry
  obtain ⟨its, r, ⟨⟨cls, dd, data, sl⟩, n, ho, hc, _, hd⟩, _⟩ := I.list hH
  obtain ⟨its2, r2, ⟨⟨cls2, dd2, data2, sl2⟩, n2, ho2, hc2, _, hd2⟩, _⟩ := I.list hB
  simp only at hc hd hc2 hd2
  subst hc hd hc2 hd2
  have hl := r.length
  have hl2 := r2.length
  have e : its.toArray ++ its2.toArray = (its ++ its2).toArray := by simp
  refine concat_meets ⟨_, ho, rfl⟩ ⟨_, ho2, rfl⟩ noFill_list_add seq_list_add PySem.F.slot_list_add PySem.F.entry_list_add (PySem.F.args_list_add_2 _ _) (list_addW l b its.toArray its2.toArray n n2 dd dd2 sl sl2 (by rw [List.size_toArray, List.size_toArray]; omega)) ⟨ho, ho2, ?_⟩
  rw [e]
  exact ⟨.ref _, _, I.lnew (t' := s.toks) (r.append r2) (by rw [List.length_append]; omega), rfl, q _ I.fresh⟩
theorem op_catK {X : Cx} {K : PySem.W.Frag} (h : X.K = K) : OpR X (binaryOp .Add) (rCatK K) := h ▸ op_catX
theorem x_cat {K : PySem.W.Frag} {H : Hp} {Q : VK} {l b : Addr} {xs zs : List V} (h1 : SqL K H l xs) (h2 : SqL K H b zs) (hz : xs.length + zs.length ≤ sizeLine) (q : ∀ p, H p = none → Q (.ref p) (upd H p (.lst (xs ++ zs)))) : rCatK K (.ref l) (.ref b) H Q := ⟨l, b, xs, zs, rfl, rfl, h1, h2, hz, q⟩
theorem pe_revLK {X : Cx} {K : PySem.W.Frag} (h : X.K = K) {e : Expr} {te : TE} {k : Nat} {p1 p2 p3 pos : Pos} (he : PE X e te) : PE X (.Subscript e (.Slice none none (some (.UnaryOp .USub (.Constant (.int 1) k p1) p2)) p3) pos) (tRevL K te) := h ▸ pe_revL he
theorem x_rev {K : PySem.W.Frag} {te : TE} {σ : L2.St} {H : Hp} {Q : VK} (h : te σ H fun x H1 => ∃ a xs, x = .ref a ∧ SqL K H1 a xs ∧ ∀ p, H1 p = none → Q (.ref p) (upd H1 p (.lst xs.reverse))) : tRevL K te σ H Q := h
section
variable {K : PySem.W.Frag} {H : Hp} {Q : VK} {a D : Addr}
theorem x_callS {sp : Sp} {E : L2.St → XK} {tr : TA} {σ : L2.St} (h : tr σ H fun vs H1 => sp vs H1 Q (E σ)) : tCallS sp E tr σ H Q := h
theorem x_isE {C : Addr} {b : Bool} (e : ExcC K D) (c : AskC K C) (h : PySem.W.subIn K (.ref D) (.ref C) = some b) (q : Q (.bl b) H) : rIsEX K a (.ref D) none [.ref a, .ref C] H Q :=
  ⟨D, _, _, b, rfl, rfl, e, rfl, .own C, kit_own c h, q⟩
theorem x_isEV {b : Bool} (e : ExcC K D) (h : PySem.W.subIn K (.ref D) (.type "ValueError") = some b) (q : Q (.bl b) H) : rIsEX K a (.ref D) none [.ref a, .ty "ValueError"] H Q :=
  ⟨D, _, _, b, rfl, rfl, e, rfl, .ty _, kit_VE h, q⟩
theorem x_isET {tp : Addr} {Cs : List Addr} {b : Bool} (e : ExcC K D) (hT : H tp = some (.tup (Cs.map V.ref))) (h : PySem.W.kitAny K (.ref D) (Cs.map Value.ref) = some b) (q : Q (.bl b) H) : rIsETX K a (.ref D) none [.ref a, .ref tp] H Q :=
  ⟨D, tp, _, _, b, rfl, rfl, e, rfl, hT, (by
    clear hT h q
    induction Cs with
    | nil => exact .nil
    | cons c r ih => exact .cons (.own c) ih), h, q⟩
end
end Sp

/-! Cpe: comprehensions whose items are not told ahead; ranges with a step; xs[::k]. -/
namespace Sp
open PySem PySem.Spec L2 PyProof.Rows
/-- behind i turns: the list at D holds some acc of which G is told; what is made within stands in B2 -/
def PvE (B : Hp) (cs : Cells) (D : Addr) (G : Hp → Nat → List V → Prop) (i : Nat) (H : Hp) : Prop := ∃ B2 acc, Same B B2 ∧ G B2 i acc ∧ Own B2 ((D, .lst acc) :: cs) H
section
variable {K : PySem.W.Frag} {σ : L2.St} {B H : Hp} {cs : Cells} {Q : VK} {te : TE} {g : TG} {tt : TT} {vs : List Nat} {QD : Addr → Hp → Prop} {G : Hp → Nat → List V → Prop}
theorem cpE_fin {D : Addr} {i : Nat} {H4 B2 : Hp} {acc : List V} {y : V} (w : Own B2 ((D, .lst acc) :: cs) H4) (s : Same B B2) (hg : G B2 (i + 1) (acc ++ [y])) (hl : acc.length < 1000000) :
    ∃ acc', H4 D = some (.lst acc') ∧ acc'.length < sizeLine ∧ PvE B cs D G (i + 1) (upd H4 D (.lst (acc' ++ [y]))) :=
  ⟨acc, Own.get w 0 rfl, Nat.lt_of_lt_of_le hl (by decide), B2, acc ++ [y], s, hg, Own.put (o' := .lst (acc ++ [y])) w 0 rfl⟩
theorem cpE_range {lo : Int} {n : Nat} (w : Own B cs H) (h0 : G B 0 [])
    (hs : ∀ D i H' B2 acc, i < n → Same B B2 → G B2 i acc → Own B2 ((D, .lst acc) :: cs) H' → g (.int (lo + i)) (wipe σ vs) H' fun σ2 H2 => wipe σ2 vs = wipe σ vs ∧ tt σ2 H2 fun b H3 =>
      if b = true then te σ2 H3 fun y H4 => ∃ acc', H4 D = some (.lst acc') ∧ acc'.length < sizeLine ∧ PvE B cs D G (i + 1) (upd H4 D (.lst (acc' ++ [y]))) else PvE B cs D G (i + 1) H3)
    (hq : ∀ D H' B2 acc, Same B B2 → G B2 n acc → Own B2 ((D, .lst acc) :: cs) H' → QD D H') : ∀ D, H D = none → ∃ W : Nat → Nat → Hp → Prop, (∃ m, W 0 m (upd H D (.lst []))) ∧ ∀ i m H, W i m H →
      ((Itr lo n).stop i H ∧ QD D H) ∨ ((Itr lo n).go i H ∧ ∃ Nx : Hp → Prop, (∀ H', Nx H' → ∃ m', m' < m ∧ W (i + 1) m' H') ∧ ∀ x H', (Itr lo n).yld i H x H' → g x (wipe σ vs) H' fun σ2 H2 => wipe σ2 vs = wipe σ vs ∧ tt σ2 H2 fun b H3 =>
        if b = true then te σ2 H3 fun y H4 => ∃ acc, H4 D = some (.lst acc) ∧ acc.length < sizeLine ∧ Nx (upd H4 D (.lst (acc ++ [y]))) else Nx H3) := fun D hD =>
  lc_range (PvE B cs D G) ⟨B, [], Same.refl _, h0, w.new hD⟩ (fun i H' hi ⟨B2, acc, s, hg, w2⟩ => hs D i H' B2 acc hi s hg w2) (fun H' ⟨B2, acc, s, hg, w2⟩ => hq D H' B2 acc s hg w2)
theorem cpE_list {a : Addr} {xs : List V} (w : Own B cs H) (hx : SqL K B a xs) (h0 : G B 0 [])
    (hs : ∀ D i x H' B2 acc, xs[i]? = some x → Same B B2 → G B2 i acc → Own B2 ((D, .lst acc) :: cs) H' → g x (wipe σ vs) H' fun σ2 H2 => wipe σ2 vs = wipe σ vs ∧ tt σ2 H2 fun b H3 =>
      if b = true then te σ2 H3 fun y H4 => ∃ acc', H4 D = some (.lst acc') ∧ acc'.length < sizeLine ∧ PvE B cs D G (i + 1) (upd H4 D (.lst (acc' ++ [y]))) else PvE B cs D G (i + 1) H3)
    (hq : ∀ D H' B2 acc, Same B B2 → G B2 xs.length acc → Own B2 ((D, .lst acc) :: cs) H' → QD D H') : ∀ D, H D = none → ∃ W : Nat → Nat → Hp → Prop, (∃ m, W 0 m (upd H D (.lst []))) ∧ ∀ i m H, W i m H →
      ((Itl K a).stop i H ∧ QD D H) ∨ ((Itl K a).go i H ∧ ∃ Nx : Hp → Prop, (∀ H', Nx H' → ∃ m', m' < m ∧ W (i + 1) m' H') ∧ ∀ x H', (Itl K a).yld i H x H' → g x (wipe σ vs) H' fun σ2 H2 => wipe σ2 vs = wipe σ vs ∧ tt σ2 H2 fun b H3 =>
        if b = true then te σ2 H3 fun y H4 => ∃ acc, H4 D = some (.lst acc) ∧ acc.length < sizeLine ∧ Nx (upd H4 D (.lst (acc ++ [y]))) else Nx H3) := fun D hD =>
  lc_list (PvE B cs D G) ⟨B, [], Same.refl _, h0, w.new hD⟩ (fun i H' hi ⟨B2, acc, s, hg, w2⟩ => w2.seq (s.seq hx)) (fun i x H' hx ⟨B2, acc, s, hg, w2⟩ => hs D i x H' B2 acc hx s hg w2) (fun H' ⟨B2, acc, s, hg, w2⟩ => hq D H' B2 acc s hg w2)
end
/-! ### ranges with a step -/
theorem x_iR3 {σ : L2.St} {H : Hp} {R : It → Hp → Prop} {tr : TA} (h : tr σ H fun vs H1 => ∃ (i j c : Int) (n : Nat), vs = [.int i, .int j, .int c] ∧ RgC i j c n ∧ R (Itc i c n) H1) : iRng3 tr σ H R := h
theorem rgc_up {i j c : Int} (hc : 0 < c) (hc2 : c < 1000) (hi : 0 ≤ i) (hi2 : i < 1000000) (hj : 0 ≤ j) (hj2 : j < 1000000) : RgC i j c (if i < j then (j - i - 1) / c + 1 else 0).toNat := by
  have hb : 0 ≤ (if i < j then (j - i - 1) / c + 1 else 0) ∧ (if i < j then (j - i - 1) / c + 1 else 0) ≤ 1000000 := by
    by_cases h : i < j
    · rw [if_pos h]
      have h1 := Int.ediv_nonneg (a := j - i - 1) (b := c) (by omega) (by omega)
      have h2 := Int.ediv_le_self (a := j - i - 1) c (by omega)
      omega
    · rw [if_neg h]; omega
  have e : Builtin.Range.rangeSize i j c = (if i < j then (j - i - 1) / c + 1 else 0) := by
    unfold Builtin.Range.rangeSize
    rw [if_pos (show c > 0 by omega)]
  refine ⟨by omega, by omega, ?_, by rw [e]; omega⟩
  unfold Builtin.Range.small
  rw [e]
  simp only [Builtin.Range.rangeFitsLong, Bool.and_eq_true, Bool.or_eq_true, decide_eq_true_eq, beq_iff_eq]
  generalize (if i < j then (j - i - 1) / c + 1 else 0) = z at hb ⊢
  refine ⟨by omega, .inr ?_⟩
  rw [if_pos (by omega), Bool.and_eq_true, decide_eq_true_eq, decide_eq_true_eq]
  omega
theorem rgc_in {i j c : Int} {k : Nat} (hc : 0 < c) (h : k < (if i < j then (j - i - 1) / c + 1 else 0).toNat) : i + (k : Int) * c < j := by
  by_cases hij : i < j
  · rw [if_pos hij] at h
    have h1 : (k : Int) ≤ (j - i - 1) / c := by omega
    have h2 : (k : Int) * c ≤ j - i - 1 := (Int.le_ediv_iff_mul_le hc).mp h1
    omega
  · rw [if_neg hij] at h; simp at h
/-! ### xs[::k] -/
def everyK (xs : List V) (k : Nat) : List V := (List.range ((xs.length + k - 1) / k)).filterMap fun i => xs[k * i]?
def tEvL (K : PySem.W.Frag) (k : Nat) (te : TE) : TE := fun σ H Q => te σ H fun x H1 => ∃ a xs, x = .ref a ∧ SqL K H1 a xs ∧ ∀ p, H1 p = none → Q (.ref p) (upd H1 p (.lst (everyK xs k)))
theorem x_ev {K : PySem.W.Frag} {k : Nat} {te : TE} {σ : L2.St} {H : Hp} {Q : VK} (h : te σ H fun x H1 => ∃ a xs, x = .ref a ∧ SqL K H1 a xs ∧ ∀ p, H1 p = none → Q (.ref p) (upd H1 p (.lst (everyK xs k)))) : tEvL K k te σ H Q := h
theorem vals_pick {xs : List V} {its : List Value} (r : Vals xs its) : ∀ ids : List Nat, Vals (ids.filterMap (xs[·]?)) (ids.filterMap (its[·]?))
  | [] => .nil
  | i :: ids => by
    have ih := vals_pick r ids
    rw [List.filterMap_cons, List.filterMap_cons]
    cases e : xs[i]? with
    | none =>
      have : its[i]? = none := by
        rw [List.getElem?_eq_none_iff] at e ⊢
        have := r.length
        omega
      rw [this]; exact ih
    | some x =>
      obtain ⟨u, hu, ru⟩ := r.get e
      rw [hu]
      exact .cons ru ih
theorem pick_every {its : List Value} {k : Nat} (hk : 0 < k) : slicePick its.toArray none none (some (k : Int)) = ((List.range ((its.length + k - 1) / k)).map (k * ·) |>.filterMap (its[·]?)).toArray := by
  have hk' : (k : Int) > 0 := by omega
  unfold slicePick sliceBounds
  simp only [Option.getD_some, if_pos hk', List.size_toArray, List.getElem?_toArray]
  congr 2
  unfold sliceRange
  simp only [if_pos hk']
  have e : (if (0 : Int) < (its.length : Int) then ((its.length : Int) - 0 + (k : Int) - 1) / (k : Int) else 0).toNat = (its.length + k - 1) / k := by
    by_cases h : 0 < its.length
    · rw [if_pos (by omega)]
      have : (its.length : Int) - 0 + (k : Int) - 1 = ((its.length + k - 1 : Nat) : Int) := by omega
      rw [this, ← Int.natCast_ediv, Int.toNat_natCast]
    · have : its.length = 0 := by omega
      rw [this, if_neg (by decide)]
      show 0 = (0 + k - 1) / k
      rw [Nat.div_eq_of_lt (by omega)]
  rw [e]
  exact List.map_congr_left fun i _ => by
    rw [Int.zero_add, ← Int.natCast_mul, Int.toNat_natCast]
theorem pe_evLK {X : Cx} {K : PySem.W.Frag} (hK : X.K = K) {e : Expr} {te : TE} {k : Nat} {j : Nat} {p1 p3 pos : Pos} (hk : 0 < k) (he : PE X e te) : PE X (.Subscript e (.Slice none none (some (.Constant (.int (k : Int)) j p1)) p3) pos) (tEvL K k te) := by
  subst hK
  constructor
  intro pins s σ H Q I h
  refine Subscript_ (thn (he.run pins s σ H _ I h) ?_)
  rintro v s1 ⟨x, H1, I1, r1, a, xs, rfl, hx, q⟩
  cases r1
  have stp : PO X (some (.Constant (.int (k : Int)) j p1)) (tPart (tC (.int (k : Int)))) := po_some pe_int
  refine wpAny_Slice (thn (po_none.run pins s1 σ H1 (fun o H2 => o = none ∧ H2 = H1) I1 ⟨rfl, rfl⟩) ?_)
  rintro vl s2 ⟨l, H2, I2, pl, rfl, rfl⟩
  refine thn (po_none.run pins s2 σ H2 (fun o H3 => o = none ∧ H3 = H2) I2 ⟨rfl, rfl⟩) ?_
  rintro vu s3 ⟨u, H3, I3, pu, rfl, rfl⟩
  refine thn (stp.run pins s3 σ H3 (fun o H4 => o = some (k : Int) ∧ H4 = H3) I3 ⟨(k : Int), rfl, rfl, rfl⟩) ?_
  rintro vs s4 ⟨o, H4, I4, ps, rfl, rfl⟩
  have I5 : Inv X pins σ H4 { s4 with heap := s4.heap.push { cls := .type "slice", data := .fields #[vl, vu, vs] } } := I4.kept (t' := s4.toks) fun b ob q => Heap.get?_push_of_some _ q
  obtain ⟨its, r, ht, hz⟩ := I5.list hx
  have hlen := r.length
  refine (show wpAny (model X.prog X.w) X.A (subscriptTail e (.Slice none none (some (.Constant (.int (k : Int)) j p1)) p3) (.ref a) (.ref s4.heap.objs.size)) (EP X pins σ Q) X.xe { s4 with heap := s4.heap.push { cls := .type "slice", data := .fields #[vl, vu, vs] } } from ?_)
  refine tail_any (ops := [.ref a, .ref s4.heap.objs.size]) ht.isList.typeIs (PySem.slot_list_getitem.lookup) ?_ (by with_unfolding_all rfl)
  refine wpAny_getItem_list_slice ht.isList (Heap.IsSliceOf.new _ vl vu vs) pl pu ps (fun z => by have := Option.some.inj z; omega) ?_ (by rw [List.size_toArray]; omega)
  rw [pick_every hk]
  have hv : Vals (everyK xs k) ((List.range ((its.length + k - 1) / k)).map (k * ·) |>.filterMap (its[·]?)) := by
    have := vals_pick r ((List.range ((its.length + k - 1) / k)).map (k * ·))
    unfold everyK
    rw [List.filterMap_map] at this
    rw [hlen]
    exact this
  have hle : (everyK xs k).length ≤ sizeLine := by
    have h1 : (everyK xs k).length ≤ (xs.length + k - 1) / k := by
      unfold everyK
      have := List.length_filterMap_le (fun i => xs[k * i]?) (List.range ((xs.length + k - 1) / k))
      rw [List.length_range] at this
      exact this
    have h2 : (xs.length + k - 1) / k ≤ xs.length := by
      by_cases h0 : xs.length = 0
      · rw [h0, Nat.zero_add, Nat.div_eq_of_lt (by omega)]; omega
      · refine Nat.div_le_of_le_mul ?_
        have : xs.length * 1 + k * 1 ≤ k * xs.length + 1 := by
          have e1 : xs.length = (xs.length - 1) + 1 := by omega
          have e2 : k * xs.length = k * (xs.length - 1) + k := by conv => lhs; rw [e1, Nat.mul_add, Nat.mul_one]
          have e3 : (xs.length - 1) ≤ k * (xs.length - 1) := Nat.le_mul_of_pos_left _ hk
          omega
        omega
    omega
  refine ⟨.ref _, _, I5.laid (t' := s4.toks) (o := .lst (everyK xs k)) (fun b ob q => Heap.get?_push_of_some _ q) (Nat.le_refl _) ?_, rfl, q _ (I5.hok.fresh (Nat.le_refl _))⟩
  exact ⟨hle, _, 0, hv, Heap.get?_push_size _ rfl⟩
end Sp

/-! Sums: tables summed, put side by side; lists of lists told and held. -/
namespace Sp
open PySem PySem.Spec L2 PyProof.Rows
theorem x_seqJ {t u : TS} {D : Ends} {σ : L2.St} {H : Hp} (P : L2.St → Hp → Prop) (hP : ∀ σ H, P σ H → u D σ H) (h : (∀ σ H, P σ H → u D σ H) → t { D with nx := u D } σ H) : tSeq t u D σ H := h hP
def sumT (xs ys : List Int) : List Int := List.zipWith (· + ·) xs ys
theorem sumT_len {xs ys : List Int} (h : xs.length = ys.length) : (sumT xs ys).length = xs.length := by
  unfold sumT
  rw [List.length_zipWith, h, Nat.min_self]
theorem sumT_at {xs ys : List Int} {i : Nat} {x y : Int} (hx : xs[i]? = some x) (hy : ys[i]? = some y) : (sumT xs ys)[i]? = some (x + y) := by
  unfold sumT
  rw [List.getElem?_zipWith, hx, hy] <;> rfl
theorem take_at {ns : List Int} {i : Nat} {z : Int} (h : ns[i]? = some z) : (ns.take (i + 1)).map V.int = (ns.take i).map V.int ++ [.int z] := by
  rw [List.take_add_one, h, List.map_append] <;> rfl
def besideT (xs ys : List Int) : List Int := ys.flatMap fun t => xs.map fun h => h + t
theorem besideT_len (xs : List Int) : ∀ ys : List Int, (besideT xs ys).length = xs.length * ys.length
  | [] => rfl
  | y :: ys => by
    unfold besideT
    rw [List.flatMap_cons, List.length_append, List.length_map, List.length_cons, Nat.mul_succ]
    have := besideT_len xs ys
    unfold besideT at this
    rw [this]; omega
theorem besideT_at (xs : List Int) : ∀ (ys : List Int) (i : Nat), i < xs.length * ys.length → gi (besideT xs ys) (i : Int) = gi xs ((i % xs.length : Nat) : Int) + gi ys ((i / xs.length : Nat) : Int)
  | [], i, h => by simp at h
  | y :: ys, i, h => by
    have e : besideT xs (y :: ys) = (xs.map fun h => h + y) ++ besideT xs ys := by unfold besideT; rw [List.flatMap_cons]
    have h0 : 0 < xs.length := by
      rcases Nat.eq_zero_or_pos xs.length with z | z
      · rw [z, Nat.zero_mul] at h; omega
      · exact z
    rw [e]
    unfold gi
    simp only [Int.toNat_natCast, List.getD_eq_getElem?_getD]
    by_cases c : i < xs.length
    · rw [List.getElem?_append_left (by rw [List.length_map]; exact c), Nat.mod_eq_of_lt c, Nat.div_eq_of_lt c, List.getElem?_map, List.getElem?_eq_getElem c]
      rfl
    · have hi : i - xs.length < xs.length * ys.length := by rw [List.length_cons, Nat.mul_succ] at h; omega
      have ih := besideT_at xs ys (i - xs.length) hi
      unfold gi at ih
      simp only [Int.toNat_natCast, List.getD_eq_getElem?_getD] at ih
      rw [List.getElem?_append_right (by rw [List.length_map]; omega), List.length_map, ih]
      have e1 : (i - xs.length) % xs.length = i % xs.length := by
        conv => rhs; rw [show i = (i - xs.length) + xs.length by omega, Nat.add_mod_right]
      have e2 : i / xs.length = (i - xs.length) / xs.length + 1 := by
        conv => lhs; rw [show i = (i - xs.length) + xs.length by omega, Nat.add_div_right _ h0]
      rw [e1, e2]
      congr 2
theorem besideT_two : ∀ ys : List Int, everyK ((besideT [0, 0] ys).map V.int) 2 = ys.map V.int
  | [] => rfl
  | y :: ys => by
    have ih := besideT_two ys
    have e : (besideT [0, 0] (y :: ys)).map V.int = V.int (0 + y) :: V.int (0 + y) :: (besideT [0, 0] ys).map V.int := by unfold besideT; rw [List.flatMap_cons]; rfl
    rw [e]
    unfold everyK at ih ⊢
    rw [List.length_cons, List.length_cons]
    generalize (besideT [0, 0] ys).map V.int = zs at ih ⊢
    rw [show (zs.length + 1 + 1 + 2 - 1) / 2 = (zs.length + 2 - 1) / 2 + 1 by omega, List.range_succ_eq_map, List.filterMap_cons, List.filterMap_map]
    rw [show (V.int (0 + y) :: V.int (0 + y) :: zs)[2 * 0]? = some (V.int (0 + y)) from rfl]
    show V.int (0 + y) :: _ = _
    rw [List.map_cons, Int.zero_add, ← ih]
    congr 1
theorem sumT_zero : ∀ xs : List Int, sumT xs (List.replicate xs.length 0) = xs
  | [] => rfl
  | x :: xs => by
    have := sumT_zero xs
    unfold sumT at this ⊢
    rw [List.length_cons, List.replicate_succ, List.zipWith_cons_cons, this, Int.add_zero]
theorem zero_sumT : ∀ xs : List Int, sumT (List.replicate xs.length 0) xs = xs
  | [] => rfl
  | x :: xs => by
    have := zero_sumT xs
    unfold sumT at this ⊢
    rw [List.length_cons, List.replicate_succ, List.zipWith_cons_cons, this, Int.zero_add]
theorem besideT_tab {xs ys : List Int} {k j : Nat} (h1 : Tab xs k) (h2 : Tab ys j) (h6 : k + j ≤ 6) : Tab (besideT xs ys) (k + j) := by
  have p1 := h1.pos
  have p2 := h2.pos
  have hl : (besideT xs ys).length = 2 ^ (k + j) := by rw [besideT_len, h1.len, h2.len, Nat.pow_add]
  refine ⟨hl, by have := h1.lo; omega, h6, gi_zero (by rw [hl]; exact Nat.two_pow_pos _) ?_⟩
  have := besideT_at xs ys 0 (Nat.mul_pos (by omega) (by omega))
  rw [Nat.zero_mod, Nat.zero_div] at this
  rw [show (0 : Int) = ((0 : Nat) : Int) from rfl, this, show gi xs ((0 : Nat) : Int) = 0 from h1.gi0, show gi ys ((0 : Nat) : Int) = 0 from h2.gi0] <;> rfl
theorem sumT_tab {xs ys : List Int} {k : Nat} (h1 : Tab xs k) (h2 : Tab ys k) : Tab (sumT xs ys) k := by
  have hl := sumT_len (xs := xs) (ys := ys) (by rw [h1.len, h2.len])
  refine ⟨by rw [hl]; exact h1.len, h1.lo, h1.hi, ?_⟩
  rw [sumT_at h1.zero h2.zero] <;> rfl
theorem rep_int (n : Nat) : (List.replicate n [V.int 0]).flatten = (List.replicate n (0 : Int)).map V.int := by
  induction n with
  | zero => rfl
  | succ n ih => rw [List.replicate_succ, List.replicate_succ, List.flatten_cons, ih, List.map_cons] <;> rfl
theorem rep_tab {n k : Nat} (h : n = 2 ^ k) (h1 : 1 ≤ k) (h6 : k ≤ 6) : Tab (List.replicate n 0) k := by
  refine ⟨by rw [List.length_replicate]; exact h, h1, h6, ?_⟩
  rw [List.getElem?_replicate, if_pos (by rw [h]; exact Nat.two_pow_pos k)]
/-- lists told beside lists held, of the same numbers -/
inductive Two (B : Hp) : List Addr → List Addr → Prop
  | nil : Two B [] []
  | cons {p q : Addr} {ps qs : List Addr} {ns : List Int} : B p = some (.lst (ns.map V.int)) → B q = some (.lst (ns.map V.int)) → Two B ps qs → Two B (p :: ps) (q :: qs)
theorem Two.same {B B' : Hp} (s : Same B B') : ∀ {ps qs : List Addr}, Two B ps qs → Two B' ps qs
  | _, _, .nil => .nil
  | _, _, .cons h1 h2 r => .cons (s _ _ h1) (s _ _ h2) (r.same s)
theorem Two.len {B : Hp} : ∀ {ps qs : List Addr}, Two B ps qs → ps.length = qs.length
  | _, _, .nil => rfl
  | _, _, .cons _ _ r => by rw [List.length_cons, List.length_cons, r.len]
theorem Two.snoc {B : Hp} {p q : Addr} {ns : List Int} (h1 : B p = some (.lst (ns.map V.int))) (h2 : B q = some (.lst (ns.map V.int))) : ∀ {ps qs : List Addr}, Two B ps qs → Two B (ps ++ [p]) (qs ++ [q])
  | _, _, .nil => .cons h1 h2 .nil
  | _, _, .cons a b r => .cons a b (r.snoc h1 h2)
theorem Two.at {B : Hp} : ∀ {ps qs : List Addr}, Two B ps qs → ∀ {i : Nat}, i < ps.length → ∃ (p q : Addr) (ns : List Int), ps[i]? = some p ∧ qs[i]? = some q ∧ B p = some (.lst (ns.map V.int)) ∧ B q = some (.lst (ns.map V.int))
  | _, _, .nil, i, h => absurd h (Nat.not_lt_zero i)
  | _, _, .cons (p := p) (q := q) (ns := ns) h1 h2 r, 0, _ => ⟨p, q, ns, rfl, rfl, h1, h2⟩
  | _, _, .cons h1 h2 r, i + 1, h => by
    obtain ⟨p, q, ns, e1, e2, e3, e4⟩ := r.at (i := i) (by simpa using h)
    exact ⟨p, q, ns, by simpa using e1, by simpa using e2, e3, e4⟩
/-- two lists of ints in a list: their data -/
def ddD (l1 l2 : List Int) : PyData := .list [.list (l1.map PyData.int), .list (l2.map PyData.int)]
theorem dp_dd {K : PySem.W.Frag} {H : Hp} {p q r : Addr} {l1 l2 : List Int} (h1 : SqL K H p [.ref q, .ref r]) (h2 : SqL K H q (l1.map V.int)) (h3 : SqL K H r (l2.map V.int)) : Dp K H (.ref p) (ddD l1 l2) :=
  .lst h1 (.cons (dp_ints h2) (.cons (dp_ints h3) .nil))
theorem lay_dd (l1 l2 : List Int) : LayD 3 (ddD l1 l2) := LayD.list fun d hd => by
  simp only [List.mem_cons, List.not_mem_nil, or_false] at hd
  rcases hd with rfl | rfl
  · exact LayD.ints
  · exact LayD.ints
end Sp

namespace Lw
open PySem PySem.Spec PyProof.Rows L2 Sp
def topS (i : Nat) : Stmt := PySem.Challenge.pw_shareparley_k15_summed_and_beside.main.body.getD i (.Pass ⟨0, 0, 0, 0⟩)
abbrev s_is_whole : Stmt := topS 14
abbrev N_is_whole : List Str := ["thing"]
theorem sc_is_whole : FnScope N_is_whole ["thing"] (defScope s_is_whole) := ⟨rfl, rfl, rfl, by decide +kernel, rfl, by decide +kernel, by decide +kernel⟩
abbrev s_look : Stmt := topS 17
abbrev N_look : List Str := ["table", "many", "number"]
theorem sc_look : FnScope N_look ["table"] (defScope s_look) := ⟨rfl, rfl, rfl, by decide +kernel, rfl, by decide +kernel, by decide +kernel⟩
abbrev s_summed : Stmt := topS 19
abbrev N_summed : List Str := ["one", "other", "many", "here", "there"]
theorem sc_summed : FnScope N_summed ["one", "other"] (defScope s_summed) := ⟨rfl, rfl, rfl, by decide +kernel, rfl, by decide +kernel, by decide +kernel⟩
abbrev s_beside : Stmt := topS 20
abbrev N_beside : List Str := ["one", "other", "found", "there", "here"]
theorem sc_beside : FnScope N_beside ["one", "other"] (defScope s_beside) := ⟨rfl, rfl, rfl, by decide +kernel, rfl, by decide +kernel, by decide +kernel⟩
abbrev s__law_whole : Stmt := topS 22
abbrev N__law_whole : List Str := ["_law_found"]
theorem sc__law_whole : FnScope N__law_whole ["_law_found"] (defScope s__law_whole) := ⟨rfl, rfl, rfl, by decide +kernel, rfl, by decide +kernel, by decide +kernel⟩
abbrev s__law_cell : Stmt := topS 23
abbrev N__law_cell : List Str := ["_law_script", "_law_k", "_law_number_here"]
theorem sc__law_cell : FnScope N__law_cell ["_law_script", "_law_k"] (defScope s__law_cell) := ⟨rfl, rfl, rfl, by decide +kernel, rfl, by decide +kernel, by decide +kernel⟩
abbrev s__law_number : Stmt := topS 24
abbrev N__law_number : List Str := ["_law_cell_here", "_law_way"]
theorem sc__law_number : FnScope N__law_number ["_law_cell_here", "_law_way"] (defScope s__law_number) := ⟨rfl, rfl, rfl, by decide +kernel, rfl, by decide +kernel, by decide +kernel⟩
abbrev s__law_table : Stmt := topS 25
abbrev N__law_table : List Str := ["_law_script", "_law_at", "_law_many", "_law_way", "_law_size", "_law_table_here", "_law_k", "_law_group"]
theorem sc__law_table : FnScope N__law_table ["_law_script", "_law_at", "_law_many", "_law_way"] (defScope s__law_table) := ⟨rfl, rfl, rfl, by decide +kernel, rfl, by decide +kernel, by decide +kernel⟩
abbrev s__law_alike : Stmt := topS 26
abbrev N__law_alike : List Str := ["_law_found", "_law_due", "_law_number_here"]
theorem sc__law_alike : FnScope N__law_alike ["_law_found", "_law_due"] (defScope s__law_alike) := ⟨rfl, rfl, rfl, by decide +kernel, rfl, by decide +kernel, by decide +kernel⟩
abbrev s__law_unlike : Stmt := topS 27
abbrev N__law_unlike : List Str := ["_law_one", "_law_other", "_law_told", "_law_wrong", "error"]
theorem sc__law_unlike : FnScope N__law_unlike ["_law_one", "_law_other"] (defScope s__law_unlike) := ⟨rfl, rfl, rfl, by decide +kernel, rfl, by decide +kernel, by decide +kernel⟩
abbrev s__law_too_many : Stmt := topS 28
abbrev N__law_too_many : List Str := ["_law_one", "_law_other", "_law_told", "_law_wrong", "error"]
theorem sc__law_too_many : FnScope N__law_too_many ["_law_one", "_law_other"] (defScope s__law_too_many) := ⟨rfl, rfl, rfl, by decide +kernel, rfl, by decide +kernel, by decide +kernel⟩
abbrev s__law_sides : Stmt := topS 29
abbrev N__law_sides : List Str := ["_law_one", "_law_other", "_law_due", "_law_group"]
theorem sc__law_sides : FnScope N__law_sides ["_law_one", "_law_other"] (defScope s__law_sides) := ⟨rfl, rfl, rfl, by decide +kernel, rfl, by decide +kernel, by decide +kernel⟩
abbrev s_law : Stmt := topS 30
abbrev N_law : List Str := ["_law_script", "_law_head", "_law_many", "_law_more", "_law_one", "_law_other", "_law_handed", "_law_told", "_law_held", "_law_small", "_law_x", "_law_y", "_law_k"]
theorem sc_law : FnScope N_law ["_law_script"] (defScope s_law) := ⟨rfl, rfl, rfl, by decide +kernel, rfl, by decide +kernel, by decide +kernel⟩
structure Ads where
  a_is_whole : Addr
  d_is_whole : FuncData
  a_look : Addr
  d_look : FuncData
  a_summed : Addr
  d_summed : FuncData
  a_beside : Addr
  d_beside : FuncData
  a__law_whole : Addr
  d__law_whole : FuncData
  a__law_cell : Addr
  d__law_cell : FuncData
  a__law_number : Addr
  d__law_number : FuncData
  a__law_table : Addr
  d__law_table : FuncData
  a__law_alike : Addr
  d__law_alike : FuncData
  a__law_unlike : Addr
  d__law_unlike : FuncData
  a__law_too_many : Addr
  d__law_too_many : FuncData
  a__law_sides : Addr
  d__law_sides : FuncData
  a_law : Addr
  d_law : FuncData
  ShareError : Addr
  NoNumber : Addr
  NoGroup : Addr
  NoRule : Addr
  NoText : Addr
  NoTable : Addr
  Unlike : Addr
  TooMany : Addr
  NoOrder : Addr
  NoRows : Addr
  NoShares : Addr
  NoVotes : Addr
  t_MOST : Tok
/-- what the top has written -/
structure Txt (K : PySem.W.Frag) (mg : Str → Option Value) (A : Ads) : Prop where
  F_is_whole : Fun K "is_whole" "is_whole" s_is_whole A.a_is_whole A.d_is_whole
  b_is_whole : Binds K A.d_is_whole ["thing"] []
  g_is_whole : mg "is_whole" = some (.ref A.a_is_whole)
  F_look : Fun K "look" "look" s_look A.a_look A.d_look
  b_look : Binds K A.d_look ["table"] []
  g_look : mg "look" = some (.ref A.a_look)
  F_summed : Fun K "summed" "summed" s_summed A.a_summed A.d_summed
  b_summed : Binds K A.d_summed ["one", "other"] []
  g_summed : mg "summed" = some (.ref A.a_summed)
  F_beside : Fun K "beside" "beside" s_beside A.a_beside A.d_beside
  b_beside : Binds K A.d_beside ["one", "other"] []
  g_beside : mg "beside" = some (.ref A.a_beside)
  F__law_whole : Fun K "_law_whole" "_law_whole" s__law_whole A.a__law_whole A.d__law_whole
  b__law_whole : Binds K A.d__law_whole ["_law_found"] []
  g__law_whole : mg "_law_whole" = some (.ref A.a__law_whole)
  F__law_cell : Fun K "_law_cell" "_law_cell" s__law_cell A.a__law_cell A.d__law_cell
  b__law_cell : Binds K A.d__law_cell ["_law_script", "_law_k"] []
  g__law_cell : mg "_law_cell" = some (.ref A.a__law_cell)
  F__law_number : Fun K "_law_number" "_law_number" s__law_number A.a__law_number A.d__law_number
  b__law_number : Binds K A.d__law_number ["_law_cell_here", "_law_way"] []
  g__law_number : mg "_law_number" = some (.ref A.a__law_number)
  F__law_table : Fun K "_law_table" "_law_table" s__law_table A.a__law_table A.d__law_table
  b__law_table : Binds K A.d__law_table ["_law_script", "_law_at", "_law_many", "_law_way"] []
  g__law_table : mg "_law_table" = some (.ref A.a__law_table)
  F__law_alike : Fun K "_law_alike" "_law_alike" s__law_alike A.a__law_alike A.d__law_alike
  b__law_alike : Binds K A.d__law_alike ["_law_found", "_law_due"] []
  g__law_alike : mg "_law_alike" = some (.ref A.a__law_alike)
  F__law_unlike : Fun K "_law_unlike" "_law_unlike" s__law_unlike A.a__law_unlike A.d__law_unlike
  b__law_unlike : Binds K A.d__law_unlike ["_law_one", "_law_other"] []
  g__law_unlike : mg "_law_unlike" = some (.ref A.a__law_unlike)
  F__law_too_many : Fun K "_law_too_many" "_law_too_many" s__law_too_many A.a__law_too_many A.d__law_too_many
  b__law_too_many : Binds K A.d__law_too_many ["_law_one", "_law_other"] []
  g__law_too_many : mg "_law_too_many" = some (.ref A.a__law_too_many)
  F__law_sides : Fun K "_law_sides" "_law_sides" s__law_sides A.a__law_sides A.d__law_sides
  b__law_sides : Binds K A.d__law_sides ["_law_one", "_law_other"] []
  g__law_sides : mg "_law_sides" = some (.ref A.a__law_sides)
  F_law : Fun K "law" "law" s_law A.a_law A.d_law
  b_law : Binds K A.d_law ["_law_script"] []
  g_law : mg "law" = some (.ref A.a_law)
  g_ShareError : mg "ShareError" = some (.ref A.ShareError)
  g_NoNumber : mg "NoNumber" = some (.ref A.NoNumber)
  g_NoGroup : mg "NoGroup" = some (.ref A.NoGroup)
  g_NoRule : mg "NoRule" = some (.ref A.NoRule)
  g_NoText : mg "NoText" = some (.ref A.NoText)
  g_NoTable : mg "NoTable" = some (.ref A.NoTable)
  k_NoTable : PySem.W.keepIn K (.ref A.NoTable) = true
  e_NoTable : PySem.W.subIn K (.ref A.NoTable) (.type "BaseException") = some true
  t_NoTable : PySem.W.typeIn K (.ref A.NoTable) = some (.type "type")
  x_NoTable : PySem.W.excIn K A.NoTable [.type "ValueError", .type "Exception", .type "BaseException", .type "object"] "ValueError.__new__" = true
  g_Unlike : mg "Unlike" = some (.ref A.Unlike)
  k_Unlike : PySem.W.keepIn K (.ref A.Unlike) = true
  e_Unlike : PySem.W.subIn K (.ref A.Unlike) (.type "BaseException") = some true
  t_Unlike : PySem.W.typeIn K (.ref A.Unlike) = some (.type "type")
  x_Unlike : PySem.W.excIn K A.Unlike [.type "ValueError", .type "Exception", .type "BaseException", .type "object"] "ValueError.__new__" = true
  g_TooMany : mg "TooMany" = some (.ref A.TooMany)
  k_TooMany : PySem.W.keepIn K (.ref A.TooMany) = true
  e_TooMany : PySem.W.subIn K (.ref A.TooMany) (.type "BaseException") = some true
  t_TooMany : PySem.W.typeIn K (.ref A.TooMany) = some (.type "type")
  x_TooMany : PySem.W.excIn K A.TooMany [.type "ValueError", .type "Exception", .type "BaseException", .type "object"] "ValueError.__new__" = true
  g_NoOrder : mg "NoOrder" = some (.ref A.NoOrder)
  g_NoRows : mg "NoRows" = some (.ref A.NoRows)
  g_NoShares : mg "NoShares" = some (.ref A.NoShares)
  g_NoVotes : mg "NoVotes" = some (.ref A.NoVotes)
  q_NoGroup : AskC K A.NoGroup
  q_NoNumber : AskC K A.NoNumber
  q_NoOrder : AskC K A.NoOrder
  q_NoRows : AskC K A.NoRows
  q_NoRule : AskC K A.NoRule
  q_NoShares : AskC K A.NoShares
  q_NoTable : AskC K A.NoTable
  q_NoText : AskC K A.NoText
  q_NoVotes : AskC K A.NoVotes
  q_ShareError : AskC K A.ShareError
  q_TooMany : AskC K A.TooMany
  q_Unlike : AskC K A.Unlike
  X_NoTable : ExcC K A.NoTable
  u_NoTable_NoGroup : PySem.W.subIn K (.ref A.NoTable) (.ref A.NoGroup) = some false
  u_NoTable_NoNumber : PySem.W.subIn K (.ref A.NoTable) (.ref A.NoNumber) = some false
  u_NoTable_NoOrder : PySem.W.subIn K (.ref A.NoTable) (.ref A.NoOrder) = some false
  u_NoTable_NoRows : PySem.W.subIn K (.ref A.NoTable) (.ref A.NoRows) = some false
  u_NoTable_NoRule : PySem.W.subIn K (.ref A.NoTable) (.ref A.NoRule) = some false
  u_NoTable_NoShares : PySem.W.subIn K (.ref A.NoTable) (.ref A.NoShares) = some false
  u_NoTable_NoTable : PySem.W.subIn K (.ref A.NoTable) (.ref A.NoTable) = some true
  u_NoTable_NoText : PySem.W.subIn K (.ref A.NoTable) (.ref A.NoText) = some false
  u_NoTable_NoVotes : PySem.W.subIn K (.ref A.NoTable) (.ref A.NoVotes) = some false
  u_NoTable_ShareError : PySem.W.subIn K (.ref A.NoTable) (.ref A.ShareError) = some true
  u_NoTable_TooMany : PySem.W.subIn K (.ref A.NoTable) (.ref A.TooMany) = some false
  u_NoTable_Unlike : PySem.W.subIn K (.ref A.NoTable) (.ref A.Unlike) = some false
  v_NoTable : PySem.W.subIn K (.ref A.NoTable) (.type "ValueError") = some true
  h_NoTable_ShareError : PySem.W.exmOne K (.ref A.NoTable) (.ref A.ShareError) = some true
  X_Unlike : ExcC K A.Unlike
  u_Unlike_NoGroup : PySem.W.subIn K (.ref A.Unlike) (.ref A.NoGroup) = some false
  u_Unlike_NoNumber : PySem.W.subIn K (.ref A.Unlike) (.ref A.NoNumber) = some false
  u_Unlike_NoOrder : PySem.W.subIn K (.ref A.Unlike) (.ref A.NoOrder) = some false
  u_Unlike_NoRows : PySem.W.subIn K (.ref A.Unlike) (.ref A.NoRows) = some false
  u_Unlike_NoRule : PySem.W.subIn K (.ref A.Unlike) (.ref A.NoRule) = some false
  u_Unlike_NoShares : PySem.W.subIn K (.ref A.Unlike) (.ref A.NoShares) = some false
  u_Unlike_NoTable : PySem.W.subIn K (.ref A.Unlike) (.ref A.NoTable) = some false
  u_Unlike_NoText : PySem.W.subIn K (.ref A.Unlike) (.ref A.NoText) = some false
  u_Unlike_NoVotes : PySem.W.subIn K (.ref A.Unlike) (.ref A.NoVotes) = some false
  u_Unlike_ShareError : PySem.W.subIn K (.ref A.Unlike) (.ref A.ShareError) = some true
  u_Unlike_TooMany : PySem.W.subIn K (.ref A.Unlike) (.ref A.TooMany) = some false
  u_Unlike_Unlike : PySem.W.subIn K (.ref A.Unlike) (.ref A.Unlike) = some true
  v_Unlike : PySem.W.subIn K (.ref A.Unlike) (.type "ValueError") = some true
  h_Unlike_ShareError : PySem.W.exmOne K (.ref A.Unlike) (.ref A.ShareError) = some true
  X_TooMany : ExcC K A.TooMany
  u_TooMany_NoGroup : PySem.W.subIn K (.ref A.TooMany) (.ref A.NoGroup) = some false
  u_TooMany_NoNumber : PySem.W.subIn K (.ref A.TooMany) (.ref A.NoNumber) = some false
  u_TooMany_NoOrder : PySem.W.subIn K (.ref A.TooMany) (.ref A.NoOrder) = some false
  u_TooMany_NoRows : PySem.W.subIn K (.ref A.TooMany) (.ref A.NoRows) = some false
  u_TooMany_NoRule : PySem.W.subIn K (.ref A.TooMany) (.ref A.NoRule) = some false
  u_TooMany_NoShares : PySem.W.subIn K (.ref A.TooMany) (.ref A.NoShares) = some false
  u_TooMany_NoTable : PySem.W.subIn K (.ref A.TooMany) (.ref A.NoTable) = some false
  u_TooMany_NoText : PySem.W.subIn K (.ref A.TooMany) (.ref A.NoText) = some false
  u_TooMany_NoVotes : PySem.W.subIn K (.ref A.TooMany) (.ref A.NoVotes) = some false
  u_TooMany_ShareError : PySem.W.subIn K (.ref A.TooMany) (.ref A.ShareError) = some true
  u_TooMany_TooMany : PySem.W.subIn K (.ref A.TooMany) (.ref A.TooMany) = some true
  u_TooMany_Unlike : PySem.W.subIn K (.ref A.TooMany) (.ref A.Unlike) = some false
  v_TooMany : PySem.W.subIn K (.ref A.TooMany) (.type "ValueError") = some true
  h_TooMany_ShareError : PySem.W.exmOne K (.ref A.TooMany) (.ref A.ShareError) = some true
  c_MOST : mg "MOST" = some (.int 6 A.t_MOST)
  z_ValueError : mg "ValueError" = none
  z_bool : mg "bool" = none
  z_int : mg "int" = none
  z_isinstance : mg "isinstance" = none
  z_len : mg "len" = none
  z_list : mg "list" = none
  z_min : mg "min" = none
  z_range : mg "range" = none
  z_zip : mg "zip" = none
local macro_rules | `(tactic| walk_at "x") => `(tactic| repeat (first
  | with_reducible refine x_seq ?_ | with_reducible refine x_asg ?_ | with_reducible refine x_op ?_ | with_reducible refine x_un ?_ | ((with_reducible refine' x_var ?e ?_); (case e => rfl)) | with_reducible refine x_c ?_
  | with_reducible refine x_if ?_ | with_reducible refine x_test ?_ | with_reducible refine x_B ?_ | with_reducible refine x_ex ?_ | with_reducible refine x_exI ?_ | with_reducible refine x_ret ?_ | with_reducible refine x_drop ?_
  | with_reducible refine x_rev ?_ | with_reducible refine x_lstRg1 ?_ | with_reducible refine x_dIn ?_ | with_reducible refine x_dPut ?_ | with_reducible refine x_dNew ?_ | with_reducible refine x_par ?_ | with_reducible refine x_call ?_ | with_reducible refine x_callS ?_ | with_reducible refine x_cons ?_ | with_reducible refine x_nil ?_ | with_reducible refine x_cb ?_
  | with_reducible refine x_addI ?_ | with_reducible refine x_subI ?_ | with_reducible refine x_ltI ?_ | with_reducible refine x_leI ?_ | with_reducible refine x_gtI ?_ | with_reducible refine x_geI ?_ | with_reducible refine x_eqI ?_ | with_reducible refine x_neI ?_
  | with_reducible refine x_eqS ?_ | with_reducible refine x_eqB ?_ | with_reducible refine x_isX ?_ | with_reducible refine x_isN ?_ | with_reducible refine x_notN ?_ | with_reducible refine x_ipI ?_
  | with_reducible refine x_andI ?_ | with_reducible refine x_orI ?_ | with_reducible refine x_xorI ?_ | with_reducible refine x_U ?_
  | with_reducible refine x_and ?_ | with_reducible refine x_or ?_ | with_reducible refine x_not ?_ | with_reducible refine x_andV ?_ | with_reducible refine x_orV ?_ | with_reducible refine x_notV ?_ | with_reducible refine x_ifE ?_
  | with_reducible refine x_for ?_ | with_reducible refine x_iList ?_ | with_reducible refine x_iTup ?_ | with_reducible refine x_iR1 ?_ | with_reducible refine x_iR2 ?_ | with_reducible refine x_iZip ?_ | with_reducible refine x_iEnum ?_ | with_reducible refine x_iR3 ?_
  | with_reducible refine x_sl ?_ | with_reducible refine x_noPart ?_ | with_reducible refine x_part ?_ | with_reducible refine x_asgS ?_ | with_reducible refine x_augS ?_ | ((with_reducible refine' x_aug ?e ?_); (case e => rfl))
  | with_reducible refine x_bm ?_ | with_reducible refine x_bm0 ?_ | with_reducible refine x_tup ?_ | with_reducible refine x_lst ?_ | with_reducible refine x_next ?_ | with_reducible refine x_retN ?_ | with_reducible refine x_brk ?_ | with_reducible refine x_ct ?_
  | with_reducible refine x_lc ?_ | with_reducible refine x_yes ?_ | with_reducible refine x_gn ?_ | with_reducible refine x_gc ?_ | with_reducible refine x_g0 ?_ | with_reducible refine x_abs ?_ | with_reducible refine x_max2 ?_ | with_reducible refine x_min2 ?_))
local macro_rules | `(tactic| walk_at "sq") => `(tactic| first
  | assumption | exact .inl (by assumption) | exact Own.sq (by assumption) 0 rfl | exact Own.sq (by assumption) 1 rfl | exact Own.sq (by assumption) 2 rfl | exact Own.sq (by assumption) 3 rfl
  | exact Own.seq (by assumption) (by first | assumption | exact .inl (by assumption)))
section
variable {P : Program} {w : World} {K : PySem.W.Frag} {mg : Str → Option Value} {base : Heap} {A : Ads}
/-! ### is_whole -/
def sp_is_whole : Sp := fun vs H Q _ => ∃ v, vs = [v] ∧ Thing H v ∧ RetV (.bl (isI v)) H Q
theorem ok_is_whole (T : Txt K mg A) : FnOk P w K mg base (L2.CX P w) 1 A.a_is_whole A.d_is_whole ["thing"] sp_is_whole := by
  refine T.F_is_whole.okX sc_is_whole (fun vs H Q E h => ?_) (fun cdv A0 outer s H vs Q E hr h => ?_)
  · obtain ⟨v, rfl, _⟩ := h; rfl
  · obtain ⟨v, rfl, hv, k⟩ := h
    refine ⟨_, (pss_cons (ps_if (PW.pt (pw_or (pt_cmpR op_isX (pv 0) pe_bl (nomark _)) (pw_or1 (pt_cmpR op_isX (pv 0) pe_bl (nomark _))))) (pss_one (ps_ret pe_bl)) pss_nil)
      (pss_one (ps_ret (pe_callB (call_isiX (K := K) rfl) (by rfl) T.z_isinstance (by decide +kernel) (pa_cons (pv 0) (pa_cons (pe_bltn (v := .ty "int") (by rfl) T.z_int (by decide +kernel) rfl) pa_nil)))))), ?_⟩
    walk_at "x"
    have go : isB v = false → rIsi K [v, .ty "int"] H Q := fun e => x_isiInt hv (by rw [e, Bool.or_false]; exact k.go (Same.refl H))
    cases v with
    | bl b =>
      cases b
      · refine iteF ?_
        walk_at "x"
        exact iteT (k.go (Same.refl H))
      · exact iteT (iteT (k.go (Same.refl H)))
    | _ =>
      refine iteF ?_
      walk_at "x"
      refine iteF ?_
      walk_at "x"
      exact go rfl

/-! ### look -/
def sp_look (A : Ads) : Sp := fun vs H Q E => ∃ (a : Addr) (xs : List V), vs = [.ref a] ∧ Rd H a (.lst xs) ∧ (∀ v ∈ xs, Thing H v) ∧
  (∀ n, lookM xs = some n → RetV (.int n) H Q) ∧ (lookM xs = none → ∀ H', Same H H' → E (.ref A.NoTable) none H')
theorem ok_look (T : Txt K mg A) : FnOk P w K mg base (L2.CX P w) 2 A.a_look A.d_look ["table"] (sp_look A) := by
  refine T.F_look.okX sc_look (fun vs H Q E h => ?_) (fun cdv A0 outer s H vs Q E hr h => ?_)
  · obtain ⟨a, xs, rfl, _⟩ := h; rfl
  · obtain ⟨a, xs, rfl, hR, hT, k, kE⟩ := h
    have hS : SqL K H a xs := .inl hR
    refine ⟨_, (pss_cons (ps_set (i := 1) sc_look.nd rfl (.inl rfl) pe_int)
      (pss_cons (ps_while (passes_of rfl) (PW.pt (pw_and (pt_cmpR op_ltX (pv 1) (pe_glob (v := .int 6) (by rfl) T.c_MOST ⟨_, rfl⟩) (nomark _)) (pw_and1 (pt_cmpR op_ltX (pe_op op_shlX pe_int (pv 1)) (pe_callB (call_lenK (K := K) rfl) (by rfl) T.z_len (by decide +kernel) (pa_cons (pv 0) pa_nil)) (nomark _))))) (pss_one (ps_set (i := 1) sc_look.nd rfl (.inl rfl) (pe_op op_addX (pv 1) pe_int))))
      (pss_cons (ps_if (pt_cmpR (op_neK (K := K) rfl hr.units) (pe_callB (call_lenK (K := K) rfl) (by rfl) T.z_len (by decide +kernel) (pa_cons (pv 0) pa_nil)) (pe_op op_shlX pe_int (pv 1)) (nomark _)) (pss_one (ps_raise rfl (takes_of rfl rfl rfl rfl) (pmk_own PySem.F.excBase_ValueError T.x_NoTable T.g_NoTable T.k_NoTable (raises_own T.e_NoTable T.t_NoTable) (by rfl)))) pss_nil)
      (pss_cons (ps_for (passes_of rfl) rfl (pi_listK (K := K) rfl (pv 0)) (pg_name (i := 2) sc_look.nd rfl (.inl rfl)) (pss_one (ps_if (pt_not (pt_val (pe_call (ok_is_whole T) (hr.mono (by decide)) (by rfl) T.g_is_whole T.F_is_whole.kp T.b_is_whole .nil (passes_call (takes_of rfl rfl rfl rfl) (fun _ _ _ _ h => h)) (pa_cons (pv 2) pa_nil)))) (pss_one (ps_raise rfl (takes_of rfl rfl rfl rfl) (pmk_own PySem.F.excBase_ValueError T.x_NoTable T.g_NoTable T.k_NoTable (raises_own T.e_NoTable T.t_NoTable) (by rfl)))) pss_nil)))
      (pss_cons (ps_if (pt_cmpR (op_neK (K := K) rfl hr.units) (pe_ix (ix_seqK (K := K) rfl) (pv 0) pe_int (fun _ _ => rfl)) pe_int (nomark _)) (pss_one (ps_raise rfl (takes_of rfl rfl rfl rfl) (pmk_own PySem.F.excBase_ValueError T.x_NoTable T.g_NoTable T.k_NoTable (raises_own T.e_NoTable T.t_NoTable) (by rfl)))) pss_nil)
      (pss_one (ps_ret (pv 1)))))))), ?_⟩
    walk_at "x"
    refine x_while (fun m σ' H' => ∃ k : Nat, σ' = [some (.ref a), some (.int k), none] ∧ H' = H ∧ m = 6 - k ∧ 1 ≤ k ∧ k ≤ 6 ∧ (k = 1 ∨ 2 ^ (k - 1) < xs.length)) 5 ⟨1, rfl, rfl, rfl, by decide, by decide, .inl rfl⟩ ?_
    rintro m σ' H' ⟨n, rfl, rfl, rfl, h1, h6, hlo⟩
    have out : (n = 6 ∨ xs.length ≤ 2 ^ n) → manyOf xs.length = n := fun h => manyOf_is h1 h6 hlo h
    walk_at "x"
    -- what stands behind the loop
    have fin : manyOf xs.length = n → tSeq
        (tIfS (tTest (tOp (rNeX K) (tCB (rLen K) (tCons (tVar 0) tNil)) (tOp rShl (tC (V.int 1)) (tVar 1)))) (fun x σ H => E (.ref A.NoTable) none H) tNext) (tSeq
        (tFor (iList K (tVar 0)) (gName 2) (tIfS (tNot (tB (tCall sp_is_whole [] E (tCons (tVar 2) tNil)))) (fun x σ H => E (.ref A.NoTable) none H) tNext)) (tSeq
        (tIfS (tTest (tOp (rNeX K) (tOp (rIx K) (tVar 0) (tC (V.int 0))) (tC (V.int 0)))) (fun x σ H => E (.ref A.NoTable) none H) tNext) (tRet (tVar 1))))
        { nx := fun _ H' => Q .non H', rt := Q } [some (.ref a), some (.int n), none] H' := fun en => by
      have bad' : ∀ H2, Same H' H2 → ¬ (xs.length = 2 ^ manyOf xs.length ∧ xs.all isI = true ∧ xs[0]? = some (.int 0)) → E (.ref A.NoTable) none H2 := fun H2 s2 z => kE (by unfold lookM; rw [if_neg z]) H2 s2
      walk_at "x"
      refine x_lenL hS ?_
      walk_at "x"
      refine x_shl ⟨by omega, by omega, by decide⟩ ?_
      walk_at "x"
      have e1 : (1 : Int) * 2 ^ (n : Int).toNat = ((2 ^ n : Nat) : Int) := by rw [Int.one_mul, Int.toNat_natCast, Int.natCast_pow] <;> rfl
      rw [e1]
      by_cases c1 : xs.length = 2 ^ n
      · rw [decide_eq_true (show (xs.length : Int) = ((2 ^ n : Nat) : Int) by omega)]
        refine iteF ?_
        walk_at "x"
        refine ⟨_, rfl, ⟨_, hS⟩, for_list (xs := xs) (fun i σ' H2 => (∃ v, σ' = [some (.ref a), some (.int n), v]) ∧ Same H' H2 ∧ (xs.take i).all isI = true) ⟨⟨_, rfl⟩, Same.refl _, rfl⟩ (fun i σ' H2 _ p => p.2.1.seq hS) ?_ ?_⟩
        · rintro i x σ' H2 hx ⟨⟨v, rfl⟩, s2, p⟩
          have hxm := List.mem_of_getElem? hx
          walk_at "x"
          refine ⟨x, rfl, (hT x hxm).same s2, fun H3 s3 => ?_⟩
          walk_at "x"
          cases hI : isI x with
          | false =>
            refine iteT (bad' H3 (s2.trans s3) fun z => ?_)
            have := List.all_eq_true.mp z.2.1 x hxm
            rw [hI] at this; cases this
          | true =>
            refine iteF ?_
            walk_at "x"
            refine ⟨⟨_, rfl⟩, s2.trans s3, ?_⟩
            rw [List.take_add_one, hx, List.all_append, p]
            simp [hI]
        · rintro σ' H2 ⟨⟨v, rfl⟩, s2, p⟩
          rw [List.take_length] at p
          walk_at "x"
          have h0 : 0 < xs.length := by rw [c1]; exact Nat.two_pow_pos n
          have hI := List.all_eq_true.mp p xs[0] (List.getElem_mem h0)
          obtain ⟨z, hz⟩ : ∃ z, xs[0] = .int z := by
            cases e : xs[0] with
            | int z => exact ⟨z, rfl⟩
            | _ => rw [e] at hI; cases hI
          have h0' : xs[0]? = some (.int z) := by rw [List.getElem?_eq_getElem h0, hz]
          refine x_ixXL (s2.seq hS) (atI_nat (j := 0) h0') ?_
          walk_at "x"
          by_cases ez : z = 0
          · rw [decide_eq_true ez]
            refine iteF ?_
            walk_at "x"
            refine k n (by unfold lookM; rw [en, if_pos ⟨c1, p, by rw [h0', ez]⟩]) _ s2
          · rw [decide_eq_false ez]
            refine iteT (bad' H2 s2 fun y => ez ?_)
            rw [h0'] at y
            exact V.int.inj (Option.some.inj y.2.2)
      · rw [decide_eq_false (show ¬ (xs.length : Int) = ((2 ^ n : Nat) : Int) by omega)]
        exact iteT (bad' H' (Same.refl _) fun z => c1 (by rw [en] at z; exact z.1))
    by_cases hk : (n : Int) < 6
    · rw [decide_eq_true hk]
      refine iteT ?_
      walk_at "x"
      refine x_shl ⟨by omega, by omega, by decide⟩ ?_
      walk_at "x"
      refine x_lenL hS ?_
      walk_at "x"
      have e1 : (1 : Int) * 2 ^ (n : Int).toNat = ((2 ^ n : Nat) : Int) := by rw [Int.one_mul, Int.toNat_natCast, Int.natCast_pow] <;> rfl
      rw [e1]
      refine ite2 (fun hl => ?_) (fun hl => ?_)
      · have hl := of_decide_eq_true hl
        refine x_N ?_
        walk_at "x"
        exact ⟨6 - (n + 1), by omega, n + 1, by rw [Int.natCast_add] <;> rfl, rfl, rfl, by omega, by omega, .inr (by rw [Nat.add_sub_cancel]; omega)⟩
      · exact fin (out (.inr (by have := mt decide_eq_true hl; omega)))
    · rw [decide_eq_false hk]
      exact iteF (fin (out (.inl (by omega))))

/-! ### summed -/
def sp_summed (A : Ads) (K : PySem.W.Frag) : Sp := fun vs H Q E => ∃ (a b : Addr) (xs ys : List V), vs = [.ref a, .ref b] ∧ Rd H a (.lst xs) ∧ Rd H b (.lst ys) ∧ (∀ y ∈ xs, Thing H y) ∧ (∀ y ∈ ys, Thing H y) ∧
  (∀ ns ms k, Tab ns k → Tab ms k → xs = ns.map V.int → ys = ms.map V.int → RetL ((sumT ns ms).map V.int) H Q) ∧
  (∀ ns ms k j, Tab ns k → Tab ms j → k ≠ j → xs = ns.map V.int → ys = ms.map V.int → ∀ H', Same H H' → E (.ref A.Unlike) none H') ∧
  (lookM xs = none ∨ lookM ys = none → ∀ H', Same H H' → E (.ref A.NoTable) none H')
theorem u_summed {K : PySem.W.Frag} {H : Hp} {Q : VK} {E : XK} {a b : Addr} {ns ms : List Int} {k : Nat} (R1 : Rd H a (.lst (ns.map V.int))) (R2 : Rd H b (.lst (ms.map V.int))) (t1 : Tab ns k) (t2 : Tab ms k) (q : RetL ((sumT ns ms).map V.int) H Q) : sp_summed A K [.ref a, .ref b] H Q E :=
  ⟨a, b, _, _, rfl, R1, R2, things_int, things_int, fun ns' ms' _ _ _ e1 e2 => by
    obtain rfl := map_int_inj e1
    obtain rfl := map_int_inj e2
    exact q, fun ns' ms' k' j' h1 h2 hne e1 e2 => by
    obtain rfl := map_int_inj e1
    obtain rfl := map_int_inj e2
    exact absurd ((h1.same t1).trans (t2.same h2)) hne, fun h => by
    rw [t1.look, t2.look] at h
    rcases h with h | h <;> cases h⟩
theorem u_summedU {K : PySem.W.Frag} {H : Hp} {Q : VK} {E : XK} {a b : Addr} {ns ms : List Int} {k j : Nat} (R1 : Rd H a (.lst (ns.map V.int))) (R2 : Rd H b (.lst (ms.map V.int))) (t1 : Tab ns k) (t2 : Tab ms j) (hn : k ≠ j) (q : ∀ H', Same H H' → E (.ref A.Unlike) none H') : sp_summed A K [.ref a, .ref b] H Q E :=
  ⟨a, b, _, _, rfl, R1, R2, things_int, things_int, fun ns' ms' k' h1 h2 e1 e2 => by
    obtain rfl := map_int_inj e1
    obtain rfl := map_int_inj e2
    exact absurd ((t1.same h1).trans (h2.same t2)) hn, fun _ _ _ _ _ _ _ _ _ => q, fun h => by
    rw [t1.look, t2.look] at h
    rcases h with h | h <;> cases h⟩
theorem ok_summed (T : Txt K mg A) : FnOk P w K mg base (L2.CX P w) 3 A.a_summed A.d_summed ["one", "other"] (sp_summed A K) := by
  refine T.F_summed.okX sc_summed (fun vs H Q E h => ?_) (fun cdv A0 outer s H vs Q E hr h => ?_)
  · obtain ⟨a, b, xs, ys, rfl, _⟩ := h; rfl
  · obtain ⟨a, b, xs, ys, rfl, R1, R2, T1, T2, k, kU, kN⟩ := h
    refine ⟨_, (pss_cons (ps_set (i := 2) sc_summed.nd rfl (.inl rfl) (pe_call (ok_look T) (hr.mono (by decide)) (by rfl) T.g_look T.F_look.kp T.b_look .nil (passes_call (takes_of rfl rfl rfl rfl) (fun _ _ _ _ h => h)) (pa_cons (pv 0) pa_nil)))
      (pss_cons (ps_if (pt_cmpR (op_neK (K := K) rfl hr.units) (pe_call (ok_look T) (hr.mono (by decide)) (by rfl) T.g_look T.F_look.kp T.b_look .nil (passes_call (takes_of rfl rfl rfl rfl) (fun _ _ _ _ h => h)) (pa_cons (pv 1) pa_nil)) (pv 2) (nomark _)) (pss_one (ps_raise rfl (takes_of rfl rfl rfl rfl) (pmk_own PySem.F.excBase_ValueError T.x_Unlike T.g_Unlike T.k_Unlike (raises_own T.e_Unlike T.t_Unlike) (by rfl)))) pss_nil)
      (pss_one (ps_ret (pe_lc (own := [("here", 3), ("there", 4)]) rfl sc_summed.nd (pi_zipK (K := K) rfl (by rfl) T.z_zip (pa_cons (pv 0) (pa_cons (pv 1) pa_nil))) (blkOk_by (own := [("here", 3), ("there", 4)]) (N := N_summed) (sc := defScope s_summed) (by decide +kernel)) (fun _ _ _ _ _ => (pg_tupK (K := K) (n := 2) rfl rfl (pgs_cons (pg_name (i := 3) sc_summed.nd rfl (.inl rfl)) (pgs_cons (pg_name (i := 4) sc_summed.nd rfl (.inl rfl)) pgs_nil)))) (fun _ _ _ _ _ => pts_nil) (fun _ _ _ _ _ => (pe_op op_addX (pv 3) (pv 4)))))))), ?_⟩
    walk_at "x"
    refine ⟨a, xs, rfl, R1, T1, fun n hn H1 s1 => ?_, fun hn => kN (.inl hn)⟩
    obtain ⟨ns, m1, t1, rfl, rfl⟩ := look_tab hn
    have R2' := rd_same s1 R2
    walk_at "x"
    refine ⟨b, ys, rfl, R2', fun y hy => (T2 y hy).same s1, fun n hn2 H2 s2 => ?_, fun hn H' s' => kN (.inr hn) H' (s1.trans s')⟩
    obtain ⟨ms, m2, t2, rfl, rfl⟩ := look_tab hn2
    have s2 := s1.trans s2
    walk_at "x"
    by_cases c : m1 = m2
    · subst c
      rw [decide_eq_true rfl]
      refine iteF ?_
      have hp1 := t1.pos
      have hl : ns.length = ms.length := by rw [t1.len, t2.len]
      walk_at "x"
      refine ⟨a, b, _, _, rfl, s2.seq (.inl R1), s2.seq (.inl R2), cp_zip (xs := ns.map V.int) (ys := ms.map V.int) (fun i => ((sumT ns ms).take i).map V.int) (Own.start (H := H2)) (by rw [List.length_map, List.length_map, hl]) (s2.seq (.inl R1)) (s2.seq (.inl R2)) rfl ?_ ?_⟩
      · intro D i x y t H' hx hy p nt
        obtain ⟨z1, hz1, rfl⟩ := map_at hx
        obtain ⟨z2, hz2, rfl⟩ := map_at hy
        refine x_gt (SqT.of upd_same) rfl ?_
        walk_at "x"
        refine ⟨rfl, ?_⟩
        walk_at "x"
        refine iteT ?_
        walk_at "x"
        have hi := (List.getElem?_eq_some_iff.mp hz1).1
        exact cp_fin (Own.ext p (same_upd nt)) (take_at (sumT_at hz1 hz2)) (by rw [List.length_map, List.length_take]; omega)
      · intro D H' w
        rw [List.length_map, ← sumT_len hl, List.take_length] at w
        exact k ns ms m1 t1 t2 rfl rfl _ _ (s2.free (w.none 0 rfl)) (s2.trans w.ex) (w.get 0 rfl)
    · rw [decide_eq_false (show ¬ ((m2 : Nat) : Int) = ((m1 : Nat) : Int) by omega)]
      exact iteT (kU ns ms m1 m2 t1 t2 c rfl rfl H2 s2)

/-! ### beside -/
def sp_beside (A : Ads) (K : PySem.W.Frag) : Sp := fun vs H Q E => ∃ (a b : Addr) (xs ys : List V), vs = [.ref a, .ref b] ∧ Rd H a (.lst xs) ∧ Rd H b (.lst ys) ∧ (∀ y ∈ xs, Thing H y) ∧ (∀ y ∈ ys, Thing H y) ∧
  (∀ ns ms k j, Tab ns k → Tab ms j → k + j ≤ 6 → xs = ns.map V.int → ys = ms.map V.int → RetL ((besideT ns ms).map V.int) H Q) ∧
  (∀ ns ms k j, Tab ns k → Tab ms j → 6 < k + j → xs = ns.map V.int → ys = ms.map V.int → ∀ H', Same H H' → E (.ref A.TooMany) none H') ∧
  (lookM xs = none ∨ lookM ys = none → ∀ H', Same H H' → E (.ref A.NoTable) none H')
theorem u_beside {K : PySem.W.Frag} {H : Hp} {Q : VK} {E : XK} {a b : Addr} {ns ms : List Int} {k j : Nat} (R1 : Rd H a (.lst (ns.map V.int))) (R2 : Rd H b (.lst (ms.map V.int))) (t1 : Tab ns k) (t2 : Tab ms j) (h6 : k + j ≤ 6) (q : RetL ((besideT ns ms).map V.int) H Q) : sp_beside A K [.ref a, .ref b] H Q E :=
  ⟨a, b, _, _, rfl, R1, R2, things_int, things_int, fun ns' ms' _ _ _ _ _ e1 e2 => by
    obtain rfl := map_int_inj e1
    obtain rfl := map_int_inj e2
    exact q, fun ns' ms' k' j' h1 h2 hne e1 e2 => by
    obtain rfl := map_int_inj e1
    obtain rfl := map_int_inj e2
    have := h1.same t1
    have := h2.same t2
    omega, fun h => by
    rw [t1.look, t2.look] at h
    rcases h with h | h <;> cases h⟩
theorem u_besideT {K : PySem.W.Frag} {H : Hp} {Q : VK} {E : XK} {a b : Addr} {ns ms : List Int} {k j : Nat} (R1 : Rd H a (.lst (ns.map V.int))) (R2 : Rd H b (.lst (ms.map V.int))) (t1 : Tab ns k) (t2 : Tab ms j) (h6 : 6 < k + j) (q : ∀ H', Same H H' → E (.ref A.TooMany) none H') : sp_beside A K [.ref a, .ref b] H Q E :=
  ⟨a, b, _, _, rfl, R1, R2, things_int, things_int, fun ns' ms' _ _ h1 h2 _ e1 e2 => by
    obtain rfl := map_int_inj e1
    obtain rfl := map_int_inj e2
    have := h1.same t1
    have := h2.same t2
    omega, fun _ _ _ _ _ _ _ _ _ => q, fun h => by
    rw [t1.look, t2.look] at h
    rcases h with h | h <;> cases h⟩
theorem mul64 {k j : Nat} (h : k + j ≤ 6) : 2 ^ k * 2 ^ j ≤ 64 := by rw [← Nat.pow_add]; exact Nat.pow_le_pow_right (n := 2) (by decide) h
theorem beside_take {ns ms : List Int} {i : Nat} {z : Int} (h : ms[i]? = some z) : besideT ns (ms.take (i + 1)) = besideT ns (ms.take i) ++ ns.map (fun x => x + z) := by
  rw [List.take_add_one, h]
  unfold besideT
  rw [List.flatMap_append]
  simp
theorem ok_beside (T : Txt K mg A) : FnOk P w K mg base (L2.CX P w) 3 A.a_beside A.d_beside ["one", "other"] (sp_beside A K) := by
  refine T.F_beside.okX sc_beside (fun vs H Q E h => ?_) (fun cdv A0 outer s H vs Q E hr h => ?_)
  · obtain ⟨a, b, xs, ys, rfl, _⟩ := h; rfl
  · obtain ⟨a, b, xs, ys, rfl, R1, R2, T1, T2, k, kM, kN⟩ := h
    refine ⟨_, (pss_cons (ps_if (pt_cmpR op_gtX (pe_op op_addX (pe_call (ok_look T) (hr.mono (by decide)) (by rfl) T.g_look T.F_look.kp T.b_look .nil (passes_call (takes_of rfl rfl rfl rfl) (fun _ _ _ _ h => h)) (pa_cons (pv 0) pa_nil)) (pe_call (ok_look T) (hr.mono (by decide)) (by rfl) T.g_look T.F_look.kp T.b_look .nil (passes_call (takes_of rfl rfl rfl rfl) (fun _ _ _ _ h => h)) (pa_cons (pv 1) pa_nil))) (pe_glob (v := .int 6) (by rfl) T.c_MOST ⟨_, rfl⟩) (nomark _)) (pss_one (ps_raise rfl (takes_of rfl rfl rfl rfl) (pmk_own PySem.F.excBase_ValueError T.x_TooMany T.g_TooMany T.k_TooMany (raises_own T.e_TooMany T.t_TooMany) (by rfl)))) pss_nil)
      (pss_cons (ps_set (i := 2) sc_beside.nd rfl (.inl rfl) (pe_lst pa_nil))
      (pss_cons (ps_for (passes_of rfl) rfl (pi_listK (K := K) rfl (pv 1)) (pg_name (i := 3) sc_beside.nd rfl (.inl rfl)) (pss_one (ps_for (passes_of rfl) rfl (pi_listK (K := K) rfl (pv 0)) (pg_name (i := 4) sc_beside.nd rfl (.inl rfl)) (pss_one (ps_expr (pe_bm PySem.F.plainAttrs_list PySem.F.slot_list_append PySem.F.type_list_append mt_append (pv 2) (pa_cons (pe_op op_addX (pv 4) (pv 3)) pa_nil)))))))
      (pss_one (ps_ret (pv 2)))))), ?_⟩
    walk_at "x"
    refine ⟨a, xs, rfl, R1, T1, fun n hn H1 s1 => ?_, fun hn => kN (.inl hn)⟩
    obtain ⟨ns, m1, t1, rfl, rfl⟩ := look_tab hn
    have R2' := rd_same s1 R2
    walk_at "x"
    refine ⟨b, ys, rfl, R2', fun y hy => (T2 y hy).same s1, fun n hn2 H2 s2 => ?_, fun hn H' s' => kN (.inr hn) H' (s1.trans s')⟩
    obtain ⟨ms, m2, t2, rfl, rfl⟩ := look_tab hn2
    have s2 := s1.trans s2
    walk_at "x"
    refine ite2 (fun c => ?_) (fun c => ?_)
    · have c := of_decide_eq_true c
      exact kM ns ms m1 m2 t1 t2 (by omega) rfl rfl H2 s2
    · have c6 : m1 + m2 ≤ 6 := by
        by_cases h : m1 + m2 ≤ 6
        · exact h
        · exact absurd (decide_eq_true (by omega)) c
      have m64 := mul64 c6
      rw [← t1.len, ← t2.len] at m64
      have tot := besideT_len ns ms
      have hp1 := t1.pos
      have hp2 := t2.pos
      walk_at "x"
      refine ⟨(by show 0 ≤ sizeLine; decide), fun p0 n0 => ?_⟩
      have w0 := (Own.start.ext s2 : Own H [] H2).new (o := .lst []) n0
      walk_at "x"
      refine ⟨_, rfl, ⟨_, w0.seq (.inl R2)⟩, for_list (xs := ms.map V.int) (fun i σ' H' => (∃ v1 v2, σ' = [some (.ref a), some (.ref b), some (.ref p0), v1, v2]) ∧ Own H [(p0, .lst ((besideT ns (ms.take i)).map V.int))] H') ⟨⟨_, _, rfl⟩, w0⟩ (fun i σ' H' _ h => h.2.seq (.inl R2)) ?_ ?_⟩
      · rintro i x σ' H' hx ⟨⟨v1, v2, rfl⟩, w⟩
        obtain ⟨z, hz, rfl⟩ := map_at hx
        have hi := (List.getElem?_eq_some_iff.mp hz).1
        have bl := besideT_len ns (ms.take i)
        rw [List.length_take, Nat.min_eq_left (by omega)] at bl
        have bi : ns.length * i + ns.length ≤ 64 := by
          have : ns.length * (i + 1) ≤ ns.length * ms.length := Nat.mul_le_mul_left _ hi
          rw [Nat.mul_succ] at this; omega
        walk_at "x"
        refine ⟨_, rfl, ⟨_, w.seq (.inl R1)⟩, for_list (xs := ns.map V.int) (fun j σ' H' => (∃ v2, σ' = [some (.ref a), some (.ref b), some (.ref p0), some (.int z), v2]) ∧ Own H [(p0, .lst ((besideT ns (ms.take i) ++ (ns.take j).map fun x => x + z).map V.int))] H') ⟨⟨_, rfl⟩, by rw [List.take_zero, List.map_nil, List.append_nil]; exact w⟩ (fun i σ' H' _ h => h.2.seq (.inl R1)) ?_ ?_⟩
        · rintro j x σ' H' hx ⟨⟨v2, rfl⟩, w⟩
          obtain ⟨y, hy, rfl⟩ := map_at hx
          have hj := (List.getElem?_eq_some_iff.mp hy).1
          walk_at "x"
          refine ⟨x_tyL (w.get 0 rfl), ?_⟩
          walk_at "x"
          refine x_append (w.get 0 rfl) ?_ ?_
          · rw [List.length_map, List.length_append, List.length_map, List.length_take]
            exact small1000 (by omega)
          have w2 := w.put (o' := .lst ((besideT ns (ms.take i) ++ (ns.take j).map fun x => x + z).map V.int ++ [.int (y + z)])) 0 rfl
          have e : (besideT ns (ms.take i) ++ (ns.take j).map fun x => x + z).map V.int ++ [V.int (y + z)] = (besideT ns (ms.take i) ++ (ns.take (j + 1)).map fun x => x + z).map V.int := by
            rw [List.take_add_one, hy, List.map_append, List.map_append, List.map_append, List.map_append, List.append_assoc] <;> rfl
          rw [e] at w2 ⊢
          exact ⟨⟨_, rfl⟩, w2⟩
        · rintro σ' H' ⟨⟨v2, rfl⟩, w⟩
          rw [List.length_map, List.take_length, ← beside_take hz] at w
          exact ⟨⟨_, _, rfl⟩, w⟩
      · rintro σ' H' ⟨⟨v1, v2, rfl⟩, w⟩
        rw [List.length_map, List.take_length] at w
        walk_at "x"
        exact (k ns ms m1 m2 t1 t2 c6 rfl rfl).go w

/-! ### _law_whole -/
def sp__law_whole : Sp := fun vs H Q _ => ∃ v, vs = [v] ∧ Thing H v ∧ RetV (.bl (isI v)) H Q
theorem ok__law_whole (T : Txt K mg A) : FnOk P w K mg base (L2.CX P w) 1 A.a__law_whole A.d__law_whole ["_law_found"] sp__law_whole := by
  refine T.F__law_whole.okX sc__law_whole (fun vs H Q E h => ?_) (fun cdv A0 outer s H vs Q E hr h => ?_)
  · obtain ⟨v, rfl, _⟩ := h; rfl
  · obtain ⟨v, rfl, hv, k⟩ := h
    refine ⟨_, (pss_one (ps_ret (pe_and (pe_callB (call_isiX (K := K) rfl) (by rfl) T.z_isinstance (by decide +kernel) (pa_cons (pv 0) (pa_cons (pe_bltn (v := .ty "int") (by rfl) T.z_int (by decide +kernel) rfl) pa_nil))) (pe_one (pe_not (pe_callB (call_isiX (K := K) rfl) (by rfl) T.z_isinstance (by decide +kernel) (pa_cons (pv 0) (pa_cons (pe_bltn (v := .ty "bool") (by rfl) T.z_bool (by decide +kernel) rfl) pa_nil)))))))), ?_⟩
    walk_at "x"
    refine x_isiInt hv ?_
    walk_at "x"
    have e : isI v = ((isI v || isB v) && !isB v) := by cases v <;> rfl
    have k' := k.go (Same.refl H)
    rw [e] at k'
    cases c : (isI v || isB v) with
    | false => rw [c, Bool.false_and] at k'; exact iteF k'
    | true =>
      rw [c, Bool.true_and] at k'
      refine iteT ?_
      walk_at "x"
      refine x_isiBool hv ?_
      walk_at "x"
      exact k'

/-! ### _law_cell -/
def sp__law_cell (K : PySem.W.Frag) : Sp := fun vs H Q _ => ∃ (a : Addr) (ns : List Int) (j : Int), vs = [.ref a, .int j] ∧ SqL K H a (ns.map V.int) ∧ ns.length ≤ 63 ∧ 0 ≤ j ∧ j < 2 ^ 20 ∧ ∀ z, RetV (.int z) H Q
theorem ok__law_cell (T : Txt K mg A) : FnOk P w K mg base (L2.CX P w) 1 A.a__law_cell A.d__law_cell ["_law_script", "_law_k"] (sp__law_cell K) := by
  refine T.F__law_cell.okX sc__law_cell (fun vs H Q E h => ?_) (fun cdv A0 outer s H vs Q E hr h => ?_)
  · obtain ⟨a, ns, j, rfl, _⟩ := h; rfl
  · obtain ⟨a, ns, j, rfl, hS, hl, h0, h1, k⟩ := h
    have k' : ∀ z, Q (.int z) H := fun z => (k z).go (Same.refl H)
    refine ⟨_, (pss_cons (ps_if (pt_cmpR op_ltX (pv 1) (pe_callB (call_lenK (K := K) rfl) (by rfl) T.z_len (by decide +kernel) (pa_cons (pv 0) pa_nil)) (nomark _)) (pss_one (ps_ret (pe_ix (ix_seqK (K := K) rfl) (pv 0) (pv 1) (fun _ _ => rfl)))) pss_nil)
      (pss_cons (ps_set (i := 2) sc__law_cell.nd rfl (.inl rfl) (pe_op op_addX (pe_op op_mulX (pe_op op_mulX (pv 1) (pv 1)) pe_int) pe_int))
      (pss_cons (ps_if (pt_cmpR op_gtX (pe_callB (call_lenK (K := K) rfl) (by rfl) T.z_len (by decide +kernel) (pa_cons (pv 0) pa_nil)) pe_int (nomark _)) (pss_one (ps_set (i := 2) sc__law_cell.nd rfl (.inl rfl) (pe_op op_addX (pv 2) (pe_op op_mulX (pe_op op_modX (pe_ix (ix_seqK (K := K) rfl) (pv 0) (pe_op op_modX (pe_op op_mulX (pv 1) pe_int) (pe_callB (call_lenK (K := K) rfl) (by rfl) T.z_len (by decide +kernel) (pa_cons (pv 0) pa_nil))) (fun _ _ => rfl)) pe_int) pe_int)))) pss_nil)
      (pss_one (ps_ret (pe_op op_modX (pe_op op_mulX (pv 2) pe_int) pe_int)))))), ?_⟩
    walk_at "x"
    refine x_lenL hS ?_
    walk_at "x"
    rw [List.length_map]
    refine ite2 (fun c => ?_) (fun c => ?_)
    · have c := of_decide_eq_true c
      walk_at "x"
      exact x_ixXL hS (at_int h0 c) (k' _)
    · walk_at "x"
      refine x_mulI (.of_left (intBits_le_64 (by omega) (by omega))) ?_
      walk_at "x"
      refine x_mulI (.of_right (by decide)) ?_
      walk_at "x"
      refine x_lenL hS ?_
      walk_at "x"
      rw [List.length_map]
      refine ite2 (fun d => ?_) (fun d => ?_)
      · have d := of_decide_eq_true d
        walk_at "x"
        refine x_mulI (.of_right (by decide)) ?_
        walk_at "x"
        refine x_lenL hS ?_
        walk_at "x"
        rw [List.length_map]
        refine x_modP d ?_
        walk_at "x"
        refine x_ixXL hS (at_int (Int.emod_nonneg _ (by omega)) (Int.emod_lt_of_pos _ d)) ?_
        walk_at "x"
        refine x_modP (by decide) ?_
        walk_at "x"
        refine x_mulI (.of_right (by decide)) ?_
        walk_at "x"
        refine x_mulI (.of_right (by decide)) ?_
        walk_at "x"
        exact x_modP (by decide) (k' _)
      · walk_at "x"
        refine x_mulI (.of_right (by decide)) ?_
        walk_at "x"
        exact x_modP (by decide) (k' _)

/-! ### _law_number -/
def sp__law_number : Sp := fun vs H Q _ => ∃ c j : Int, vs = [.int c, .int j] ∧ ∀ z, Small z → RetV (.int z) H Q
theorem ok__law_number (T : Txt K mg A) : FnOk P w K mg base (L2.CX P w) 1 A.a__law_number A.d__law_number ["_law_cell_here", "_law_way"] sp__law_number := by
  refine T.F__law_number.okX sc__law_number (fun vs H Q E h => ?_) (fun cdv A0 outer s H vs Q E hr h => ?_)
  · obtain ⟨c, j, rfl, _⟩ := h; rfl
  · obtain ⟨c, j, rfl, k⟩ := h
    have k' : ∀ z, Small z → Q (.int z) H := fun z hz => (k z hz).go (Same.refl H)
    refine ⟨_, (pss_cons (ps_if (pt_cmpR (op_eqK (K := K) rfl hr.units) (pv 1) pe_int (nomark _)) (pss_one (ps_ret (pe_op op_subX (pe_op op_modX (pv 0) pe_int) pe_int))) pss_nil)
      (pss_cons (ps_if (pt_cmpR (op_eqK (K := K) rfl hr.units) (pv 1) pe_int (nomark _)) (pss_one (ps_ret (pe_op op_subX (pe_op op_modX (pe_op op_mulX (pv 0) pe_int) (pe_op op_addX (pe_op op_mulX pe_int (pe_op op_powX pe_int pe_int)) pe_int)) (pe_op op_powX pe_int pe_int)))) pss_nil)
      (pss_cons (ps_if (pt_cmpR (op_eqK (K := K) rfl hr.units) (pv 1) pe_int (nomark _)) (pss_one (ps_ret (pe_op op_modX (pv 0) pe_int))) pss_nil)
      (pss_one (ps_ret (pe_op op_subX (pe_op op_modX (pv 0) pe_int) pe_int)))))), ?_⟩
    walk_at "x"
    refine ite2 (fun _ => ?_) (fun _ => ?_)
    · walk_at "x"
      refine x_modP (by decide) ?_
      walk_at "x"
      exact k' _ ⟨by omega, by omega⟩
    · walk_at "x"
      refine ite2 (fun _ => ?_) (fun _ => ?_)
      · walk_at "x"
        refine x_mulI (.of_right (by decide)) ?_
        walk_at "x"
        refine x_powN ⟨by decide, by decide, by decide⟩ ?_
        walk_at "x"
        refine x_mulI (.of_left (by decide)) ?_
        walk_at "x"
        have e : (2 : Int) * 10 ^ (18 : Int).toNat + 1 = 2000000000000000001 := by decide
        rw [e]
        refine x_modP (by decide) ?_
        walk_at "x"
        refine x_powN ⟨by decide, by decide, by decide⟩ ?_
        walk_at "x"
        have e2 : (10 : Int) ^ (18 : Int).toNat = 1000000000000000000 := by decide
        rw [e2]
        exact k' _ ⟨by omega, by omega⟩
      · walk_at "x"
        refine ite2 (fun _ => ?_) (fun _ => ?_)
        · walk_at "x"
          exact x_modP (by decide) (k' _ ⟨by omega, by omega⟩)
        · walk_at "x"
          refine x_modP (by decide) ?_
          walk_at "x"
          exact k' _ ⟨by omega, by omega⟩

/-! ### _law_table -/
def sp__law_table (K : PySem.W.Frag) : Sp := fun vs H Q _ => ∃ (a : Addr) (ns : List Int) (at_ m : Nat) (way : Int), vs = [.ref a, .int (at_ : Int), .int (m : Int), .int way] ∧ SqL K H a (ns.map V.int) ∧ ns.length ≤ 63 ∧ at_ ≤ 1 ∧ 1 ≤ m ∧ m ≤ 6 ∧ ∀ ms, Tab ms m → RetL (ms.map V.int) H Q
theorem ok__law_table (T : Txt K mg A) : FnOk P w K mg base (L2.CX P w) 2 A.a__law_table A.d__law_table ["_law_script", "_law_at", "_law_many", "_law_way"] (sp__law_table K) := by
  refine T.F__law_table.okX sc__law_table (fun vs H Q E h => ?_) (fun cdv A0 outer s H vs Q E hr h => ?_)
  · obtain ⟨a, ns, at_, m, way, rfl, _⟩ := h; rfl
  · obtain ⟨a, ns, at_, m, way, rfl, hS, hl, ha, hm1, hm6, k⟩ := h
    have hp : 2 ≤ 2 ^ m ∧ 2 ^ m ≤ 64 := ⟨Nat.pow_le_pow_right (n := 2) (by decide) hm1, pow6 hm6⟩
    refine ⟨_, (pss_cons (ps_set (i := 4) sc__law_table.nd rfl (.inl rfl) (pe_op op_shlX pe_int (pv 2)))
      (pss_cons (ps_set (i := 5) sc__law_table.nd rfl (.inl rfl) (pe_op op_addX (pe_lst (pa_cons pe_int pa_nil)) (pe_lc (own := [("_law_group", 7)]) rfl sc__law_table.nd (pi_range2 (by rfl) T.z_range (pa_cons pe_int (pa_cons (pv 4) pa_nil))) (blkOk_by (own := [("_law_group", 7)]) (N := N__law_table) (sc := defScope s__law_table) (by decide +kernel)) (fun _ _ _ _ _ => (pg_name (i := 7) sc__law_table.nd rfl (.inl rfl))) (fun _ _ _ _ _ => pts_nil) (fun _ _ _ _ _ => (pe_call (ok__law_number T) (hr.mono (by decide)) (by rfl) T.g__law_number T.F__law_number.kp T.b__law_number .nil passL (pa_cons (pe_call (ok__law_cell T) (hr.mono (by decide)) (by rfl) T.g__law_cell T.F__law_cell.kp T.b__law_cell .nil passL (pa_cons (pv 0) (pa_cons (pe_op op_addX (pe_op op_mulX pe_int (pv 7)) (pv 1)) pa_nil))) (pa_cons (pv 3) pa_nil)))))))
      (pss_cons (ps_for (passes_of rfl) rfl (pi_range3 (by rfl) T.z_range (pa_cons (pe_op op_addX (pe_op op_mulX pe_int (pv 4)) (pv 1)) (pa_cons (pe_callB (call_min2X rfl) (by rfl) T.z_min (by decide +kernel) (pa_cons (pe_callB (call_lenK (K := K) rfl) (by rfl) T.z_len (by decide +kernel) (pa_cons (pv 0) pa_nil)) (pa_cons pe_int pa_nil))) (pa_cons pe_int pa_nil)))) (pg_name (i := 6) sc__law_table.nd rfl (.inl rfl)) (pss_one (ps_augS (pv 5) (pe_op op_addX pe_int (pe_op op_modX (pe_op op_fdivX (pv 6) pe_int) (pe_op op_subX (pv 4) pe_int))) (get_listK (K := K) rfl) (pe_call (ok__law_number T) (hr.mono (by decide)) (by rfl) T.g__law_number T.F__law_number.kp T.b__law_number .nil (passes_call (takes_of rfl rfl rfl rfl) (fun _ _ _ _ h => h)) (pa_cons (pe_ix (ix_seqK (K := K) rfl) (pv 0) (pv 6) (fun _ _ => rfl)) (pa_cons (pv 3) pa_nil))) ip_add set_list)))
      (pss_one (ps_ret (pv 5)))))), ?_⟩
    walk_at "x"
    refine x_shl ⟨by omega, by omega, by decide⟩ ?_
    rw [shl_nat]
    walk_at "x"
    refine ⟨(by show 1 ≤ sizeLine; decide), fun p0 n0 => ?_⟩
    have w0 := (Own.start (H := H)).new (o := .lst [.int 0]) n0
    walk_at "x"
    refine ⟨_, _, rfl, ⟨by omega, by omega, by omega, by omega⟩, cpE_range (lo := 1) (n := (((2 ^ m : Nat) : Int) - 1).toNat) (G := fun B2 i acc => ∃ ms : List Int, acc = ms.map V.int ∧ ms.length = i) w0 ⟨[], rfl, rfl⟩ ?_ ?_⟩
    · rintro D i H' B2 acc hi sB ⟨ms, rfl, hlen⟩ w
      walk_at "x"
      refine ⟨rfl, ?_⟩
      walk_at "x"
      refine iteT ?_
      walk_at "x"
      refine x_mulI (.of_left (by decide)) ?_
      walk_at "x"
      refine ⟨a, ns, _, rfl, w.seq (sB.seq hS), hl, by omega, by omega, fun z1 H1 s1 => ?_⟩
      walk_at "x"
      refine ⟨_, _, rfl, fun z2 _ H2 s2 => ?_⟩
      have w2 := (w.ext s1).ext s2
      exact cpE_fin w2 sB ⟨ms ++ [z2], by rw [List.map_append] <;> rfl, by rw [List.length_append, hlen] <;> rfl⟩ (by rw [List.length_map]; omega)
    · rintro D H' B2 acc sB ⟨ms, rfl, hlen⟩ w
      refine x_addL (.inl (w.get 1 rfl)) (.inl (w.get 0 rfl)) (Nat.le_trans (show [V.int 0].length + (ms.map V.int).length ≤ 100 by rw [List.length_map]; show 1 + _ ≤ 100; omega) (by decide)) (fun p1 n1 => ?_)
      have hms : (0 :: ms).length = 2 ^ m := by rw [List.length_cons]; omega
      have w1 := (w.new (o := .lst ((0 :: ms).map V.int)) n1).sub (ds := [(p1, .lst ((0 :: ms).map V.int))]) (.cons_cons _ (.cons _ (.cons _ .slnil)))
      have tb : Tab (0 :: ms) m := ⟨hms, hm1, hm6, rfl⟩
      have hS2 := sB.seq hS
      rw [show [V.int 0] ++ ms.map V.int = (0 :: ms).map V.int from rfl]
      generalize (0 :: ms) = ts at *
      walk_at "x"
      refine x_mulI (.of_left (by decide)) ?_
      walk_at "x"
      refine x_lenL (w1.seq hS2) ?_
      walk_at "x"
      rw [List.length_map]
      have hmn : (if (120 : Int) < (ns.length : Int) then (120 : Int) else (ns.length : Int)) = (ns.length : Int) := if_neg (by omega)
      rw [hmn]
      refine ⟨_, _, _, _, rfl, rgc_up (i := 2 * ((2 ^ m : Nat) : Int) + (at_ : Int)) (j := (ns.length : Int)) (c := 2) (by decide) (by decide) (by omega) (by omega) (by omega) (by omega), for_rangeC (fun i σ' H' => ∃ ms : List Int, Tab ms m ∧ (∃ v1 v2, σ' = [some (.ref a), some (.int (at_ : Int)), some (.int (m : Int)), some (.int way), some (.int ((2 ^ m : Nat) : Int)), some (.ref p1), v1, v2]) ∧ Own B2 [(p1, .lst (ms.map V.int))] H') ⟨ts, tb, ⟨_, _, rfl⟩, w1⟩ ?_ ?_⟩
      · rintro i σ' H' hi ⟨ms, tb, ⟨v1, v2, rfl⟩, w⟩
        have hin := rgc_in (by decide) hi
        have hp2 := tb.pos
        have hlt := tb.len
        walk_at "x"
        generalize hk : 2 * ((2 ^ m : Nat) : Int) + (at_ : Int) + (i : Int) * 2 = kk at hin ⊢
        have hk0 : 0 ≤ kk := by omega
        refine x_divP (by decide) (by decide) ?_
        walk_at "x"
        refine x_modP (by omega) ?_
        have r0 := Int.emod_nonneg (kk / 2) (show ((2 ^ m : Nat) : Int) - 1 ≠ 0 by omega)
        have r1 := Int.emod_lt_of_pos (kk / 2) (show 0 < ((2 ^ m : Nat) : Int) - 1 by omega)
        generalize kk / 2 % (((2 ^ m : Nat) : Int) - 1) = r at r0 r1 ⊢
        walk_at "x"
        refine x_ixL (w.sq 0 rfl) (at_int (i := 1 + r) (by omega) (by omega)) ?_
        walk_at "x"
        refine x_ixXL (w.seq hS2) (at_int hk0 hin) ?_
        walk_at "x"
        refine ⟨_, _, rfl, fun z2 _ H2 s2 => ?_⟩
        have w2 := w.ext s2
        walk_at "x"
        refine x_setL (w2.get 0 rfl) (by rw [List.length_map]; exact ixN_int (by omega) (by omega)) ?_
        rw [map_set_int]
        have w3 := w2.put (o' := .lst ((ms.set (1 + r).toNat (gi ms (1 + r) + z2)).map V.int)) 0 rfl
        exact ⟨_, tb.set (by omega), ⟨_, _, rfl⟩, w3⟩
      · rintro σ' H' ⟨ms, tb, ⟨v1, v2, rfl⟩, w⟩
        walk_at "x"
        exact k ms tb _ _ (sB.free (w.none 0 rfl)) (sB.trans w.ex) (w.get 0 rfl)

/-! ### _law_alike -/
def sp__law_alike (K : PySem.W.Frag) : Sp := fun vs H Q _ => ∃ (p q : Addr) (ns ms : List Int), vs = [.ref p, .ref q] ∧ Rd H p (.lst (ns.map V.int)) ∧ SqL K H q (ms.map V.int) ∧ RetV (.bl (decide (ns = ms))) H Q
theorem ok__law_alike (T : Txt K mg A) : FnOk P w K mg base (L2.CX P w) 2 A.a__law_alike A.d__law_alike ["_law_found", "_law_due"] (sp__law_alike K) := by
  refine T.F__law_alike.okX sc__law_alike (fun vs H Q E h => ?_) (fun cdv A0 outer s H vs Q E hr h => ?_)
  · obtain ⟨p, q, ns, ms, rfl, _⟩ := h; rfl
  · obtain ⟨p, q, ns, ms, rfl, hR, hq, k⟩ := h
    have hp : SqL K H p (ns.map V.int) := .inl hR
    refine ⟨_, (pss_cons (ps_if (PW.pt (pw_or (pt_not (pt_val (pe_callB (call_isiX (K := K) rfl) (by rfl) T.z_isinstance (by decide +kernel) (pa_cons (pv 0) (pa_cons (pe_bltn (v := .ty "list") (by rfl) T.z_list (by decide +kernel) rfl) pa_nil))))) (pw_or1 (pt_cmpR (op_neK (K := K) rfl hr.units) (pe_callB (call_lenK (K := K) rfl) (by rfl) T.z_len (by decide +kernel) (pa_cons (pv 0) pa_nil)) (pe_callB (call_lenK (K := K) rfl) (by rfl) T.z_len (by decide +kernel) (pa_cons (pv 1) pa_nil)) (nomark _))))) (pss_one (ps_ret pe_bl)) pss_nil)
      (pss_cons (ps_for (passes_of rfl) rfl (pi_listK (K := K) rfl (pv 0)) (pg_name (i := 2) sc__law_alike.nd rfl (.inl rfl)) (pss_one (ps_if (pt_not (pt_val (pe_call (ok__law_whole T) (hr.mono (by decide)) (by rfl) T.g__law_whole T.F__law_whole.kp T.b__law_whole .nil (passes_call (takes_of rfl rfl rfl rfl) (fun _ _ _ _ h => h)) (pa_cons (pv 2) pa_nil)))) (pss_one (ps_ret pe_bl)) pss_nil)))
      (pss_one (ps_ret (pe_cmpR (op_eqK (K := K) rfl hr.units) (pv 0) (pv 1) (nomark _)))))), ?_⟩
    walk_at "x"
    refine x_isiListL hR ?_
    walk_at "x"
    refine iteF ?_
    walk_at "x"
    refine x_lenL hp ?_
    walk_at "x"
    refine x_lenL hq ?_
    walk_at "x"
    rw [List.length_map, List.length_map]
    by_cases c : ns.length = ms.length
    · rw [decide_eq_true (show (ns.length : Int) = (ms.length : Int) by omega)]
      refine iteF ?_
      walk_at "x"
      refine ⟨_, rfl, ⟨_, hp⟩, for_list (xs := ns.map V.int) (fun i σ' H' => (∃ v, σ' = [some (.ref p), some (.ref q), v]) ∧ Own H [] H') ⟨⟨_, rfl⟩, Own.start⟩ (fun i σ' H' _ h => h.2.seq hp) ?_ ?_⟩
      · rintro i x σ' H' hx ⟨⟨v, rfl⟩, w⟩
        obtain ⟨z, _, rfl⟩ := List.mem_map.mp (List.mem_of_getElem? hx)
        walk_at "x"
        refine ⟨_, rfl, .int z, fun H2 s2 => ?_⟩
        walk_at "x"
        refine iteF ?_
        walk_at "x"
        exact ⟨⟨_, rfl⟩, w.ext s2⟩
      · rintro σ' H' ⟨⟨v, rfl⟩, w⟩
        walk_at "x"
        exact x_eqLI (w.seq hp) (w.seq hq) (k.go w.ex)
    · rw [decide_eq_false (show ¬ (ns.length : Int) = (ms.length : Int) by omega)]
      refine iteT ?_
      walk_at "x"
      have k' := k.go (Same.refl H)
      rw [decide_eq_false (show ¬ ns = ms from fun e => c (by rw [e]))] at k'
      exact k'

/-! ### _law_unlike -/
def sp__law_unlike : Sp := fun vs H Q _ => ∃ (a b : Addr) (ns ms : List Int) (k j : Nat), vs = [.ref a, .ref b] ∧ Rd H a (.lst (ns.map V.int)) ∧ Rd H b (.lst (ms.map V.int)) ∧ Tab ns k ∧ Tab ms j ∧ k ≠ j ∧ RetV (.bl true) H Q
theorem ok__law_unlike (T : Txt K mg A) : FnOk P w K mg base (L2.CX P w) 4 A.a__law_unlike A.d__law_unlike ["_law_one", "_law_other"] sp__law_unlike := by
  refine T.F__law_unlike.okX sc__law_unlike (fun vs H Q E h => ?_) (fun cdv A0 outer s H vs Q E hr h => ?_)
  · obtain ⟨a, b, ns, ms, k, j, rfl, _⟩ := h; rfl
  · obtain ⟨a, b, ns, ms, k, j, rfl, R1, R2, t1, t2, hc, q⟩ := h
    refine ⟨_, (pss_cons (ps_set (i := 2) sc__law_unlike.nd rfl (.inl rfl) pe_bl)
      (pss_cons (ps_set (i := 3) sc__law_unlike.nd rfl (.inl rfl) pe_bl)
      (pss_cons (ps_try_as (i := 4) (Wout := fun _ _ _ _ => False) rfl rfl sc__law_unlike.nd rfl rfl ⟨rfl, by decide, Or.inl T.g_ShareError⟩ takes0 (fun W pn xe tk _ => (pss_one (ps_expr (pe_callS (ok_summed T) (hr.mono (by decide)) (by rfl) T.g_summed T.F_summed.kp T.b_summed (fun σ => passAt tk σ) (pa_cons (pv 0) (pa_cons (pv 1) pa_nil)))))) (fun a oe cls d pn hz hf => (pss_cons (ps_set (i := 2) sc__law_unlike.nd rfl (.inl rfl) (pe_and (pe_callB (call_isEX (K := K) rfl hz hf) (by rfl) T.z_isinstance (by decide +kernel) (pa_cons (pv 4) (pa_cons (pe_glob (v := .ref A.Unlike) (by rfl) T.g_Unlike rfl) pa_nil))) (pe_one (pe_callB (call_isEX (K := K) rfl hz hf) (by rfl) T.z_isinstance (by decide +kernel) (pa_cons (pv 4) (pa_cons (pe_bltn (v := .ty "ValueError") (by rfl) T.z_ValueError (by decide +kernel) rfl) pa_nil))))))
      (pss_cons (ps_set (i := 3) sc__law_unlike.nd rfl (.inl rfl) (pe_callB (call_isETX (K := K) rfl hz hf) (by rfl) T.z_isinstance (by decide +kernel) (pa_cons (pv 4) (pa_cons (pe_tup (pa_cons (pe_glob (v := .ref A.NoGroup) (by rfl) T.g_NoGroup rfl) (pa_cons (pe_glob (v := .ref A.NoNumber) (by rfl) T.g_NoNumber rfl) (pa_cons (pe_glob (v := .ref A.NoOrder) (by rfl) T.g_NoOrder rfl) (pa_cons (pe_glob (v := .ref A.NoRows) (by rfl) T.g_NoRows rfl) (pa_cons (pe_glob (v := .ref A.NoRule) (by rfl) T.g_NoRule rfl) pa_nil)))))) pa_nil))))
      (pss_one (ps_set (i := 3) sc__law_unlike.nd rfl (.inl rfl) (pe_or (pv 3) (pe_one (pe_callB (call_isETX (K := K) rfl hz hf) (by rfl) T.z_isinstance (by decide +kernel) (pa_cons (pv 4) (pa_cons (pe_tup (pa_cons (pe_glob (v := .ref A.NoShares) (by rfl) T.g_NoShares rfl) (pa_cons (pe_glob (v := .ref A.NoTable) (by rfl) T.g_NoTable rfl) (pa_cons (pe_glob (v := .ref A.NoText) (by rfl) T.g_NoText rfl) (pa_cons (pe_glob (v := .ref A.NoVotes) (by rfl) T.g_NoVotes rfl) (pa_cons (pe_glob (v := .ref A.TooMany) (by rfl) T.g_TooMany rfl) pa_nil)))))) pa_nil)))))))))))
      (pss_one (ps_ret (pe_and (pv 2) (pe_one (pe_not (pv 3))))))))), ?_⟩
    walk_at "x"
    refine u_summedU (K := K) R1 R2 t1 t2 hc fun H1 s1 => ⟨true, T.h_Unlike_ShareError, fun _ a0 ha0 => ?_, fun q => nomatch q⟩
    have w := (Own.start (H := H)).ext s1
    walk_at "x"
    refine x_isE T.X_Unlike T.q_Unlike T.u_Unlike_Unlike ?_
    refine ⟨true, rfl, iteT ?_⟩
    walk_at "x"
    refine x_isEV T.X_Unlike T.v_Unlike ?_
    walk_at "x"
    refine ⟨(by show 5 ≤ sizeLine; decide), fun p1 n1 => ?_⟩
    have w1 := w.new (o := .tup [.ref A.NoGroup, .ref A.NoNumber, .ref A.NoOrder, .ref A.NoRows, .ref A.NoRule]) n1
    walk_at "x"
    refine x_isET (Cs := [A.NoGroup, A.NoNumber, A.NoOrder, A.NoRows, A.NoRule]) T.X_Unlike (w1.get 0 rfl) (kit_no (kit_own T.q_NoGroup T.u_Unlike_NoGroup) (kit_no (kit_own T.q_NoNumber T.u_Unlike_NoNumber) (kit_no (kit_own T.q_NoOrder T.u_Unlike_NoOrder) (kit_no (kit_own T.q_NoRows T.u_Unlike_NoRows) (kit_no (kit_own T.q_NoRule T.u_Unlike_NoRule) rfl))))) ?_
    walk_at "x"
    refine iteF ?_
    walk_at "x"
    refine ⟨(by show 5 ≤ sizeLine; decide), fun p2 n2 => ?_⟩
    have w2 := w1.new (o := .tup [.ref A.NoShares, .ref A.NoTable, .ref A.NoText, .ref A.NoVotes, .ref A.TooMany]) n2
    walk_at "x"
    refine x_isET (Cs := [A.NoShares, A.NoTable, A.NoText, A.NoVotes, A.TooMany]) T.X_Unlike (w2.get 0 rfl) (kit_no (kit_own T.q_NoShares T.u_Unlike_NoShares) (kit_no (kit_own T.q_NoTable T.u_Unlike_NoTable) (kit_no (kit_own T.q_NoText T.u_Unlike_NoText) (kit_no (kit_own T.q_NoVotes T.u_Unlike_NoVotes) (kit_no (kit_own T.q_TooMany T.u_Unlike_TooMany) rfl))))) ?_
    walk_at "x"
    refine iteT ?_
    walk_at "x"
    exact q _ w2.ex

/-! ### _law_too_many -/
def sp__law_too_many : Sp := fun vs H Q _ => ∃ (a b : Addr) (ns ms : List Int) (k j : Nat), vs = [.ref a, .ref b] ∧ Rd H a (.lst (ns.map V.int)) ∧ Rd H b (.lst (ms.map V.int)) ∧ Tab ns k ∧ Tab ms j ∧ 6 < k + j ∧ RetV (.bl true) H Q
theorem ok__law_too_many (T : Txt K mg A) : FnOk P w K mg base (L2.CX P w) 4 A.a__law_too_many A.d__law_too_many ["_law_one", "_law_other"] sp__law_too_many := by
  refine T.F__law_too_many.okX sc__law_too_many (fun vs H Q E h => ?_) (fun cdv A0 outer s H vs Q E hr h => ?_)
  · obtain ⟨a, b, ns, ms, k, j, rfl, _⟩ := h; rfl
  · obtain ⟨a, b, ns, ms, k, j, rfl, R1, R2, t1, t2, hc, q⟩ := h
    refine ⟨_, (pss_cons (ps_set (i := 2) sc__law_too_many.nd rfl (.inl rfl) pe_bl)
      (pss_cons (ps_set (i := 3) sc__law_too_many.nd rfl (.inl rfl) pe_bl)
      (pss_cons (ps_try_as (i := 4) (Wout := fun _ _ _ _ => False) rfl rfl sc__law_too_many.nd rfl rfl ⟨rfl, by decide, Or.inl T.g_ShareError⟩ takes0 (fun W pn xe tk _ => (pss_one (ps_expr (pe_callS (ok_beside T) (hr.mono (by decide)) (by rfl) T.g_beside T.F_beside.kp T.b_beside (fun σ => passAt tk σ) (pa_cons (pv 0) (pa_cons (pv 1) pa_nil)))))) (fun a oe cls d pn hz hf => (pss_cons (ps_set (i := 2) sc__law_too_many.nd rfl (.inl rfl) (pe_and (pe_callB (call_isEX (K := K) rfl hz hf) (by rfl) T.z_isinstance (by decide +kernel) (pa_cons (pv 4) (pa_cons (pe_glob (v := .ref A.TooMany) (by rfl) T.g_TooMany rfl) pa_nil))) (pe_one (pe_callB (call_isEX (K := K) rfl hz hf) (by rfl) T.z_isinstance (by decide +kernel) (pa_cons (pv 4) (pa_cons (pe_bltn (v := .ty "ValueError") (by rfl) T.z_ValueError (by decide +kernel) rfl) pa_nil))))))
      (pss_cons (ps_set (i := 3) sc__law_too_many.nd rfl (.inl rfl) (pe_callB (call_isETX (K := K) rfl hz hf) (by rfl) T.z_isinstance (by decide +kernel) (pa_cons (pv 4) (pa_cons (pe_tup (pa_cons (pe_glob (v := .ref A.NoGroup) (by rfl) T.g_NoGroup rfl) (pa_cons (pe_glob (v := .ref A.NoNumber) (by rfl) T.g_NoNumber rfl) (pa_cons (pe_glob (v := .ref A.NoOrder) (by rfl) T.g_NoOrder rfl) (pa_cons (pe_glob (v := .ref A.NoRows) (by rfl) T.g_NoRows rfl) (pa_cons (pe_glob (v := .ref A.NoRule) (by rfl) T.g_NoRule rfl) pa_nil)))))) pa_nil))))
      (pss_one (ps_set (i := 3) sc__law_too_many.nd rfl (.inl rfl) (pe_or (pv 3) (pe_one (pe_callB (call_isETX (K := K) rfl hz hf) (by rfl) T.z_isinstance (by decide +kernel) (pa_cons (pv 4) (pa_cons (pe_tup (pa_cons (pe_glob (v := .ref A.NoShares) (by rfl) T.g_NoShares rfl) (pa_cons (pe_glob (v := .ref A.NoTable) (by rfl) T.g_NoTable rfl) (pa_cons (pe_glob (v := .ref A.NoText) (by rfl) T.g_NoText rfl) (pa_cons (pe_glob (v := .ref A.NoVotes) (by rfl) T.g_NoVotes rfl) (pa_cons (pe_glob (v := .ref A.Unlike) (by rfl) T.g_Unlike rfl) pa_nil)))))) pa_nil)))))))))))
      (pss_one (ps_ret (pe_and (pv 2) (pe_one (pe_not (pv 3))))))))), ?_⟩
    walk_at "x"
    refine u_besideT (K := K) R1 R2 t1 t2 hc fun H1 s1 => ⟨true, T.h_TooMany_ShareError, fun _ a0 ha0 => ?_, fun q => nomatch q⟩
    have w := (Own.start (H := H)).ext s1
    walk_at "x"
    refine x_isE T.X_TooMany T.q_TooMany T.u_TooMany_TooMany ?_
    refine ⟨true, rfl, iteT ?_⟩
    walk_at "x"
    refine x_isEV T.X_TooMany T.v_TooMany ?_
    walk_at "x"
    refine ⟨(by show 5 ≤ sizeLine; decide), fun p1 n1 => ?_⟩
    have w1 := w.new (o := .tup [.ref A.NoGroup, .ref A.NoNumber, .ref A.NoOrder, .ref A.NoRows, .ref A.NoRule]) n1
    walk_at "x"
    refine x_isET (Cs := [A.NoGroup, A.NoNumber, A.NoOrder, A.NoRows, A.NoRule]) T.X_TooMany (w1.get 0 rfl) (kit_no (kit_own T.q_NoGroup T.u_TooMany_NoGroup) (kit_no (kit_own T.q_NoNumber T.u_TooMany_NoNumber) (kit_no (kit_own T.q_NoOrder T.u_TooMany_NoOrder) (kit_no (kit_own T.q_NoRows T.u_TooMany_NoRows) (kit_no (kit_own T.q_NoRule T.u_TooMany_NoRule) rfl))))) ?_
    walk_at "x"
    refine iteF ?_
    walk_at "x"
    refine ⟨(by show 5 ≤ sizeLine; decide), fun p2 n2 => ?_⟩
    have w2 := w1.new (o := .tup [.ref A.NoShares, .ref A.NoTable, .ref A.NoText, .ref A.NoVotes, .ref A.Unlike]) n2
    walk_at "x"
    refine x_isET (Cs := [A.NoShares, A.NoTable, A.NoText, A.NoVotes, A.Unlike]) T.X_TooMany (w2.get 0 rfl) (kit_no (kit_own T.q_NoShares T.u_TooMany_NoShares) (kit_no (kit_own T.q_NoTable T.u_TooMany_NoTable) (kit_no (kit_own T.q_NoText T.u_TooMany_NoText) (kit_no (kit_own T.q_NoVotes T.u_TooMany_NoVotes) (kit_no (kit_own T.q_Unlike T.u_TooMany_Unlike) rfl))))) ?_
    walk_at "x"
    refine iteT ?_
    walk_at "x"
    exact q _ w2.ex

/-! ### _law_sides -/
def sp__law_sides (K : PySem.W.Frag) : Sp := fun vs H Q _ => ∃ (a b : Addr) (ns ms : List Int), vs = [.ref a, .ref b] ∧ SqL K H a (ns.map V.int) ∧ SqL K H b (ms.map V.int) ∧ 0 < ns.length ∧ ns.length * ms.length ≤ 64 ∧ RetL ((besideT ns ms).map V.int) H Q
theorem ok__law_sides (T : Txt K mg A) : FnOk P w K mg base (L2.CX P w) 1 A.a__law_sides A.d__law_sides ["_law_one", "_law_other"] (sp__law_sides K) := by
  refine T.F__law_sides.okX sc__law_sides (fun vs H Q E h => ?_) (fun cdv A0 outer s H vs Q E hr h => ?_)
  · obtain ⟨a, b, ns, ms, rfl, _⟩ := h; rfl
  · obtain ⟨a, b, ns, ms, rfl, h1, h2, h0, h64, k⟩ := h
    have e2 : ((ns.length : Int) * (ms.length : Int)) = ((ns.length * ms.length : Nat) : Int) := by rw [Int.natCast_mul]
    have hnl : ns.length ≤ 64 ∨ ms.length = 0 := by
      rcases Nat.eq_zero_or_pos ms.length with z | z
      · exact .inr z
      · exact .inl (Nat.le_trans (Nat.le_mul_of_pos_right _ z) h64)
    have hml : ms.length ≤ 64 := Nat.le_trans (Nat.le_mul_of_pos_left _ h0) h64
    refine ⟨_, (pss_cons (ps_set (i := 2) sc__law_sides.nd rfl (.inl rfl) (pe_lst pa_nil))
      (pss_cons (ps_for (passes_of rfl) rfl (pi_range1 (by rfl) T.z_range (pa_cons (pe_op op_mulX (pe_callB (call_lenK (K := K) rfl) (by rfl) T.z_len (by decide +kernel) (pa_cons (pv 0) pa_nil)) (pe_callB (call_lenK (K := K) rfl) (by rfl) T.z_len (by decide +kernel) (pa_cons (pv 1) pa_nil))) pa_nil)) (pg_name (i := 3) sc__law_sides.nd rfl (.inl rfl)) (pss_one (ps_expr (pe_bm PySem.F.plainAttrs_list PySem.F.slot_list_append PySem.F.type_list_append mt_append (pv 2) (pa_cons (pe_op op_addX (pe_ix (ix_seqK (K := K) rfl) (pv 0) (pe_op op_modX (pv 3) (pe_callB (call_lenK (K := K) rfl) (by rfl) T.z_len (by decide +kernel) (pa_cons (pv 0) pa_nil))) (fun _ _ => rfl)) (pe_ix (ix_seqK (K := K) rfl) (pv 1) (pe_op op_fdivX (pv 3) (pe_callB (call_lenK (K := K) rfl) (by rfl) T.z_len (by decide +kernel) (pa_cons (pv 0) pa_nil))) (fun _ _ => rfl))) pa_nil)))))
      (pss_one (ps_ret (pv 2))))), ?_⟩
    walk_at "x"
    refine ⟨(by show 0 ≤ sizeLine; decide), fun p0 n0 => ?_⟩
    have w0 := (Own.start (H := H)).new (o := .lst []) n0
    walk_at "x"
    refine x_lenL (w0.seq h1) ?_
    walk_at "x"
    refine x_lenL (w0.seq h2) ?_
    rw [List.length_map, List.length_map]
    refine x_mulI (.of_right (intBits_le_64 (by omega) (by omega))) ?_
    walk_at "x"
    rw [e2]
    refine ⟨_, rfl, by omega, by omega, for_r0 (n := ((ns.length * ms.length : Nat) : Int)) (fun i σ' H' => (∃ v1, σ' = [some (.ref a), some (.ref b), some (.ref p0), v1]) ∧ Own H [(p0, .lst ((tl i (fn (besideT ns ms))).map V.int))] H') ⟨⟨_, rfl⟩, w0⟩ ?_ ?_⟩
    · rintro i σ' H' hi ⟨⟨v1, rfl⟩, w⟩
      have hi' : i < ns.length * ms.length := by omega
      walk_at "x"
      refine ⟨x_tyL (w.get 0 rfl), ?_⟩
      walk_at "x"
      refine x_lenL (w.seq h1) ?_
      rw [List.length_map]
      walk_at "x"
      refine x_modP (by omega) ?_
      have em : (i : Int) % (ns.length : Int) = ((i % ns.length : Nat) : Int) := rfl
      have ed : (i : Int) / (ns.length : Int) = ((i / ns.length : Nat) : Int) := rfl
      have lm := Nat.mod_lt i h0
      have ld : i / ns.length < ms.length := Nat.div_lt_of_lt_mul hi'
      rw [em]
      refine x_ixXL (w.seq h1) (at_int (Int.natCast_nonneg _) (Int.ofNat_lt.mpr lm)) ?_
      walk_at "x"
      refine x_lenL (w.seq h1) ?_
      rw [List.length_map]
      have hn64 : ns.length ≤ 64 := by
        rcases hnl with z | z
        · exact z
        · rw [z, Nat.mul_zero] at hi'; omega
      refine x_divP (by omega) (Nat.lt_of_le_of_lt (Nat.log2_le_self _) (by omega)) ?_
      rw [ed]
      refine x_ixXL (w.seq h2) (at_int (Int.natCast_nonneg _) (Int.ofNat_lt.mpr ld)) ?_
      walk_at "x"
      refine x_append (w.get 0 rfl) (by rw [List.length_map, tl_len]; exact small1000 (by omega)) ?_
      rw [map_app_int, ← besideT_at ns ms i hi']
      have w2 := w.put (o' := .lst ((tl i (fn (besideT ns ms)) ++ [gi (besideT ns ms) (i : Int)]).map V.int)) 0 rfl
      have e : tl i (fn (besideT ns ms)) ++ [gi (besideT ns ms) (i : Int)] = tl (i + 1) (fn (besideT ns ms)) := by
        unfold tl; rw [List.range_succ, List.map_append] <;> rfl
      rw [e] at w2 ⊢
      exact ⟨⟨_, rfl⟩, w2⟩
    · rintro σ' H' ⟨⟨v1, rfl⟩, w⟩
      rw [Int.toNat_natCast, ← besideT_len ns ms, tl_fn] at w
      walk_at "x"
      exact k.go w

/-! ### law -/
def sp_law (K : PySem.W.Frag) : Sp := fun vs H Q _ => ∃ (a : Addr) (ns : List Int), vs = [.ref a] ∧ SqL K H a (ns.map V.int) ∧ ns.length ≤ 63 ∧ ∀ H', Q (.bl true) H'
theorem rep_eq {n : Nat} : (List.replicate n [V.int 0]).flatten = (List.replicate n (0 : Int)).map V.int := rep_int n
theorem ok_law (T : Txt K mg A) : FnOk P w K mg base (L2.CX P w) 5 A.a_law A.d_law ["_law_script"] (sp_law K) := by
  refine T.F_law.okX sc_law (fun vs H Q E h => ?_) (fun cdv A0 outer s H vs Q E hr h => ?_)
  · obtain ⟨a, ns, rfl, _⟩ := h; rfl
  · obtain ⟨a, ns, rfl, hS, hl, k⟩ := h
    refine ⟨_, (pss_cons (ps_set (i := 1) sc_law.nd rfl (.inl rfl) (pe_op op_modX (pe_call (ok__law_cell T) (hr.mono (by decide)) (by rfl) T.g__law_cell T.F__law_cell.kp T.b__law_cell .nil (passes_call (takes_of rfl rfl rfl rfl) (fun _ _ _ _ h => h)) (pa_cons (pv 0) (pa_cons pe_int pa_nil))) pe_int))
      (pss_cons (ps_set (i := 2) sc_law.nd rfl (.inl rfl) (pe_op op_addX pe_int (pe_op op_modX (pv 1) pe_int)))
      (pss_cons (ps_set (i := 3) sc_law.nd rfl (.inl rfl) (pe_ix (ix_seqK (K := K) rfl) (pe_lst (pa_cons (pv 2) (pa_cons (pe_op op_addX pe_int (pe_op op_modX (pe_op op_fdivX (pv 1) pe_int) pe_int)) pa_nil))) (pe_op op_fdivX (pv 1) pe_int) (fun _ _ => rfl)))
      (pss_cons (ps_set (i := 4) sc_law.nd rfl (.inl rfl) (pe_call (ok__law_table T) (hr.mono (by decide)) (by rfl) T.g__law_table T.F__law_table.kp T.b__law_table .nil (passes_call (takes_of rfl rfl rfl rfl) (fun _ _ _ _ h => h)) (pa_cons (pv 0) (pa_cons pe_int (pa_cons (pv 2) (pa_cons (pe_op op_modX (pe_call (ok__law_cell T) (hr.mono (by decide)) (by rfl) T.g__law_cell T.F__law_cell.kp T.b__law_cell .nil (passes_call (takes_of rfl rfl rfl rfl) (fun _ _ _ _ h => h)) (pa_cons (pv 0) (pa_cons pe_int pa_nil))) pe_int) pa_nil))))))
      (pss_cons (ps_set (i := 5) sc_law.nd rfl (.inl rfl) (pe_call (ok__law_table T) (hr.mono (by decide)) (by rfl) T.g__law_table T.F__law_table.kp T.b__law_table .nil (passes_call (takes_of rfl rfl rfl rfl) (fun _ _ _ _ h => h)) (pa_cons (pv 0) (pa_cons pe_int (pa_cons (pv 3) (pa_cons (pe_op op_modX (pe_op op_fdivX (pe_call (ok__law_cell T) (hr.mono (by decide)) (by rfl) T.g__law_cell T.F__law_cell.kp T.b__law_cell .nil (passes_call (takes_of rfl rfl rfl rfl) (fun _ _ _ _ h => h)) (pa_cons (pv 0) (pa_cons pe_int pa_nil))) pe_int) pe_int) pa_nil))))))
      (pss_cons (ps_set (i := 6) sc_law.nd rfl (.inl rfl) (pe_lst (pa_cons (pe_callTy (call_listK (K := K) rfl) (by rfl) T.z_list (by decide +kernel) (pa_cons (pv 4) pa_nil)) (pa_cons (pe_callTy (call_listK (K := K) rfl) (by rfl) T.z_list (by decide +kernel) (pa_cons (pv 5) pa_nil)) pa_nil))))
      (pss_cons (ps_set (i := 7) sc_law.nd rfl (.inr rfl) (pe_lst pa_nil))
      (pss_cons (ps_set (i := 8) sc_law.nd rfl (.inr rfl) (pe_lst pa_nil))
      (pss_cons (ps_if (pt_cmpR (op_eqK (K := K) rfl hr.units) (pv 2) (pv 3) (nomark _)) (pss_cons (ps_expr (pe_bm PySem.F.plainAttrs_list PySem.F.slot_list_append PySem.F.type_list_append mt_append (pv 7) (pa_cons (pe_call (ok_summed T) (hr.mono (by decide)) (by rfl) T.g_summed T.F_summed.kp T.b_summed .nil (passes_call (takes_of rfl rfl rfl rfl) (fun _ _ _ _ h => h)) (pa_cons (pe_ix (ix_seqK (K := K) rfl) (pv 6) pe_int (fun _ _ => rfl)) (pa_cons (pe_ix (ix_seqK (K := K) rfl) (pv 6) pe_int (fun _ _ => rfl)) pa_nil))) pa_nil)))
      (pss_one (ps_expr (pe_bm PySem.F.plainAttrs_list PySem.F.slot_list_append PySem.F.type_list_append mt_append (pv 8) (pa_cons (pe_lc (own := [("_law_x", 10), ("_law_y", 11)]) rfl sc_law.nd (pi_zipK (K := K) rfl (by rfl) T.z_zip (pa_cons (pv 4) (pa_cons (pv 5) pa_nil))) (blkOk_by (own := [("_law_x", 10), ("_law_y", 11)]) (N := N_law) (sc := defScope s_law) (by decide +kernel)) (fun _ _ _ _ _ => (pg_tupK (K := K) (n := 2) rfl rfl (pgs_cons (pg_name (i := 10) sc_law.nd rfl (.inl rfl)) (pgs_cons (pg_name (i := 11) sc_law.nd rfl (.inl rfl)) pgs_nil)))) (fun _ _ _ _ _ => pts_nil) (fun _ _ _ _ _ => (pe_op op_addX (pv 10) (pv 11)))) pa_nil))))) (pss_one (ps_if (pt_not (pt_val (pe_call (ok__law_unlike T) (hr.mono (by decide)) (by rfl) T.g__law_unlike T.F__law_unlike.kp T.b__law_unlike .nil (passes_call (takes_of rfl rfl rfl rfl) (fun _ _ _ _ h => h)) (pa_cons (pe_ix (ix_seqK (K := K) rfl) (pv 6) pe_int (fun _ _ => rfl)) (pa_cons (pe_ix (ix_seqK (K := K) rfl) (pv 6) pe_int (fun _ _ => rfl)) pa_nil))))) (pss_one (ps_ret pe_bl)) pss_nil)))
      (pss_cons (ps_if (pt_cmpR op_leX (pe_op op_addX (pv 2) (pv 3)) pe_int (nomark _)) (pss_cons (ps_expr (pe_bm PySem.F.plainAttrs_list PySem.F.slot_list_append PySem.F.type_list_append mt_append (pv 7) (pa_cons (pe_call (ok_beside T) (hr.mono (by decide)) (by rfl) T.g_beside T.F_beside.kp T.b_beside .nil (passes_call (takes_of rfl rfl rfl rfl) (fun _ _ _ _ h => h)) (pa_cons (pe_ix (ix_seqK (K := K) rfl) (pv 6) pe_int (fun _ _ => rfl)) (pa_cons (pe_ix (ix_seqK (K := K) rfl) (pv 6) pe_int (fun _ _ => rfl)) pa_nil))) pa_nil)))
      (pss_one (ps_expr (pe_bm PySem.F.plainAttrs_list PySem.F.slot_list_append PySem.F.type_list_append mt_append (pv 8) (pa_cons (pe_call (ok__law_sides T) (hr.mono (by decide)) (by rfl) T.g__law_sides T.F__law_sides.kp T.b__law_sides .nil (passes_call (takes_of rfl rfl rfl rfl) (fun _ _ _ _ h => h)) (pa_cons (pv 4) (pa_cons (pv 5) pa_nil))) pa_nil))))) (pss_one (ps_if (pt_not (pt_val (pe_call (ok__law_too_many T) (hr.mono (by decide)) (by rfl) T.g__law_too_many T.F__law_too_many.kp T.b__law_too_many .nil (passes_call (takes_of rfl rfl rfl rfl) (fun _ _ _ _ h => h)) (pa_cons (pe_ix (ix_seqK (K := K) rfl) (pv 6) pe_int (fun _ _ => rfl)) (pa_cons (pe_ix (ix_seqK (K := K) rfl) (pv 6) pe_int (fun _ _ => rfl)) pa_nil))))) (pss_one (ps_ret pe_bl)) pss_nil)))
      (pss_cons (ps_if (pt_cmpR (op_neK (K := K) rfl hr.units) (pv 6) (pe_lst (pa_cons (pv 4) (pa_cons (pv 5) pa_nil))) (nomark _)) (pss_one (ps_ret pe_bl)) pss_nil)
      (pss_cons (ps_augS (pe_ix (ix_seqK (K := K) rfl) (pv 6) pe_int (fun _ _ => rfl)) (pe_un un_neg pe_int) (get_listK (K := K) rfl) pe_int ip_add set_list)
      (pss_cons (ps_set (i := 9) sc_law.nd rfl (.inl rfl) (pe_ix (ix_seqK (K := K) rfl) (pe_lst (pa_cons (pv 5) (pa_cons (pe_ix (ix_seqK (K := K) rfl) (pv 6) pe_int (fun _ _ => rfl)) pa_nil))) (pe_callTy call_int1X (by rfl) T.z_int (by decide +kernel) (pa_cons (pe_cmpR (op_eqK (K := K) rfl hr.units) (pv 3) pe_int (nomark _)) pa_nil)) (fun _ _ => rfl)))
      (pss_cons (ps_if (PW.pt (pw_and (pt_cmpR op_ltX (pv 2) pe_int (nomark _)) (pw_and1 (pt_not (pt_val (pe_call (ok__law_alike T) (hr.mono (by decide)) (by rfl) T.g__law_alike T.F__law_alike.kp T.b__law_alike .nil (passes_call (takes_of rfl rfl rfl rfl) (fun _ _ _ _ h => h)) (pa_cons (pe_evLK (K := K) rfl (k := 2) (by decide) (pe_call (ok_beside T) (hr.mono (by decide)) (by rfl) T.g_beside T.F_beside.kp T.b_beside .nil (passes_call (takes_of rfl rfl rfl rfl) (fun _ _ _ _ h => h)) (pa_cons (pe_lst (pa_cons pe_int (pa_cons pe_int pa_nil))) (pa_cons (pe_callTy (call_listK (K := K) rfl) (by rfl) T.z_list (by decide +kernel) (pa_cons (pv 9) pa_nil)) pa_nil)))) (pa_cons (pv 9) pa_nil)))))))) (pss_one (ps_ret pe_bl)) pss_nil)
      (pss_cons (ps_if (PW.pt (pw_or (pt_not (pt_val (pe_call (ok__law_alike T) (hr.mono (by decide)) (by rfl) T.g__law_alike T.F__law_alike.kp T.b__law_alike .nil (passes_call (takes_of rfl rfl rfl rfl) (fun _ _ _ _ h => h)) (pa_cons (pe_call (ok_summed T) (hr.mono (by decide)) (by rfl) T.g_summed T.F_summed.kp T.b_summed .nil (passes_call (takes_of rfl rfl rfl rfl) (fun _ _ _ _ h => h)) (pa_cons (pv 4) (pa_cons (pe_op op_mulX (pe_lst (pa_cons pe_int pa_nil)) (pe_callB (call_lenK (K := K) rfl) (by rfl) T.z_len (by decide +kernel) (pa_cons (pv 4) pa_nil))) pa_nil))) (pa_cons (pv 4) pa_nil))))) (pw_or1 (pt_not (pt_val (pe_call (ok__law_alike T) (hr.mono (by decide)) (by rfl) T.g__law_alike T.F__law_alike.kp T.b__law_alike .nil (passes_call (takes_of rfl rfl rfl rfl) (fun _ _ _ _ h => h)) (pa_cons (pe_call (ok_summed T) (hr.mono (by decide)) (by rfl) T.g_summed T.F_summed.kp T.b_summed .nil (passes_call (takes_of rfl rfl rfl rfl) (fun _ _ _ _ h => h)) (pa_cons (pe_op op_mulX (pe_lst (pa_cons pe_int pa_nil)) (pe_callB (call_lenK (K := K) rfl) (by rfl) T.z_len (by decide +kernel) (pa_cons (pv 5) pa_nil))) (pa_cons (pv 5) pa_nil))) (pa_cons (pv 5) pa_nil)))))))) (pss_one (ps_ret pe_bl)) pss_nil)
      (pss_one (ps_ret (pe_cmpR (op_eqK (K := K) rfl hr.units) (pe_callB (call_lenK (K := K) rfl) (by rfl) T.z_len (by decide +kernel) (pa_cons (pe_lc (own := [("_law_k", 12)]) rfl sc_law.nd (pi_range1 (by rfl) T.z_range (pa_cons (pe_callB (call_lenK (K := K) rfl) (by rfl) T.z_len (by decide +kernel) (pa_cons (pv 7) pa_nil)) pa_nil)) (blkOk_by (own := [("_law_k", 12)]) (N := N_law) (sc := defScope s_law) (by decide +kernel)) (fun _ _ _ _ _ => (pg_name (i := 12) sc_law.nd rfl (.inl rfl))) (fun _ _ _ _ _ => (pts_one (pt_not (pt_val (pe_call (ok__law_alike T) (hr.mono (by decide)) (by rfl) T.g__law_alike T.F__law_alike.kp T.b__law_alike .nil passL (pa_cons (pe_ix (ix_seqK (K := K) rfl) (pv 7) (pv 12) (fun _ _ => rfl)) (pa_cons (pe_ix (ix_seqK (K := K) rfl) (pv 8) (pv 12) (fun _ _ => rfl)) pa_nil))))))) (fun _ _ _ _ _ => (pv 12))) pa_nil)) pe_int (nomark _))))))))))))))))))), ?_⟩
    walk_at "x"
    refine ⟨a, ns, 0, rfl, hS, hl, by decide, by decide, fun z0 H1 s1 => ?_⟩
    have w1 := (Own.start (H := H)).ext s1
    walk_at "x"
    refine x_modP (by decide) ?_
    have y0 := Int.emod_nonneg z0 (show (72 : Int) ≠ 0 by decide)
    have y1 := Int.emod_lt_of_pos z0 (show (0 : Int) < 72 by decide)
    generalize z0 % 72 = hd at y0 y1 ⊢
    walk_at "x"
    refine x_modP (by decide) ?_
    walk_at "x"
    obtain ⟨m1, hm1⟩ : ∃ m1 : Nat, 1 + hd % 6 = (m1 : Int) := ⟨(1 + hd % 6).toNat, by omega⟩
    have b1 : 1 ≤ m1 ∧ m1 ≤ 6 := by omega
    rw [hm1]
    refine x_divP (by decide) (by decide) ?_
    walk_at "x"
    refine x_modP (by decide) ?_
    walk_at "x"
    refine ⟨(by show 2 ≤ sizeLine; decide), fun p0 n0 => ?_⟩
    have w2 := w1.new (o := .lst [.int (m1 : Int), .int (1 + hd / 6 % 6)]) n0
    walk_at "x"
    refine x_divP (by decide) (by decide) ?_
    obtain ⟨v, ev, hv⟩ := at_mem (xs := [.int (m1 : Int), .int (1 + hd / 6 % 6)]) (i := hd / 36) (by omega) (by show hd / 36 < 2; omega)
    refine x_ixXL (w2.sq 0 rfl) ev ?_
    obtain ⟨m2, rfl, b2⟩ : ∃ m2 : Nat, v = .int (m2 : Int) ∧ 1 ≤ m2 ∧ m2 ≤ 6 := by
      simp only [List.mem_cons, List.not_mem_nil, or_false] at hv
      rcases hv with rfl | rfl
      · exact ⟨m1, rfl, b1⟩
      · exact ⟨(1 + hd / 6 % 6).toNat, by congr 1; omega, by omega⟩
    have w2 := w2.pop
    walk_at "x"
    refine ⟨a, ns, 1, rfl, w2.seq hS, hl, by decide, by decide, fun z3 H3 s3 => ?_⟩
    have w3 := w2.ext s3
    walk_at "x"
    refine x_modP (by decide) ?_
    walk_at "x"
    refine ⟨a, ns, 0, m1, _, rfl, w3.seq hS, hl, by decide, b1.1, b1.2, fun xs t1 p4 H4 n4 s4 c4 => ?_⟩
    have w4 := w3.newE n4 s4 c4
    walk_at "x"
    refine ⟨a, ns, 1, rfl, w4.seq hS, hl, by decide, by decide, fun z5 H5 s5 => ?_⟩
    have w5 := w4.ext s5
    walk_at "x"
    refine x_divP (by decide) (by decide) ?_
    walk_at "x"
    refine x_modP (by decide) ?_
    walk_at "x"
    refine ⟨a, ns, 1, m2, _, rfl, w5.seq hS, hl, by decide, b2.1, b2.2, fun ys t2 p6 H6 n6 s6 c6 => ?_⟩
    have w6 := w5.newE n6 s6 c6
    have q1 := t1.pos
    have q2 := t2.pos
    walk_at "x"
    refine x_list (w6.sq 1 rfl) (fun p7 n7 => ?_)
    have w7 := w6.new (o := .lst (xs.map V.int)) n7
    walk_at "x"
    refine x_list (w7.sq 1 rfl) (fun p8 n8 => ?_)
    have w8 := w7.new (o := .lst (ys.map V.int)) n8
    walk_at "x"
    refine ⟨(by show 2 ≤ sizeLine; decide), fun p9 n9 => ?_⟩
    have w9 := w8.new (o := .lst [.ref p7, .ref p8]) n9
    walk_at "x"
    refine ⟨(by show 0 ≤ sizeLine; decide), fun p10 n10 => ?_⟩
    have w10 := w9.new (o := .lst []) n10
    walk_at "x"
    refine ⟨(by show 0 ≤ sizeLine; decide), fun p11 n11 => ?_⟩
    have w11 := w10.new (o := .lst []) n11
    -- what stands: p11 held, p10 told, p9 handed, p8 p7 its lists, p6 other, p4 one
    have wf : Own (upd (upd H p4 (.lst (xs.map V.int))) p6 (.lst (ys.map V.int))) [(p11, .lst []), (p10, .lst []), (p9, .lst [.ref p7, .ref p8]), (p8, .lst (ys.map V.int)), (p7, .lst (xs.map V.int))] (upd (upd (upd (upd (upd H6 p7 (.lst (xs.map V.int))) p8 (.lst (ys.map V.int))) p9 (.lst [.ref p7, .ref p8])) p10 (.lst [])) p11 (.lst [])) := by
      have g := w11
      refine ⟨fun b o e => ?_, fun q hq => ?_, ?_⟩
      · by_cases z : b = p6
        · subst z; rw [upd_same] at e; rw [← e]; exact g.get 5 rfl
        · rw [upd_ne z] at e
          by_cases z : b = p4
          · subst z; rw [upd_same] at e; rw [← e]; exact g.get 6 rfl
          · rw [upd_ne z] at e; exact g.ex b o e
      · have hq' : q ∈ [(p11, HO.lst []), (p10, HO.lst []), (p9, HO.lst [.ref p7, .ref p8]), (p8, HO.lst (ys.map V.int)), (p7, HO.lst (xs.map V.int)), (p6, HO.lst (ys.map V.int)), (p4, HO.lst (xs.map V.int))] := by
          simp only [List.mem_cons, List.not_mem_nil, or_false] at hq ⊢
          rcases hq with h | h | h | h | h <;> simp [h]
        refine ⟨(g.cell q hq').1, ?_⟩
        have nd := g.nd
        simp only [List.map_cons, List.map_nil, List.nodup_cons, List.mem_cons, List.not_mem_nil, or_false, not_or] at nd
        have hne : q.1 ≠ p6 ∧ q.1 ≠ p4 := by
          simp only [List.mem_cons, List.not_mem_nil, or_false] at hq
          obtain ⟨a1, a2, a3, a4, a5, _⟩ := nd
          rcases hq with h | h | h | h | h <;> subst h <;> simp_all
        rw [upd_ne hne.1, upd_ne hne.2]
        exact (g.cell q hq').2
      · exact (g.sub (ds := [(p11, .lst []), (p10, .lst []), (p9, .lst [.ref p7, .ref p8]), (p8, .lst (ys.map V.int)), (p7, .lst (xs.map V.int))]) (.cons_cons _ (.cons_cons _ (.cons_cons _ (.cons_cons _ (.cons_cons _ (.cons _ (.cons _ .slnil)))))))).nd
    have bo : upd (upd H p4 (.lst (xs.map V.int))) p6 (.lst (ys.map V.int)) p4 = some (.lst (xs.map V.int)) := by
      have nd := w11.nd
      simp only [List.map_cons, List.map_nil, List.nodup_cons, List.mem_cons, List.not_mem_nil, or_false, not_or] at nd
      obtain ⟨_, _, _, _, _, a6, _⟩ := nd
      rw [upd_ne (fun z => a6 z.symm)]; exact upd_same
    have bt : upd (upd H p4 (.lst (xs.map V.int))) p6 (.lst (ys.map V.int)) p6 = some (.lst (ys.map V.int)) := upd_same
    generalize upd (upd H p4 (.lst (xs.map V.int))) p6 (.lst (ys.map V.int)) = B0 at wf bo bt
    generalize (upd (upd (upd (upd (upd H6 p7 (.lst (xs.map V.int))) p8 (.lst (ys.map V.int))) p9 (.lst [.ref p7, .ref p8])) p10 (.lst [])) p11 (.lst [])) = Hf at wf ⊢
    dsimp only
    refine x_seqJ (fun σ' H' => ∃ (B : Hp) (ps qs : List Addr), Same B0 B ∧ Two B ps qs ∧ ps.length ≤ 1 ∧ (∃ v9 v10 v11 v12, σ' = [some (.ref a), some (.int hd), some (.int (m1 : Int)), some (.int (m2 : Int)), some (.ref p4), some (.ref p6), some (.ref p9), some (.ref p10), some (.ref p11), v9, v10, v11, v12]) ∧
      Own B [(p11, .lst (qs.map V.ref)), (p10, .lst (ps.map V.ref)), (p9, .lst [.ref p7, .ref p8]), (p8, .lst (ys.map V.int)), (p7, .lst (xs.map V.int))] H') ?_ ?_
    · rintro σ' H' ⟨B, ps, qs, sB, tw, l1, ⟨v9, v10, v11, v12, rfl⟩, w⟩
      refine x_seqJ (fun σ' H' => ∃ (B : Hp) (ps qs : List Addr), Same B0 B ∧ Two B ps qs ∧ ps.length ≤ 2 ∧ (∃ v9 v10 v11 v12, σ' = [some (.ref a), some (.int hd), some (.int (m1 : Int)), some (.int (m2 : Int)), some (.ref p4), some (.ref p6), some (.ref p9), some (.ref p10), some (.ref p11), v9, v10, v11, v12]) ∧
        Own B [(p11, .lst (qs.map V.ref)), (p10, .lst (ps.map V.ref)), (p9, .lst [.ref p7, .ref p8]), (p8, .lst (ys.map V.int)), (p7, .lst (xs.map V.int))] H') ?_ ?_
      · -- the rest
        rintro σ' H' ⟨B, ps, qs, sB, tw, l2, ⟨v9, v10, v11, v12, rfl⟩, w⟩
        have B4 := sB _ _ bo
        have B6 := sB _ _ bt
        walk_at "x"
        refine ⟨(by show 2 ≤ sizeLine; decide), fun p12 n12 => ?_⟩
        have w12 := w.new (o := .lst [.ref p4, .ref p6]) n12
        have e1 := dp_dd (l1 := xs) (l2 := ys) (w12.sq 3 rfl) (w12.sq 5 rfl) (w12.sq 4 rfl) (K := K)
        have e2 := dp_dd (l1 := xs) (l2 := ys) (w12.sq 0 rfl) (w12.seq (SqL.of B4)) (w12.seq (SqL.of B6)) (K := K)
        refine x_neD e1 e2 (lay_dd xs ys) ?_
        walk_at "x"
        refine iteF ?_
        have w12 := w12.pop
        walk_at "x"
        refine x_ixXL (w12.sq 2 rfl) (atI_nat (j := 0) rfl) ?_
        walk_at "x"
        have hlast : xs.length - 1 < xs.length := by omega
        refine x_ixL (w12.sq 4 rfl) (at_last (by omega)) ?_
        walk_at "x"
        refine x_setL (w12.get 4 rfl) (by rw [List.length_map]; exact ixN_last (by omega)) ?_
        rw [map_set_int]
        have t3 : Tab (xs.set (xs.length - 1) (gi xs ((xs.length : Int) - 1) + 1)) m1 := t1.set (by omega)
        have w13 := w12.put (o' := .lst ((xs.set (xs.length - 1) (gi xs ((xs.length : Int) - 1) + 1)).map V.int)) 4 rfl
        generalize xs.set (xs.length - 1) (gi xs ((xs.length : Int) - 1) + 1) = us at t3 w13 ⊢
        walk_at "x"
        refine x_ixXL (w13.sq 2 rfl) (atI_nat (j := 0) rfl) ?_
        walk_at "x"
        refine ⟨(by show 2 ≤ sizeLine; decide), fun p14 n14 => ?_⟩
        have w14 := w13.new (o := .lst [.ref p6, .ref p7]) n14
        walk_at "x"
        refine .inr ⟨_, rfl, ?_⟩
        -- the small one
        obtain ⟨ps', ss, m3, e3, hss, t4, h6⟩ : ∃ (ps' : Addr) (ss : List Int) (m3 : Nat), atI [V.ref p6, V.ref p7] (if decide ((m2 : Int) = 6) = true then 1 else 0) = some (.ref ps') ∧ SqL K _ ps' (ss.map V.int) ∧ Tab ss m3 ∧ (m1 < 6 → m3 < 6) := by
          by_cases c : m2 = 6
          · rw [decide_eq_true (by omega), if_pos rfl]
            exact ⟨p7, us, m1, rfl, w14.sq 5 rfl, t3, id⟩
          · rw [decide_eq_false (by omega), if_neg (by decide)]
            exact ⟨p6, ys, m2, rfl, w14.seq (SqL.of B6), t2, fun _ => by omega⟩
        refine x_ixXL (w14.sq 0 rfl) e3 ?_
        -- behind: both sums
        have fin : ∀ (v9 : Option V) (H' : Hp), Own B [(p11, .lst (qs.map V.ref)), (p10, .lst (ps.map V.ref))] H' → tSeq (tIfS (tOr (tNot (tB (tCall (sp__law_alike K) [] E (tCons (tCall (sp_summed A K) [] E (tCons (tVar 4) (tCons (tOp rMulX (tLst (tCons (tC (.int 0)) tNil)) (tCB (rLen K) (tCons (tVar 4) tNil))) tNil))) (tCons (tVar 4) tNil))))) (tNot (tB (tCall (sp__law_alike K) [] E (tCons (tCall (sp_summed A K) [] E (tCons (tOp rMulX (tLst (tCons (tC (.int 0)) tNil)) (tCB (rLen K) (tCons (tVar 5) tNil))) (tCons (tVar 5) tNil))) (tCons (tVar 5) tNil)))))) (tRet (tC (.bl false))) tNext) (tRet (tOp (rEqX K) (tCB (rLen K) (tCons (tLc (iRng1 (tCons (tCB (rLen K) (tCons (tVar 7) tNil)) tNil)) (gName 12) (tNot (tB (tCall (sp__law_alike K) [] E (tCons (tOp (rIx K) (tVar 7) (tVar 12)) (tCons (tOp (rIx K) (tVar 8) (tVar 12)) tNil))))) (tVar 12) [12]) tNil)) (tC (.int 0))))
            { nx := fun _ H' => Q .non H', rt := Q } [some (.ref a), some (.int hd), some (.int (m1 : Int)), some (.int (m2 : Int)), some (.ref p4), some (.ref p6), some (.ref p9), some (.ref p10), some (.ref p11), v9, v10, v11, v12] H' := fun v9 H' w => by
          walk_at "x"
          refine ⟨(by show 1 ≤ sizeLine; decide), fun r1 k1 => ?_⟩
          have x1 := w.new (o := .lst [.int 0]) k1
          walk_at "x"
          refine x_lenL (x1.seq (SqL.of B4)) ?_
          rw [List.length_map]
          refine x_mulL (x1.get 0 rfl) ⟨by omega, by omega, by rw [Int.toNat_natCast]; exact Nat.le_trans (show [V.int 0].length * xs.length ≤ 64 by rw [List.length_singleton]; omega) (by decide)⟩ (fun r2 k2 => ?_)
          rw [Int.toNat_natCast, rep_int]
          have x2 := x1.new (o := .lst ((List.replicate xs.length (0 : Int)).map V.int)) k2
          walk_at "x"
          refine u_summed (.inl (x2.ex _ _ B4)) (.inl (x2.get 0 rfl)) t1 (rep_tab t1.len t1.lo t1.hi) fun r3 H3 k3 y3 c3 => ?_
          rw [sumT_zero] at c3
          have x3 := x2.newE k3 y3 c3
          walk_at "x"
          refine ⟨r3, p4, xs, xs, rfl, .inl (x3.get 0 rfl), x3.seq (SqL.of B4), fun H4 y4 => ?_⟩
          have x4 := x3.ext y4
          rw [decide_eq_true rfl]
          refine ⟨true, rfl, iteF ?_⟩
          walk_at "x"
          refine ⟨(by show 1 ≤ sizeLine; decide), fun r5 k5 => ?_⟩
          have x5 := x4.new (o := .lst [.int 0]) k5
          walk_at "x"
          refine x_lenL (x5.seq (SqL.of B6)) ?_
          rw [List.length_map]
          refine x_mulL (x5.get 0 rfl) ⟨by omega, by omega, by rw [Int.toNat_natCast]; exact Nat.le_trans (show [V.int 0].length * ys.length ≤ 64 by rw [List.length_singleton]; omega) (by decide)⟩ (fun r6 k6 => ?_)
          rw [Int.toNat_natCast, rep_int]
          have x6 := x5.new (o := .lst ((List.replicate ys.length (0 : Int)).map V.int)) k6
          walk_at "x"
          refine u_summed (.inl (x6.get 0 rfl)) (.inl (x6.ex _ _ B6)) (rep_tab t2.len t2.lo t2.hi) t2 fun r7 H7 k7 y7 c7 => ?_
          rw [zero_sumT] at c7
          have x7 := x6.newE k7 y7 c7
          walk_at "x"
          refine ⟨r7, p6, ys, ys, rfl, .inl (x7.get 0 rfl), x7.seq (SqL.of B6), fun H8 y8 => ?_⟩
          have x8 := (x7.ext y8).sub (ds := [(p11, .lst (qs.map V.ref)), (p10, .lst (ps.map V.ref))]) (.cons _ (.cons _ (.cons _ (.cons _ (.cons _ (.cons _ (.cons_cons _ (.cons_cons _ .slnil))))))))
          rw [decide_eq_true rfl]
          refine ⟨true, rfl, iteF ?_⟩
          walk_at "x"
          refine x_lenL (x8.sq 1 rfl) ?_
          walk_at "x"
          rw [List.length_map]
          refine ⟨_, rfl, by omega, by omega, cp_r0 (n := (ps.length : Int)) (fun _ => []) x8 rfl ?_ ?_⟩
          · intro D i H' hi p
            obtain ⟨p1, q1', zs, e1, e2, e3, e4⟩ := tw.at (i := i) (by omega)
            walk_at "x"
            refine ⟨rfl, ?_⟩
            walk_at "x"
            refine x_ixXL (Own.sq p 2 rfl) (atI_nat (j := i) (by rw [List.getElem?_map, e1] <;> rfl)) ?_
            walk_at "x"
            refine x_ixXL (Own.sq p 1 rfl) (atI_nat (j := i) (by rw [List.getElem?_map, e2] <;> rfl)) ?_
            walk_at "x"
            refine ⟨p1, q1', zs, zs, rfl, .inl (Own.ext p (Same.refl _) |>.ex _ _ e3), Own.seq p (SqL.of e4), fun H9 y9 => ?_⟩
            rw [decide_eq_true rfl]
            refine ⟨true, rfl, iteF ?_⟩
            exact Own.ext p y9
          · intro D H' x9
            walk_at "x"
            refine x_lenL (x9.sq 0 rfl) ?_
            walk_at "x"
            exact k _
        walk_at "x"
        have cut : ∀ {cs : Cells} {H' : Hp}, Own B (cs ++ [(p11, .lst (qs.map V.ref)), (p10, .lst (ps.map V.ref)), (p9, .lst [.ref p7, .ref p8]), (p8, .lst (ys.map V.int)), (p7, .lst (us.map V.int))]) H' → Own B [(p11, .lst (qs.map V.ref)), (p10, .lst (ps.map V.ref))] H' := fun {cs} {H'} w => w.sub (List.Sublist.trans (by exact .cons_cons _ (.cons_cons _ (.cons _ (.cons _ (.cons _ .slnil))))) (List.sublist_append_right cs _))
        refine ite2 (fun c => ?_) (fun _ => ?_)
        · have c := of_decide_eq_true c
          have h6 := h6 (by omega)
          walk_at "x"
          refine ⟨(by show 2 ≤ sizeLine; decide), fun p15 n15 => ?_⟩
          have w15 := w14.new (o := .lst ([0, 0].map V.int)) n15
          have hss := (same_upd (o := .lst ([0, 0].map V.int)) n15).seq hss
          walk_at "x"
          refine x_list hss (fun p16 n16 => ?_)
          have w16 := w15.new (o := .lst (ss.map V.int)) n16
          have hss := (same_upd (o := .lst (ss.map V.int)) n16).seq hss
          walk_at "x"
          have t0 : Tab [0, 0] 1 := ⟨rfl, by decide, by decide, rfl⟩
          refine u_beside (.inl (w16.get 1 rfl)) (.inl (w16.get 0 rfl)) t0 t4 (by omega) fun p17 H17 n17 s17 c17 => ?_
          have w17 := w16.newE n17 s17 c17
          have hss := s17.seq hss
          refine ⟨p17, _, rfl, w17.sq 0 rfl, fun p18 n18 => ?_⟩
          rw [besideT_two]
          have w18 := w17.new (o := .lst (ss.map V.int)) n18
          have hss := (same_upd (o := .lst (ss.map V.int)) n18).seq hss
          walk_at "x"
          refine ⟨p18, ps', ss, ss, rfl, .inl (w18.get 0 rfl), hss, fun H19 s19 => ?_⟩
          have w19 := w18.ext s19
          rw [decide_eq_true rfl]
          refine ⟨true, rfl, iteF ?_⟩
          exact fin _ _ (cut (cs := [_, _, _, _, _]) w19)
        · refine iteF ?_
          exact fin _ _ (cut (cs := [_]) w14)
      · intro rest
        walk_at "x"
        have B4 := sB _ _ bo
        have B6 := sB _ _ bt
        refine ite2 (fun c => ?_) (fun c => ?_)
        · have c := of_decide_eq_true c
          have c6 : m1 + m2 ≤ 6 := by omega
          have m64 := mul64 c6
          rw [← t1.len, ← t2.len] at m64
          walk_at "x"
          refine ⟨x_tyL (w.get 1 rfl), ?_⟩
          walk_at "x"
          refine x_ixXL (w.sq 2 rfl) (atI_nat (j := 0) rfl) ?_
          walk_at "x"
          refine x_ixXL (w.sq 2 rfl) (atI_nat (j := 1) rfl) ?_
          walk_at "x"
          refine u_beside (.inl (w.get 4 rfl)) (.inl (w.get 3 rfl)) t1 t2 c6 fun r1 H1 k1 y1 c1 => ?_
          have nB1 := w.fresh k1
          have x1 := (w.newE k1 y1 c1).freeze
          walk_at "x"
          refine x_append (x1.get 1 rfl) (by rw [List.length_map]; exact small1000 (by omega)) ?_
          have x2 := x1.put (o' := .lst (ps.map V.ref ++ [.ref r1])) 1 rfl
          have sB1 := same_upd (o := .lst ((besideT xs ys).map V.int)) nB1
          have b1 : upd B r1 (.lst ((besideT xs ys).map V.int)) r1 = some (.lst ((besideT xs ys).map V.int)) := upd_same
          generalize upd B r1 (.lst ((besideT xs ys).map V.int)) = B2 at *
          walk_at "x"
          refine ⟨x_tyL (x2.get 0 rfl), ?_⟩
          walk_at "x"
          refine ⟨p4, p6, xs, ys, rfl, x2.seq (SqL.of (sB1 _ _ B4)), x2.seq (SqL.of (sB1 _ _ B6)), by omega, m64, fun r3 H3 k3 y3 c3 => ?_⟩
          have nB3 := x2.fresh k3
          have x3 := (x2.newE k3 y3 c3).freeze
          walk_at "x"
          refine x_append (x3.get 0 rfl) (by rw [List.length_map, ← tw.len]; exact small1000 (by omega)) ?_
          have x4 := x3.put (o' := .lst (qs.map V.ref ++ [.ref r3])) 0 rfl
          have sB3 := same_upd (o := .lst ((besideT xs ys).map V.int)) nB3
          refine rest _ _ ⟨_, ps ++ [r1], qs ++ [r3], (sB.trans sB1).trans sB3, ((tw.same sB1).same sB3).snoc (sB3 _ _ b1) upd_same, by rw [List.length_append]; show _ + 1 ≤ 2; omega, ⟨_, _, _, _, rfl⟩, ?_⟩
          rw [List.map_append, List.map_append]
          exact x4
        · have c6 : 6 < m1 + m2 := by
            by_cases h : 6 < m1 + m2
            · exact h
            · exact absurd (decide_eq_true (by omega)) c
          walk_at "x"
          refine x_ixXL (w.sq 2 rfl) (atI_nat (j := 0) rfl) ?_
          walk_at "x"
          refine x_ixXL (w.sq 2 rfl) (atI_nat (j := 1) rfl) ?_
          walk_at "x"
          refine ⟨p7, p8, xs, ys, m1, m2, rfl, .inl (w.get 4 rfl), .inl (w.get 3 rfl), t1, t2, c6, fun H1 y1 => ?_⟩
          have x1 := w.ext y1
          refine ⟨true, rfl, iteF ?_⟩
          exact rest _ _ ⟨B, ps, qs, sB, tw, by omega, ⟨_, _, _, _, rfl⟩, x1⟩
    · intro rest
      walk_at "x"
      by_cases c : m1 = m2
      · subst c
        rw [decide_eq_true rfl]
        refine iteT ?_
        have hl12 : xs.length = ys.length := by rw [t1.len, t2.len]
        walk_at "x"
        refine ⟨x_tyL (wf.get 1 rfl), ?_⟩
        walk_at "x"
        refine x_ixXL (wf.sq 2 rfl) (atI_nat (j := 0) rfl) ?_
        walk_at "x"
        refine x_ixXL (wf.sq 2 rfl) (atI_nat (j := 1) rfl) ?_
        walk_at "x"
        refine u_summed (.inl (wf.get 4 rfl)) (.inl (wf.get 3 rfl)) t1 t2 fun r1 H1 k1 y1 c1 => ?_
        have nB1 := wf.fresh k1
        have x1 := (wf.newE k1 y1 c1).freeze
        walk_at "x"
        refine x_append (x1.get 1 rfl) (by show 0 < sizeLine; decide) ?_
        have x2 := x1.put (o' := .lst [.ref r1]) 1 rfl
        have sB1 := same_upd (o := .lst ((sumT xs ys).map V.int)) nB1
        have b1 : upd B0 r1 (.lst ((sumT xs ys).map V.int)) r1 = some (.lst ((sumT xs ys).map V.int)) := upd_same
        generalize upd B0 r1 (.lst ((sumT xs ys).map V.int)) = B2 at *
        walk_at "x"
        refine ⟨x_tyL (x2.get 0 rfl), ?_⟩
        walk_at "x"
        have hA := sB1 _ _ bo
        have hB := sB1 _ _ bt
        refine ⟨p4, p6, _, _, rfl, x2.seq (SqL.of hA), x2.seq (SqL.of hB), cp_zip (xs := xs.map V.int) (ys := ys.map V.int) (fun i => ((sumT xs ys).take i).map V.int) x2 (by rw [List.length_map, List.length_map, hl12]) (SqL.of hA) (SqL.of hB) rfl ?_ ?_⟩
        · intro D i x y t H' hx hy p nt
          obtain ⟨z1, hz1, rfl⟩ := map_at hx
          obtain ⟨z2, hz2, rfl⟩ := map_at hy
          have hi := (List.getElem?_eq_some_iff.mp hz1).1
          refine x_gt (SqT.of upd_same) rfl ?_
          walk_at "x"
          refine ⟨rfl, ?_⟩
          walk_at "x"
          refine iteT ?_
          walk_at "x"
          exact cp_fin (Own.ext p (same_upd nt)) (take_at (sumT_at hz1 hz2)) (by rw [List.length_map, List.length_take]; omega)
        · intro D H' x3
          rw [List.length_map, ← sumT_len hl12, List.take_length] at x3
          have nB3 := x3.none 0 rfl
          have x4 := x3.freeze
          walk_at "x"
          refine x_append (x4.get 0 rfl) (by show 0 < sizeLine; decide) ?_
          have x5 := x4.put (o' := .lst [.ref D]) 0 rfl
          have sB3 := same_upd (o := .lst ((sumT xs ys).map V.int)) nB3
          exact rest _ _ ⟨_, [r1], [D], sB1.trans sB3, .cons (sB3 _ _ b1) upd_same .nil, Nat.le_refl _, ⟨_, _, _, _, rfl⟩, x5⟩
      · rw [decide_eq_false (show ¬ ((m1 : Nat) : Int) = ((m2 : Nat) : Int) by omega)]
        refine iteF ?_
        walk_at "x"
        refine x_ixXL (wf.sq 2 rfl) (atI_nat (j := 0) rfl) ?_
        walk_at "x"
        refine x_ixXL (wf.sq 2 rfl) (atI_nat (j := 1) rfl) ?_
        walk_at "x"
        refine ⟨p7, p8, xs, ys, m1, m2, rfl, .inl (wf.get 4 rfl), .inl (wf.get 3 rfl), t1, t2, c, fun H1 y1 => ?_⟩
        have x1 := wf.ext y1
        refine ⟨true, rfl, iteF ?_⟩
        exact rest _ _ ⟨B0, [], [], Same.refl _, .nil, by decide, ⟨_, _, _, _, rfl⟩, x1⟩

end
theorem all_mk {l : PySem.W.OpenLaw} {w : World} {K : PySem.W.Frag} {h : Heap} {mg : Str → Option Value} {fa f_is_whole f_look f_summed f_beside f__law_whole f__law_cell f__law_number f__law_table f__law_alike f__law_unlike f__law_too_many f__law_sides f_law C_ShareError C_NoNumber C_NoGroup C_NoRule C_NoText C_NoTable C_Unlike C_TooMany C_NoOrder C_NoRows C_NoShares C_NoVotes : Addr} (X : K.In h) (G : h.Ns mainGlobals mg) (hfa : mg "law" = some (.ref fa))
    {t_MOST : Tok} {od_is_whole an_is_whole od_look an_look od_summed an_summed od_beside an_beside od__law_whole an__law_whole od__law_cell an__law_cell od__law_number an__law_number od__law_table an__law_table od__law_alike an__law_alike od__law_unlike an__law_unlike od__law_too_many an__law_too_many od__law_sides an__law_sides od_law an_law : Option Addr} {sl_is_whole sl_look sl_summed sl_beside sl__law_whole sl__law_cell sl__law_number sl__law_table sl__law_alike sl__law_unlike sl__law_too_many sl__law_sides sl_law : Array (Option Value)} {oc_is_whole kV_is_whole dc_is_whole pm_is_whole cd_is_whole ct_is_whole oc_look kV_look dc_look pm_look cd_look ct_look oc_summed kV_summed dc_summed pm_summed cd_summed ct_summed oc_beside kV_beside dc_beside pm_beside cd_beside ct_beside oc__law_whole kV__law_whole dc__law_whole pm__law_whole cd__law_whole ct__law_whole oc__law_cell kV__law_cell dc__law_cell pm__law_cell cd__law_cell ct__law_cell oc__law_number kV__law_number dc__law_number pm__law_number cd__law_number ct__law_number oc__law_table kV__law_table dc__law_table pm__law_table cd__law_table ct__law_table oc__law_alike kV__law_alike dc__law_alike pm__law_alike cd__law_alike ct__law_alike oc__law_unlike kV__law_unlike dc__law_unlike pm__law_unlike cd__law_unlike ct__law_unlike oc__law_too_many kV__law_too_many dc__law_too_many pm__law_too_many cd__law_too_many ct__law_too_many oc__law_sides kV__law_sides dc__law_sides pm__law_sides cd__law_sides ct__law_sides oc_law kV_law dc_law pm_law cd_law ct_law : Value}
    (a_is_whole : PySem.W.nsIn K mainGlobals "is_whole" = some (some (.ref f_is_whole)))
    (l_is_whole : K.lookup f_is_whole = some ⟨oc_is_whole, od_is_whole, .func (PySem.W.fnOf "is_whole" "is_whole" (defArgs s_is_whole) (defBody s_is_whole) (defScope s_is_whole) .none kV_is_whole dc_is_whole pm_is_whole an_is_whole cd_is_whole ct_is_whole), sl_is_whole⟩)
    (c_is_whole : PySem.W.codeIn K cd_is_whole "is_whole" = true)
    (k_is_whole : PySem.W.keepIn K (.ref f_is_whole) = true)
    (a_look : PySem.W.nsIn K mainGlobals "look" = some (some (.ref f_look)))
    (l_look : K.lookup f_look = some ⟨oc_look, od_look, .func (PySem.W.fnOf "look" "look" (defArgs s_look) (defBody s_look) (defScope s_look) .none kV_look dc_look pm_look an_look cd_look ct_look), sl_look⟩)
    (c_look : PySem.W.codeIn K cd_look "look" = true)
    (k_look : PySem.W.keepIn K (.ref f_look) = true)
    (a_summed : PySem.W.nsIn K mainGlobals "summed" = some (some (.ref f_summed)))
    (l_summed : K.lookup f_summed = some ⟨oc_summed, od_summed, .func (PySem.W.fnOf "summed" "summed" (defArgs s_summed) (defBody s_summed) (defScope s_summed) .none kV_summed dc_summed pm_summed an_summed cd_summed ct_summed), sl_summed⟩)
    (c_summed : PySem.W.codeIn K cd_summed "summed" = true)
    (k_summed : PySem.W.keepIn K (.ref f_summed) = true)
    (a_beside : PySem.W.nsIn K mainGlobals "beside" = some (some (.ref f_beside)))
    (l_beside : K.lookup f_beside = some ⟨oc_beside, od_beside, .func (PySem.W.fnOf "beside" "beside" (defArgs s_beside) (defBody s_beside) (defScope s_beside) .none kV_beside dc_beside pm_beside an_beside cd_beside ct_beside), sl_beside⟩)
    (c_beside : PySem.W.codeIn K cd_beside "beside" = true)
    (k_beside : PySem.W.keepIn K (.ref f_beside) = true)
    (a__law_whole : PySem.W.nsIn K mainGlobals "_law_whole" = some (some (.ref f__law_whole)))
    (l__law_whole : K.lookup f__law_whole = some ⟨oc__law_whole, od__law_whole, .func (PySem.W.fnOf "_law_whole" "_law_whole" (defArgs s__law_whole) (defBody s__law_whole) (defScope s__law_whole) .none kV__law_whole dc__law_whole pm__law_whole an__law_whole cd__law_whole ct__law_whole), sl__law_whole⟩)
    (c__law_whole : PySem.W.codeIn K cd__law_whole "_law_whole" = true)
    (k__law_whole : PySem.W.keepIn K (.ref f__law_whole) = true)
    (a__law_cell : PySem.W.nsIn K mainGlobals "_law_cell" = some (some (.ref f__law_cell)))
    (l__law_cell : K.lookup f__law_cell = some ⟨oc__law_cell, od__law_cell, .func (PySem.W.fnOf "_law_cell" "_law_cell" (defArgs s__law_cell) (defBody s__law_cell) (defScope s__law_cell) .none kV__law_cell dc__law_cell pm__law_cell an__law_cell cd__law_cell ct__law_cell), sl__law_cell⟩)
    (c__law_cell : PySem.W.codeIn K cd__law_cell "_law_cell" = true)
    (k__law_cell : PySem.W.keepIn K (.ref f__law_cell) = true)
    (a__law_number : PySem.W.nsIn K mainGlobals "_law_number" = some (some (.ref f__law_number)))
    (l__law_number : K.lookup f__law_number = some ⟨oc__law_number, od__law_number, .func (PySem.W.fnOf "_law_number" "_law_number" (defArgs s__law_number) (defBody s__law_number) (defScope s__law_number) .none kV__law_number dc__law_number pm__law_number an__law_number cd__law_number ct__law_number), sl__law_number⟩)
    (c__law_number : PySem.W.codeIn K cd__law_number "_law_number" = true)
    (k__law_number : PySem.W.keepIn K (.ref f__law_number) = true)
    (a__law_table : PySem.W.nsIn K mainGlobals "_law_table" = some (some (.ref f__law_table)))
    (l__law_table : K.lookup f__law_table = some ⟨oc__law_table, od__law_table, .func (PySem.W.fnOf "_law_table" "_law_table" (defArgs s__law_table) (defBody s__law_table) (defScope s__law_table) .none kV__law_table dc__law_table pm__law_table an__law_table cd__law_table ct__law_table), sl__law_table⟩)
    (c__law_table : PySem.W.codeIn K cd__law_table "_law_table" = true)
    (k__law_table : PySem.W.keepIn K (.ref f__law_table) = true)
    (a__law_alike : PySem.W.nsIn K mainGlobals "_law_alike" = some (some (.ref f__law_alike)))
    (l__law_alike : K.lookup f__law_alike = some ⟨oc__law_alike, od__law_alike, .func (PySem.W.fnOf "_law_alike" "_law_alike" (defArgs s__law_alike) (defBody s__law_alike) (defScope s__law_alike) .none kV__law_alike dc__law_alike pm__law_alike an__law_alike cd__law_alike ct__law_alike), sl__law_alike⟩)
    (c__law_alike : PySem.W.codeIn K cd__law_alike "_law_alike" = true)
    (k__law_alike : PySem.W.keepIn K (.ref f__law_alike) = true)
    (a__law_unlike : PySem.W.nsIn K mainGlobals "_law_unlike" = some (some (.ref f__law_unlike)))
    (l__law_unlike : K.lookup f__law_unlike = some ⟨oc__law_unlike, od__law_unlike, .func (PySem.W.fnOf "_law_unlike" "_law_unlike" (defArgs s__law_unlike) (defBody s__law_unlike) (defScope s__law_unlike) .none kV__law_unlike dc__law_unlike pm__law_unlike an__law_unlike cd__law_unlike ct__law_unlike), sl__law_unlike⟩)
    (c__law_unlike : PySem.W.codeIn K cd__law_unlike "_law_unlike" = true)
    (k__law_unlike : PySem.W.keepIn K (.ref f__law_unlike) = true)
    (a__law_too_many : PySem.W.nsIn K mainGlobals "_law_too_many" = some (some (.ref f__law_too_many)))
    (l__law_too_many : K.lookup f__law_too_many = some ⟨oc__law_too_many, od__law_too_many, .func (PySem.W.fnOf "_law_too_many" "_law_too_many" (defArgs s__law_too_many) (defBody s__law_too_many) (defScope s__law_too_many) .none kV__law_too_many dc__law_too_many pm__law_too_many an__law_too_many cd__law_too_many ct__law_too_many), sl__law_too_many⟩)
    (c__law_too_many : PySem.W.codeIn K cd__law_too_many "_law_too_many" = true)
    (k__law_too_many : PySem.W.keepIn K (.ref f__law_too_many) = true)
    (a__law_sides : PySem.W.nsIn K mainGlobals "_law_sides" = some (some (.ref f__law_sides)))
    (l__law_sides : K.lookup f__law_sides = some ⟨oc__law_sides, od__law_sides, .func (PySem.W.fnOf "_law_sides" "_law_sides" (defArgs s__law_sides) (defBody s__law_sides) (defScope s__law_sides) .none kV__law_sides dc__law_sides pm__law_sides an__law_sides cd__law_sides ct__law_sides), sl__law_sides⟩)
    (c__law_sides : PySem.W.codeIn K cd__law_sides "_law_sides" = true)
    (k__law_sides : PySem.W.keepIn K (.ref f__law_sides) = true)
    (a_law : PySem.W.nsIn K mainGlobals "law" = some (some (.ref f_law)))
    (l_law : K.lookup f_law = some ⟨oc_law, od_law, .func (PySem.W.fnOf "law" "law" (defArgs s_law) (defBody s_law) (defScope s_law) .none kV_law dc_law pm_law an_law cd_law ct_law), sl_law⟩)
    (c_law : PySem.W.codeIn K cd_law "law" = true)
    (k_law : PySem.W.keepIn K (.ref f_law) = true)
    (ac_ShareError : PySem.W.nsIn K mainGlobals "ShareError" = some (some (.ref C_ShareError)))
    (tc_ShareError : PySem.W.typeIn K (.ref C_ShareError) = some (.type "type"))
    (ec_ShareError : PySem.W.subIn K (.ref C_ShareError) (.type "BaseException") = some true)
    (ac_NoNumber : PySem.W.nsIn K mainGlobals "NoNumber" = some (some (.ref C_NoNumber)))
    (tc_NoNumber : PySem.W.typeIn K (.ref C_NoNumber) = some (.type "type"))
    (ec_NoNumber : PySem.W.subIn K (.ref C_NoNumber) (.type "BaseException") = some true)
    (ac_NoGroup : PySem.W.nsIn K mainGlobals "NoGroup" = some (some (.ref C_NoGroup)))
    (tc_NoGroup : PySem.W.typeIn K (.ref C_NoGroup) = some (.type "type"))
    (ec_NoGroup : PySem.W.subIn K (.ref C_NoGroup) (.type "BaseException") = some true)
    (ac_NoRule : PySem.W.nsIn K mainGlobals "NoRule" = some (some (.ref C_NoRule)))
    (tc_NoRule : PySem.W.typeIn K (.ref C_NoRule) = some (.type "type"))
    (ec_NoRule : PySem.W.subIn K (.ref C_NoRule) (.type "BaseException") = some true)
    (ac_NoText : PySem.W.nsIn K mainGlobals "NoText" = some (some (.ref C_NoText)))
    (tc_NoText : PySem.W.typeIn K (.ref C_NoText) = some (.type "type"))
    (ec_NoText : PySem.W.subIn K (.ref C_NoText) (.type "BaseException") = some true)
    (ac_NoTable : PySem.W.nsIn K mainGlobals "NoTable" = some (some (.ref C_NoTable)))
    (kc_NoTable : PySem.W.keepIn K (.ref C_NoTable) = true)
    (ec_NoTable : PySem.W.subIn K (.ref C_NoTable) (.type "BaseException") = some true)
    (tc_NoTable : PySem.W.typeIn K (.ref C_NoTable) = some (.type "type"))
    (xc_NoTable : PySem.W.excIn K C_NoTable [.type "ValueError", .type "Exception", .type "BaseException", .type "object"] "ValueError.__new__" = true)
    (ac_Unlike : PySem.W.nsIn K mainGlobals "Unlike" = some (some (.ref C_Unlike)))
    (kc_Unlike : PySem.W.keepIn K (.ref C_Unlike) = true)
    (ec_Unlike : PySem.W.subIn K (.ref C_Unlike) (.type "BaseException") = some true)
    (tc_Unlike : PySem.W.typeIn K (.ref C_Unlike) = some (.type "type"))
    (xc_Unlike : PySem.W.excIn K C_Unlike [.type "ValueError", .type "Exception", .type "BaseException", .type "object"] "ValueError.__new__" = true)
    (ac_TooMany : PySem.W.nsIn K mainGlobals "TooMany" = some (some (.ref C_TooMany)))
    (kc_TooMany : PySem.W.keepIn K (.ref C_TooMany) = true)
    (ec_TooMany : PySem.W.subIn K (.ref C_TooMany) (.type "BaseException") = some true)
    (tc_TooMany : PySem.W.typeIn K (.ref C_TooMany) = some (.type "type"))
    (xc_TooMany : PySem.W.excIn K C_TooMany [.type "ValueError", .type "Exception", .type "BaseException", .type "object"] "ValueError.__new__" = true)
    (ac_NoOrder : PySem.W.nsIn K mainGlobals "NoOrder" = some (some (.ref C_NoOrder)))
    (tc_NoOrder : PySem.W.typeIn K (.ref C_NoOrder) = some (.type "type"))
    (ec_NoOrder : PySem.W.subIn K (.ref C_NoOrder) (.type "BaseException") = some true)
    (ac_NoRows : PySem.W.nsIn K mainGlobals "NoRows" = some (some (.ref C_NoRows)))
    (tc_NoRows : PySem.W.typeIn K (.ref C_NoRows) = some (.type "type"))
    (ec_NoRows : PySem.W.subIn K (.ref C_NoRows) (.type "BaseException") = some true)
    (ac_NoShares : PySem.W.nsIn K mainGlobals "NoShares" = some (some (.ref C_NoShares)))
    (tc_NoShares : PySem.W.typeIn K (.ref C_NoShares) = some (.type "type"))
    (ec_NoShares : PySem.W.subIn K (.ref C_NoShares) (.type "BaseException") = some true)
    (ac_NoVotes : PySem.W.nsIn K mainGlobals "NoVotes" = some (some (.ref C_NoVotes)))
    (tc_NoVotes : PySem.W.typeIn K (.ref C_NoVotes) = some (.type "type"))
    (ec_NoVotes : PySem.W.subIn K (.ref C_NoVotes) (.type "BaseException") = some true)
    (ic_NoGroup : PySem.W.isClsIn K C_NoGroup = true)
    (sc_NoGroup : PySem.W.subIn K (.ref C_NoGroup) (.ref C_NoGroup) = some true)
    (ic_NoNumber : PySem.W.isClsIn K C_NoNumber = true)
    (sc_NoNumber : PySem.W.subIn K (.ref C_NoNumber) (.ref C_NoNumber) = some true)
    (ic_NoOrder : PySem.W.isClsIn K C_NoOrder = true)
    (sc_NoOrder : PySem.W.subIn K (.ref C_NoOrder) (.ref C_NoOrder) = some true)
    (ic_NoRows : PySem.W.isClsIn K C_NoRows = true)
    (sc_NoRows : PySem.W.subIn K (.ref C_NoRows) (.ref C_NoRows) = some true)
    (ic_NoRule : PySem.W.isClsIn K C_NoRule = true)
    (sc_NoRule : PySem.W.subIn K (.ref C_NoRule) (.ref C_NoRule) = some true)
    (ic_NoShares : PySem.W.isClsIn K C_NoShares = true)
    (sc_NoShares : PySem.W.subIn K (.ref C_NoShares) (.ref C_NoShares) = some true)
    (ic_NoTable : PySem.W.isClsIn K C_NoTable = true)
    (sc_NoTable : PySem.W.subIn K (.ref C_NoTable) (.ref C_NoTable) = some true)
    (ic_NoText : PySem.W.isClsIn K C_NoText = true)
    (sc_NoText : PySem.W.subIn K (.ref C_NoText) (.ref C_NoText) = some true)
    (ic_NoVotes : PySem.W.isClsIn K C_NoVotes = true)
    (sc_NoVotes : PySem.W.subIn K (.ref C_NoVotes) (.ref C_NoVotes) = some true)
    (ic_ShareError : PySem.W.isClsIn K C_ShareError = true)
    (sc_ShareError : PySem.W.subIn K (.ref C_ShareError) (.ref C_ShareError) = some true)
    (ic_TooMany : PySem.W.isClsIn K C_TooMany = true)
    (sc_TooMany : PySem.W.subIn K (.ref C_TooMany) (.ref C_TooMany) = some true)
    (ic_Unlike : PySem.W.isClsIn K C_Unlike = true)
    (sc_Unlike : PySem.W.subIn K (.ref C_Unlike) (.ref C_Unlike) = some true)
    (xg_NoTable : PySem.W.findIn K (.ref C_NoTable) "__getattribute__" = some (some (.builtin "BaseException.__getattribute__")))
    (xk_NoTable : PySem.W.findIn K (.ref C_NoTable) "__getattr__" = some none)
    (xh_NoTable : PySem.W.hasDictIn K C_NoTable = true)
    (xa_NoTable : PySem.W.findIn K (.ref C_NoTable) "__class__" = some (some (.builtin "object.__class__")))
    (xm_NoTable : PySem.W.mroIn K C_NoTable (.type "object") = some true)
    (xn : PySem.W.specialIn K (.builtin "object.__class__") "__get__" = some (some (.builtin "getset_descriptor.__get__")))
    (xt : PySem.W.takesIn K (.builtin "object.__class__") = some true)
    (us_NoTable_NoGroup : PySem.W.subIn K (.ref C_NoTable) (.ref C_NoGroup) = some false)
    (us_NoTable_NoNumber : PySem.W.subIn K (.ref C_NoTable) (.ref C_NoNumber) = some false)
    (us_NoTable_NoOrder : PySem.W.subIn K (.ref C_NoTable) (.ref C_NoOrder) = some false)
    (us_NoTable_NoRows : PySem.W.subIn K (.ref C_NoTable) (.ref C_NoRows) = some false)
    (us_NoTable_NoRule : PySem.W.subIn K (.ref C_NoTable) (.ref C_NoRule) = some false)
    (us_NoTable_NoShares : PySem.W.subIn K (.ref C_NoTable) (.ref C_NoShares) = some false)
    (us_NoTable_NoTable : PySem.W.subIn K (.ref C_NoTable) (.ref C_NoTable) = some true)
    (us_NoTable_NoText : PySem.W.subIn K (.ref C_NoTable) (.ref C_NoText) = some false)
    (us_NoTable_NoVotes : PySem.W.subIn K (.ref C_NoTable) (.ref C_NoVotes) = some false)
    (us_NoTable_ShareError : PySem.W.subIn K (.ref C_NoTable) (.ref C_ShareError) = some true)
    (us_NoTable_TooMany : PySem.W.subIn K (.ref C_NoTable) (.ref C_TooMany) = some false)
    (us_NoTable_Unlike : PySem.W.subIn K (.ref C_NoTable) (.ref C_Unlike) = some false)
    (uv_NoTable : PySem.W.subIn K (.ref C_NoTable) (.type "ValueError") = some true)
    (hh_NoTable_ShareError : PySem.W.hasDictIn K C_ShareError = true)
    (xg_Unlike : PySem.W.findIn K (.ref C_Unlike) "__getattribute__" = some (some (.builtin "BaseException.__getattribute__")))
    (xk_Unlike : PySem.W.findIn K (.ref C_Unlike) "__getattr__" = some none)
    (xh_Unlike : PySem.W.hasDictIn K C_Unlike = true)
    (xa_Unlike : PySem.W.findIn K (.ref C_Unlike) "__class__" = some (some (.builtin "object.__class__")))
    (xm_Unlike : PySem.W.mroIn K C_Unlike (.type "object") = some true)
    (us_Unlike_NoGroup : PySem.W.subIn K (.ref C_Unlike) (.ref C_NoGroup) = some false)
    (us_Unlike_NoNumber : PySem.W.subIn K (.ref C_Unlike) (.ref C_NoNumber) = some false)
    (us_Unlike_NoOrder : PySem.W.subIn K (.ref C_Unlike) (.ref C_NoOrder) = some false)
    (us_Unlike_NoRows : PySem.W.subIn K (.ref C_Unlike) (.ref C_NoRows) = some false)
    (us_Unlike_NoRule : PySem.W.subIn K (.ref C_Unlike) (.ref C_NoRule) = some false)
    (us_Unlike_NoShares : PySem.W.subIn K (.ref C_Unlike) (.ref C_NoShares) = some false)
    (us_Unlike_NoTable : PySem.W.subIn K (.ref C_Unlike) (.ref C_NoTable) = some false)
    (us_Unlike_NoText : PySem.W.subIn K (.ref C_Unlike) (.ref C_NoText) = some false)
    (us_Unlike_NoVotes : PySem.W.subIn K (.ref C_Unlike) (.ref C_NoVotes) = some false)
    (us_Unlike_ShareError : PySem.W.subIn K (.ref C_Unlike) (.ref C_ShareError) = some true)
    (us_Unlike_TooMany : PySem.W.subIn K (.ref C_Unlike) (.ref C_TooMany) = some false)
    (us_Unlike_Unlike : PySem.W.subIn K (.ref C_Unlike) (.ref C_Unlike) = some true)
    (uv_Unlike : PySem.W.subIn K (.ref C_Unlike) (.type "ValueError") = some true)
    (hh_Unlike_ShareError : PySem.W.hasDictIn K C_ShareError = true)
    (xg_TooMany : PySem.W.findIn K (.ref C_TooMany) "__getattribute__" = some (some (.builtin "BaseException.__getattribute__")))
    (xk_TooMany : PySem.W.findIn K (.ref C_TooMany) "__getattr__" = some none)
    (xh_TooMany : PySem.W.hasDictIn K C_TooMany = true)
    (xa_TooMany : PySem.W.findIn K (.ref C_TooMany) "__class__" = some (some (.builtin "object.__class__")))
    (xm_TooMany : PySem.W.mroIn K C_TooMany (.type "object") = some true)
    (us_TooMany_NoGroup : PySem.W.subIn K (.ref C_TooMany) (.ref C_NoGroup) = some false)
    (us_TooMany_NoNumber : PySem.W.subIn K (.ref C_TooMany) (.ref C_NoNumber) = some false)
    (us_TooMany_NoOrder : PySem.W.subIn K (.ref C_TooMany) (.ref C_NoOrder) = some false)
    (us_TooMany_NoRows : PySem.W.subIn K (.ref C_TooMany) (.ref C_NoRows) = some false)
    (us_TooMany_NoRule : PySem.W.subIn K (.ref C_TooMany) (.ref C_NoRule) = some false)
    (us_TooMany_NoShares : PySem.W.subIn K (.ref C_TooMany) (.ref C_NoShares) = some false)
    (us_TooMany_NoTable : PySem.W.subIn K (.ref C_TooMany) (.ref C_NoTable) = some false)
    (us_TooMany_NoText : PySem.W.subIn K (.ref C_TooMany) (.ref C_NoText) = some false)
    (us_TooMany_NoVotes : PySem.W.subIn K (.ref C_TooMany) (.ref C_NoVotes) = some false)
    (us_TooMany_ShareError : PySem.W.subIn K (.ref C_TooMany) (.ref C_ShareError) = some true)
    (us_TooMany_TooMany : PySem.W.subIn K (.ref C_TooMany) (.ref C_TooMany) = some true)
    (us_TooMany_Unlike : PySem.W.subIn K (.ref C_TooMany) (.ref C_Unlike) = some false)
    (uv_TooMany : PySem.W.subIn K (.ref C_TooMany) (.type "ValueError") = some true)
    (hh_TooMany_ShareError : PySem.W.hasDictIn K C_ShareError = true)
    (cn_MOST : PySem.W.nsIn K mainGlobals "MOST" = some (some (.int 6 t_MOST)))
    (z_ValueError : PySem.W.nsIn K mainGlobals "ValueError" = some none)
    (z_bool : PySem.W.nsIn K mainGlobals "bool" = some none)
    (z_int : PySem.W.nsIn K mainGlobals "int" = some none)
    (z_isinstance : PySem.W.nsIn K mainGlobals "isinstance" = some none)
    (z_len : PySem.W.nsIn K mainGlobals "len" = some none)
    (z_list : PySem.W.nsIn K mainGlobals "list" = some none)
    (z_min : PySem.W.nsIn K mainGlobals "min" = some none)
    (z_range : PySem.W.nsIn K mainGlobals "range" = some none)
    (z_zip : PySem.W.nsIn K mainGlobals "zip" = some none)
    : ∃ fd : FuncData, (∀ (s : Shared) (v : Value), BindsTo s fd ⟨[v], []⟩ [("_law_script", v)]) ∧ ∀ base : Heap, K.In base → base.Ns mainGlobals mg → FnOk l.prog w K mg base (L2.CX l.prog w) 5 fa fd ["_law_script"] (sp_law K) := by
  have e := hfa.symm.trans (PySem.W.mg_of X G a_law)
  cases e
  have T : Txt K mg ⟨f_is_whole, PySem.W.fnOf "is_whole" "is_whole" (defArgs s_is_whole) (defBody s_is_whole) (defScope s_is_whole) .none kV_is_whole dc_is_whole pm_is_whole an_is_whole cd_is_whole ct_is_whole, f_look, PySem.W.fnOf "look" "look" (defArgs s_look) (defBody s_look) (defScope s_look) .none kV_look dc_look pm_look an_look cd_look ct_look, f_summed, PySem.W.fnOf "summed" "summed" (defArgs s_summed) (defBody s_summed) (defScope s_summed) .none kV_summed dc_summed pm_summed an_summed cd_summed ct_summed, f_beside, PySem.W.fnOf "beside" "beside" (defArgs s_beside) (defBody s_beside) (defScope s_beside) .none kV_beside dc_beside pm_beside an_beside cd_beside ct_beside, f__law_whole, PySem.W.fnOf "_law_whole" "_law_whole" (defArgs s__law_whole) (defBody s__law_whole) (defScope s__law_whole) .none kV__law_whole dc__law_whole pm__law_whole an__law_whole cd__law_whole ct__law_whole, f__law_cell, PySem.W.fnOf "_law_cell" "_law_cell" (defArgs s__law_cell) (defBody s__law_cell) (defScope s__law_cell) .none kV__law_cell dc__law_cell pm__law_cell an__law_cell cd__law_cell ct__law_cell, f__law_number, PySem.W.fnOf "_law_number" "_law_number" (defArgs s__law_number) (defBody s__law_number) (defScope s__law_number) .none kV__law_number dc__law_number pm__law_number an__law_number cd__law_number ct__law_number, f__law_table, PySem.W.fnOf "_law_table" "_law_table" (defArgs s__law_table) (defBody s__law_table) (defScope s__law_table) .none kV__law_table dc__law_table pm__law_table an__law_table cd__law_table ct__law_table, f__law_alike, PySem.W.fnOf "_law_alike" "_law_alike" (defArgs s__law_alike) (defBody s__law_alike) (defScope s__law_alike) .none kV__law_alike dc__law_alike pm__law_alike an__law_alike cd__law_alike ct__law_alike, f__law_unlike, PySem.W.fnOf "_law_unlike" "_law_unlike" (defArgs s__law_unlike) (defBody s__law_unlike) (defScope s__law_unlike) .none kV__law_unlike dc__law_unlike pm__law_unlike an__law_unlike cd__law_unlike ct__law_unlike, f__law_too_many, PySem.W.fnOf "_law_too_many" "_law_too_many" (defArgs s__law_too_many) (defBody s__law_too_many) (defScope s__law_too_many) .none kV__law_too_many dc__law_too_many pm__law_too_many an__law_too_many cd__law_too_many ct__law_too_many, f__law_sides, PySem.W.fnOf "_law_sides" "_law_sides" (defArgs s__law_sides) (defBody s__law_sides) (defScope s__law_sides) .none kV__law_sides dc__law_sides pm__law_sides an__law_sides cd__law_sides ct__law_sides, fa, PySem.W.fnOf "law" "law" (defArgs s_law) (defBody s_law) (defScope s_law) .none kV_law dc_law pm_law an_law cd_law ct_law, C_ShareError, C_NoNumber, C_NoGroup, C_NoRule, C_NoText, C_NoTable, C_Unlike, C_TooMany, C_NoOrder, C_NoRows, C_NoShares, C_NoVotes, t_MOST⟩ := {
    F_is_whole := fun_mk (st := s_is_whole) l_is_whole c_is_whole k_is_whole
    b_is_whole := (fun_mk (st := s_is_whole) l_is_whole c_is_whole k_is_whole).binds (ps := ["thing"]) fun _ _ _ _ _ _ us hl => match us, hl with | [_], _ => rfl
    g_is_whole := PySem.W.mg_of X G a_is_whole
    F_look := fun_mk (st := s_look) l_look c_look k_look
    b_look := (fun_mk (st := s_look) l_look c_look k_look).binds (ps := ["table"]) fun _ _ _ _ _ _ us hl => match us, hl with | [_], _ => rfl
    g_look := PySem.W.mg_of X G a_look
    F_summed := fun_mk (st := s_summed) l_summed c_summed k_summed
    b_summed := (fun_mk (st := s_summed) l_summed c_summed k_summed).binds (ps := ["one", "other"]) fun _ _ _ _ _ _ us hl => match us, hl with | [_, _], _ => rfl
    g_summed := PySem.W.mg_of X G a_summed
    F_beside := fun_mk (st := s_beside) l_beside c_beside k_beside
    b_beside := (fun_mk (st := s_beside) l_beside c_beside k_beside).binds (ps := ["one", "other"]) fun _ _ _ _ _ _ us hl => match us, hl with | [_, _], _ => rfl
    g_beside := PySem.W.mg_of X G a_beside
    F__law_whole := fun_mk (st := s__law_whole) l__law_whole c__law_whole k__law_whole
    b__law_whole := (fun_mk (st := s__law_whole) l__law_whole c__law_whole k__law_whole).binds (ps := ["_law_found"]) fun _ _ _ _ _ _ us hl => match us, hl with | [_], _ => rfl
    g__law_whole := PySem.W.mg_of X G a__law_whole
    F__law_cell := fun_mk (st := s__law_cell) l__law_cell c__law_cell k__law_cell
    b__law_cell := (fun_mk (st := s__law_cell) l__law_cell c__law_cell k__law_cell).binds (ps := ["_law_script", "_law_k"]) fun _ _ _ _ _ _ us hl => match us, hl with | [_, _], _ => rfl
    g__law_cell := PySem.W.mg_of X G a__law_cell
    F__law_number := fun_mk (st := s__law_number) l__law_number c__law_number k__law_number
    b__law_number := (fun_mk (st := s__law_number) l__law_number c__law_number k__law_number).binds (ps := ["_law_cell_here", "_law_way"]) fun _ _ _ _ _ _ us hl => match us, hl with | [_, _], _ => rfl
    g__law_number := PySem.W.mg_of X G a__law_number
    F__law_table := fun_mk (st := s__law_table) l__law_table c__law_table k__law_table
    b__law_table := (fun_mk (st := s__law_table) l__law_table c__law_table k__law_table).binds (ps := ["_law_script", "_law_at", "_law_many", "_law_way"]) fun _ _ _ _ _ _ us hl => match us, hl with | [_, _, _, _], _ => rfl
    g__law_table := PySem.W.mg_of X G a__law_table
    F__law_alike := fun_mk (st := s__law_alike) l__law_alike c__law_alike k__law_alike
    b__law_alike := (fun_mk (st := s__law_alike) l__law_alike c__law_alike k__law_alike).binds (ps := ["_law_found", "_law_due"]) fun _ _ _ _ _ _ us hl => match us, hl with | [_, _], _ => rfl
    g__law_alike := PySem.W.mg_of X G a__law_alike
    F__law_unlike := fun_mk (st := s__law_unlike) l__law_unlike c__law_unlike k__law_unlike
    b__law_unlike := (fun_mk (st := s__law_unlike) l__law_unlike c__law_unlike k__law_unlike).binds (ps := ["_law_one", "_law_other"]) fun _ _ _ _ _ _ us hl => match us, hl with | [_, _], _ => rfl
    g__law_unlike := PySem.W.mg_of X G a__law_unlike
    F__law_too_many := fun_mk (st := s__law_too_many) l__law_too_many c__law_too_many k__law_too_many
    b__law_too_many := (fun_mk (st := s__law_too_many) l__law_too_many c__law_too_many k__law_too_many).binds (ps := ["_law_one", "_law_other"]) fun _ _ _ _ _ _ us hl => match us, hl with | [_, _], _ => rfl
    g__law_too_many := PySem.W.mg_of X G a__law_too_many
    F__law_sides := fun_mk (st := s__law_sides) l__law_sides c__law_sides k__law_sides
    b__law_sides := (fun_mk (st := s__law_sides) l__law_sides c__law_sides k__law_sides).binds (ps := ["_law_one", "_law_other"]) fun _ _ _ _ _ _ us hl => match us, hl with | [_, _], _ => rfl
    g__law_sides := PySem.W.mg_of X G a__law_sides
    F_law := fun_mk (st := s_law) l_law c_law k_law
    b_law := (fun_mk (st := s_law) l_law c_law k_law).binds (ps := ["_law_script"]) fun _ _ _ _ _ _ us hl => match us, hl with | [_], _ => rfl
    g_law := PySem.W.mg_of X G a_law
    g_ShareError := PySem.W.mg_of X G ac_ShareError
    g_NoNumber := PySem.W.mg_of X G ac_NoNumber
    g_NoGroup := PySem.W.mg_of X G ac_NoGroup
    g_NoRule := PySem.W.mg_of X G ac_NoRule
    g_NoText := PySem.W.mg_of X G ac_NoText
    g_NoTable := PySem.W.mg_of X G ac_NoTable
    k_NoTable := kc_NoTable
    e_NoTable := ec_NoTable
    t_NoTable := tc_NoTable
    x_NoTable := xc_NoTable
    g_Unlike := PySem.W.mg_of X G ac_Unlike
    k_Unlike := kc_Unlike
    e_Unlike := ec_Unlike
    t_Unlike := tc_Unlike
    x_Unlike := xc_Unlike
    g_TooMany := PySem.W.mg_of X G ac_TooMany
    k_TooMany := kc_TooMany
    e_TooMany := ec_TooMany
    t_TooMany := tc_TooMany
    x_TooMany := xc_TooMany
    g_NoOrder := PySem.W.mg_of X G ac_NoOrder
    g_NoRows := PySem.W.mg_of X G ac_NoRows
    g_NoShares := PySem.W.mg_of X G ac_NoShares
    g_NoVotes := PySem.W.mg_of X G ac_NoVotes
    q_NoGroup := ⟨ic_NoGroup, tc_NoGroup, sc_NoGroup⟩
    q_NoNumber := ⟨ic_NoNumber, tc_NoNumber, sc_NoNumber⟩
    q_NoOrder := ⟨ic_NoOrder, tc_NoOrder, sc_NoOrder⟩
    q_NoRows := ⟨ic_NoRows, tc_NoRows, sc_NoRows⟩
    q_NoRule := ⟨ic_NoRule, tc_NoRule, sc_NoRule⟩
    q_NoShares := ⟨ic_NoShares, tc_NoShares, sc_NoShares⟩
    q_NoTable := ⟨ic_NoTable, tc_NoTable, sc_NoTable⟩
    q_NoText := ⟨ic_NoText, tc_NoText, sc_NoText⟩
    q_NoVotes := ⟨ic_NoVotes, tc_NoVotes, sc_NoVotes⟩
    q_ShareError := ⟨ic_ShareError, tc_ShareError, sc_ShareError⟩
    q_TooMany := ⟨ic_TooMany, tc_TooMany, sc_TooMany⟩
    q_Unlike := ⟨ic_Unlike, tc_Unlike, sc_Unlike⟩
    X_NoTable := ⟨xg_NoTable, xk_NoTable, ec_NoTable, xh_NoTable, xa_NoTable, xn, xt, xm_NoTable⟩
    u_NoTable_NoGroup := us_NoTable_NoGroup
    u_NoTable_NoNumber := us_NoTable_NoNumber
    u_NoTable_NoOrder := us_NoTable_NoOrder
    u_NoTable_NoRows := us_NoTable_NoRows
    u_NoTable_NoRule := us_NoTable_NoRule
    u_NoTable_NoShares := us_NoTable_NoShares
    u_NoTable_NoTable := us_NoTable_NoTable
    u_NoTable_NoText := us_NoTable_NoText
    u_NoTable_NoVotes := us_NoTable_NoVotes
    u_NoTable_ShareError := us_NoTable_ShareError
    u_NoTable_TooMany := us_NoTable_TooMany
    u_NoTable_Unlike := us_NoTable_Unlike
    v_NoTable := uv_NoTable
    h_NoTable_ShareError := PySem.W.exm_ref ec_ShareError hh_NoTable_ShareError tc_ShareError us_NoTable_ShareError
    X_Unlike := ⟨xg_Unlike, xk_Unlike, ec_Unlike, xh_Unlike, xa_Unlike, xn, xt, xm_Unlike⟩
    u_Unlike_NoGroup := us_Unlike_NoGroup
    u_Unlike_NoNumber := us_Unlike_NoNumber
    u_Unlike_NoOrder := us_Unlike_NoOrder
    u_Unlike_NoRows := us_Unlike_NoRows
    u_Unlike_NoRule := us_Unlike_NoRule
    u_Unlike_NoShares := us_Unlike_NoShares
    u_Unlike_NoTable := us_Unlike_NoTable
    u_Unlike_NoText := us_Unlike_NoText
    u_Unlike_NoVotes := us_Unlike_NoVotes
    u_Unlike_ShareError := us_Unlike_ShareError
    u_Unlike_TooMany := us_Unlike_TooMany
    u_Unlike_Unlike := us_Unlike_Unlike
    v_Unlike := uv_Unlike
    h_Unlike_ShareError := PySem.W.exm_ref ec_ShareError hh_Unlike_ShareError tc_ShareError us_Unlike_ShareError
    X_TooMany := ⟨xg_TooMany, xk_TooMany, ec_TooMany, xh_TooMany, xa_TooMany, xn, xt, xm_TooMany⟩
    u_TooMany_NoGroup := us_TooMany_NoGroup
    u_TooMany_NoNumber := us_TooMany_NoNumber
    u_TooMany_NoOrder := us_TooMany_NoOrder
    u_TooMany_NoRows := us_TooMany_NoRows
    u_TooMany_NoRule := us_TooMany_NoRule
    u_TooMany_NoShares := us_TooMany_NoShares
    u_TooMany_NoTable := us_TooMany_NoTable
    u_TooMany_NoText := us_TooMany_NoText
    u_TooMany_NoVotes := us_TooMany_NoVotes
    u_TooMany_ShareError := us_TooMany_ShareError
    u_TooMany_TooMany := us_TooMany_TooMany
    u_TooMany_Unlike := us_TooMany_Unlike
    v_TooMany := uv_TooMany
    h_TooMany_ShareError := PySem.W.exm_ref ec_ShareError hh_TooMany_ShareError tc_ShareError us_TooMany_ShareError
    c_MOST := PySem.W.mg_of X G cn_MOST
    z_ValueError := PySem.W.mg_none_of X G z_ValueError
    z_bool := PySem.W.mg_none_of X G z_bool
    z_int := PySem.W.mg_none_of X G z_int
    z_isinstance := PySem.W.mg_none_of X G z_isinstance
    z_len := PySem.W.mg_none_of X G z_len
    z_list := PySem.W.mg_none_of X G z_list
    z_min := PySem.W.mg_none_of X G z_min
    z_range := PySem.W.mg_none_of X G z_range
    z_zip := PySem.W.mg_none_of X G z_zip
  }
  exact ⟨_, fun s v => .of_eq rfl, fun base _ _ => ok_law T⟩
end Lw
open PySem PySem.W PyProof.Rows
set_option maxHeartbeats 0 in
theorem PySem.Challenge.cw_shareparley_k15_summed_and_beside_holds : PySem.Challenge.rw_shareparley_k15_summed_and_beside.Holds := by
  w_on; o_law; k_head; (case hw => w_witness2)
  k_fill
  refine L2.walk_of (l := PySem.Challenge.rw_shareparley_k15_summed_and_beside) (n := 63) (k := 5) (x := "_law_script") (CX := fun w => L2.CX (PySem.Challenge.rw_shareparley_k15_summed_and_beside).prog w) (sp := fun w => Lw.sp_law _) rfl (by decide) rfl ⟨rfl, by decide, by decide⟩ (fun w h Y => PySem.W.kIn_of Y) ?F (fun _ _ a ns hl _ hS => ⟨a, ns, rfl, hS, hl, fun _ => rfl⟩) (fun _ _ _ _ _ h => Sp.cx_none h)
  case F =>
    intro w mg fa h KX G hmg
    refine' Lw.all_mk KX G hmg ?a_is_whole ?l_is_whole ?c_is_whole ?k_is_whole ?a_look ?l_look ?c_look ?k_look ?a_summed ?l_summed ?c_summed ?k_summed ?a_beside ?l_beside ?c_beside ?k_beside ?a__law_whole ?l__law_whole ?c__law_whole ?k__law_whole ?a__law_cell ?l__law_cell ?c__law_cell ?k__law_cell ?a__law_number ?l__law_number ?c__law_number ?k__law_number ?a__law_table ?l__law_table ?c__law_table ?k__law_table ?a__law_alike ?l__law_alike ?c__law_alike ?k__law_alike ?a__law_unlike ?l__law_unlike ?c__law_unlike ?k__law_unlike ?a__law_too_many ?l__law_too_many ?c__law_too_many ?k__law_too_many ?a__law_sides ?l__law_sides ?c__law_sides ?k__law_sides ?a_law ?l_law ?c_law ?k_law ?ac_ShareError ?tc_ShareError ?ec_ShareError ?ac_NoNumber ?tc_NoNumber ?ec_NoNumber ?ac_NoGroup ?tc_NoGroup ?ec_NoGroup ?ac_NoRule ?tc_NoRule ?ec_NoRule ?ac_NoText ?tc_NoText ?ec_NoText ?ac_NoTable ?kc_NoTable ?ec_NoTable ?tc_NoTable ?xc_NoTable ?ac_Unlike ?kc_Unlike ?ec_Unlike ?tc_Unlike ?xc_Unlike ?ac_TooMany ?kc_TooMany ?ec_TooMany ?tc_TooMany ?xc_TooMany ?ac_NoOrder ?tc_NoOrder ?ec_NoOrder ?ac_NoRows ?tc_NoRows ?ec_NoRows ?ac_NoShares ?tc_NoShares ?ec_NoShares ?ac_NoVotes ?tc_NoVotes ?ec_NoVotes ?ic_NoGroup ?sc_NoGroup ?ic_NoNumber ?sc_NoNumber ?ic_NoOrder ?sc_NoOrder ?ic_NoRows ?sc_NoRows ?ic_NoRule ?sc_NoRule ?ic_NoShares ?sc_NoShares ?ic_NoTable ?sc_NoTable ?ic_NoText ?sc_NoText ?ic_NoVotes ?sc_NoVotes ?ic_ShareError ?sc_ShareError ?ic_TooMany ?sc_TooMany ?ic_Unlike ?sc_Unlike ?xg_NoTable ?xk_NoTable ?xh_NoTable ?xa_NoTable ?xm_NoTable ?xn ?xt ?us_NoTable_NoGroup ?us_NoTable_NoNumber ?us_NoTable_NoOrder ?us_NoTable_NoRows ?us_NoTable_NoRule ?us_NoTable_NoShares ?us_NoTable_NoTable ?us_NoTable_NoText ?us_NoTable_NoVotes ?us_NoTable_ShareError ?us_NoTable_TooMany ?us_NoTable_Unlike ?uv_NoTable ?hh_NoTable_ShareError ?xg_Unlike ?xk_Unlike ?xh_Unlike ?xa_Unlike ?xm_Unlike ?us_Unlike_NoGroup ?us_Unlike_NoNumber ?us_Unlike_NoOrder ?us_Unlike_NoRows ?us_Unlike_NoRule ?us_Unlike_NoShares ?us_Unlike_NoTable ?us_Unlike_NoText ?us_Unlike_NoVotes ?us_Unlike_ShareError ?us_Unlike_TooMany ?us_Unlike_Unlike ?uv_Unlike ?hh_Unlike_ShareError ?xg_TooMany ?xk_TooMany ?xh_TooMany ?xa_TooMany ?xm_TooMany ?us_TooMany_NoGroup ?us_TooMany_NoNumber ?us_TooMany_NoOrder ?us_TooMany_NoRows ?us_TooMany_NoRule ?us_TooMany_NoShares ?us_TooMany_NoTable ?us_TooMany_NoText ?us_TooMany_NoVotes ?us_TooMany_ShareError ?us_TooMany_TooMany ?us_TooMany_Unlike ?uv_TooMany ?hh_TooMany_ShareError ?cn_MOST ?z_ValueError ?z_bool ?z_int ?z_isinstance ?z_len ?z_list ?z_min ?z_range ?z_zip
    (case a_is_whole => k_is)
    (case l_is_whole => k_is)
    (case c_is_whole => k_is)
    (case k_is_whole => k_is)
    (case a_look => k_is)
    (case l_look => k_is)
    (case c_look => k_is)
    (case k_look => k_is)
    (case a_summed => k_is)
    (case l_summed => k_is)
    (case c_summed => k_is)
    (case k_summed => k_is)
    (case a_beside => k_is)
    (case l_beside => k_is)
    (case c_beside => k_is)
    (case k_beside => k_is)
    (case a__law_whole => k_is)
    (case l__law_whole => k_is)
    (case c__law_whole => k_is)
    (case k__law_whole => k_is)
    (case a__law_cell => k_is)
    (case l__law_cell => k_is)
    (case c__law_cell => k_is)
    (case k__law_cell => k_is)
    (case a__law_number => k_is)
    (case l__law_number => k_is)
    (case c__law_number => k_is)
    (case k__law_number => k_is)
    (case a__law_table => k_is)
    (case l__law_table => k_is)
    (case c__law_table => k_is)
    (case k__law_table => k_is)
    (case a__law_alike => k_is)
    (case l__law_alike => k_is)
    (case c__law_alike => k_is)
    (case k__law_alike => k_is)
    (case a__law_unlike => k_is)
    (case l__law_unlike => k_is)
    (case c__law_unlike => k_is)
    (case k__law_unlike => k_is)
    (case a__law_too_many => k_is)
    (case l__law_too_many => k_is)
    (case c__law_too_many => k_is)
    (case k__law_too_many => k_is)
    (case a__law_sides => k_is)
    (case l__law_sides => k_is)
    (case c__law_sides => k_is)
    (case k__law_sides => k_is)
    (case a_law => k_is)
    (case l_law => k_is)
    (case c_law => k_is)
    (case k_law => k_is)
    (case ac_ShareError => k_is)
    (case tc_ShareError => k_is)
    (case ec_ShareError => k_is)
    (case ac_NoNumber => k_is)
    (case tc_NoNumber => k_is)
    (case ec_NoNumber => k_is)
    (case ac_NoGroup => k_is)
    (case tc_NoGroup => k_is)
    (case ec_NoGroup => k_is)
    (case ac_NoRule => k_is)
    (case tc_NoRule => k_is)
    (case ec_NoRule => k_is)
    (case ac_NoText => k_is)
    (case tc_NoText => k_is)
    (case ec_NoText => k_is)
    (case ac_NoTable => k_is)
    (case kc_NoTable => k_is)
    (case ec_NoTable => k_is)
    (case tc_NoTable => k_is)
    (case xc_NoTable => k_exc)
    (case ac_Unlike => k_is)
    (case kc_Unlike => k_is)
    (case ec_Unlike => k_is)
    (case tc_Unlike => k_is)
    (case xc_Unlike => k_exc)
    (case ac_TooMany => k_is)
    (case kc_TooMany => k_is)
    (case ec_TooMany => k_is)
    (case tc_TooMany => k_is)
    (case xc_TooMany => k_exc)
    (case ac_NoOrder => k_is)
    (case tc_NoOrder => k_is)
    (case ec_NoOrder => k_is)
    (case ac_NoRows => k_is)
    (case tc_NoRows => k_is)
    (case ec_NoRows => k_is)
    (case ac_NoShares => k_is)
    (case tc_NoShares => k_is)
    (case ec_NoShares => k_is)
    (case ac_NoVotes => k_is)
    (case tc_NoVotes => k_is)
    (case ec_NoVotes => k_is)
    (case ic_NoGroup => k_is)
    (case sc_NoGroup => k_is)
    (case ic_NoNumber => k_is)
    (case sc_NoNumber => k_is)
    (case ic_NoOrder => k_is)
    (case sc_NoOrder => k_is)
    (case ic_NoRows => k_is)
    (case sc_NoRows => k_is)
    (case ic_NoRule => k_is)
    (case sc_NoRule => k_is)
    (case ic_NoShares => k_is)
    (case sc_NoShares => k_is)
    (case ic_NoTable => k_is)
    (case sc_NoTable => k_is)
    (case ic_NoText => k_is)
    (case sc_NoText => k_is)
    (case ic_NoVotes => k_is)
    (case sc_NoVotes => k_is)
    (case ic_ShareError => k_is)
    (case sc_ShareError => k_is)
    (case ic_TooMany => k_is)
    (case sc_TooMany => k_is)
    (case ic_Unlike => k_is)
    (case sc_Unlike => k_is)
    (case xg_NoTable => k_is)
    (case xk_NoTable => k_is)
    (case xh_NoTable => k_is)
    (case xa_NoTable => k_is)
    (case xm_NoTable => k_is)
    (case xn => k_is)
    (case xt => k_is)
    (case us_NoTable_NoGroup => k_is)
    (case us_NoTable_NoNumber => k_is)
    (case us_NoTable_NoOrder => k_is)
    (case us_NoTable_NoRows => k_is)
    (case us_NoTable_NoRule => k_is)
    (case us_NoTable_NoShares => k_is)
    (case us_NoTable_NoTable => k_is)
    (case us_NoTable_NoText => k_is)
    (case us_NoTable_NoVotes => k_is)
    (case us_NoTable_ShareError => k_is)
    (case us_NoTable_TooMany => k_is)
    (case us_NoTable_Unlike => k_is)
    (case uv_NoTable => k_is)
    (case hh_NoTable_ShareError => k_is)
    (case xg_Unlike => k_is)
    (case xk_Unlike => k_is)
    (case xh_Unlike => k_is)
    (case xa_Unlike => k_is)
    (case xm_Unlike => k_is)
    (case us_Unlike_NoGroup => k_is)
    (case us_Unlike_NoNumber => k_is)
    (case us_Unlike_NoOrder => k_is)
    (case us_Unlike_NoRows => k_is)
    (case us_Unlike_NoRule => k_is)
    (case us_Unlike_NoShares => k_is)
    (case us_Unlike_NoTable => k_is)
    (case us_Unlike_NoText => k_is)
    (case us_Unlike_NoVotes => k_is)
    (case us_Unlike_ShareError => k_is)
    (case us_Unlike_TooMany => k_is)
    (case us_Unlike_Unlike => k_is)
    (case uv_Unlike => k_is)
    (case hh_Unlike_ShareError => k_is)
    (case xg_TooMany => k_is)
    (case xk_TooMany => k_is)
    (case xh_TooMany => k_is)
    (case xa_TooMany => k_is)
    (case xm_TooMany => k_is)
    (case us_TooMany_NoGroup => k_is)
    (case us_TooMany_NoNumber => k_is)
    (case us_TooMany_NoOrder => k_is)
    (case us_TooMany_NoRows => k_is)
    (case us_TooMany_NoRule => k_is)
    (case us_TooMany_NoShares => k_is)
    (case us_TooMany_NoTable => k_is)
    (case us_TooMany_NoText => k_is)
    (case us_TooMany_NoVotes => k_is)
    (case us_TooMany_ShareError => k_is)
    (case us_TooMany_TooMany => k_is)
    (case us_TooMany_Unlike => k_is)
    (case uv_TooMany => k_is)
    (case hh_TooMany_ShareError => k_is)
    (case cn_MOST => k_is)
    (case z_ValueError => k_is)
    (case z_bool => k_is)
    (case z_int => k_is)
    (case z_isinstance => k_is)
    (case z_len => k_is)
    (case z_list => k_is)
    (case z_min => k_is)
    (case z_range => k_is)
    (case z_zip => k_is)
