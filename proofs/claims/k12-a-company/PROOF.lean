import PyProof.Rows.All
import Wide.All
import OpenK.AllK
import Wide.FinOn
import HandS.ForMost
import HandS.Exc
import HandS.TryOnly
import HandS.ExcOwn
import HandS.WordsExc
import HandS.IsInst
import HandS.Style
import HandS.Zip
import HandS.ExcIs
import HandS.Conv
import HandS.More
import HandS.Sort
import HandS.SortOrd
import HandS.SortRule
import PySem.Challenge.RW_shareparley_k12_a_company
set_option Elab.async false
set_option linter.all false
set_option maxRecDepth 100000
set_option maxHeartbeats 4000000
/-! Cm: what every text of ours leans on: the carried heap (Own), the readings walked step by step (x_..), own rules. -/
namespace Sp
open PySem L2 PyProof.Rows

/-! ### the carried heap: B is what stands and stays, cs the cells of our own that may still change -/
abbrev Cells := List (Addr × HO)
structure Own (B : Hp) (cs : Cells) (H : Hp) : Prop where
  ex : Same B H
  cell : ∀ p ∈ cs, H p.1 = some p.2 ∧ B p.1 = none
  nd : (cs.map (·.1)).Nodup
theorem same_upd {H : Hp} {p : Addr} {o : HO} (h : H p = none) : Same H (upd H p o) := fun b x e => by
  rw [upd_ne (ne_of_none e h)]
  exact e
theorem Own.start {H : Hp} : Own H [] H := ⟨Same.refl H, fun _ h => (nomatch h), List.nodup_nil⟩
section
variable {B H H' : Hp} {cs : Cells} {p : Addr} {o o' : HO} {K : PySem.W.Frag} {xs : List V}
theorem Own.ext (w : Own B cs H) (e : Same H H') : Own B cs H' := ⟨w.ex.trans e, fun q h => ⟨e _ _ (w.cell q h).1, (w.cell q h).2⟩, w.nd⟩
theorem Own.fresh (w : Own B cs H) (hp : H p = none) : B p = none := w.ex.free hp
theorem Own.off (w : Own B cs H) (hp : H p = none) : p ∉ cs.map (·.1) := fun m => by
  obtain ⟨q, hq, e⟩ := List.mem_map.mp m
  have := (w.cell q hq).1
  rw [e, hp] at this
  cases this
theorem Own.newE (w : Own B cs H) (hp : H p = none) (e : Same H H') (h : H' p = some o) : Own B ((p, o) :: cs) H' :=
  ⟨w.ex.trans e, fun q hq => by
    rcases List.mem_cons.mp hq with r | r
    · rw [r]; exact ⟨h, w.fresh hp⟩
    · exact ⟨e _ _ (w.cell q r).1, (w.cell q r).2⟩, List.nodup_cons.mpr ⟨w.off hp, w.nd⟩⟩
theorem Own.new (w : Own B cs H) (hp : H p = none) : Own B ((p, o) :: cs) (upd H p o) := w.newE hp (same_upd hp) upd_same
theorem Own.get (w : Own B cs H) (i : Nat) (h : cs[i]? = some (p, o)) : H p = some o := (w.cell _ (List.mem_of_getElem? h)).1
theorem Own.none (w : Own B cs H) (i : Nat) (h : cs[i]? = some (p, o)) : B p = none := (w.cell _ (List.mem_of_getElem? h)).2
theorem Own.put (w : Own B cs H) (i : Nat) (h : cs[i]? = some (p, o)) : Own B (cs.set i (p, o')) (upd H p o') := by
  have hi : i < cs.length := (List.getElem?_eq_some_iff.mp h).1
  have hm : (cs.set i (p, o')).map (·.1) = cs.map (·.1) := by
    rw [List.map_set]
    apply List.ext_getElem?
    intro j
    by_cases e : i = j
    · subst e
      rw [List.getElem?_set_self (by rw [List.length_map]; exact hi), List.getElem?_map, h] <;> rfl
    · rw [List.getElem?_set_ne e]
  refine ⟨fun b x e => ?_, fun q hq => ?_, by rw [hm]; exact w.nd⟩
  · rw [upd_ne (ne_of_none e (w.none i h))]
    exact w.ex b x e
  · obtain ⟨j, hj⟩ := List.mem_iff_getElem?.mp hq
    by_cases e : i = j
    · subst e
      rw [List.getElem?_set_self hi] at hj
      cases hj
      exact ⟨upd_same, w.none i h⟩
    · rw [List.getElem?_set_ne e] at hj
      have hq' := w.cell q (List.mem_of_getElem? hj)
      have hne : q.1 ≠ p := fun z => by
        have a1 : (cs.map (·.1))[i]? = some p := by rw [List.getElem?_map, h] <;> rfl
        have a2 : (cs.map (·.1))[j]? = some p := by rw [List.getElem?_map, hj, ← z] <;> rfl
        obtain ⟨l1, e1⟩ := List.getElem?_eq_some_iff.mp a1
        obtain ⟨l2, e2⟩ := List.getElem?_eq_some_iff.mp a2
        exact e ((List.getElem_inj w.nd).mp (e1.trans e2.symm))
      exact ⟨by rw [upd_ne hne]; exact hq'.1, hq'.2⟩
theorem Own.sub {ds : Cells} (w : Own B cs H) (h : ds.Sublist cs) : Own B ds H := ⟨w.ex, fun q hq => w.cell q (h.mem hq), (h.map (·.1)).nodup w.nd⟩
theorem Own.pop (w : Own B ((p, o) :: cs) H) : Own B cs H := w.sub (List.sublist_cons_self _ _)
theorem Own.freeze (w : Own B ((p, o) :: cs) H) : Own (upd B p o) cs H :=
  ⟨fun b x e => by
    by_cases z : b = p
    · subst z; rw [upd_same] at e; rw [← e]; exact w.get 0 rfl
    · rw [upd_ne z] at e; exact w.ex b x e,
   fun q hq => ⟨(w.cell q (List.mem_cons_of_mem _ hq)).1, by
    rw [upd_ne (fun z => ?_)]
    · exact (w.cell q (List.mem_cons_of_mem _ hq)).2
    · have := (List.nodup_cons.mp w.nd).1
      exact this (List.mem_map.mpr ⟨q, hq, z⟩)⟩, (List.nodup_cons.mp w.nd).2⟩
theorem Own.sq (w : Own B cs H) (i : Nat) (h : cs[i]? = some (p, .lst xs)) : SqL K H p xs := SqL.of (w.get i h)
theorem Own.sqT (w : Own B cs H) (i : Nat) (h : cs[i]? = some (p, .tup xs)) : SqT K H p xs := SqT.of (w.get i h)
theorem same_sqT (e : Same H H') (h : SqT K H p xs) : SqT K H' p xs := by
  rcases h with (h | ⟨u, h⟩) | h
  · exact .inl (.inl (e _ _ h))
  · exact .inl (.inr ⟨u, e _ _ h⟩)
  · exact .inr h
theorem Own.seq (w : Own B cs H) (h : SqL K B p xs) : SqL K H p xs := w.ex.seq h
theorem Own.seqT (w : Own B cs H) (h : SqT K B p xs) : SqT K H p xs := same_sqT w.ex h
end

/-! ### own rules -/
section
variable {X : Cx}
/-- a list that is read: ours, or frozen -/
abbrev RdL (H : Hp) (a : Addr) (xs : List V) : Prop := Rd H a (.lst xs)
theorem rd_list {pins : List (Addr × Obj)} {σ : L2.St} {H : Hp} {s : Shared} {p : Addr} {xs : List V} (I : Inv X pins σ H s) (h : RdL H p xs) :
    xs.length ≤ sizeLine ∧ ∃ (its : List Value) (n : Nat), Vals xs its ∧ xs.length = its.length ∧ s.heap.get? p = some { cls := .type "list", data := .seq its.toArray n } := by
  obtain ⟨z, its, n, r, e⟩ := h.ok I.hok
  exact ⟨z, its, n, r, r.length, e⟩
/-- + of lists (ours or frozen) -/
def rCatS : R2 := fun x y H Q => ∃ l b xs zs, x = .ref l ∧ y = .ref b ∧ RdL H l xs ∧ RdL H b zs ∧ xs.length + zs.length ≤ sizeLine ∧ ∀ p, H p = none → Q (.ref p) (upd H p (.lst (xs ++ zs)))
theorem op_catS : OpR X (binaryOp .Add) rCatS := by
  intro pins s σ H x y v u Q I rx ry h
  obtain ⟨l, b, xs, zs, rfl, rfl, hH, hB, hz, q⟩ := h
  cases rx
  cases ry
  obtain ⟨z, its, n, r, hl, e⟩ := rd_list I hH
  obtain ⟨z2, its2, n2, r2, hl2, e2⟩ := rd_list I hB
  refine PySem.P.add_list e e2 ?_ (by rw [List.size_toArray, List.size_toArray]; omega)
  have ea : its.toArray ++ its2.toArray = (its ++ its2).toArray := by simp
  rw [ea]
  exact ⟨.ref _, _, I.lnew (t' := s.toks) (r.append r2) (by rw [List.length_append]; omega), rfl, q _ I.fresh⟩
/-- + of ints, of lists, of texts: which one, the reading says -/
def rAddX : R2 := fun x y H Q => (rI0 (fun i j => .int (i + j))) x y H Q ∨ rCatS x y H Q ∨ (∃ i j, x = .str i ∧ y = .str j ∧ i.length + j.length ≤ sizeLine ∧ Q (.str (i ++ j)) H)
theorem op_addX : OpR X (binaryOp .Add) rAddX := op_add.or (op_catS.or op_add_str)
/-- * of ints (any that the machine multiplies); of a list and an int -/
def rMulI : R2 := rI IntMulOk fun i j => .int (i * j)
theorem op_mulI : OpR X (binaryOp .Mult) rMulI := opI fun _ _ _ _ _ _ _ hc q => mul_int q hc
def rMulX : R2 := fun x y H Q => rMulI x y H Q ∨ rRep x y H Q
theorem op_mulX : OpR X (binaryOp .Mult) rMulX := op_mulI.or op_rep
/-- // by a divisor that is not nought, below 2 ^ 9000 -/
def CDivX (_ j : Int) : Prop := j ≠ 0 ∧ j.natAbs.log2 < 9000
def rDivX : R2 := rI CDivX fun i j => .int (i.fdiv j)
theorem op_fdivX : OpR X (binaryOp .FloorDiv) rDivX := opI fun _ _ _ _ _ _ _ hc q => floordiv_int hc.1 q (.inl (PyProof.noPylong_of_log2 hc.2))
def rModX : R2 := rI (fun _ j => j ≠ 0) fun i j => .int (i.fmod j)
theorem op_modX : OpR X (binaryOp .Mod) rModX := op_modN
/-- ** and << of a small base; >> -/
def rPow : R2 := rI CPow fun i j => .int (i ^ j.toNat)
theorem op_powX : OpR X (binaryOp .Pow) rPow := op_pow
def rShl : R2 := rI CPow fun i j => .int (i * 2 ^ j.toNat)
theorem op_shlX : OpR X (binaryOp .LShift) rShl := op_shl
def rShr : R2 := rI (fun _ j => 0 ≤ j) fun i j => .int (i / 2 ^ j.toNat)
theorem op_shrX : OpR X (binaryOp .RShift) rShr := op_shr
def rSubI : R2 := rI0 fun i j => .int (i - j)
theorem op_subX : OpR X (binaryOp .Sub) rSubI := op_sub
def rAndI : R2 := rI0 fun i j => .int (Builtin.bitAnd i j)
theorem op_andX : OpR X (binaryOp .BitAnd) rAndI := op_and
def rOrI : R2 := rI0 fun i j => .int (Builtin.bitOr i j)
theorem op_orX : OpR X (binaryOp .BitOr) rOrI := op_or
def rXorI : R2 := rI0 fun i j => .int (Builtin.bitXor i j)
theorem op_xorX : OpR X (binaryOp .BitXor) rXorI := op_xor
def rLtI : R2 := rI0 fun i j => .bl (decide (i < j))
theorem op_ltX : OpR X (compareOp .Lt) rLtI := op_lt
def rLeI : R2 := rI0 fun i j => .bl (decide (i ≤ j))
theorem op_leX : OpR X (compareOp .LtE) rLeI := op_le
def rGtI : R2 := rI0 fun i j => .bl (decide (j < i))
theorem op_gtX : OpR X (compareOp .Gt) rGtI := op_gt
def rGeI : R2 := rI0 fun i j => .bl (decide (j ≤ i))
theorem op_geX : OpR X (compareOp .GtE) rGeI := op_ge
/-- == and != of plain values, of data -/
def rEqX (K : PySem.W.Frag) : R2 := fun x y H Q => rEq x y H Q ∨ rEqD K x y H Q
def rNeX (K : PySem.W.Frag) : R2 := fun x y H Q => rNe x y H Q ∨ rNeD K x y H Q
theorem op_eqX (hu : X.A.units + 64 < cLine) : OpR X (compareOp .Eq) (rEqX X.K) := op_eq.or (op_eqD hu)
theorem op_neX (hu : X.A.units + 64 < cLine) : OpR X (compareOp .NotEq) (rNeX X.K) := op_ne.or (op_neD hu)
/-- is, is not, of anything and a truth -/
def rIsX : R2 := fun x y H Q => ∃ b : Bool, y = .bl b ∧ Q (.bl (decide (x = .bl b))) H
/-- is None -/
def rIsNX : R2 := fun x y H Q => y = .non ∧ Q (.bl (decide (x = .non))) H
def rNotNX : R2 := fun x y H Q => y = .non ∧ Q (.bl (!decide (x = .non))) H
theorem op_isNX : OpR X (compareOp .Is) rIsNX := op_isN
theorem op_notNX : OpR X (compareOp .IsNot) rNotNX := op_notN
theorem op_isX : OpR X (compareOp .Is) rIsX := by
  intro pins s σ H x y v u Q I rx ry h
  obtain ⟨b, rfl, q⟩ := h
  cases (show u = Value.bool b from ry)
  cases x with
  | bl a =>
    cases (show v = Value.bool a from rx)
    by_cases e : a = b
    · subst e
      exact wpAny_is_self rfl ⟨.bl true, H, I, rfl, by simpa using q⟩
    · exact wpAny_is_other rfl (fun z => e (Value.bool.inj z)) ⟨.bl false, H, I, rfl, by simpa [e] using q⟩
  | non => cases (show v = Value.none from rx); exact wpAny_is_other rfl (fun z => nomatch z) ⟨.bl false, H, I, rfl, by simpa using q⟩
  | int i => obtain ⟨t, rfl⟩ := rx; exact wpAny_is_other rfl (fun z => nomatch z) ⟨.bl false, H, I, rfl, by simpa using q⟩
  | str i => obtain ⟨t, rfl⟩ := rx; exact wpAny_is_other rfl (fun z => nomatch z) ⟨.bl false, H, I, rfl, by simpa using q⟩
  | byt i => obtain ⟨t, rfl⟩ := rx; exact wpAny_is_other rfl (fun z => nomatch z) ⟨.bl false, H, I, rfl, by simpa using q⟩
  | flt i => obtain ⟨t, rfl⟩ := rx; exact wpAny_is_other rfl (fun z => nomatch z) ⟨.bl false, H, I, rfl, by simpa using q⟩
  | ref a => cases (show v = Value.ref a from rx); exact wpAny_is_other rfl (fun z => nomatch z) ⟨.bl false, H, I, rfl, by simpa using q⟩
  | ty a => cases (show v = Value.type a from rx); exact wpAny_is_other rfl (fun z => nomatch z) ⟨.bl false, H, I, rfl, by simpa using q⟩
/-- the place of a list's item is read, as a store by an operator reads it -/
theorem get_list : PGet X (rIxL X.K) := by
  intro pins s σ H x y v u Q I rx ry h
  obtain ⟨p, xs, i, z, rfl, rfl, hq, he, q⟩ := h
  cases rx
  obtain ⟨t, rfl⟩ := ry
  obtain ⟨its, r, pl, hz⟩ := I.list hq
  obtain ⟨j, h1, h2, h3, h4, h5⟩ := atI_get he
  obtain ⟨w, ew, rw'⟩ := r.get h2
  have hl := r.length
  have hn := line63
  have fin : EP X pins σ Q w s := ⟨z, H, I, rw', q⟩
  by_cases h0 : 0 ≤ i
  · have hj : i.toNat = j := by
      rw [seqIndex_of h0 h5] at h1
      exact Option.some.inj h1
    exact wpAny_getItem_list pl.isList h0 (by omega) (by rw [hj]; simpa using ew) fin
  · have hj : (i + (its.toArray.size : Int)).toNat = j := by
      rw [seqIndex_neg (by omega) h4] at h1
      rw [List.size_toArray, ← hl]
      exact Option.some.inj h1
    exact wpAny_getItem_list_neg pl.isList (by omega) (by rw [List.size_toArray] <;> omega) (by omega) (by rw [hj]; simpa using ew) fin
/-- len, list, sum, .. by names of ours -/
def rLen (K : PySem.W.Frag) : List V → Hp → VK → Prop := fun xs H Q => ∃ x n, xs = [x] ∧ LenV K x H n ∧ Q (.int n) H
theorem call_lenX : CallR X (.builtin "len") (rLen X.K) := call_len
def rList (K : PySem.W.Frag) : List V → Hp → VK → Prop := fun xs H Q => ∃ p ys, xs = [.ref p] ∧ (SqL K H p ys ∨ SqT K H p ys) ∧ ∀ l, H l = none → Q (.ref l) (upd H l (.lst ys))
theorem call_listX : CallR X (.type "list") (rList X.K) := call_list_of
def rAbs : List V → Hp → VK → Prop := fun xs H Q => ∃ i, xs = [.int i] ∧ Q (.int (if i < 0 then -i else i)) H
theorem call_absX : CallR X (.builtin "abs") rAbs := call_abs
def rMax2 : List V → Hp → VK → Prop := fun xs H Q => ∃ i j, xs = [.int i, .int j] ∧ Q (.int (if j > i then j else i)) H
theorem call_max2X (hc : X.calm = true) : CallR X (.builtin "max") rMax2 := call_max2 hc
def rMin2 : List V → Hp → VK → Prop := fun xs H Q => ∃ i j, xs = [.int i, .int j] ∧ Q (.int (if j < i then j else i)) H
theorem call_min2X (hc : X.calm = true) : CallR X (.builtin "min") rMin2 := call_min2 hc
def rInt1 : List V → Hp → VK → Prop := fun xs H Q => (∃ i, xs = [.int i] ∧ Q (.int i) H) ∨ ∃ k, xs = [.bl k] ∧ Q (.int (if k then 1 else 0)) H
theorem call_int1X : CallR X (.type "int") rInt1 := call_int1
end

/-! ### readings, step by step: each of these takes the head of a reading away -/
section
variable {K : PySem.W.Frag} {σ : L2.St} {H : Hp} {D : Ends} {Q : VK} {te ta tb tl th : TE} {t u : TS} {c c2 : TT} {g : TG} {i : Nat} {v x y : V} {r : R2} {QT : Bool → Hp → Prop} {QA : List V → Hp → Prop} {sp : Sp} {dvs vs : List V} {E : XK}
theorem x_seq (h : t { D with nx := u D } σ H) : tSeq t u D σ H := h
theorem x_next (h : D.nx σ H) : tNext D σ H := h
theorem x_asg (h : te σ H fun x H1 => D.nx (σ.set i (some x)) H1) : tAsg te (gName i) D σ H := h
theorem x_asgS {to ti : TE} {s : TSet} (h : te σ H fun x H1 => to σ H1 fun o H2 => ti σ H2 fun k H3 => s o k x H3 fun H4 => D.nx σ H4) : tAsg te (gSub to ti s) D σ H := h
theorem x_augS {to ti : TE} {tg : V → V → Hp → VK → Prop} {tip : TIp} {ts : TSet} (h : to σ H fun o H1 => ti σ H1 fun k H2 => tg o k H2 fun x H3 => te σ H3 fun y H4 => tip x y H4 fun z H5 => ts o k z H5 fun H6 => D.nx σ H6) : tAugS to ti te tg tip ts D σ H := h
theorem x_aug {tip : TIp} (e : σ[i]? = some (some x)) (h : te σ H fun y H1 => tip x y H1 fun z H2 => D.nx (σ.set i (some z)) H2) : tAug i te tip D σ H := ⟨x, e, h⟩
theorem x_gn {QS : L2.St → Hp → Prop} (h : QS (σ.set i (some v)) H) : gName i v σ H QS := h
theorem x_gt {n : Nat} {gs : TGs} {a : Addr} {xs : List V} {QS : L2.St → Hp → Prop} (h : SqT K H a xs) (hn : xs.length = n) (q : gs xs σ H QS) : gTup K n gs (.ref a) σ H QS := ⟨a, xs, rfl, h, hn, q⟩
theorem x_gc {gs : TGs} {r : List V} {QS : L2.St → Hp → Prop} (q : g v σ H fun σ' H' => gs r σ' H' QS) : gCons g gs (v :: r) σ H QS := ⟨v, r, rfl, q⟩
theorem x_g0 {QS : L2.St → Hp → Prop} (q : QS σ H) : gNil [] σ H QS := ⟨rfl, q⟩
theorem x_ret (h : te σ H D.rt) : tRet te D σ H := h
theorem x_retN (h : D.rt .non H) : tRetN D σ H := h
theorem x_drop (h : te σ H fun _ H1 => D.nx σ H1) : tDrop te D σ H := h
theorem x_if (h : c σ H fun b H1 => if b = true then t D σ H1 else u D σ H1) : tIfS c t u D σ H := h
theorem x_brk (h : D.bk σ H) : tBreak D σ H := h
theorem x_ct (h : D.ct σ H) : tCont D σ H := h
theorem x_var (e : σ[i]? = some (some v)) (q : Q v H) : tVar i σ H Q := ⟨v, e, q⟩
theorem x_c (q : Q v H) : tC v σ H Q := q
theorem x_op (h : ta σ H fun x H1 => tb σ H1 fun y H2 => r x y H2 Q) : tOp r ta tb σ H Q := h
theorem x_un {r : V → Hp → VK → Prop} (h : ta σ H fun x H1 => r x H1 Q) : tUn r ta σ H Q := h
theorem x_test (h : te σ H fun x H1 => ∃ k, x = .bl k ∧ QT k H1) : tTest te σ H QT := h
theorem x_B (h : te σ H fun x H1 => ∃ k, x = .bl k ∧ QT k H1) : tB te σ H QT := h
theorem x_ex {b : Bool} {P : Bool → Prop} (q : P b) : ∃ k, V.bl b = .bl k ∧ P k := ⟨b, rfl, q⟩
theorem x_and (h : c σ H fun b H1 => if b = true then c2 σ H1 QT else QT false H1) : tAnd c c2 σ H QT := h
theorem x_or (h : c σ H fun b H1 => if b = true then QT true H1 else c2 σ H1 QT) : tOr c c2 σ H QT := h
theorem x_not (h : c σ H fun b H1 => QT (!b) H1) : tNot c σ H QT := h
theorem x_andV (h : ta σ H fun x H1 => ∃ b, x = .bl b ∧ if b = true then tb σ H1 Q else Q (.bl false) H1) : tAndV ta tb σ H Q := h
theorem x_orV (h : ta σ H fun x H1 => ∃ b, x = .bl b ∧ if b = true then Q (.bl true) H1 else tb σ H1 Q) : tOrV ta tb σ H Q := h
theorem x_notV (h : ta σ H fun x H1 => ∃ b, x = .bl b ∧ Q (.bl (!b)) H1) : tNotV ta σ H Q := h
theorem x_ifE (h : c σ H fun b H1 => if b = true then ta σ H1 Q else tb σ H1 Q) : tIf c ta tb σ H Q := h
theorem x_nil (q : QA [] H) : tNil σ H QA := q
theorem x_cons {tr : TA} (h : te σ H fun v H1 => tr σ H1 fun vs H2 => QA (v :: vs) H2) : tCons te tr σ H QA := h
theorem x_call {tr : TA} (h : tr σ H fun vs H1 => sp (vs ++ dvs) H1 Q E) : tCall sp dvs E tr σ H Q := h
theorem x_cb {tr : TA} {rc : List V → Hp → VK → Prop} (h : tr σ H fun vs H1 => rc vs H1 Q) : tCB rc tr σ H Q := h
theorem x_tup {tr : TA} (h : tr σ H fun xs H1 => xs.length ≤ sizeLine ∧ ∀ p, H1 p = none → Q (.ref p) (upd H1 p (.tup xs))) : tTup tr σ H Q := h
theorem x_lst {tr : TA} (h : tr σ H fun xs H1 => xs.length ≤ sizeLine ∧ ∀ p, H1 p = none → Q (.ref p) (upd H1 p (.lst xs))) : tLst tr σ H Q := h
theorem x_for {wi : TI} (h : wi σ H fun J H1 => ∃ W : Nat → Nat → L2.St → Hp → Prop, (∃ m, W 0 m σ H1) ∧ ∀ i m σ H, W i m σ H →
  (J.stop i H ∧ D.nx σ H) ∨ (J.go i H ∧ ∃ N : L2.St → Hp → Prop, (∀ σ' H', N σ' H' → ∃ m', m' < m ∧ W (i + 1) m' σ' H') ∧ ∀ x H', J.yld i H x H' → g x σ H' fun σ2 H2 => t { D with nx := N, ct := N, bk := D.nx } σ2 H2)) : tFor wi g t D σ H := h
theorem x_iList {R : It → Hp → Prop} (h : tl σ H fun x H1 => ∃ a, x = .ref a ∧ (∃ xs, SqL K H1 a xs) ∧ R (Itl K a) H1) : iList K tl σ H R := h
theorem x_iTup {R : It → Hp → Prop} (h : tl σ H fun x H1 => ∃ a, x = .ref a ∧ (∃ xs, SqT K H1 a xs) ∧ R (Itt K a) H1) : iTup K tl σ H R := h
theorem x_iR1 {R : It → Hp → Prop} {tr : TA} (h : tr σ H fun vs H1 => ∃ j : Int, vs = [.int j] ∧ -(2 ^ 62) ≤ j ∧ j < 2 ^ 62 ∧ R (Itr 0 j.toNat) H1) : iRng1 tr σ H R := h
theorem x_iR2 {R : It → Hp → Prop} {tr : TA} (h : tr σ H fun vs H1 => ∃ i j : Int, vs = [.int i, .int j] ∧ (-(2 ^ 62) ≤ i ∧ i < 2 ^ 62 ∧ -(2 ^ 62) ≤ j ∧ j < 2 ^ 62) ∧ R (Itr i (j - i).toNat) H1) : iRng2 tr σ H R := h
theorem x_iZip {R : It → Hp → Prop} {tr : TA} (h : tr σ H fun vs H1 => ∃ a b xs ys, vs = [.ref a, .ref b] ∧ SqL K H1 a xs ∧ SqL K H1 b ys ∧ R (Itz K a b) H1) : iZip K tr σ H R := h
theorem x_iEnum {R : It → Hp → Prop} {tr : TA} (h : tr σ H fun vs H1 => ∃ a xs, vs = [.ref a] ∧ SqL K H1 a xs ∧ R (Ite K a) H1) : iEnum K tr σ H R := h
theorem x_lc {wi : TI} {tt : TT} {ws : List Nat} (h : wi σ H fun J H1 => ∀ D, H1 D = none → ∃ W : Nat → Nat → Hp → Prop, (∃ m, W 0 m (upd H1 D (.lst []))) ∧ ∀ i m H, W i m H →
  (J.stop i H ∧ Q (.ref D) H) ∨ (J.go i H ∧ ∃ Nx : Hp → Prop, (∀ H', Nx H' → ∃ m', m' < m ∧ W (i + 1) m' H') ∧ ∀ x H', J.yld i H x H' → g x (wipe σ ws) H' fun σ2 H2 => wipe σ2 ws = wipe σ ws ∧ tt σ2 H2 fun b H3 =>
    if b = true then te σ2 H3 fun y H4 => ∃ acc, H4 D = some (.lst acc) ∧ acc.length < sizeLine ∧ Nx (upd H4 D (.lst (acc ++ [y]))) else Nx H3)) : tLc wi g tt te ws σ H Q := h
theorem x_yes (h : QT true H) : tYes σ H QT := h
theorem x_sl {rs : V → Option Int → Option Int → Hp → VK → Prop} {tlo thi : TO} (h : te σ H fun x H1 => tlo σ H1 fun l H2 => thi σ H2 fun u H3 => rs x l u H3 Q) : tSl rs te tlo thi σ H Q := h
theorem x_noPart {QO : Option Int → Hp → Prop} (h : QO none H) : tNoPart σ H QO := h
theorem x_part {QO : Option Int → Hp → Prop} (h : te σ H fun x H1 => ∃ i, x = .int i ∧ QO (some i) H1) : tPart te σ H QO := h
theorem x_exI {j : Int} {P : Int → Prop} (q : P j) : ∃ k, V.int j = .int k ∧ P k := ⟨j, rfl, q⟩
theorem x_bm {T : String} {rm : V → List V → Hp → VK → Prop} {tr : TA} (h : te σ H fun x H1 => tyV K T x H1 ∧ tr σ H1 fun xs H2 => rm x xs H2 Q) : tBM K T rm te tr σ H Q := h
theorem x_bm0 {T : String} {rm : V → List V → Hp → VK → Prop} (h : te σ H fun x H1 => tyV K T x H1 ∧ rm x [] H1 Q) : tBM0 K T rm te σ H Q := h
/- operators by values -/
theorem x_I0 {G : Int → Int → V} {a b : Int} (q : Q (G a b) H) : rI0 G (.int a) (.int b) H Q := ⟨a, b, rfl, rfl, q⟩
theorem x_I {C : Int → Int → Prop} {G : Int → Int → V} {a b : Int} (hc : C a b) (q : Q (G a b) H) : rI C G (.int a) (.int b) H Q := ⟨a, b, rfl, rfl, hc, q⟩
theorem x_U {G : Int → V} {a : Int} (q : Q (G a) H) : rU G (.int a) H Q := ⟨a, rfl, q⟩
theorem x_addI {a b : Int} (q : Q (.int (a + b)) H) : rAddX (.int a) (.int b) H Q := .inl ⟨a, b, rfl, rfl, q⟩
theorem x_addL {l b : Addr} {xs zs : List V} (h1 : RdL H l xs) (h2 : RdL H b zs) (hz : xs.length + zs.length ≤ sizeLine) (q : ∀ p, H p = none → Q (.ref p) (upd H p (.lst (xs ++ zs)))) : rAddX (.ref l) (.ref b) H Q := .inr (.inl ⟨l, b, xs, zs, rfl, rfl, h1, h2, hz, q⟩)
theorem x_addS {a b : Str} (h : a.length + b.length ≤ sizeLine) (q : Q (.str (a ++ b)) H) : rAddX (.str a) (.str b) H Q := .inr (.inr ⟨a, b, rfl, rfl, h, q⟩)
theorem x_subI {a b : Int} (q : Q (.int (a - b)) H) : rSubI (.int a) (.int b) H Q := ⟨a, b, rfl, rfl, q⟩
theorem x_mulI {a b : Int} (h : IntMulOk a b) (q : Q (.int (a * b)) H) : rMulX (.int a) (.int b) H Q := .inl ⟨a, b, rfl, rfl, h, q⟩
theorem x_mulL {l : Addr} {k : Int} {xs : List V} (h1 : H l = some (.lst xs)) (h2 : -(2 ^ 63) ≤ k ∧ k < 2 ^ 63 ∧ xs.length * k.toNat ≤ sizeLine) (q : ∀ p, H p = none → Q (.ref p) (upd H p (.lst (List.replicate k.toNat xs).flatten))) : rMulX (.ref l) (.int k) H Q :=
  .inr ⟨l, k, xs, rfl, rfl, h1, h2.1, h2.2.1, h2.2.2, q⟩
theorem x_divI {a b : Int} (h : b ≠ 0 ∧ b.natAbs.log2 < 9000) (q : Q (.int (a.fdiv b)) H) : rDivX (.int a) (.int b) H Q := ⟨a, b, rfl, rfl, h, q⟩
theorem x_divP {a b : Int} (h0 : 0 < b) (h : b.natAbs.log2 < 9000) (q : Q (.int (a / b)) H) : rDivX (.int a) (.int b) H Q := ⟨a, b, rfl, rfl, ⟨by omega, h⟩, by show Q (.int (a.fdiv b)) H; rw [Int.fdiv_eq_ediv_of_nonneg a (by omega)]; exact q⟩
theorem x_modP {a b : Int} (h0 : 0 < b) (q : Q (.int (a % b)) H) : rModX (.int a) (.int b) H Q := ⟨a, b, rfl, rfl, by omega, by show Q (.int (a.fmod b)) H; rw [Int.fmod_eq_emod_of_nonneg a (by omega)]; exact q⟩
theorem x_powN {a b : Int} (h : CPow a b) (q : Q (.int (a ^ b.toNat)) H) : rPow (.int a) (.int b) H Q := ⟨a, b, rfl, rfl, h, q⟩
theorem x_shl {a b : Int} (h : CPow a b) (q : Q (.int (a * 2 ^ b.toNat)) H) : rShl (.int a) (.int b) H Q := ⟨a, b, rfl, rfl, h, q⟩
theorem x_shr {a b : Int} (h : 0 ≤ b) (q : Q (.int (a / 2 ^ b.toNat)) H) : rShr (.int a) (.int b) H Q := ⟨a, b, rfl, rfl, h, q⟩
theorem x_andI {a b : Int} (q : Q (.int (Builtin.bitAnd a b)) H) : rAndI (.int a) (.int b) H Q := ⟨a, b, rfl, rfl, q⟩
theorem x_orI {a b : Int} (q : Q (.int (Builtin.bitOr a b)) H) : rOrI (.int a) (.int b) H Q := ⟨a, b, rfl, rfl, q⟩
theorem x_xorI {a b : Int} (q : Q (.int (Builtin.bitXor a b)) H) : rXorI (.int a) (.int b) H Q := ⟨a, b, rfl, rfl, q⟩
theorem x_ltI {a b : Int} (q : Q (.bl (decide (a < b))) H) : rLtI (.int a) (.int b) H Q := ⟨a, b, rfl, rfl, q⟩
theorem x_leI {a b : Int} (q : Q (.bl (decide (a ≤ b))) H) : rLeI (.int a) (.int b) H Q := ⟨a, b, rfl, rfl, q⟩
theorem x_gtI {a b : Int} (q : Q (.bl (decide (b < a))) H) : rGtI (.int a) (.int b) H Q := ⟨a, b, rfl, rfl, q⟩
theorem x_geI {a b : Int} (q : Q (.bl (decide (b ≤ a))) H) : rGeI (.int a) (.int b) H Q := ⟨a, b, rfl, rfl, q⟩
theorem dec_int' {a b : Int} : decide (V.int a = V.int b) = decide (a = b) := by
  by_cases e : a = b
  · subst e; simp
  · rw [decide_eq_false e, decide_eq_false (fun z => e (V.int.inj z))]
theorem x_eqI {a b : Int} (q : Q (.bl (decide (a = b))) H) : rEqX K (.int a) (.int b) H Q := .inl ⟨rfl, by rw [dec_int']; exact q⟩
theorem x_neI {a b : Int} (q : Q (.bl (!decide (a = b))) H) : rNeX K (.int a) (.int b) H Q := .inl ⟨rfl, by rw [dec_int']; exact q⟩
theorem x_eqS {a b : Str} (q : Q (.bl (decide (a = b))) H) : rEqX K (.str a) (.str b) H Q := .inl ⟨rfl, by
  have e : decide (V.str a = V.str b) = decide (a = b) := by
    by_cases e : a = b
    · subst e; simp
    · rw [decide_eq_false e, decide_eq_false (fun z => e (V.str.inj z))]
  rw [e]; exact q⟩
theorem x_eqB {a b : Bool} (q : Q (.bl (decide (a = b))) H) : rEqX K (.bl a) (.bl b) H Q := .inl ⟨rfl, by
  have e : decide (V.bl a = V.bl b) = decide (a = b) := by cases a <;> cases b <;> rfl
  rw [e]; exact q⟩
theorem x_isX {b : Bool} (q : Q (.bl (decide (x = .bl b))) H) : rIsX x (.bl b) H Q := ⟨b, rfl, q⟩
theorem x_isN (q : Q (.bl (decide (x = .non))) H) : rIsNX x .non H Q := ⟨rfl, q⟩
theorem x_notN (q : Q (.bl (!decide (x = .non))) H) : rNotNX x .non H Q := ⟨rfl, q⟩
theorem x_ipI {f : Int → Int → Int} {a b : Int} (q : Q (.int (f a b)) H) : ipI f (.int a) (.int b) H Q := ⟨a, b, rfl, rfl, q⟩
/- lists by values -/
theorem x_ixL {p : Addr} {xs : List V} {i : Int} (h : SqL K H p xs) (ha : atI xs i = some v) (q : Q v H) : rIxL K (.ref p) (.int i) H Q := ⟨p, xs, i, v, rfl, rfl, h, ha, q⟩
theorem x_ixT {p : Addr} {xs : List V} {i : Int} (h : SqT K H p xs) (ha : atI xs i = some v) (q : Q v H) : rIxT K (.ref p) (.int i) H Q := ⟨p, xs, i, v, rfl, rfl, h, ha, q⟩
theorem x_ixXL {p : Addr} {xs : List V} {i : Int} (h : SqL K H p xs) (ha : atI xs i = some v) (q : Q v H) : rIx K (.ref p) (.int i) H Q := .inl ⟨p, xs, i, v, rfl, rfl, h, ha, q⟩
theorem x_ixXT {p : Addr} {xs : List V} {i : Int} (h : SqT K H p xs) (ha : atI xs i = some v) (q : Q v H) : rIx K (.ref p) (.int i) H Q := .inr (.inl ⟨p, xs, i, v, rfl, rfl, h, ha, q⟩)
theorem x_lenL {p : Addr} {xs : List V} (h : SqL K H p xs) (q : Q (.int (xs.length : Int)) H) : rLen K [.ref p] H Q := ⟨_, _, rfl, .inl ⟨xs, h, rfl⟩, q⟩
theorem x_lenT {p : Addr} {xs : List V} (h : SqT K H p xs) (q : Q (.int (xs.length : Int)) H) : rLen K [.ref p] H Q := ⟨_, _, rfl, .inr ⟨xs, h, rfl⟩, q⟩
theorem x_lenS {z : Str} (h : z.length ≤ sizeLine) (q : Q (.int (z.length : Int)) H) : rLen K [.str z] H Q := ⟨_, _, rfl, ⟨h, rfl⟩, q⟩
theorem x_list {p : Addr} {xs : List V} (h : SqL K H p xs) (q : ∀ l, H l = none → Q (.ref l) (upd H l (.lst xs))) : rList K [.ref p] H Q := ⟨p, xs, rfl, .inl h, q⟩
theorem x_append {l : Addr} {xs : List V} (h : H l = some (.lst xs)) (hz : xs.length < sizeLine) (q : Q .non (upd H l (.lst (xs ++ [y])))) : rAppend (.ref l) [y] H Q := ⟨l, xs, y, rfl, rfl, h, hz, q⟩
theorem x_setL {p : Addr} {xs : List V} {k : Int} {j : Nat} {QH : Hp → Prop} (h : H p = some (.lst xs)) (hj : ixN xs.length k = some j) (q : QH (upd H p (.lst (xs.set j v)))) : rSetL (.ref p) (.int k) v H QH := ⟨p, xs, k, j, rfl, rfl, h, hj, q⟩
theorem x_tyL {p : Addr} {xs : List V} (h : H p = some (.lst xs)) : tyV K "list" (.ref p) H := .inl ⟨rfl, _, SqL.of h⟩
theorem x_abs {j : Int} (q : Q (.int (if j < 0 then -j else j)) H) : rAbs [.int j] H Q := ⟨j, rfl, q⟩
theorem x_max2 {a b : Int} (q : Q (.int (if b > a then b else a)) H) : rMax2 [.int a, .int b] H Q := ⟨a, b, rfl, q⟩
theorem x_min2 {a b : Int} (q : Q (.int (if b < a then b else a)) H) : rMin2 [.int a, .int b] H Q := ⟨a, b, rfl, q⟩
theorem x_sum {p : Addr} {ns : List Int} (h : SqL K H p (ns.map V.int)) (q : Q (.int ns.sum) H) : rSum K [.ref p] H Q := ⟨p, ns, rfl, h, q⟩
/-- while: W falls; the turn's test is read as it stands -/
theorem x_while (W : Nat → L2.St → Hp → Prop) (m0 : Nat) (h0 : W m0 σ H) (hs : ∀ m σ H, W m σ H → c σ H fun b H1 => if b = true then ∃ N : L2.St → Hp → Prop, (∀ σ' H', N σ' H' → ∃ m', m' < m ∧ W m' σ' H') ∧ t { D with nx := N, ct := N, bk := D.nx } σ H1 else D.nx σ H1) : tWhile c t D σ H := ⟨W, ⟨m0, h0⟩, hs⟩
theorem x_N {m : Nat} {W : Nat → L2.St → Hp → Prop} {B : L2.St → Hp → Prop} (h : t { D with nx := fun σ' H' => ∃ m', m' < m ∧ W m' σ' H', ct := fun σ' H' => ∃ m', m' < m ∧ W m' σ' H', bk := B } σ H) :
    ∃ N : L2.St → Hp → Prop, (∀ σ' H', N σ' H' → ∃ m', m' < m ∧ W m' σ' H') ∧ t { D with nx := N, ct := N, bk := B } σ H := ⟨_, fun _ _ z => z, h⟩
end
/-! ### places in lists of ints -/
def gi (ns : List Int) (i : Int) : Int := ns.getD i.toNat 0
theorem at_int {ns : List Int} {i : Int} (h0 : 0 ≤ i) (h1 : i < ns.length) : atI (ns.map V.int) i = some (.int (gi ns i)) := by
  obtain ⟨n, rfl⟩ := Int.eq_ofNat_of_zero_le h0
  have hn : n < ns.length := by omega
  refine atI_nat ?_
  rw [List.getElem?_map, List.getElem?_eq_getElem hn]
  show some (V.int ns[n]) = some (V.int (ns.getD n 0))
  rw [List.getD_eq_getElem?_getD, List.getElem?_eq_getElem hn] <;> rfl
theorem ixN_int {n : Nat} {i : Int} (h0 : 0 ≤ i) (h1 : i < n) : ixN n i = some i.toNat := by
  unfold ixN
  rw [if_pos h0, if_pos h1]
theorem map_set_int {ns : List Int} {j : Nat} {z : Int} : (ns.map V.int).set j (.int z) = (ns.set j z).map V.int := (List.map_set).symm
theorem map_app_int {ns : List Int} {z : Int} : ns.map V.int ++ [.int z] = (ns ++ [z]).map V.int := by rw [List.map_append] <;> rfl
theorem mulok {a b : Int} {n m : Nat} (ha : a.natAbs < 2 ^ n) (hb : b.natAbs < 2 ^ m) (h0 : 0 < n) (h1 : 0 < m) (h : n + m ≤ 100000000) : IntMulOk a b := by
  have bb : ∀ x : Int, ∀ k, 0 < k → x.natAbs < 2 ^ k → Builtin.Int.intBits x ≤ k := fun x k hk hx => by
    have := PySem.Flt.log2_lt_of hk hx
    unfold Builtin.Int.intBits
    split <;> omega
  have h2 := bb a n h0 ha
  have h3 := bb b m h1 hb
  have e : bitsLine = 134217728 := by decide
  unfold IntMulOk
  intro z
  rw [Bool.and_eq_true] at z
  have z2 := z.2
  unfold Builtin.Int.intTooBig at z2
  have z3 := of_decide_eq_true z2
  rw [e] at z3
  omega

/-! ### things of any kind, as a caller hands them in -/
inductive Thing (H : Hp) : V → Prop
  | non : Thing H .non
  | bl (b : Bool) : Thing H (.bl b)
  | int (i : Int) : Thing H (.int i)
  | str (x : Str) : Thing H (.str x)
  | lst {a : Addr} {xs : List V} (e : Rd H a (.lst xs)) : Thing H (.ref a)
  | tup {a : Addr} {xs : List V} (e : Rd H a (.tup xs)) : Thing H (.ref a)
  | dic {a : Addr} {kvs : List (Key × V)} (e : H a = some (.dK kvs)) : Thing H (.ref a)
/-- v is a whole number from l to g -/
def inR (v : V) (l g : Int) : Prop := ∃ z, v = .int z ∧ l ≤ z ∧ z ≤ g
def isI : V → Bool
  | .int _ => true
  | _ => false
def isB : V → Bool
  | .bl _ => true
  | _ => false
theorem rd_same {H H' : Hp} {a : Addr} {u : HO} (e : Same H H') (h : Rd H a u) : Rd H' a u := by
  rcases h with h | ⟨o, h⟩
  · exact .inl (e _ _ h)
  · exact .inr ⟨o, e _ _ h⟩
theorem Thing.same {H H' : Hp} {v : V} (e : Same H H') (h : Thing H v) : Thing H' v := by
  cases h with
  | non => exact .non
  | bl b => exact .bl b
  | int i => exact .int i
  | str x => exact .str x
  | lst q => exact .lst (rd_same e q)
  | tup q => exact .tup (rd_same e q)
  | dic q => exact .dic (e _ _ q)
theorem Thing.ty {K : PySem.W.Frag} {H : Hp} {v : V} (h : Thing H v) : ∃ t : String, TyX K H v (.type t) ∧ kitB t "int" = some (isI v || isB v) ∧ kitB t "bool" = some (isB v) := by
  cases h with
  | non => exact ⟨"NoneType", .base .non, by decide +kernel, by decide +kernel⟩
  | bl b => exact ⟨"bool", .base (.bl b), by cases b <;> decide +kernel, by cases b <;> decide +kernel⟩
  | int i => exact ⟨"int", .base (.int i), by show kitB "int" "int" = some true; decide +kernel, by show kitB "int" "bool" = some false; decide +kernel⟩
  | str x => exact ⟨"str", .base (.str x), by show kitB "str" "int" = some false; decide +kernel, by show kitB "str" "bool" = some false; decide +kernel⟩
  | lst q =>
    rcases q with q | ⟨o, q⟩
    · exact ⟨"list", .base (.lst q), by show kitB "list" "int" = some false; decide +kernel, by show kitB "list" "bool" = some false; decide +kernel⟩
    · exact ⟨"list", .base (.frz q), by show kitB "list" "int" = some false; decide +kernel, by show kitB "list" "bool" = some false; decide +kernel⟩
  | tup q =>
    rcases q with q | ⟨o, q⟩
    · exact ⟨"tuple", .base (.tup q), by show kitB "tuple" "int" = some false; decide +kernel, by show kitB "tuple" "bool" = some false; decide +kernel⟩
    · exact ⟨"tuple", .fTuple q, by show kitB "tuple" "int" = some false; decide +kernel, by show kitB "tuple" "bool" = some false; decide +kernel⟩
  | dic q => exact ⟨"dict", .base (.dK q), by show kitB "dict" "int" = some false; decide +kernel, by show kitB "dict" "bool" = some false; decide +kernel⟩
section
variable {K : PySem.W.Frag} {H : Hp} {Q : VK} {v : V}
theorem x_isiInt (h : Thing H v) (q : Q (.bl (isI v || isB v)) H) : rIsi K [v, .ty "int"] H Q := by
  obtain ⟨t, h1, h2, _⟩ := h.ty (K := K)
  exact ⟨v, .ty "int", _, _, _, rfl, .ty _, h1, kit_ty h2, q⟩
theorem x_isiBool (h : Thing H v) (q : Q (.bl (isB v)) H) : rIsi K [v, .ty "bool"] H Q := by
  obtain ⟨t, h1, _, h2⟩ := h.ty (K := K)
  exact ⟨v, .ty "bool", _, _, _, rfl, .ty _, h1, kit_ty h2, q⟩
theorem x_isiListL {a : Addr} {xs : List V} (h : Rd H a (.lst xs)) (q : Q (.bl true) H) : rIsi K [.ref a, .ty "list"] H Q := by
  rcases h with h | ⟨o, h⟩
  · exact ⟨_, .ty "list", _, _, _, rfl, .ty _, .base (.lst h), kit_ty (by decide +kernel), q⟩
  · exact ⟨_, .ty "list", _, _, _, rfl, .ty _, .base (.frz h), kit_ty (by decide +kernel), q⟩
theorem x_isiTupT {a : Addr} {xs : List V} (h : Rd H a (.tup xs)) (q : Q (.bl true) H) : rIsi K [.ref a, .ty "tuple"] H Q := by
  rcases h with h | ⟨o, h⟩
  · exact ⟨_, .ty "tuple", _, _, _, rfl, .ty _, .base (.tup h), kit_ty (by decide +kernel), q⟩
  · exact ⟨_, .ty "tuple", _, _, _, rfl, .ty _, .fTuple h, kit_ty (by decide +kernel), q⟩
end
/-- what a def tells and leaves: a value; a new list -/
def RetV (v : V) (H : Hp) (Q : VK) : Prop := ∀ H', Same H H' → Q v H'
def RetL (xs : List V) (H : Hp) (Q : VK) : Prop := ∀ p H', H p = none → Same H H' → H' p = some (.lst xs) → Q (.ref p) H'
def RetT (xs : List V) (H : Hp) (Q : VK) : Prop := ∀ p H', H p = none → Same H H' → H' p = some (.tup xs) → Q (.ref p) H'
theorem RetV.go {v : V} {H H' : Hp} {Q : VK} (h : RetV v H Q) (e : Same H H') : Q v H' := h H' e
theorem RetL.go {xs : List V} {H H' : Hp} {Q : VK} (h : RetL xs H Q) {p : Addr} (w : Own H ((p, .lst xs) :: []) H') : Q (.ref p) H' := h p H' (w.none 0 rfl) w.ex (w.get 0 rfl)
theorem RetT.go {xs : List V} {H H' : Hp} {Q : VK} (h : RetT xs H Q) {p : Addr} (w : Own H ((p, .tup xs) :: []) H') : Q (.ref p) H' := h p H' (w.none 0 rfl) w.ex (w.get 0 rfl)

/-! ### comprehensions: what the list at D holds behind i turns: F i -/
def PvC (B : Hp) (cs : Cells) (D : Addr) (F : Nat → List V) (i : Nat) (H : Hp) : Prop := Own B ((D, .lst (F i)) :: cs) H
section
variable {K : PySem.W.Frag} {σ : L2.St} {B H : Hp} {cs : Cells} {Q : VK} {te : TE} {g : TG} {tt : TT} {vs : List Nat}
/-- a turn's end: the item goes behind what is there -/
theorem cp_fin {D : Addr} {F : Nat → List V} {i : Nat} {H4 : Hp} {y : V} (w : PvC B cs D F i H4) (e : F (i + 1) = F i ++ [y]) (hl : (F i).length < 1000000) :
    ∃ acc, H4 D = some (.lst acc) ∧ acc.length < sizeLine ∧ PvC B cs D F (i + 1) (upd H4 D (.lst (acc ++ [y]))) := by
  refine ⟨F i, Own.get w 0 rfl, Nat.lt_of_lt_of_le hl (by decide), ?_⟩
  have := Own.put (o' := .lst (F i ++ [y])) w 0 rfl
  rw [← e] at this
  rw [← e]
  exact this
/-- the same where the test says no -/
theorem cp_no {D : Addr} {F : Nat → List V} {i : Nat} {H4 : Hp} (w : PvC B cs D F i H4) (e : F (i + 1) = F i) : PvC B cs D F (i + 1) H4 := by
  unfold PvC at *
  rw [e]
  exact w
theorem cp_range {QD : Addr → Hp → Prop} {lo : Int} {n : Nat} (F : Nat → List V) (w : Own B cs H) (h0 : F 0 = [])
    (hs : ∀ D i H', i < n → PvC B cs D F i H' → g (.int (lo + i)) (wipe σ vs) H' fun σ2 H2 => wipe σ2 vs = wipe σ vs ∧ tt σ2 H2 fun b H3 =>
      if b = true then te σ2 H3 fun y H4 => ∃ acc, H4 D = some (.lst acc) ∧ acc.length < sizeLine ∧ PvC B cs D F (i + 1) (upd H4 D (.lst (acc ++ [y]))) else PvC B cs D F (i + 1) H3)
    (hq : ∀ D H', Own B ((D, .lst (F n)) :: cs) H' → QD D H') : ∀ D, H D = none → ∃ W : Nat → Nat → Hp → Prop, (∃ m, W 0 m (upd H D (.lst []))) ∧ ∀ i m H, W i m H →
      ((Itr lo n).stop i H ∧ QD D H) ∨ ((Itr lo n).go i H ∧ ∃ Nx : Hp → Prop, (∀ H', Nx H' → ∃ m', m' < m ∧ W (i + 1) m' H') ∧ ∀ x H', (Itr lo n).yld i H x H' → g x (wipe σ vs) H' fun σ2 H2 => wipe σ2 vs = wipe σ vs ∧ tt σ2 H2 fun b H3 =>
        if b = true then te σ2 H3 fun y H4 => ∃ acc, H4 D = some (.lst acc) ∧ acc.length < sizeLine ∧ Nx (upd H4 D (.lst (acc ++ [y]))) else Nx H3) := fun D hD =>
  lc_range (PvC B cs D F) (by unfold PvC; rw [h0]; exact w.new hD) (fun i H' hi p => hs D i H' hi p) (fun H' p => hq D H' p)
theorem cp_list {QD : Addr → Hp → Prop} {a : Addr} {xs : List V} (F : Nat → List V) (w : Own B cs H) (hx : SqL K B a xs) (h0 : F 0 = [])
    (hs : ∀ D i x H', xs[i]? = some x → PvC B cs D F i H' → g x (wipe σ vs) H' fun σ2 H2 => wipe σ2 vs = wipe σ vs ∧ tt σ2 H2 fun b H3 =>
      if b = true then te σ2 H3 fun y H4 => ∃ acc, H4 D = some (.lst acc) ∧ acc.length < sizeLine ∧ PvC B cs D F (i + 1) (upd H4 D (.lst (acc ++ [y]))) else PvC B cs D F (i + 1) H3)
    (hq : ∀ D H', Own B ((D, .lst (F xs.length)) :: cs) H' → QD D H') : ∀ D, H D = none → ∃ W : Nat → Nat → Hp → Prop, (∃ m, W 0 m (upd H D (.lst []))) ∧ ∀ i m H, W i m H →
      ((Itl K a).stop i H ∧ QD D H) ∨ ((Itl K a).go i H ∧ ∃ Nx : Hp → Prop, (∀ H', Nx H' → ∃ m', m' < m ∧ W (i + 1) m' H') ∧ ∀ x H', (Itl K a).yld i H x H' → g x (wipe σ vs) H' fun σ2 H2 => wipe σ2 vs = wipe σ vs ∧ tt σ2 H2 fun b H3 =>
        if b = true then te σ2 H3 fun y H4 => ∃ acc, H4 D = some (.lst acc) ∧ acc.length < sizeLine ∧ Nx (upd H4 D (.lst (acc ++ [y]))) else Nx H3) := fun D hD =>
  lc_list (PvC B cs D F) (by unfold PvC; rw [h0]; exact w.new hD) (fun i H' hi p => Own.seq p hx) (fun i x H' hi p => hs D i x H' hi p) (fun H' p => hq D H' p)
/-- behind the first i items of a range: their images -/
theorem range_map {α : Type} (f : Nat → α) (i : Nat) : (List.range (i + 1)).map f = (List.range i).map f ++ [f i] := by rw [List.range_succ, List.map_append] <;> rfl
end

/-! ### the rules with the written part told (a comprehension's block has its own context) -/
section
variable {X : Cx} {K : PySem.W.Frag}
theorem ix_seqK (h : X.K = K) : IxR X (rIx K) := h ▸ ix_seq
theorem get_listK (h : X.K = K) : PGet X (rIxL K) := h ▸ get_list
theorem op_eqK (h : X.K = K) (hu : X.A.units + 64 < cLine) : OpR X (compareOp .Eq) (rEqX K) := h ▸ op_eqX hu
theorem op_neK (h : X.K = K) (hu : X.A.units + 64 < cLine) : OpR X (compareOp .NotEq) (rNeX K) := h ▸ op_neX hu
theorem call_lenK (h : X.K = K) : CallR X (.builtin "len") (rLen K) := h ▸ call_lenX
theorem call_listK (h : X.K = K) : CallR X (.type "list") (rList K) := h ▸ call_listX
theorem cr_sumK (h : X.K = K) (hc : X.calm = true) : CallR X (.builtin "sum") (rSum K) := h ▸ cr_sum hc
theorem cr_anyK (h : X.K = K) (hc : X.calm = true) : CallR X (.builtin "any") (rAny K) := h ▸ cr_any hc
theorem cr_maxK (h : X.K = K) (hc : X.calm = true) : CallR X (.builtin "max") (rMax K) := h ▸ cr_max hc
theorem cr_minK (h : X.K = K) (hc : X.calm = true) : CallR X (.builtin "min") (rMin K) := h ▸ cr_min hc
theorem cr_sortedK (h : X.K = K) : CallR X (.builtin "sorted") (rSorted K) := h ▸ cr_sorted
theorem call_isiX (h : X.K = K) : CallR X (.builtin "isinstance") (rIsi K) := h ▸ call_isi
theorem call_isiTX (h : X.K = K) : CallR X (.builtin "isinstance") (rIsiT K) := h ▸ call_isiT
theorem op_in_seqK (h : X.K = K) : OpR X (compareOp .In) (rIn K false) := h ▸ op_in_seq
theorem op_notIn_seqK (h : X.K = K) : OpR X (compareOp .NotIn) (rIn K true) := h ▸ op_notIn_seq
theorem sl_listK (h : X.K = K) : SlR X (rSlL K) := h ▸ sl_list
theorem sl_tupK (h : X.K = K) : SlR X (rSlT K) := h ▸ sl_tup
theorem pi_listK (h : X.K = K) {tg l : Expr} {tl : TE} (hl : PE X l tl) : PI X tg l (iList K tl) := h ▸ pi_list hl
theorem pi_tupK (h : X.K = K) {tg l : Expr} {tl : TE} (hl : PE X l tl) : PI X tg l (iTup K tl) := h ▸ pi_tup hl
theorem pi_zipK (h : X.K = K) {e e2 : Expr} {ta : TA} {p pos tpos : Pos} {elts : List Expr} {kk : Nat} (hg : Gl X "zip") (hm : X.mg "zip" = none) (ha : PA X [e, e2] ta)
    (hs : starEach [e, e2] X.env = (false, eval e X.env) :: starEach [e2] X.env := by rfl) (hpl : (backTo pos (starEach [e2] X.env)).any (·.1) = false := by rfl) :
    PI X (.Tuple elts kk tpos) (.Call (.Name "zip" p) [e, e2] [] pos) (iZip K ta) := h ▸ pi_zip hg hm ha hs hpl
theorem pi_enumK (h : X.K = K) {e : Expr} {ta : TA} {p pos tpos : Pos} {elts : List Expr} {kk : Nat} (hg : Gl X "enumerate") (hm : X.mg "enumerate" = none) (ha : PA X [e] ta) (hs : starEach [e] X.env = [(false, eval e X.env)] := by rfl) :
    PI X (.Tuple elts kk tpos) (.Call (.Name "enumerate" p) [e] [] pos) (iEnum K ta) := h ▸ pi_enum hg hm ha hs
theorem pi_reversedK (h : X.K = K) {tg e : Expr} {ta : TA} {p pos : Pos} (hg : Gl X "reversed") (hm : X.mg "reversed" = none) (ha : PA X [e] ta) (hs : starEach [e] X.env = [(false, eval e X.env)] := by rfl) :
    PI X tg (.Call (.Name "reversed" p) [e] [] pos) (iRev K ta) := h ▸ pi_reversed hg hm ha hs
theorem pg_tupK (h : X.K = K) {pos : Pos} {es : List Expr} {k : Nat} {t : TGs} {n : Nat} (hc : X.calm = true) (hg : PGs X es t)
    (hn : (assignEach es X.env).length = n := by rfl) (hst : (assignEach es X.env).findIdx? (·.1) = none := by rfl) : PG X (.Tuple es k pos) (gTup K n t) := h ▸ pg_tup hc hg hn hst
theorem pe_bmK (h : X.K = K) {T : String} {name : Str} {id : String} {r : V → List V → Hp → VK → Prop} {o e : Expr} {es : List Expr} {to : TE} {t : TA} {apos cpos : Pos}
    (pa : PlainAttrs T) (slot : Slot T name id) (hty : typeOf (.builtin id) = pure (.type "method_descriptor")) (hm : MtR X id r) (ho : PE X o to) (ha : PA X (e :: es) t)
    (f : PE X (.Call (.Attribute o name apos) (e :: es) [] cpos) (tBM X.K T r to t)) : PE X (.Call (.Attribute o name apos) (e :: es) [] cpos) (tBM K T r to t) := h ▸ f
theorem pe_fldK (h : X.K = K) {e : Expr} {f : Str} {ta : TE} {pos : Pos} (he : PE X e ta) (hb : attributeBase e f X.env (eval e X.env) = eval e X.env) : PE X (.Attribute e f pos) (tFld K ta f) := h ▸ pe_fld he hb
end

/-! ### == of lists of ints -/
theorem dpAll_ints {K : PySem.W.Frag} {H : Hp} : ∀ ns : List Int, DpAll K H (ns.map V.int) (ns.map PyData.int)
  | [] => .nil
  | n :: r => .cons (.int n) (dpAll_ints r)
theorem dp_ints {K : PySem.W.Frag} {H : Hp} {p : Addr} {ns : List Int} (h : SqL K H p (ns.map V.int)) : Dp K H (.ref p) (.list (ns.map PyData.int)) := .lst h (dpAll_ints ns)
theorem canLay_ints : ∀ ns : List Int, PyData.canLayAll0 (ns.map PyData.int) = true
  | [] => by simp [PyData.canLayAll0]
  | n :: r => by simp [PyData.canLayAll0, PyData.canLay0, canLay_ints r]
theorem depth_ints : ∀ ns : List Int, PyData.depthAll (ns.map PyData.int) ≤ 1
  | [] => by simp [PyData.depthAll]
  | n :: r => by
    have := depth_ints r
    simp only [List.map_cons, PyData.depthAll, PyData.depth]
    omega
theorem shaped_ints (ns : List Int) : SeqAt.shaped (.list (ns.map PyData.int)) = true := by
  have := depth_ints ns
  unfold SeqAt.shaped
  rw [Bool.and_eq_true]
  refine ⟨by simp [PyData.canLay0, canLay_ints ns], decide_eq_true ?_⟩
  simp only [PyData.depth]
  omega
theorem eqvAll_ints : ∀ ns ms : List Int, PyData.eqvAll (ns.map PyData.int) (ms.map PyData.int) = decide (ns = ms)
  | [], [] => by simp [PyData.eqvAll]
  | [], m :: r => by simp [PyData.eqvAll]
  | n :: r, [] => by simp [PyData.eqvAll]
  | n :: r, m :: q => by
    simp only [List.map_cons, PyData.eqvAll, PyData.eqv, eqvAll_ints r q, List.cons.injEq]
    by_cases e : n = m
    · subst e; simp
    · simp [e]
theorem eqv_ints (ns ms : List Int) : PyData.eqv (.list (ns.map PyData.int)) (.list (ms.map PyData.int)) = decide (ns = ms) := by
  rw [PyData.eqv, eqvAll_ints]
section
variable {K : PySem.W.Frag} {H : Hp} {Q : VK} {p q : Addr} {ns ms : List Int}
theorem x_eqLI (h1 : SqL K H p (ns.map V.int)) (h2 : SqL K H q (ms.map V.int)) (k : Q (.bl (decide (ns = ms))) H) : rEqX K (.ref p) (.ref q) H Q :=
  .inr ⟨_, _, dp_ints h1, dp_ints h2, shaped_ints ns, shaped_ints ms, by rw [eqv_ints]; exact k⟩
theorem x_neLI (h1 : SqL K H p (ns.map V.int)) (h2 : SqL K H q (ms.map V.int)) (k : Q (.bl (!decide (ns = ms))) H) : rNeX K (.ref p) (.ref q) H Q :=
  .inr ⟨_, _, dp_ints h1, dp_ints h2, shaped_ints ns, shaped_ints ms, by rw [eqv_ints]; exact k⟩
end

theorem cx_none {P : Program} {w : World} {H : Hp} {s : Shared} {e : Value} {s' : Shared} (h : L2.CX P w [] H s (fun _ _ _ => False) e s') : False := by
  obtain ⟨_, _, _, _, _, _, _, _, _, _, _, _, z⟩ := h
  exact z.elim

/-! ### for over range(n), the number told plainly -/
theorem for_r0 {n : Int} {g : TG} {tb : TS} {D : Ends} {σ : L2.St} {H : Hp} (Pv : Nat → L2.St → Hp → Prop) (h0 : Pv 0 σ H)
    (hs : ∀ (i : Nat) σ H, (i : Int) < n → Pv i σ H → g (.int (i : Int)) σ H fun σ2 H2 => tb { D with nx := Pv (i + 1), ct := Pv (i + 1), bk := D.nx } σ2 H2) (hd : ∀ σ H, Pv n.toNat σ H → D.nx σ H) :
    ∃ W : Nat → Nat → L2.St → Hp → Prop, (∃ m, W 0 m σ H) ∧ ∀ i m σ H, W i m σ H →
      ((Itr 0 n.toNat).stop i H ∧ D.nx σ H) ∨ ((Itr 0 n.toNat).go i H ∧ ∃ N : L2.St → Hp → Prop, (∀ σ' H', N σ' H' → ∃ m', m' < m ∧ W (i + 1) m' σ' H') ∧ ∀ x H', (Itr 0 n.toNat).yld i H x H' → g x σ H' fun σ2 H2 => tb { D with nx := N, ct := N, bk := D.nx } σ2 H2) :=
  for_range (lo := 0) (n := n.toNat) Pv h0 (fun i σ H hi p => by rw [Int.zero_add]; exact hs i σ H (by omega) p) hd
theorem cp_r0 {QD : Addr → Hp → Prop} {B : Hp} {cs : Cells} {n : Int} {σ : L2.St} {H : Hp} {te : TE} {g : TG} {tt : TT} {vs : List Nat} (F : Nat → List V) (w : Own B cs H) (h0 : F 0 = [])
    (hs : ∀ D (i : Nat) H', (i : Int) < n → PvC B cs D F i H' → g (.int (i : Int)) (wipe σ vs) H' fun σ2 H2 => wipe σ2 vs = wipe σ vs ∧ tt σ2 H2 fun b H3 =>
      if b = true then te σ2 H3 fun y H4 => ∃ acc, H4 D = some (.lst acc) ∧ acc.length < sizeLine ∧ PvC B cs D F (i + 1) (upd H4 D (.lst (acc ++ [y]))) else PvC B cs D F (i + 1) H3)
    (hq : ∀ D H', Own B ((D, .lst (F n.toNat)) :: cs) H' → QD D H') : ∀ D, H D = none → ∃ W : Nat → Nat → Hp → Prop, (∃ m, W 0 m (upd H D (.lst []))) ∧ ∀ i m H, W i m H →
      ((Itr 0 n.toNat).stop i H ∧ QD D H) ∨ ((Itr 0 n.toNat).go i H ∧ ∃ Nx : Hp → Prop, (∀ H', Nx H' → ∃ m', m' < m ∧ W (i + 1) m' H') ∧ ∀ x H', (Itr 0 n.toNat).yld i H x H' → g x (wipe σ vs) H' fun σ2 H2 => wipe σ2 vs = wipe σ vs ∧ tt σ2 H2 fun b H3 =>
        if b = true then te σ2 H3 fun y H4 => ∃ acc, H4 D = some (.lst acc) ∧ acc.length < sizeLine ∧ Nx (upd H4 D (.lst (acc ++ [y]))) else Nx H3) :=
  cp_range (lo := 0) F w h0 (fun D i H' hi p => by rw [Int.zero_add]; exact hs D i H' (by omega) p) hq

/-! ### enumerate, zip: loops and comprehensions -/
section
variable {K : PySem.W.Frag} {a b : Addr} {xs ys : List V} {g : TG} {tb : TS} {D : Ends} {σ : L2.St} {H B : Hp} {cs : Cells} {te : TE} {tt : TT} {vs : List Nat} {Q : VK}
theorem for_enumL (Pv : Nat → L2.St → Hp → Prop) (h0 : Pv 0 σ H) (hq : ∀ i σ H, Pv i σ H → SqL K H a xs)
    (hs : ∀ (i : Nat) (x : V) (T : Addr) (σ : L2.St) (H : Hp), xs[i]? = some x → Pv i σ H → H T = none → g (.ref T) σ (upd H T (.tup [.int (i : Int), x])) fun σ2 H2 => tb { D with nx := Pv (i + 1), ct := Pv (i + 1), bk := D.nx } σ2 H2) (hd : ∀ σ H, Pv xs.length σ H → D.nx σ H) :
    ∃ W : Nat → Nat → L2.St → Hp → Prop, (∃ m, W 0 m σ H) ∧ ∀ i m σ H, W i m σ H →
      ((Ite K a).stop i H ∧ D.nx σ H) ∨ ((Ite K a).go i H ∧ ∃ N : L2.St → Hp → Prop, (∀ σ' H', N σ' H' → ∃ m', m' < m ∧ W (i + 1) m' σ' H') ∧ ∀ v H', (Ite K a).yld i H v H' → g v σ H' fun σ2 H2 => tb { D with nx := N, ct := N, bk := D.nx } σ2 H2) := by
  refine ⟨fun i m σ H => m = xs.length - i ∧ i ≤ xs.length ∧ Pv i σ H, ⟨xs.length, rfl, Nat.zero_le _, h0⟩, ?_⟩
  rintro i m σ H ⟨rfl, hi, p⟩
  have qx := hq i σ H p
  by_cases hlt : i < xs.length
  · have hx : xs[i]? = some xs[i] := List.getElem?_eq_getElem hlt
    refine .inr ⟨⟨xs, _, qx, hx⟩, Pv (i + 1), fun σ' H' p' => ⟨xs.length - (i + 1), by omega, rfl, hlt, p'⟩, fun v H' y => ?_⟩
    obtain ⟨T, x', rfl, hT, rfl, f1⟩ := y
    exact hs i x' T σ H (f1 xs qx) p hT
  · have e : i = xs.length := by omega
    subst e
    exact .inl ⟨⟨xs, qx, Nat.le_refl _⟩, hd σ H p⟩
theorem cp_enum {QD : Addr → Hp → Prop} (F : Nat → List V) (w : Own B cs H) (hx : SqL K B a xs) (h0 : F 0 = [])
    (hs : ∀ D i x T H', xs[i]? = some x → PvC B cs D F i H' → H' T = none → g (.ref T) (wipe σ vs) (upd H' T (.tup [.int ((i : Nat) : Int), x])) fun σ2 H2 => wipe σ2 vs = wipe σ vs ∧ tt σ2 H2 fun b H3 =>
      if b = true then te σ2 H3 fun y H4 => ∃ acc, H4 D = some (.lst acc) ∧ acc.length < sizeLine ∧ PvC B cs D F (i + 1) (upd H4 D (.lst (acc ++ [y]))) else PvC B cs D F (i + 1) H3)
    (hq : ∀ D H', Own B ((D, .lst (F xs.length)) :: cs) H' → QD D H') : ∀ D, H D = none → ∃ W : Nat → Nat → Hp → Prop, (∃ m, W 0 m (upd H D (.lst []))) ∧ ∀ i m H, W i m H →
      ((Ite K a).stop i H ∧ QD D H) ∨ ((Ite K a).go i H ∧ ∃ Nx : Hp → Prop, (∀ H', Nx H' → ∃ m', m' < m ∧ W (i + 1) m' H') ∧ ∀ x H', (Ite K a).yld i H x H' → g x (wipe σ vs) H' fun σ2 H2 => wipe σ2 vs = wipe σ vs ∧ tt σ2 H2 fun b H3 =>
        if b = true then te σ2 H3 fun y H4 => ∃ acc, H4 D = some (.lst acc) ∧ acc.length < sizeLine ∧ Nx (upd H4 D (.lst (acc ++ [y]))) else Nx H3) := fun D hD => by
  refine ⟨fun i m H => m = xs.length - i ∧ i ≤ xs.length ∧ PvC B cs D F i H, ⟨xs.length, rfl, Nat.zero_le _, by unfold PvC; rw [h0]; exact w.new hD⟩, ?_⟩
  rintro i m H ⟨rfl, hi, p⟩
  have qx : SqL K H a xs := Own.seq p hx
  by_cases hlt : i < xs.length
  · have hxi : xs[i]? = some xs[i] := List.getElem?_eq_getElem hlt
    refine .inr ⟨⟨xs, _, qx, hxi⟩, PvC B cs D F (i + 1), fun H' p' => ⟨xs.length - (i + 1), by omega, rfl, hlt, p'⟩, fun v H' y => ?_⟩
    obtain ⟨T, x', rfl, hT, rfl, f1⟩ := y
    exact hs D i x' T H (f1 xs qx) p hT
  · have e : i = xs.length := by omega
    subst e
    exact .inl ⟨⟨xs, qx, Nat.le_refl _⟩, hq D H p⟩
theorem cp_zip {QD : Addr → Hp → Prop} (F : Nat → List V) (w : Own B cs H) (hl : xs.length = ys.length) (hx : SqL K B a xs) (hy : SqL K B b ys) (h0 : F 0 = [])
    (hs : ∀ D i x y T H', xs[i]? = some x → ys[i]? = some y → PvC B cs D F i H' → H' T = none → g (.ref T) (wipe σ vs) (upd H' T (.tup [x, y])) fun σ2 H2 => wipe σ2 vs = wipe σ vs ∧ tt σ2 H2 fun b H3 =>
      if b = true then te σ2 H3 fun y H4 => ∃ acc, H4 D = some (.lst acc) ∧ acc.length < sizeLine ∧ PvC B cs D F (i + 1) (upd H4 D (.lst (acc ++ [y]))) else PvC B cs D F (i + 1) H3)
    (hq : ∀ D H', Own B ((D, .lst (F xs.length)) :: cs) H' → QD D H') : ∀ D, H D = none → ∃ W : Nat → Nat → Hp → Prop, (∃ m, W 0 m (upd H D (.lst []))) ∧ ∀ i m H, W i m H →
      ((Itz K a b).stop i H ∧ QD D H) ∨ ((Itz K a b).go i H ∧ ∃ Nx : Hp → Prop, (∀ H', Nx H' → ∃ m', m' < m ∧ W (i + 1) m' H') ∧ ∀ x H', (Itz K a b).yld i H x H' → g x (wipe σ vs) H' fun σ2 H2 => wipe σ2 vs = wipe σ vs ∧ tt σ2 H2 fun b H3 =>
        if b = true then te σ2 H3 fun y H4 => ∃ acc, H4 D = some (.lst acc) ∧ acc.length < sizeLine ∧ Nx (upd H4 D (.lst (acc ++ [y]))) else Nx H3) := fun D hD => by
  refine ⟨fun i m H => m = xs.length - i ∧ i ≤ xs.length ∧ PvC B cs D F i H, ⟨xs.length, rfl, Nat.zero_le _, by unfold PvC; rw [h0]; exact w.new hD⟩, ?_⟩
  rintro i m H ⟨rfl, hi, p⟩
  have qx : SqL K H a xs := Own.seq p hx
  have qy : SqL K H b ys := Own.seq p hy
  by_cases hlt : i < xs.length
  · have hxi : xs[i]? = some xs[i] := List.getElem?_eq_getElem hlt
    have hlt2 : i < ys.length := by omega
    have hyi : ys[i]? = some ys[i] := List.getElem?_eq_getElem hlt2
    refine .inr ⟨⟨xs, ys, _, _, qx, qy, hxi, hyi⟩, PvC B cs D F (i + 1), fun H' p' => ⟨xs.length - (i + 1), by omega, rfl, hlt, p'⟩, fun v H' y => ?_⟩
    obtain ⟨T, x', y', rfl, hT, rfl, f1, f2⟩ := y
    exact hs D i x' y' T H (f1 xs qx) (f2 ys qy) p hT
  · have e : i = xs.length := by omega
    subst e
    exact .inl ⟨⟨xs, ys, qx, qy, .inl (Nat.le_refl _)⟩, hq D H p⟩
end

def rStr : List V → Hp → VK → Prop := fun xs H Q => ∃ i, xs = [.int i] ∧ i.natAbs.log2 < 1920 ∧ Q (.str (toString i)) H
theorem call_strX {X : Cx} : CallR X (.type "str") rStr := call_str_int
theorem x_str {H : Hp} {Q : VK} {i : Int} (h : i.natAbs.log2 < 1920) (q : Q (.str (toString i)) H) : rStr [.int i] H Q := ⟨i, rfl, h, q⟩
theorem log2_small {n : Nat} {k : Nat} (h0 : 0 < k) (h : n < 2 ^ k) (hk : k ≤ 1920) : n.log2 < 1920 := Nat.lt_of_lt_of_le (PySem.Flt.log2_lt_of h0 h) hk
end Sp

/-! Ml: tables, bounds: plain words about lists of ints. -/
namespace Sp
open PySem L2 PyProof.Rows
def manyOf (n : Nat) : Nat := if n ≤ 2 then 1 else if n ≤ 4 then 2 else if n ≤ 8 then 3 else if n ≤ 16 then 4 else if n ≤ 32 then 5 else 6
theorem manyOf_lo (n : Nat) : 1 ≤ manyOf n ∧ manyOf n ≤ 6 := by
  unfold manyOf
  repeat' split
  all_goals omega
theorem manyOf_is {n k : Nat} (h1 : 1 ≤ k) (h6 : k ≤ 6) (hlo : k = 1 ∨ 2 ^ (k - 1) < n) (hhi : k = 6 ∨ n ≤ 2 ^ k) : manyOf n = k := by
  unfold manyOf
  have h : k = 1 ∨ k = 2 ∨ k = 3 ∨ k = 4 ∨ k = 5 ∨ k = 6 := by omega
  rcases h with rfl | rfl | rfl | rfl | rfl | rfl <;> simp only [Nat.reducePow, Nat.reduceSub] at hlo hhi <;> repeat' split
  all_goals omega
def lookM (xs : List V) : Option Int := if xs.length = 2 ^ manyOf xs.length ∧ xs.all isI = true ∧ xs[0]? = some (.int 0) then some (manyOf xs.length : Nat) else none
/-- a table of k hands -/
structure Tab (ns : List Int) (k : Nat) : Prop where
  len : ns.length = 2 ^ k
  lo : 1 ≤ k
  hi : k ≤ 6
  zero : ns[0]? = some 0
theorem Tab.look {ns : List Int} {k : Nat} (h : Tab ns k) : lookM (ns.map V.int) = some (k : Int) := by
  have e : manyOf (ns.map V.int).length = k := by
    rw [List.length_map, h.len]
    exact manyOf_is h.lo h.hi (by
      have := h.lo
      by_cases e : k = 1
      · exact .inl e
      · refine .inr (Nat.pow_lt_pow_right (by decide) (by omega))) (.inr (Nat.le_refl _))
  unfold lookM
  rw [e, if_pos]
  refine ⟨by rw [List.length_map]; exact h.len, ?_, ?_⟩
  · rw [List.all_map]; exact List.all_eq_true.mpr fun _ _ => rfl
  · rw [List.getElem?_map, h.zero] <;> rfl
theorem things_int {H : Hp} {ns : List Int} : ∀ v ∈ ns.map V.int, Thing H v := fun v hv => by
  obtain ⟨z, _, rfl⟩ := List.mem_map.mp hv
  exact .int z
theorem look_tab {xs : List V} {n : Int} (h : lookM xs = some n) : ∃ ns k, Tab ns k ∧ xs = ns.map V.int ∧ n = (k : Nat) := by
  unfold lookM at h
  by_cases c : xs.length = 2 ^ manyOf xs.length ∧ xs.all isI = true ∧ xs[0]? = some (.int 0)
  · rw [if_pos c] at h
    obtain ⟨c1, c2, c3⟩ := c
    have hm := manyOf_lo xs.length
    have all : ∀ ys : List V, ys.all isI = true → ∃ ns : List Int, ys = ns.map V.int := by
      intro ys
      induction ys with
      | nil => intro _; exact ⟨[], rfl⟩
      | cons y r ih =>
        intro e
        rw [List.all_cons, Bool.and_eq_true] at e
        obtain ⟨ns, rfl⟩ := ih e.2
        cases y with
        | int z => exact ⟨z :: ns, rfl⟩
        | _ => exact absurd e.1 Bool.false_ne_true
    obtain ⟨ns, rfl⟩ := all xs c2
    refine ⟨ns, manyOf (ns.map V.int).length, ⟨by rw [List.length_map] at c1; rw [List.length_map]; exact c1, hm.1, hm.2, ?_⟩, rfl, (Option.some.inj h).symm⟩
    rw [List.getElem?_map] at c3
    cases e : ns[0]? with
    | none => rw [e] at c3; cases c3
    | some z => rw [e] at c3; exact congrArg some (V.int.inj (Option.some.inj c3))
  · rw [if_neg c] at h; cases h
/-- a number of these laws' tables -/
def Small (z : Int) : Prop := -1000000000000000000 ≤ z ∧ z ≤ 1000000000000000000
/-- bounds of a table's numbers -/
def Bnd (b : Int) (ns : List Int) : Prop := ∀ z ∈ ns, -b ≤ z ∧ z ≤ b
theorem Bnd.app {b : Int} {ns : List Int} {z : Int} (h : Bnd b ns) (h1 : -b ≤ z) (h2 : z ≤ b) : Bnd b (ns ++ [z]) := fun y hy => by
  rcases List.mem_append.mp hy with m | m
  · exact h y m
  · rw [List.mem_singleton.mp m]; exact ⟨h1, h2⟩
theorem Bnd.set {b : Int} {ns : List Int} {j : Nat} {z : Int} (h : Bnd b ns) (h1 : -b ≤ z) (h2 : z ≤ b) : Bnd b (ns.set j z) := fun y hy => by
  rcases List.mem_or_eq_of_mem_set hy with m | rfl
  · exact h y m
  · exact ⟨h1, h2⟩
theorem Bnd.mono {b c : Int} {ns : List Int} (h : Bnd b ns) (hbc : b ≤ c) : Bnd c ns := fun y hy => by
  have := h y hy
  exact ⟨by omega, by omega⟩
theorem Bnd.at {b : Int} {ns : List Int} (hb : 0 ≤ b) (h : Bnd b ns) (i : Int) : -b ≤ gi ns i ∧ gi ns i ≤ b := by
  unfold gi
  rw [List.getD_eq_getElem?_getD]
  cases e : ns[i.toNat]? with
  | none => exact ⟨by show -b ≤ 0; omega, by show (0 : Int) ≤ b; omega⟩
  | some z => exact h z (List.mem_of_getElem? e)
theorem pow_toNat {k : Nat} {i : Int} (h : i = (k : Int)) : (1 : Int) * 2 ^ i.toNat = ((2 ^ k : Nat) : Int) := by
  rw [h, Int.one_mul, Int.toNat_natCast, Int.natCast_pow] <;> rfl
/-- the table turned about -/
def turnM (ns : List Int) : List Int := (List.range ns.length).map fun g : Nat => gi ns ((ns.length : Int) - 1) - gi ns ((ns.length : Int) - 1 - (g : Int))
theorem turnM_len (ns : List Int) : (turnM ns).length = ns.length := by unfold turnM; rw [List.length_map, List.length_range]
theorem gi_map_range {n : Nat} {f : Nat → Int} {i : Int} (h0 : 0 ≤ i) (h : i < n) : gi ((List.range n).map f) i = f i.toNat := by
  unfold gi
  rw [List.getD_eq_getElem?_getD, List.getElem?_map, List.getElem?_range (by omega)] <;> rfl
theorem turnM_at {ns : List Int} {i : Int} (h0 : 0 ≤ i) (h : i < ns.length) : gi (turnM ns) i = gi ns ((ns.length : Int) - 1) - gi ns ((ns.length : Int) - 1 - i) := by
  unfold turnM
  rw [gi_map_range h0 h, Int.toNat_of_nonneg h0]
theorem gi_ext {ns ms : List Int} (hl : ns.length = ms.length) (h : ∀ i : Int, 0 ≤ i → i < ns.length → gi ns i = gi ms i) : ns = ms := by
  apply List.ext_getElem hl
  intro i h1 h2
  have := h (i : Int) (by omega) (by omega)
  unfold gi at this
  rw [Int.toNat_natCast, List.getD_eq_getElem?_getD, List.getD_eq_getElem?_getD, List.getElem?_eq_getElem h1, List.getElem?_eq_getElem h2] at this
  exact this
theorem Tab.pos {ns : List Int} {k : Nat} (h : Tab ns k) : 2 ≤ ns.length ∧ ns.length ≤ 64 := by
  rw [h.len]
  exact ⟨Nat.pow_le_pow_right (n := 2) (by decide) h.lo, Nat.pow_le_pow_right (n := 2) (by decide) h.hi⟩
theorem Tab.gi0 {ns : List Int} {k : Nat} (h : Tab ns k) : gi ns 0 = 0 := by
  unfold gi
  rw [List.getD_eq_getElem?_getD, show (0 : Int).toNat = 0 from rfl, h.zero] <;> rfl
theorem gi_zero {ns : List Int} (h : 0 < ns.length) (e : gi ns 0 = 0) : ns[0]? = some 0 := by
  unfold gi at e
  rw [List.getD_eq_getElem?_getD, show (0 : Int).toNat = 0 from rfl, List.getElem?_eq_getElem h] at e
  rw [List.getElem?_eq_getElem h]
  exact congrArg some e
theorem Tab.turn {ns : List Int} {k : Nat} (h : Tab ns k) : Tab (turnM ns) k := by
  have hp := h.pos
  refine ⟨by rw [turnM_len]; exact h.len, h.lo, h.hi, gi_zero (by rw [turnM_len]; omega) ?_⟩
  rw [turnM_at (by decide) (by omega)]
  simp
theorem turnM_turnM {ns : List Int} {k : Nat} (h : Tab ns k) : turnM (turnM ns) = ns := by
  have hp := h.pos
  refine gi_ext (by rw [turnM_len, turnM_len]) fun i h0 h1 => ?_
  rw [turnM_len, turnM_len] at h1
  rw [turnM_at h0 (by rw [turnM_len]; exact h1), turnM_len, turnM_at (by omega) (by omega), turnM_at (by omega) (by omega)]
  have e1 : (ns.length : Int) - 1 - ((ns.length : Int) - 1) = 0 := by omega
  have e2 : (ns.length : Int) - 1 - ((ns.length : Int) - 1 - i) = i := by omega
  rw [e1, e2, h.gi0]
  omega
theorem Tab.set {ns : List Int} {k : Nat} (h : Tab ns k) {j : Nat} {z : Int} (hj : 0 < j) : Tab (ns.set j z) k :=
  ⟨by rw [List.length_set]; exact h.len, h.lo, h.hi, by rw [List.getElem?_set_ne (by omega)]; exact h.zero⟩
theorem map_int_inj {ns ms : List Int} (h : ns.map V.int = ms.map V.int) : ns = ms := (List.map_inj_right (f := V.int) fun _ _ => V.int.inj).mp h
theorem Tab.same {ns : List Int} {j k : Nat} (h : Tab ns j) (h' : Tab ns k) : j = k := by
  have e : 2 ^ j = 2 ^ k := h.len.symm.trans h'.len
  rcases Nat.lt_trichotomy j k with l | l | l
  · have := Nat.pow_lt_pow_right (a := 2) (by decide) l; omega
  · exact l
  · have := Nat.pow_lt_pow_right (a := 2) (by decide) l; omega
end Sp

/-! Sub: groups as numbers below 64, their parts, sums over parts, dividends. -/
namespace Sp
open PySem L2 PyProof.Rows
/-- hand h stands in group g -/
def bitOn (h g : Nat) : Bool := (g &&& 2 ^ h) != 0
theorem bit_facts : ∀ h, h < 6 → ∀ g, g < 64 → (bitOn h g = true → g ^^^ 2 ^ h < g ∧ bitOn h (g ^^^ 2 ^ h) = false) ∧ (∀ j, j < 6 → j ≠ h → bitOn j (g ^^^ 2 ^ h) = bitOn j g) := by decide +kernel
def stepD (h : Nat) (f : Nat → Int) : Nat → Int := fun g => if bitOn h g = true then f g - f (g ^^^ 2 ^ h) else f g
def stepE (h : Nat) (f : Nat → Int) : Nat → Int := fun g => if bitOn h g = true then f g + f (g ^^^ 2 ^ h) else f g
def allD : Nat → (Nat → Int) → Nat → Int
  | 0, f => f
  | k + 1, f => stepD k (allD k f)
def allE : Nat → (Nat → Int) → Nat → Int
  | 0, f => f
  | k + 1, f => stepE k (allE k f)
def On64 (f f' : Nat → Int) : Prop := ∀ g, g < 64 → f g = f' g
theorem On64.trans {f f' f'' : Nat → Int} (a : On64 f f') (b : On64 f' f'') : On64 f f'' := fun g h => (a g h).trans (b g h)
theorem On64.symm {f f' : Nat → Int} (a : On64 f f') : On64 f' f := fun g h => (a g h).symm
theorem stepD_on {h : Nat} (hh : h < 6) {f f' : Nat → Int} (e : On64 f f') : On64 (stepD h f) (stepD h f') := fun g hg => by
  unfold stepD
  by_cases c : bitOn h g = true
  · have := ((bit_facts h hh g hg).1 c).1
    rw [if_pos c, if_pos c, e g hg, e _ (by omega)]
  · rw [if_neg c, if_neg c, e g hg]
theorem stepE_on {h : Nat} (hh : h < 6) {f f' : Nat → Int} (e : On64 f f') : On64 (stepE h f) (stepE h f') := fun g hg => by
  unfold stepE
  by_cases c : bitOn h g = true
  · have := ((bit_facts h hh g hg).1 c).1
    rw [if_pos c, if_pos c, e g hg, e _ (by omega)]
  · rw [if_neg c, if_neg c, e g hg]
theorem stepED {h : Nat} (hh : h < 6) (f : Nat → Int) : On64 (stepE h (stepD h f)) f := fun g hg => by
  unfold stepE
  by_cases c : bitOn h g = true
  · have b := (bit_facts h hh g hg).1 c
    rw [if_pos c]
    unfold stepD
    rw [if_pos c, if_neg (by rw [b.2]; exact Bool.false_ne_true)]
    omega
  · rw [if_neg c]; unfold stepD; rw [if_neg c]
theorem stepDE {h : Nat} (hh : h < 6) (f : Nat → Int) : On64 (stepD h (stepE h f)) f := fun g hg => by
  unfold stepD
  by_cases c : bitOn h g = true
  · have b := (bit_facts h hh g hg).1 c
    rw [if_pos c]
    unfold stepE
    rw [if_pos c, if_neg (by rw [b.2]; exact Bool.false_ne_true)]
    omega
  · rw [if_neg c]; unfold stepE; rw [if_neg c]
theorem xor_swap (g a b : Nat) : (g ^^^ a) ^^^ b = (g ^^^ b) ^^^ a := by rw [Nat.xor_assoc, Nat.xor_comm a b, ← Nat.xor_assoc]
theorem step_comm {h j : Nat} (hh : h < 6) (hj : j < 6) (hne : j ≠ h) (f : Nat → Int) : On64 (stepE h (stepD j f)) (stepD j (stepE h f)) := fun g hg => by
  have bh := bit_facts h hh g hg
  have bj := bit_facts j hj g hg
  have e1 : bitOn j (g ^^^ 2 ^ h) = bitOn j g := bh.2 j hj hne
  have e2 : bitOn h (g ^^^ 2 ^ j) = bitOn h g := bj.2 h hh (Ne.symm hne)
  unfold stepE stepD
  simp only [e1, e2, xor_swap g (2 ^ j) (2 ^ h)]
  by_cases c : bitOn h g = true <;> by_cases d : bitOn j g = true <;> simp [c, d] <;> omega
theorem allE_comm {j : Nat} (hj : j < 6) (f : Nat → Int) : ∀ k, k ≤ j → On64 (allE k (stepD j f)) (stepD j (allE k f))
  | 0, _ => fun _ _ => rfl
  | k + 1, hk => by
    have ih := allE_comm hj f k (by omega)
    exact (stepE_on (by omega) ih).trans (step_comm (by omega) hj (by omega) (allE k f))
theorem allED (f : Nat → Int) : ∀ k, k ≤ 6 → On64 (allE k (allD k f)) f
  | 0, _ => fun _ _ => rfl
  | k + 1, hk => by
    have ih := allED f k (by omega)
    have c := allE_comm (j := k) (by omega) (allD k f) k (Nat.le_refl k)
    have a : On64 (allE (k + 1) (allD (k + 1) f)) (stepE k (stepD k (allE k (allD k f)))) := stepE_on (by omega) c
    exact (a.trans (stepED (by omega) _)).trans ih
theorem allD_comm {j : Nat} (hj : j < 6) (f : Nat → Int) : ∀ k, k ≤ j → On64 (allD k (stepE j f)) (stepE j (allD k f))
  | 0, _ => fun _ _ => rfl
  | k + 1, hk => by
    have ih := allD_comm hj f k (by omega)
    exact (stepD_on (by omega) ih).trans (step_comm hj (by omega) (by omega) (allD k f)).symm
theorem allDE (f : Nat → Int) : ∀ k, k ≤ 6 → On64 (allD k (allE k f)) f
  | 0, _ => fun _ _ => rfl
  | k + 1, hk => by
    have ih := allDE f k (by omega)
    have c := allD_comm (j := k) (by omega) (allE k f) k (Nat.le_refl k)
    have a : On64 (allD (k + 1) (allE (k + 1) f)) (stepD k (stepE k (allD k (allE k f)))) := stepD_on (by omega) c
    exact (a.trans (stepDE (by omega) _)).trans ih
/-! ### parts of a group, rising -/
def subs (g : Nat) : List Nat := (List.range 64).filter fun q => (q &&& g) == q
def partSum (f : Nat → Int) (g : Nat) : Int := ((subs g).map f).sum
def el : Nat → Nat → List Nat
  | 0, g => [g]
  | k + 1, g => if bitOn k g = true then el k (g ^^^ 2 ^ k) ++ el k g else el k g
theorem el_subs : ∀ k, k < 7 → ∀ g, g < 2 ^ k → el k g = subs g := by decide +kernel
theorem sum_app (a b : List Int) : (a ++ b).sum = a.sum + b.sum := List.sum_append
theorem allE_el (f : Nat → Int) : ∀ k g, allE k f g = ((el k g).map f).sum
  | 0, g => by show f g = ([g].map f).sum; simp
  | k + 1, g => by
    show stepE k (allE k f) g = _
    unfold stepE el
    by_cases c : bitOn k g = true
    · rw [if_pos c, if_pos c, List.map_append, sum_app, allE_el f k g, allE_el f k _]
      omega
    · rw [if_neg c, if_neg c, allE_el f k g]
theorem allE_sum (f : Nat → Int) {k g : Nat} (hk : k ≤ 6) (hg : g < 2 ^ k) : allE k f g = partSum f g := by
  rw [allE_el, el_subs k (by omega) g hg]
  rfl
/-- the parts but nobody, up to p -/
def someSubs (g p : Nat) : List Nat := (List.range (p + 1)).filter fun q => (q &&& g) == q && decide (0 < q)
theorem someSubs_step : ∀ g, g < 64 → ∀ p, p < 64 → (0 < p ∧ p &&& g = p) → someSubs g p = someSubs g ((p - 1) &&& g) ++ [p] ∧ (p - 1) &&& g < p ∧ ((p - 1) &&& g) &&& g = (p - 1) &&& g := by decide +kernel
theorem someSubs_all : ∀ g, g < 64 → subs g = 0 :: someSubs g g := by decide +kernel
theorem someSubs_zero (g : Nat) : someSubs g 0 = [] := by
  unfold someSubs
  rw [show List.range (0 + 1) = [0] from rfl]
  simp
def someSum (f : Nat → Int) (g p : Nat) : Int := ((someSubs g p).map f).sum
theorem someSum_step (f : Nat → Int) {g p : Nat} (hg : g < 64) (hp : p < 64) (h0 : 0 < p) (hs : p &&& g = p) : someSum f g p = someSum f g ((p - 1) &&& g) + f p := by
  unfold someSum
  rw [(someSubs_step g hg p hp ⟨h0, hs⟩).1, List.map_append, sum_app]
  simp
theorem partSum_some (f : Nat → Int) {g : Nat} (hg : g < 64) : partSum f g = f 0 + someSum f g g := by
  unfold partSum someSum
  rw [someSubs_all g hg, List.map_cons, List.sum_cons]
/-! ### lists by their places -/
/-- the list of f's values at 0 .. n - 1 -/
def tl (n : Nat) (f : Nat → Int) : List Int := (List.range n).map f
def fn (ns : List Int) : Nat → Int := fun g => gi ns (g : Int)
theorem tl_len (n : Nat) (f : Nat → Int) : (tl n f).length = n := by unfold tl; rw [List.length_map, List.length_range]
theorem gi_tl {n : Nat} {f : Nat → Int} {i : Int} (h0 : 0 ≤ i) (h : i < n) : gi (tl n f) i = f i.toNat := gi_map_range h0 h
theorem gi_tln {n : Nat} {f : Nat → Int} {i : Nat} (h : i < n) : gi (tl n f) (i : Int) = f i := by rw [gi_tl (by omega) (by omega), Int.toNat_natCast]
theorem tl_fn (ns : List Int) : tl ns.length (fn ns) = ns := by
  refine gi_ext (tl_len _ _) fun i h0 h1 => ?_
  rw [tl_len] at h1
  rw [gi_tl h0 h1]
  unfold fn
  rw [Int.toNat_of_nonneg h0]
theorem tl_congr {n : Nat} {f f' : Nat → Int} (h : ∀ i, i < n → f i = f' i) : tl n f = tl n f' := by
  unfold tl
  exact List.map_congr_left fun i hi => h i (List.mem_range.mp hi)
theorem tl_set {n : Nat} {f : Nat → Int} {j : Nat} {z : Int} (hj : j < n) : (tl n f).set j z = tl n fun i => if i = j then z else f i := by
  apply List.ext_getElem?
  intro i
  unfold tl
  by_cases e : j = i
  · subst e
    rw [List.getElem?_set_self (by rw [List.length_map, List.length_range]; exact hj), List.getElem?_map, List.getElem?_range hj]
    simp
  · rw [List.getElem?_set_ne e, List.getElem?_map, List.getElem?_map]
    cases h : (List.range n)[i]? with
    | none => rfl
    | some x =>
      have : x = i := by
        have hi := (List.getElem?_eq_some_iff.mp h).1
        rw [List.length_range] at hi
        rw [List.getElem?_range hi] at h
        exact (Option.some.inj h).symm
      subst this
      simp [Ne.symm e]
/-! ### bits of Python's ints -/
theorem and_nat (a b : Nat) : Builtin.bitAnd (a : Int) (b : Int) = ((a &&& b : Nat) : Int) := by rw [bitAnd_pp (by omega) (by omega), Int.toNat_natCast, Int.toNat_natCast]
theorem or_nat (a b : Nat) : Builtin.bitOr (a : Int) (b : Int) = ((a ||| b : Nat) : Int) := by rw [Bits.bitOr_pp (by omega) (by omega), Int.toNat_natCast, Int.toNat_natCast]
theorem xor_nat (a b : Nat) : Builtin.bitXor (a : Int) (b : Int) = ((a ^^^ b : Nat) : Int) := by rw [Bits.bitXor_pp (by omega) (by omega), Int.toNat_natCast, Int.toNat_natCast]
theorem shl_nat (h : Nat) : (1 : Int) * 2 ^ ((h : Int)).toNat = ((2 ^ h : Nat) : Int) := pow_toNat rfl
theorem bitOn_iff {h g : Nat} : (!decide (((g &&& 2 ^ h : Nat) : Int) = 0)) = bitOn h g := by
  unfold bitOn
  by_cases e : g &&& 2 ^ h = 0
  · rw [e]; rfl
  · rw [decide_eq_false (by omega), bne_iff_ne.mpr e] <;> rfl
/-- below 2 ^ k only the values below 2 ^ k are asked -/
theorem bit_cut : ∀ k, k < 7 → ∀ h, h < k → ∀ g, g < 2 ^ k → bitOn h g = true → g ^^^ 2 ^ h < 2 ^ k := by decide +kernel
theorem allE_cut' {k : Nat} (hk : k ≤ 6) {f f' : Nat → Int} (e : ∀ i, i < 2 ^ k → f i = f' i) : ∀ j, j ≤ k → ∀ g, g < 2 ^ k → allE j f g = allE j f' g
  | 0, _, g, hg => e g hg
  | j + 1, hj, g, hg => by
    show stepE j (allE j f) g = stepE j (allE j f') g
    unfold stepE
    by_cases c : bitOn j g = true
    · rw [if_pos c, if_pos c, allE_cut' hk e j (by omega) g hg, allE_cut' hk e j (by omega) _ (bit_cut k (by omega) j (by omega) g hg c)]
    · rw [if_neg c, if_neg c, allE_cut' hk e j (by omega) g hg]
theorem allE_cut {k : Nat} (hk : k ≤ 6) {f f' : Nat → Int} (e : ∀ i, i < 2 ^ k → f i = f' i) {g : Nat} (hg : g < 2 ^ k) : allE k f g = allE k f' g := allE_cut' hk e k (Nat.le_refl k) g hg
theorem allD_cut' {k : Nat} (hk : k ≤ 6) {f f' : Nat → Int} (e : ∀ i, i < 2 ^ k → f i = f' i) : ∀ j, j ≤ k → ∀ g, g < 2 ^ k → allD j f g = allD j f' g
  | 0, _, g, hg => e g hg
  | j + 1, hj, g, hg => by
    show stepD j (allD j f) g = stepD j (allD j f') g
    unfold stepD
    by_cases c : bitOn j g = true
    · rw [if_pos c, if_pos c, allD_cut' hk e j (by omega) g hg, allD_cut' hk e j (by omega) _ (bit_cut k (by omega) j (by omega) g hg c)]
    · rw [if_neg c, if_neg c, allD_cut' hk e j (by omega) g hg]
theorem allD_cut {k : Nat} (hk : k ≤ 6) {f f' : Nat → Int} (e : ∀ i, i < 2 ^ k → f i = f' i) {g : Nat} (hg : g < 2 ^ k) : allD k f g = allD k f' g := allD_cut' hk e k (Nat.le_refl k) g hg
/-! ### hands of a group -/
theorem bitOn_div : ∀ h, h < 6 → ∀ g, g < 64 → bitOn h g = decide (g / 2 ^ h % 2 = 1) := by decide +kernel
theorem bit_int {h g : Nat} (hh : h < 6) (hg : g < 64) : decide (Builtin.bitAnd ((g : Int) / 2 ^ ((h : Int)).toNat) 1 = 1) = bitOn h g := by
  rw [bitOn_div h hh g hg, bitAnd_m1, Int.toNat_natCast]
  have e : (g : Int) / 2 ^ h % 2 = ((g / 2 ^ h % 2 : Nat) : Int) := by
    rw [Int.natCast_emod, Int.natCast_ediv, Int.natCast_pow] <;> rfl
  rw [e]
  by_cases c : g / 2 ^ h % 2 = 1
  · rw [c]; rfl
  · rw [decide_eq_false c, decide_eq_false (by omega)]
def handsM (g : Nat) : List Nat := (List.range 6).filter fun h => bitOn h g
theorem filter_yes {p : Nat → Bool} {n : Nat} (h : p n = true) {α : Type} (f : Nat → α) : ((List.range (n + 1)).filter p).map f = ((List.range n).filter p).map f ++ [f n] := by
  rw [List.range_succ, List.filter_append, List.map_append, List.filter_cons, if_pos h] <;> rfl
theorem filter_no {p : Nat → Bool} {n : Nat} (h : p n = false) {α : Type} (f : Nat → α) : ((List.range (n + 1)).filter p).map f = ((List.range n).filter p).map f := by
  rw [List.range_succ, List.filter_append, List.map_append, List.filter_cons, if_neg (by rw [h]; exact Bool.false_ne_true)]
  show _ ++ [] = _
  rw [List.append_nil]
theorem filter_len (p : Nat → Bool) (n : Nat) : ((List.range n).filter p).length ≤ n := by
  have := List.length_filter_le p (List.range n)
  rw [List.length_range] at this
  exact this
/-- a list of naturals as Python's ints -/
abbrev vnat : Nat → V := fun n => .int (n : Int)
theorem vnat_map (l : List Nat) : l.map vnat = (l.map fun n : Nat => (n : Int)).map V.int := by rw [List.map_map] <;> rfl
theorem handsM_lt {g h : Nat} (hm : h ∈ handsM g) : h < 6 := by
  unfold handsM at hm
  exact List.mem_range.mp (List.mem_filter.mp hm).1
/-! ### spread: the hands of a group of blocks -/
def spreadTo (g : Nat) (bs : List Nat) : Nat → Nat
  | 0 => 0
  | i + 1 => if bitOn i g = true then spreadTo g bs i ||| bs.getD i 0 else spreadTo g bs i
def spreadM (g : Nat) (bs : List Nat) : Nat := spreadTo g bs bs.length
theorem spreadTo_step {g : Nat} {bs : List Nat} {i z : Nat} (h : bs[i]? = some z) : spreadTo g bs (i + 1) = if bitOn i g = true then spreadTo g bs i ||| z else spreadTo g bs i := by
  show (if bitOn i g = true then spreadTo g bs i ||| bs.getD i 0 else spreadTo g bs i) = _
  rw [List.getD_eq_getElem?_getD, h] <;> rfl
theorem map_at {α : Type} {f : α → V} {l : List α} {i : Nat} {x : V} (h : (l.map f)[i]? = some x) : ∃ z, l[i]? = some z ∧ x = f z := by
  rw [List.getElem?_map] at h
  cases e : l[i]? with
  | none => rw [e] at h; cases h
  | some z => rw [e] at h; exact ⟨z, rfl, (Option.some.inj h).symm⟩
theorem take_map {α β : Type} {l : List α} {i : Nat} {z : α} (h : l[i]? = some z) (f : α → β) : (l.take (i + 1)).map f = (l.take i).map f ++ [f z] := by
  rw [List.take_add_one, h, List.map_append] <;> rfl
theorem handsM_len (g : Nat) : (handsM g).length ≤ 6 := filter_len _ 6
theorem pow6 {n : Nat} (h : n ≤ 6) : 2 ^ n ≤ 64 := Nat.pow_le_pow_right (n := 2) (by decide) h
/-- the table cut to g -/
def cutM (ns : List Int) (g : Nat) : List Int := (List.range (2 ^ (handsM g).length)).map fun q => gi ns ((spreadM q ((handsM g).map (2 ^ ·)) : Nat) : Int)
theorem spread_le : ∀ {g : Nat}, g < 64 → ∀ q, q < 2 ^ (handsM g).length → spreadM q ((handsM g).map (2 ^ ·)) ≤ g := by decide +kernel
theorem at_mem {xs : List V} {i : Int} (h0 : 0 ≤ i) (h1 : i < xs.length) : ∃ v, atI xs i = some v ∧ v ∈ xs := by
  obtain ⟨n, rfl⟩ := Int.eq_ofNat_of_zero_le h0
  have hn : n < xs.length := by omega
  exact ⟨xs[n], atI_nat (List.getElem?_eq_getElem hn), List.getElem_mem hn⟩
theorem ixN_last {n : Nat} (h : 0 < n) : ixN n (-1) = some (n - 1) := by
  unfold ixN
  rw [if_neg (by decide), if_pos (by omega)]
  congr 1
  omega
theorem at_last {ns : List Int} (h : 0 < ns.length) : atI (ns.map V.int) (-1) = some (.int (gi ns ((ns.length : Int) - 1))) := by
  unfold atI
  rw [List.length_map, ixN_last h, Option.bind_some, List.getElem?_map, List.getElem?_eq_getElem (by omega)]
  unfold gi
  rw [List.getD_eq_getElem?_getD, show ((ns.length : Int) - 1).toNat = ns.length - 1 by omega, List.getElem?_eq_getElem (by omega)]
  rfl
theorem handsM_whole : ∀ k, k < 7 → (handsM (2 ^ k - 1)).length = k := by decide +kernel
theorem handsM_pos : ∀ g, g < 64 → 0 < g → 1 ≤ (handsM g).length := by decide +kernel
theorem spread_whole : ∀ k, k < 7 → ∀ q, q < 2 ^ k → spreadM q ((handsM (2 ^ k - 1)).map (2 ^ ·)) = q := by decide +kernel
theorem spread_nought : ∀ g, g < 64 → spreadM 0 ((handsM g).map (2 ^ ·)) = 0 := by decide +kernel
theorem cutM_len (ns : List Int) (g : Nat) : (cutM ns g).length = 2 ^ (handsM g).length := by unfold cutM; rw [List.length_map, List.length_range]
theorem cutM_tab {ns : List Int} {k g : Nat} (tb : Tab ns k) (h0 : 0 < g) (hg : g < ns.length) : Tab (cutM ns g) (handsM g).length := by
  have hp := tb.pos
  have h64 : g < 64 := by omega
  refine ⟨cutM_len _ _, handsM_pos g h64 h0, handsM_len g, gi_zero (by rw [cutM_len]; exact Nat.two_pow_pos _) ?_⟩
  unfold cutM
  rw [gi_map_range (by decide) (by have := Nat.two_pow_pos (handsM g).length; omega), show (0 : Int).toNat = 0 from rfl, spread_nought g h64]
  exact tb.gi0
theorem cutM_whole {ns : List Int} {k : Nat} (tb : Tab ns k) : cutM ns (ns.length - 1) = ns := by
  have e : (handsM (ns.length - 1)).length = k := by rw [tb.len]; exact handsM_whole k (by have := tb.hi; omega)
  refine gi_ext (by rw [cutM_len, e, tb.len]) fun i h0 h1 => ?_
  rw [cutM_len, e] at h1
  unfold cutM
  rw [gi_map_range h0 (by rw [e]; exact h1), tb.len, spread_whole k (by have := tb.hi; omega) i.toNat (by omega), Int.toNat_of_nonneg h0]
def sumSpread (q : Nat) (bs : List Nat) : Nat := (((List.range bs.length).filter fun j => bitOn j q).map fun j => bs.getD j 0).sum
theorem sumSpread_is : ∀ g, g < 64 → ∀ q, q < 2 ^ (handsM g).length → sumSpread q ((handsM g).map (2 ^ ·)) = spreadM q ((handsM g).map (2 ^ ·)) := by decide +kernel
theorem sum_cast (l : List Nat) : (l.map fun n : Nat => (n : Int)).sum = ((l.sum : Nat) : Int) := by
  induction l with
  | nil => rfl
  | cons x r ih => rw [List.map_cons, List.sum_cons, List.sum_cons, ih, Int.natCast_add]
end Sp

/-! Mg: a table with the hands of a group merged into one. -/
namespace Sp
open PySem PySem.Spec L2 PyProof.Rows
def leastM (g : Nat) : Nat := (handsM g).headD 0
def keepP (g h : Nat) : Bool := h == leastM g || !bitOn h g
def keptM (g k : Nat) : List Nat := (List.range k).filter (keepP g)
def blockOf (g h : Nat) : Nat := if h = leastM g then g else 2 ^ h
def blocksM (g k : Nat) : List Nat := (keptM g k).map (blockOf g)
def mergedM (ns : List Int) (g k : Nat) : List Int := (List.range (2 ^ (keptM g k).length)).map fun q => gi ns ((spreadM q (blocksM g k) : Nat) : Int)
def leftP (g k h : Nat) : Bool := decide (2 ^ h < 2 ^ k) && (h == leastM g || !decide (h ∈ handsM g))
def lawW (g q : Nat) (ls : List Nat) : Nat := if bitOn (leastM g) (sumSpread q (ls.map (2 ^ ·))) = true then sumSpread q (ls.map (2 ^ ·)) - 2 ^ leastM g + g else sumSpread q (ls.map (2 ^ ·))
def mgOne (g k q : Nat) : Bool := decide (spreadM q (blocksM g k) < 2 ^ k) && (lawW g q (keptM g k) == spreadM q (blocksM g k)) && (!bitOn (leastM g) (sumSpread q ((keptM g k).map (2 ^ ·))) || decide (2 ^ leastM g ≤ sumSpread q ((keptM g k).map (2 ^ ·)))) && decide (sumSpread q ((keptM g k).map (2 ^ ·)) < 64)
def mgOk (g k : Nat) : Bool := decide (1 ≤ (keptM g k).length) && ((List.range 6).filter (leftP g k) == keptM g k) && (spreadM 0 (blocksM g k) == 0) && (List.range (2 ^ (keptM g k).length)).all (mgOne g k)
theorem mgOk_all : ∀ k, k < 7 → ∀ g, g < 2 ^ k → 0 < g → mgOk g k = true := by decide +kernel
theorem mgF (k : Nat) (hk : k < 7) (g : Nat) (hg : g < 2 ^ k) (h0 : 0 < g) : 1 ≤ (keptM g k).length ∧ (List.range 6).filter (leftP g k) = keptM g k ∧ spreadM 0 (blocksM g k) = 0 ∧
    ∀ q, q < 2 ^ (keptM g k).length → spreadM q (blocksM g k) < 2 ^ k ∧ lawW g q (keptM g k) = spreadM q (blocksM g k) ∧ (bitOn (leastM g) (sumSpread q ((keptM g k).map (2 ^ ·))) = true → 2 ^ leastM g ≤ sumSpread q ((keptM g k).map (2 ^ ·))) ∧ sumSpread q ((keptM g k).map (2 ^ ·)) < 64 := by
  have h := mgOk_all k hk g hg h0
  unfold mgOk at h
  simp only [Bool.and_eq_true, decide_eq_true_eq, beq_iff_eq, List.all_eq_true] at h
  obtain ⟨⟨⟨a, b⟩, c⟩, d⟩ := h
  refine ⟨a, b, c, fun q hq => ?_⟩
  have h2 := d q (List.mem_range.mpr hq)
  unfold mgOne at h2
  simp only [Bool.and_eq_true, decide_eq_true_eq, beq_iff_eq, Bool.or_eq_true, Bool.not_eq_true'] at h2
  obtain ⟨⟨⟨a2, b2⟩, c2⟩, d2⟩ := h2
  refine ⟨a2, b2, fun e => ?_, d2⟩
  rcases c2 with c2 | c2
  · rw [e] at c2; cases c2
  · exact c2
theorem leastF : ∀ g, g < 64 → 0 < g → (handsM g)[0]? = some (leastM g) ∧ leastM g < 6 := by decide +kernel
theorem mgWhole : ∀ k, k < 7 → 1 ≤ k → keptM (2 ^ k - 1) k = [0] ∧ spreadM 0 (blocksM (2 ^ k - 1) k) = 0 ∧ spreadM 1 (blocksM (2 ^ k - 1) k) = 2 ^ k - 1 := by decide +kernel
theorem handsM_all : ∀ k, k < 7 → handsM (2 ^ k - 1) = List.range k := by decide +kernel
theorem keptM_len (g k : Nat) : (keptM g k).length ≤ k := filter_len _ k
theorem blocksM_len (g k : Nat) : (blocksM g k).length = (keptM g k).length := by unfold blocksM; rw [List.length_map]
theorem mergedM_len (ns : List Int) (g k : Nat) : (mergedM ns g k).length = 2 ^ (keptM g k).length := by unfold mergedM; rw [List.length_map, List.length_range]
theorem mergedM_tab {ns : List Int} {k g : Nat} (tb : Tab ns k) (h0 : 0 < g) (hg : g < ns.length) : Tab (mergedM ns g k) (keptM g k).length := by
  have hp := tb.pos
  obtain ⟨f1, _, f3, _⟩ := mgF k (by have := tb.hi; omega) g (by rw [← tb.len]; exact hg) h0
  refine ⟨mergedM_len _ _ _, f1, Nat.le_trans (keptM_len g k) tb.hi, gi_zero (by rw [mergedM_len]; exact Nat.two_pow_pos _) ?_⟩
  unfold mergedM
  rw [gi_map_range (by decide) (by have := Nat.two_pow_pos (keptM g k).length; omega), show (0 : Int).toNat = 0 from rfl, f3]
  exact tb.gi0
theorem mergedM_whole {ns : List Int} {k : Nat} (tb : Tab ns k) : mergedM ns (ns.length - 1) k = [0, gi ns ((ns.length : Int) - 1)] := by
  have hp := tb.pos
  obtain ⟨f1, f2, f3⟩ := mgWhole k (by have := tb.hi; omega) tb.lo
  unfold mergedM
  rw [tb.len, f1, show List.range (2 ^ [0].length) = [0, 1] from rfl]
  show [gi ns _, gi ns _] = _
  rw [f2, f3, show gi ns ((0 : Nat) : Int) = 0 from tb.gi0]
  have h2 : 1 ≤ 2 ^ k := Nat.two_pow_pos k
  congr 3
  omega
theorem bit_int0 {h g : Nat} (hh : h < 6) (hg : g < 64) : decide (Builtin.bitAnd ((g : Int) / 2 ^ ((h : Int)).toNat) 1 = 0) = !bitOn h g := by
  have e := bit_int hh hg
  rw [← e, bitAnd_m1]
  by_cases c : (g : Int) / 2 ^ ((h : Int)).toNat % 2 = 1
  · rw [c]; rfl
  · rw [decide_eq_false c, decide_eq_true (by omega)] <;> rfl
theorem range_at {n i z : Nat} (h : (List.range n)[i]? = some z) : z = i ∧ i < n := by
  obtain ⟨h1, h2⟩ := List.getElem?_eq_some_iff.mp h
  rw [List.length_range] at h1
  rw [List.getElem_range] at h2
  exact ⟨h2.symm, h1⟩
theorem keep_yes {g i : Nat} (h : keepP g i = true) : (((List.range (i + 1)).filter (keepP g)).map (blockOf g)).map vnat = (((List.range i).filter (keepP g)).map (blockOf g)).map vnat ++ [vnat (blockOf g i)] := by
  rw [List.range_succ, List.filter_append, List.map_append, List.map_append, List.filter_cons, if_pos h] <;> rfl
theorem keep_no {g i : Nat} (h : keepP g i = false) : (((List.range (i + 1)).filter (keepP g)).map (blockOf g)).map vnat = (((List.range i).filter (keepP g)).map (blockOf g)).map vnat := by
  rw [List.range_succ, List.filter_append, List.map_append, List.map_append, List.filter_cons, if_neg (by rw [h]; exact Bool.false_ne_true)]
  show _ ++ [] = _
  rw [List.append_nil]
def offOk (m h g : Nat) : Bool := bitOn h g || (decide (g ||| 2 ^ h = g + 2 ^ h) && decide (g + 2 ^ h < 2 ^ m))
theorem off_all : ∀ m, m < 7 → ∀ h, h < m → ∀ g, g < 2 ^ m → offOk m h g = true := by decide +kernel
theorem off_bit {m h g : Nat} (hm : m < 7) (hh : h < m) (hg : g < 2 ^ m) (hb : bitOn h g = false) : g ||| 2 ^ h = g + 2 ^ h ∧ g + 2 ^ h < 2 ^ m := by
  have e := off_all m hm h hh g hg
  unfold offOk at e
  rw [hb, Bool.false_or, Bool.and_eq_true, decide_eq_true_eq, decide_eq_true_eq] at e
  exact e
theorem bits_len : ∀ m, m < 7 → (List.range 6).filter (fun k => decide (2 ^ k < 2 ^ m)) = List.range m := by decide +kernel
theorem rep_flat (m : Nat) : (List.replicate m [V.int 0]).flatten = (List.replicate m (0 : Int)).map V.int := by
  induction m with
  | zero => rfl
  | succ m ih => rw [List.replicate_succ, List.replicate_succ, List.flatten_cons, List.map_cons, ih] <;> rfl
theorem rep_tl {m : Nat} {f : Nat → Int} (h : ∀ i, i < m → f i = 0) : List.replicate m (0 : Int) = tl m f := by
  unfold tl
  apply List.ext_getElem?
  intro i
  rw [List.getElem?_map, List.getElem?_replicate]
  by_cases hi : i < m
  · rw [if_pos hi, List.getElem?_range hi, Option.map_some, h i hi]
  · rw [if_neg hi, List.getElem?_eq_none (by rw [List.length_range]; omega)] <;> rfl
/-- the comprehension over a list of our own -/
theorem cp_listO {K : PySem.W.Frag} {B : Hp} {cs : Cells} {H : Hp} {σ : L2.St} {te : TE} {g : TG} {tt : TT} {vs : List Nat} {QD : Addr → Hp → Prop} {a : Addr} {xs : List V} (F : Nat → List V) (w : Own B cs H) (j : Nat) (hx : cs[j]? = some (a, .lst xs)) (h0 : F 0 = [])
    (hs : ∀ D i x H', xs[i]? = some x → PvC B cs D F i H' → g x (wipe σ vs) H' fun σ2 H2 => wipe σ2 vs = wipe σ vs ∧ tt σ2 H2 fun b H3 =>
      if b = true then te σ2 H3 fun y H4 => ∃ acc, H4 D = some (.lst acc) ∧ acc.length < sizeLine ∧ PvC B cs D F (i + 1) (upd H4 D (.lst (acc ++ [y]))) else PvC B cs D F (i + 1) H3)
    (hq : ∀ D H', Own B ((D, .lst (F xs.length)) :: cs) H' → QD D H') : ∀ D, H D = none → ∃ W : Nat → Nat → Hp → Prop, (∃ m, W 0 m (upd H D (.lst []))) ∧ ∀ i m H, W i m H →
      ((Itl K a).stop i H ∧ QD D H) ∨ ((Itl K a).go i H ∧ ∃ Nx : Hp → Prop, (∀ H', Nx H' → ∃ m', m' < m ∧ W (i + 1) m' H') ∧ ∀ x H', (Itl K a).yld i H x H' → g x (wipe σ vs) H' fun σ2 H2 => wipe σ2 vs = wipe σ vs ∧ tt σ2 H2 fun b H3 =>
        if b = true then te σ2 H3 fun y H4 => ∃ acc, H4 D = some (.lst acc) ∧ acc.length < sizeLine ∧ Nx (upd H4 D (.lst (acc ++ [y]))) else Nx H3) := fun D hD =>
  lc_list (PvC B cs D F) (by unfold PvC; rw [h0]; exact w.new hD) (fun i H' hi p => Own.sq p (j + 1) hx) (fun i x H' hi p => hs D i x H' hi p) (fun H' p => hq D H' p)
theorem cut_to {xs : List V} {i : Nat} : cutV xs none (some (i : Int)) = xs.take i := by
  unfold cutV
  rw [HT.sIx_none, HT.sIx_nat, List.drop_zero, Nat.sub_zero]
  by_cases h : i ≤ xs.length
  · rw [Nat.min_eq_left h]
  · rw [Nat.min_eq_right (by omega), List.take_of_length_le (Nat.le_refl _), List.take_of_length_le (by omega)]
theorem cut_from {xs : List V} {i : Nat} : cutV xs (some (i : Int)) none = xs.drop i := by
  unfold cutV
  rw [HT.sIx_none, HT.sIx_nat, List.take_of_length_le (by rw [List.length_drop]; omega)]
  by_cases h : i ≤ xs.length
  · rw [Nat.min_eq_left h]
  · rw [Nat.min_eq_right (by omega), List.drop_eq_nil_of_le (Nat.le_refl _), List.drop_eq_nil_of_le (by omega)]
/-- x not in a list of whole numbers -/
theorem inV_nat {h : Nat} : ∀ {ns : List Nat}, inV (.int (h : Int)) (ns.map vnat) = decide (h ∈ ns)
  | [] => rfl
  | n :: ns => by
    have ih := inV_nat (h := h) (ns := ns)
    unfold inV at ih ⊢
    rw [List.map_cons, List.any_cons, ih]
    show (((n : Int) == (h : Int)) || decide (h ∈ ns)) = _
    rw [Bool.eq_iff_iff]
    simp only [Bool.or_eq_true, beq_iff_eq, decide_eq_true_eq, List.mem_cons]
    constructor
    · rintro (e | e)
      · exact .inl (by omega)
      · exact .inr e
    · rintro (e | e)
      · exact .inl (by omega)
      · exact .inr e
theorem all_flat_nat : ∀ ns : List Nat, (ns.map vnat).all flatV = true
  | [] => rfl
  | n :: ns => by rw [List.map_cons, List.all_cons, all_flat_nat ns] <;> rfl
theorem x_notInN {K : PySem.W.Frag} {H : Hp} {Q : VK} {p : Addr} {h : Nat} {ns : List Nat} (hS : SqL K H p (ns.map vnat)) (q : Q (.bl (!decide (h ∈ ns))) H) : rIn K true (.int (h : Int)) (.ref p) H Q :=
  ⟨p, _, rfl, .inl hS, rfl, all_flat_nat ns, by rw [inV_nat]; exact q⟩
end Sp

/-! Dp: == of nested data. -/
namespace Sp
open PySem PySem.Spec L2 PyProof.Rows
mutual
theorem eqv_self : ∀ d : PyData, d.canLay0 = true → PyData.eqv d d = true
  | .none, _ => by simp [PyData.eqv]
  | .bool b, _ => by simp [PyData.eqv]
  | .int i, _ => by simp [PyData.eqv]
  | .str x, _ => by simp [PyData.eqv]
  | .list xs, h => by
    rw [PyData.canLay0] at h
    rw [PyData.eqv]
    exact eqvAll_self xs h
  | .tuple xs, h => by
    rw [PyData.canLay0] at h
    rw [PyData.eqv]
    exact eqvAll_self xs h
  | .dict _, h => by rw [PyData.canLay0] at h; cases h
theorem eqvAll_self : ∀ ds : List PyData, PyData.canLayAll0 ds = true → PyData.eqvAll ds ds = true
  | [], _ => by simp [PyData.eqvAll]
  | d :: ds, h => by
    rw [PyData.canLayAll0, Bool.and_eq_true] at h
    rw [PyData.eqvAll, eqv_self d h.1, eqvAll_self ds h.2] <;> rfl
end
/-- laid without dicts, at most k deep -/
structure LayD (k : Nat) (d : PyData) : Prop where
  lay : d.canLay0 = true
  dep : d.depth ≤ k
theorem layAll : ∀ {k : Nat} {ds : List PyData}, (∀ d ∈ ds, LayD k d) → PyData.canLayAll0 ds = true ∧ PyData.depthAll ds ≤ k
  | k, [], _ => ⟨by simp [PyData.canLayAll0], by simp [PyData.depthAll]⟩
  | k, d :: ds, h => by
    have ⟨h1, h2⟩ := layAll fun x hx => h x (.tail _ hx)
    have h0 := h d (.head _)
    exact ⟨by rw [PyData.canLayAll0, h0.lay, h1] <;> rfl, by have := h0.dep; simp only [PyData.depthAll]; omega⟩
theorem LayD.int {k : Nat} (h : 1 ≤ k) (i : Int) : LayD k (.int i) := ⟨by simp [PyData.canLay0], by simp only [PyData.depth]; omega⟩
theorem LayD.bool {k : Nat} (h : 1 ≤ k) (b : Bool) : LayD k (.bool b) := ⟨by simp [PyData.canLay0], by simp only [PyData.depth]; omega⟩
theorem LayD.none {k : Nat} (h : 1 ≤ k) : LayD k .none := ⟨by simp [PyData.canLay0], by simp only [PyData.depth]; omega⟩
theorem LayD.str {k : Nat} (h : 1 ≤ k) {x : Str} (hx : PyData.strOk x = true) : LayD k (.str x) := ⟨by simpa [PyData.canLay0] using hx, by simp only [PyData.depth]; omega⟩
theorem LayD.list {k : Nat} {ds : List PyData} (h : ∀ d ∈ ds, LayD k d) : LayD (k + 1) (.list ds) := by
  have ⟨h1, h2⟩ := layAll h
  exact ⟨by rw [PyData.canLay0]; exact h1, by simp only [PyData.depth]; omega⟩
theorem LayD.tuple {k : Nat} {ds : List PyData} (h : ∀ d ∈ ds, LayD k d) : LayD (k + 1) (.tuple ds) := by
  have ⟨h1, h2⟩ := layAll h
  exact ⟨by rw [PyData.canLay0]; exact h1, by simp only [PyData.depth]; omega⟩
theorem LayD.ints {ns : List Int} : LayD 2 (.list (ns.map PyData.int)) := LayD.list fun d hd => by
  obtain ⟨n, _, rfl⟩ := List.mem_map.mp hd
  exact LayD.int (by decide) n
theorem LayD.shaped {k : Nat} {d : PyData} (h : LayD k d) (hk : k ≤ 64 := by decide) : SeqAt.shaped d = true := by
  unfold SeqAt.shaped
  rw [Bool.and_eq_true]
  exact ⟨h.lay, decide_eq_true (Nat.le_trans h.dep hk)⟩
section
variable {K : PySem.W.Frag} {H : Hp} {Q : VK} {x y : V} {d : PyData} {k : Nat}
theorem x_eqD (h1 : Dp K H x d) (h2 : Dp K H y d) (l : LayD k d) (q : Q (.bl true) H) (hk : k ≤ 64 := by decide) : rEqX K x y H Q :=
  .inr ⟨_, _, h1, h2, l.shaped hk, l.shaped hk, by rw [eqv_self d l.lay]; exact q⟩
theorem x_neD (h1 : Dp K H x d) (h2 : Dp K H y d) (l : LayD k d) (q : Q (.bl false) H) (hk : k ≤ 64 := by decide) : rNeX K x y H Q :=
  .inr ⟨_, _, h1, h2, l.shaped hk, l.shaped hk, by rw [eqv_self d l.lay]; exact q⟩
end
mutual
theorem Dp.same {K : PySem.W.Frag} {H H' : Hp} (s : Same H H') : ∀ (d : PyData) (v : V), Dp K H v d → Dp K H' v d
  | .none, _, h => by cases h; exact .non
  | .bool b, _, h => by cases h; exact .bl b
  | .int i, _, h => by cases h; exact .int i
  | .str x, _, h => by cases h; exact .str x
  | .list ds, _, h => by
    cases h with
    | lst h1 h2 => exact .lst (s.seq h1) (DpAll.same s ds _ h2)
  | .tuple ds, _, h => by
    cases h with
    | tup h1 h2 => exact .tup (same_sqT s h1) (DpAll.same s ds _ h2)
  | .dict _, _, h => by cases h
theorem DpAll.same {K : PySem.W.Frag} {H H' : Hp} (s : Same H H') : ∀ (ds : List PyData) (vs : List V), DpAll K H vs ds → DpAll K H' vs ds
  | [], _, h => by cases h; exact .nil
  | d :: ds, _, h => by
    cases h with
    | cons h1 h2 => exact .cons (Dp.same s d _ h1) (DpAll.same s ds _ h2)
end
theorem DpAll.app {K : PySem.W.Frag} {H : Hp} : ∀ {vs ws : List V} {ds es : List PyData}, DpAll K H vs ds → DpAll K H ws es → DpAll K H (vs ++ ws) (ds ++ es)
  | _, _, _, _, .nil, h => h
  | _, _, _, _, .cons h1 h2, h => .cons h1 (DpAll.app h2 h)
end Sp

/-! Xc: isinstance of the error that an except suite holds, by one class and by a written tuple of classes. -/
namespace Sp
open PySem PySem.Spec L2 PyProof.Rows
/-- isinstance(e, c): the error at a, of the class cls (an own one, without a dict of its own) -/
def rIsEX (K : PySem.W.Frag) (a : Addr) (cls : Value) (d : Option Addr) : List V → Hp → VK → Prop := fun xs H Q =>
  ∃ (D : Addr) (c : V) (cv : Value) (b : Bool), cls = .ref D ∧ d = none ∧ ExcC K D ∧ xs = [.ref a, c] ∧ ClsV c cv ∧ PySem.W.kitOne K (.ref D) cv = some b ∧ Q (.bl b) H
def rIsETX (K : PySem.W.Frag) (a : Addr) (cls : Value) (d : Option Addr) : List V → Hp → VK → Prop := fun xs H Q =>
  ∃ (D tp : Addr) (cs : List V) (us : List Value) (b : Bool), cls = .ref D ∧ d = none ∧ ExcC K D ∧ xs = [.ref a, .ref tp] ∧ H tp = some (.tup cs) ∧ Paired ClsV cs us ∧ PySem.W.kitAny K (.ref D) us = some b ∧ Q (.bl b) H
theorem suite_at {X : Cx} {pins pn : List (Addr × Obj)} {σ : L2.St} {H : Hp} {s : Shared} {a D : Addr} {oe : Obj} (hz : Zc (.ref D) none oe) (hf : ∃ vs, oe.data = .fields vs) (I : Inv (X.suite a ((a, oe) :: pn)) pins σ H s) : PySem.W.InstAt s.heap a oe D none := by
  obtain ⟨hget, _⟩ := I.pin (a, oe) (List.mem_append.mpr (.inl List.mem_cons_self))
  obtain ⟨vs, hv⟩ := hf
  obtain ⟨oc, od, oda, osl⟩ := oe
  obtain ⟨h1, h2⟩ := hz
  dsimp only at h1 h2 hv
  subst h1 h2 hv
  exact ⟨hget, rfl, rfl, trivial⟩
theorem call_isEX {X : Cx} {K : PySem.W.Frag} (hK : X.K = K) {a : Addr} {cls : Value} {d : Option Addr} {oe : Obj} {pn : List (Addr × Obj)} (hz : Zc cls d oe) (hf : ∃ vs, oe.data = .fields vs) :
    CallR (X.suite a ((a, oe) :: pn)) (.builtin "isinstance") (rIsEX K a cls d) := by
  subst hK
  intro pins s σ H xs us Q I r h
  obtain ⟨D, c, cv, b, rfl, rfl, C, rfl, hc, e, q⟩ := h
  obtain ⟨u1, u2, rfl, r1, r2⟩ := vals2 r
  cases (show u1 = Value.ref a from r1)
  have ec := hc.eq r2
  subst ec
  exact PySem.W.kia_one (PySem.W.handS_kitx_exc C.hg C.hk C.hs C.hd C.ha C.hn C.ht C.hm) I.kIn (suite_at hz hf I) e (fun z => nomatch z) fun tk => ⟨.bl b, H, I.kept (t' := tk) fun _ _ z => z, rfl, q⟩
theorem call_isETX {X : Cx} {K : PySem.W.Frag} (hK : X.K = K) {a : Addr} {cls : Value} {d : Option Addr} {oe : Obj} {pn : List (Addr × Obj)} (hz : Zc cls d oe) (hf : ∃ vs, oe.data = .fields vs) :
    CallR (X.suite a ((a, oe) :: pn)) (.builtin "isinstance") (rIsETX K a cls d) := by
  subst hK
  intro pins s σ H xs us Q I r h
  obtain ⟨D, tp, cs, ws, b, rfl, rfl, C, rfl, hT, k, e, q⟩ := h
  obtain ⟨u1, u2, rfl, r1, r2⟩ := vals2 r
  cases (show u1 = Value.ref a from r1)
  cases (show u2 = Value.ref tp from r2)
  obtain ⟨_, its, rv, o, h1, h2, n, h3⟩ := (show ObjOk _ _ H s.heap tp (.tup cs) from I.hok tp _ hT)
  have e3 := ClsV.all k rv
  subst e3
  obtain ⟨oc, od, dt, sl⟩ := o
  simp only at h2 h3
  subst h2 h3
  exact PySem.W.kia_tup (PySem.W.handS_kitx_exc C.hg C.hk C.hs C.hd C.ha C.hn C.ht C.hm) I.kIn (suite_at hz hf I) h1 e (fun z => nomatch z) fun tk => ⟨.bl b, H, I.kept (t' := tk) fun _ _ z => z, rfl, q⟩
/-- what is told of a class that is asked for -/
structure AskC (K : PySem.W.Frag) (C : Addr) : Prop where
  cls : PySem.W.isClsIn K C = true
  ty : PySem.W.typeIn K (.ref C) = some (.type "type")
  self : PySem.W.subIn K (.ref C) (.ref C) = some true
theorem kit_own {K : PySem.W.Frag} {D C : Addr} {b : Bool} (c : AskC K C) (h : PySem.W.subIn K (.ref D) (.ref C) = some b) : PySem.W.kitOne K (.ref D) (.ref C) = some b := by
  unfold PySem.W.kitOne
  by_cases e : D = C
  · subst e
    rw [c.self] at h
    rw [if_pos (by simp), ← h]
  · rw [if_neg (by simpa using e)]
    unfold PySem.W.kitCls
    have h2 : (PySem.W.clsIn K C).isSome = true := c.cls
    simp only [h2, c.ty]
    simpa using h
theorem kit_VE {K : PySem.W.Frag} {D : Addr} {b : Bool} (h : PySem.W.subIn K (.ref D) (.type "ValueError") = some b) : PySem.W.kitOne K (.ref D) (.type "ValueError") = some b := by
  unfold PySem.W.kitOne
  rw [if_neg (by simp)]
  unfold PySem.W.kitCls
  have h2 : PySem.W.kitMeta "ValueError" = true := by decide +kernel
  simp only [h2, if_true]
  exact h
theorem kit_no {K : PySem.W.Frag} {t : Value} {c : Value} {cs : List Value} (h : PySem.W.kitOne K t c = some false) (hr : PySem.W.kitAny K t cs = some false) : PySem.W.kitAny K t (c :: cs) = some false :=
  kitAny_cons h (fun _ => hr) (fun z => nomatch z)
/-- + of two lists that are read, however they stand -/
def rCatK (K : PySem.W.Frag) : R2 := fun x y H Q => ∃ l b xs zs, x = .ref l ∧ y = .ref b ∧ SqL K H l xs ∧ SqL K H b zs ∧ xs.length + zs.length ≤ sizeLine ∧ ∀ p, H p = none → Q (.ref p) (upd H p (.lst (xs ++ zs)))
theorem op_catX {X : Cx} : OpR X (binaryOp .Add) (rCatK X.K) := by
  intro pins s σ H x y v u Q I rx ry h
  obtain ⟨l, b, xs, zs, rfl, rfl, hH, hB, hz, q⟩ := h
  cases rx
  cases ry
  obtain ⟨its, r, ⟨⟨cls, dd, data, sl⟩, n, ho, hc, _, hd⟩, _⟩ := I.list hH
  obtain ⟨its2, r2, ⟨⟨cls2, dd2, data2, sl2⟩, n2, ho2, hc2, _, hd2⟩, _⟩ := I.list hB
  simp only at hc hd hc2 hd2
  subst hc hd hc2 hd2
  have hl := r.length
  have hl2 := r2.length
  have e : its.toArray ++ its2.toArray = (its ++ its2).toArray := by simp
  refine concat_meets ⟨_, ho, rfl⟩ ⟨_, ho2, rfl⟩ noFill_list_add seq_list_add PySem.F.slot_list_add PySem.F.entry_list_add (PySem.F.args_list_add_2 _ _) (list_addW l b its.toArray its2.toArray n n2 dd dd2 sl sl2 (by rw [List.size_toArray, List.size_toArray]; omega)) ⟨ho, ho2, ?_⟩
  rw [e]
  exact ⟨.ref _, _, I.lnew (t' := s.toks) (r.append r2) (by rw [List.length_append]; omega), rfl, q _ I.fresh⟩
theorem op_catK {X : Cx} {K : PySem.W.Frag} (h : X.K = K) : OpR X (binaryOp .Add) (rCatK K) := h ▸ op_catX
theorem x_cat {K : PySem.W.Frag} {H : Hp} {Q : VK} {l b : Addr} {xs zs : List V} (h1 : SqL K H l xs) (h2 : SqL K H b zs) (hz : xs.length + zs.length ≤ sizeLine) (q : ∀ p, H p = none → Q (.ref p) (upd H p (.lst (xs ++ zs)))) : rCatK K (.ref l) (.ref b) H Q := ⟨l, b, xs, zs, rfl, rfl, h1, h2, hz, q⟩
theorem pe_revLK {X : Cx} {K : PySem.W.Frag} (h : X.K = K) {e : Expr} {te : TE} {k : Nat} {p1 p2 p3 pos : Pos} (he : PE X e te) : PE X (.Subscript e (.Slice none none (some (.UnaryOp .USub (.Constant (.int 1) k p1) p2)) p3) pos) (tRevL K te) := h ▸ pe_revL he
theorem x_rev {K : PySem.W.Frag} {te : TE} {σ : L2.St} {H : Hp} {Q : VK} (h : te σ H fun x H1 => ∃ a xs, x = .ref a ∧ SqL K H1 a xs ∧ ∀ p, H1 p = none → Q (.ref p) (upd H1 p (.lst xs.reverse))) : tRevL K te σ H Q := h
section
variable {K : PySem.W.Frag} {H : Hp} {Q : VK} {a D : Addr}
theorem x_callS {sp : Sp} {E : L2.St → XK} {tr : TA} {σ : L2.St} (h : tr σ H fun vs H1 => sp vs H1 Q (E σ)) : tCallS sp E tr σ H Q := h
theorem x_isE {C : Addr} {b : Bool} (e : ExcC K D) (c : AskC K C) (h : PySem.W.subIn K (.ref D) (.ref C) = some b) (q : Q (.bl b) H) : rIsEX K a (.ref D) none [.ref a, .ref C] H Q :=
  ⟨D, _, _, b, rfl, rfl, e, rfl, .own C, kit_own c h, q⟩
theorem x_isEV {b : Bool} (e : ExcC K D) (h : PySem.W.subIn K (.ref D) (.type "ValueError") = some b) (q : Q (.bl b) H) : rIsEX K a (.ref D) none [.ref a, .ty "ValueError"] H Q :=
  ⟨D, _, _, b, rfl, rfl, e, rfl, .ty _, kit_VE h, q⟩
theorem x_isET {tp : Addr} {Cs : List Addr} {b : Bool} (e : ExcC K D) (hT : H tp = some (.tup (Cs.map V.ref))) (h : PySem.W.kitAny K (.ref D) (Cs.map Value.ref) = some b) (q : Q (.bl b) H) : rIsETX K a (.ref D) none [.ref a, .ref tp] H Q :=
  ⟨D, tp, _, _, b, rfl, rfl, e, rfl, hT, (by
    clear hT h q
    induction Cs with
    | nil => exact .nil
    | cons c r ih => exact .cons (.own c) ih), h, q⟩
end
end Sp

/-! Cpe: comprehensions whose items are not told ahead; ranges with a step; xs[::k]. -/
namespace Sp
open PySem PySem.Spec L2 PyProof.Rows
/-- behind i turns: the list at D holds some acc of which G is told; what is made within stands in B2 -/
def PvE (B : Hp) (cs : Cells) (D : Addr) (G : Hp → Nat → List V → Prop) (i : Nat) (H : Hp) : Prop := ∃ B2 acc, Same B B2 ∧ G B2 i acc ∧ Own B2 ((D, .lst acc) :: cs) H
section
variable {K : PySem.W.Frag} {σ : L2.St} {B H : Hp} {cs : Cells} {Q : VK} {te : TE} {g : TG} {tt : TT} {vs : List Nat} {QD : Addr → Hp → Prop} {G : Hp → Nat → List V → Prop}
theorem cpE_fin {D : Addr} {i : Nat} {H4 B2 : Hp} {acc : List V} {y : V} (w : Own B2 ((D, .lst acc) :: cs) H4) (s : Same B B2) (hg : G B2 (i + 1) (acc ++ [y])) (hl : acc.length < 1000000) :
    ∃ acc', H4 D = some (.lst acc') ∧ acc'.length < sizeLine ∧ PvE B cs D G (i + 1) (upd H4 D (.lst (acc' ++ [y]))) :=
  ⟨acc, Own.get w 0 rfl, Nat.lt_of_lt_of_le hl (by decide), B2, acc ++ [y], s, hg, Own.put (o' := .lst (acc ++ [y])) w 0 rfl⟩
theorem cpE_range {lo : Int} {n : Nat} (w : Own B cs H) (h0 : G B 0 [])
    (hs : ∀ D i H' B2 acc, i < n → Same B B2 → G B2 i acc → Own B2 ((D, .lst acc) :: cs) H' → g (.int (lo + i)) (wipe σ vs) H' fun σ2 H2 => wipe σ2 vs = wipe σ vs ∧ tt σ2 H2 fun b H3 =>
      if b = true then te σ2 H3 fun y H4 => ∃ acc', H4 D = some (.lst acc') ∧ acc'.length < sizeLine ∧ PvE B cs D G (i + 1) (upd H4 D (.lst (acc' ++ [y]))) else PvE B cs D G (i + 1) H3)
    (hq : ∀ D H' B2 acc, Same B B2 → G B2 n acc → Own B2 ((D, .lst acc) :: cs) H' → QD D H') : ∀ D, H D = none → ∃ W : Nat → Nat → Hp → Prop, (∃ m, W 0 m (upd H D (.lst []))) ∧ ∀ i m H, W i m H →
      ((Itr lo n).stop i H ∧ QD D H) ∨ ((Itr lo n).go i H ∧ ∃ Nx : Hp → Prop, (∀ H', Nx H' → ∃ m', m' < m ∧ W (i + 1) m' H') ∧ ∀ x H', (Itr lo n).yld i H x H' → g x (wipe σ vs) H' fun σ2 H2 => wipe σ2 vs = wipe σ vs ∧ tt σ2 H2 fun b H3 =>
        if b = true then te σ2 H3 fun y H4 => ∃ acc, H4 D = some (.lst acc) ∧ acc.length < sizeLine ∧ Nx (upd H4 D (.lst (acc ++ [y]))) else Nx H3) := fun D hD =>
  lc_range (PvE B cs D G) ⟨B, [], Same.refl _, h0, w.new hD⟩ (fun i H' hi ⟨B2, acc, s, hg, w2⟩ => hs D i H' B2 acc hi s hg w2) (fun H' ⟨B2, acc, s, hg, w2⟩ => hq D H' B2 acc s hg w2)
theorem cpE_list {a : Addr} {xs : List V} (w : Own B cs H) (hx : SqL K B a xs) (h0 : G B 0 [])
    (hs : ∀ D i x H' B2 acc, xs[i]? = some x → Same B B2 → G B2 i acc → Own B2 ((D, .lst acc) :: cs) H' → g x (wipe σ vs) H' fun σ2 H2 => wipe σ2 vs = wipe σ vs ∧ tt σ2 H2 fun b H3 =>
      if b = true then te σ2 H3 fun y H4 => ∃ acc', H4 D = some (.lst acc') ∧ acc'.length < sizeLine ∧ PvE B cs D G (i + 1) (upd H4 D (.lst (acc' ++ [y]))) else PvE B cs D G (i + 1) H3)
    (hq : ∀ D H' B2 acc, Same B B2 → G B2 xs.length acc → Own B2 ((D, .lst acc) :: cs) H' → QD D H') : ∀ D, H D = none → ∃ W : Nat → Nat → Hp → Prop, (∃ m, W 0 m (upd H D (.lst []))) ∧ ∀ i m H, W i m H →
      ((Itl K a).stop i H ∧ QD D H) ∨ ((Itl K a).go i H ∧ ∃ Nx : Hp → Prop, (∀ H', Nx H' → ∃ m', m' < m ∧ W (i + 1) m' H') ∧ ∀ x H', (Itl K a).yld i H x H' → g x (wipe σ vs) H' fun σ2 H2 => wipe σ2 vs = wipe σ vs ∧ tt σ2 H2 fun b H3 =>
        if b = true then te σ2 H3 fun y H4 => ∃ acc, H4 D = some (.lst acc) ∧ acc.length < sizeLine ∧ Nx (upd H4 D (.lst (acc ++ [y]))) else Nx H3) := fun D hD =>
  lc_list (PvE B cs D G) ⟨B, [], Same.refl _, h0, w.new hD⟩ (fun i H' hi ⟨B2, acc, s, hg, w2⟩ => w2.seq (s.seq hx)) (fun i x H' hx ⟨B2, acc, s, hg, w2⟩ => hs D i x H' B2 acc hx s hg w2) (fun H' ⟨B2, acc, s, hg, w2⟩ => hq D H' B2 acc s hg w2)
end
/-! ### ranges with a step -/
theorem x_iR3 {σ : L2.St} {H : Hp} {R : It → Hp → Prop} {tr : TA} (h : tr σ H fun vs H1 => ∃ (i j c : Int) (n : Nat), vs = [.int i, .int j, .int c] ∧ RgC i j c n ∧ R (Itc i c n) H1) : iRng3 tr σ H R := h
theorem rgc_up {i j c : Int} (hc : 0 < c) (hc2 : c < 1000) (hi : 0 ≤ i) (hi2 : i < 1000000) (hj : 0 ≤ j) (hj2 : j < 1000000) : RgC i j c (if i < j then (j - i - 1) / c + 1 else 0).toNat := by
  have hb : 0 ≤ (if i < j then (j - i - 1) / c + 1 else 0) ∧ (if i < j then (j - i - 1) / c + 1 else 0) ≤ 1000000 := by
    by_cases h : i < j
    · rw [if_pos h]
      have h1 := Int.ediv_nonneg (a := j - i - 1) (b := c) (by omega) (by omega)
      have h2 := Int.ediv_le_self (a := j - i - 1) c (by omega)
      omega
    · rw [if_neg h]; omega
  have e : Builtin.Range.rangeSize i j c = (if i < j then (j - i - 1) / c + 1 else 0) := by
    unfold Builtin.Range.rangeSize
    rw [if_pos (show c > 0 by omega)]
  refine ⟨by omega, by omega, ?_, by rw [e]; omega⟩
  unfold Builtin.Range.small
  rw [e]
  simp only [Builtin.Range.rangeFitsLong, Bool.and_eq_true, Bool.or_eq_true, decide_eq_true_eq, beq_iff_eq]
  generalize (if i < j then (j - i - 1) / c + 1 else 0) = z at hb ⊢
  refine ⟨by omega, .inr ?_⟩
  rw [if_pos (by omega), Bool.and_eq_true, decide_eq_true_eq, decide_eq_true_eq]
  omega
theorem rgc_in {i j c : Int} {k : Nat} (hc : 0 < c) (h : k < (if i < j then (j - i - 1) / c + 1 else 0).toNat) : i + (k : Int) * c < j := by
  by_cases hij : i < j
  · rw [if_pos hij] at h
    have h1 : (k : Int) ≤ (j - i - 1) / c := by omega
    have h2 : (k : Int) * c ≤ j - i - 1 := (Int.le_ediv_iff_mul_le hc).mp h1
    omega
  · rw [if_neg hij] at h; simp at h
/-! ### xs[::k] -/
def everyK (xs : List V) (k : Nat) : List V := (List.range ((xs.length + k - 1) / k)).filterMap fun i => xs[k * i]?
def tEvL (K : PySem.W.Frag) (k : Nat) (te : TE) : TE := fun σ H Q => te σ H fun x H1 => ∃ a xs, x = .ref a ∧ SqL K H1 a xs ∧ ∀ p, H1 p = none → Q (.ref p) (upd H1 p (.lst (everyK xs k)))
theorem x_ev {K : PySem.W.Frag} {k : Nat} {te : TE} {σ : L2.St} {H : Hp} {Q : VK} (h : te σ H fun x H1 => ∃ a xs, x = .ref a ∧ SqL K H1 a xs ∧ ∀ p, H1 p = none → Q (.ref p) (upd H1 p (.lst (everyK xs k)))) : tEvL K k te σ H Q := h
theorem vals_pick {xs : List V} {its : List Value} (r : Vals xs its) : ∀ ids : List Nat, Vals (ids.filterMap (xs[·]?)) (ids.filterMap (its[·]?))
  | [] => .nil
  | i :: ids => by
    have ih := vals_pick r ids
    rw [List.filterMap_cons, List.filterMap_cons]
    cases e : xs[i]? with
    | none =>
      have : its[i]? = none := by
        rw [List.getElem?_eq_none_iff] at e ⊢
        have := r.length
        omega
      rw [this]; exact ih
    | some x =>
      obtain ⟨u, hu, ru⟩ := r.get e
      rw [hu]
      exact .cons ru ih
theorem pick_every {its : List Value} {k : Nat} (hk : 0 < k) : slicePick its.toArray none none (some (k : Int)) = ((List.range ((its.length + k - 1) / k)).map (k * ·) |>.filterMap (its[·]?)).toArray := by
  have hk' : (k : Int) > 0 := by omega
  unfold slicePick sliceBounds
  simp only [Option.getD_some, if_pos hk', List.size_toArray, List.getElem?_toArray]
  congr 2
  unfold sliceRange
  simp only [if_pos hk']
  have e : (if (0 : Int) < (its.length : Int) then ((its.length : Int) - 0 + (k : Int) - 1) / (k : Int) else 0).toNat = (its.length + k - 1) / k := by
    by_cases h : 0 < its.length
    · rw [if_pos (by omega)]
      have : (its.length : Int) - 0 + (k : Int) - 1 = ((its.length + k - 1 : Nat) : Int) := by omega
      rw [this, ← Int.natCast_ediv, Int.toNat_natCast]
    · have : its.length = 0 := by omega
      rw [this, if_neg (by decide)]
      show 0 = (0 + k - 1) / k
      rw [Nat.div_eq_of_lt (by omega)]
  rw [e]
  exact List.map_congr_left fun i _ => by
    rw [Int.zero_add, ← Int.natCast_mul, Int.toNat_natCast]
theorem pe_evLK {X : Cx} {K : PySem.W.Frag} (hK : X.K = K) {e : Expr} {te : TE} {k : Nat} {j : Nat} {p1 p3 pos : Pos} (hk : 0 < k) (he : PE X e te) : PE X (.Subscript e (.Slice none none (some (.Constant (.int (k : Int)) j p1)) p3) pos) (tEvL K k te) := by
  subst hK
  constructor
  intro pins s σ H Q I h
  refine Subscript_ (thn (he.run pins s σ H _ I h) ?_)
  rintro v s1 ⟨x, H1, I1, r1, a, xs, rfl, hx, q⟩
  cases r1
  have stp : PO X (some (.Constant (.int (k : Int)) j p1)) (tPart (tC (.int (k : Int)))) := po_some pe_int
  refine wpAny_Slice (thn (po_none.run pins s1 σ H1 (fun o H2 => o = none ∧ H2 = H1) I1 ⟨rfl, rfl⟩) ?_)
  rintro vl s2 ⟨l, H2, I2, pl, rfl, rfl⟩
  refine thn (po_none.run pins s2 σ H2 (fun o H3 => o = none ∧ H3 = H2) I2 ⟨rfl, rfl⟩) ?_
  rintro vu s3 ⟨u, H3, I3, pu, rfl, rfl⟩
  refine thn (stp.run pins s3 σ H3 (fun o H4 => o = some (k : Int) ∧ H4 = H3) I3 ⟨(k : Int), rfl, rfl, rfl⟩) ?_
  rintro vs s4 ⟨o, H4, I4, ps, rfl, rfl⟩
  have I5 : Inv X pins σ H4 { s4 with heap := s4.heap.push { cls := .type "slice", data := .fields #[vl, vu, vs] } } := I4.kept (t' := s4.toks) fun b ob q => Heap.get?_push_of_some _ q
  obtain ⟨its, r, ht, hz⟩ := I5.list hx
  have hlen := r.length
  refine (show wpAny (model X.prog X.w) X.A (subscriptTail e (.Slice none none (some (.Constant (.int (k : Int)) j p1)) p3) (.ref a) (.ref s4.heap.objs.size)) (EP X pins σ Q) X.xe { s4 with heap := s4.heap.push { cls := .type "slice", data := .fields #[vl, vu, vs] } } from ?_)
  refine tail_any (ops := [.ref a, .ref s4.heap.objs.size]) ht.isList.typeIs (PySem.slot_list_getitem.lookup) ?_ (by with_unfolding_all rfl)
  refine wpAny_getItem_list_slice ht.isList (Heap.IsSliceOf.new _ vl vu vs) pl pu ps (fun z => by have := Option.some.inj z; omega) ?_ (by rw [List.size_toArray]; omega)
  rw [pick_every hk]
  have hv : Vals (everyK xs k) ((List.range ((its.length + k - 1) / k)).map (k * ·) |>.filterMap (its[·]?)) := by
    have := vals_pick r ((List.range ((its.length + k - 1) / k)).map (k * ·))
    unfold everyK
    rw [List.filterMap_map] at this
    rw [hlen]
    exact this
  have hle : (everyK xs k).length ≤ sizeLine := by
    have h1 : (everyK xs k).length ≤ (xs.length + k - 1) / k := by
      unfold everyK
      have := List.length_filterMap_le (fun i => xs[k * i]?) (List.range ((xs.length + k - 1) / k))
      rw [List.length_range] at this
      exact this
    have h2 : (xs.length + k - 1) / k ≤ xs.length := by
      by_cases h0 : xs.length = 0
      · rw [h0, Nat.zero_add, Nat.div_eq_of_lt (by omega)]; omega
      · refine Nat.div_le_of_le_mul ?_
        have : xs.length * 1 + k * 1 ≤ k * xs.length + 1 := by
          have e1 : xs.length = (xs.length - 1) + 1 := by omega
          have e2 : k * xs.length = k * (xs.length - 1) + k := by conv => lhs; rw [e1, Nat.mul_add, Nat.mul_one]
          have e3 : (xs.length - 1) ≤ k * (xs.length - 1) := Nat.le_mul_of_pos_left _ hk
          omega
        omega
    omega
  refine ⟨.ref _, _, I5.laid (t' := s4.toks) (o := .lst (everyK xs k)) (fun b ob q => Heap.get?_push_of_some _ q) (Nat.le_refl _) ?_, rfl, q _ (I5.hok.fresh (Nat.le_refl _))⟩
  exact ⟨hle, _, 0, hv, Heap.get?_push_size _ rfl⟩
end Sp

/-! Cls: objects of own classes: one call for several classes, a base's __init__ by its name, methods called in a try, isinstance of an instance. -/
namespace Sp
open PySem PySem.Spec L2 PyProof.Rows
/-- either reading will do -/
def tOr2 (t u : TE) : TE := fun σ H Q => t σ H Q ∨ u σ H Q
theorem pe_or2 {X : Cx} {e : Expr} {t u : TE} (h1 : PE X e t) (h2 : PE X e u) : PE X e (tOr2 t u) := ⟨fun pins s σ H Q I h => h.elim (h1.run pins s σ H Q I) (h2.run pins s σ H Q I)⟩
/-- what the class at C gives under a name, read off the class -/
structure BaseC (K : PySem.W.Frag) (C : Addr) (m : Str) (f : Addr) : Prop where
  ga : PySem.W.specialIn K (.ref C) "__getattribute__" = some (some (.builtin "type.__getattribute__"))
  rd : PySem.W.readsIn K C (.type "type") = true
  fd : PySem.W.findCls K (.ref C) (.type "type") m = some (.val (.ref f))
  kp : PySem.W.keepIn K (.ref f) = true
def tBase (C : Addr) (sp : L2.Sp) (E : XK) (to : TE) (t : TA) : TE := fun σ H Q => to σ H fun x H1 => x = .ref C ∧ t σ H1 fun vs H2 => sp vs H2 Q E
section
variable {X : Cx} {CX : CXT} {k : Nat} {f C : Addr} {fd : FuncData} {ps : List Str} {sp : L2.Sp} {E : XK} {x m : Str} {p pos apos : Pos} {e o : Expr} {es : List Expr} {ta : TE} {t : TA}
theorem pe_base {pl : Sem Bool} (he : PE X o ta) (b : BaseC X.K C m f) (F : FnOk X.prog X.w X.K X.mg X.base CX k f fd ps sp) (hr : Room k X.A) (hb : Binds X.K fd ps []) (hx : Passes CX X E) (ha : PA X (e :: es) t)
    (hst : starEach (e :: es) X.env = (false, eval e X.env) :: starEach es X.env := by rfl) (hpl : (backTo pos (starEach es X.env)).any (·.1) = false := by rfl)
    (ht : eval (.Call (.Attribute o m apos) (e :: es) [] pos) X.env = (do
      let ov ← eval o X.env
      standAt apos.atName
      let (f, first) ← holding [ov] (getMethod ov m pl)
      callWith pos f first (backTo pos (starEach (e :: es) X.env)) (backToKw pos (keywordEach [] X.env))) := by rfl) :
    PE X (.Call (.Attribute o m apos) (e :: es) [] pos) (tBase C sp E ta t) := by
  constructor
  intro pins s σ H Q I h
  refine PySem.W.methodCall_KW (pl := pl) (thn (he.run pins s σ H _ I h) ?_) ht
  rintro u s1 ⟨v, H1, I1, rx, rfl, q⟩
  obtain rfl : u = Value.ref C := rx
  refine PySem.W.method_cls I1.kIn b.ga (PySem.W.cls_value I1.kIn b.rd b.fd rfl ?_)
  have I2 := I1.tok (s1.toks + 1)
  refine PySem.W.callWith_K (first := []) (h₀ := X.base) I.ok.mod.kin b.kp (thn (ha.run pos pins _ σ H1 _ I2 q) ?_) hst hpl
  rintro us s2 ⟨vs, H2, I3, r, q2⟩
  refine ⟨I3.kIn, ?_⟩
  exact run_fn F hr hb .nil hx I3 r (by rw [List.append_nil]; exact q2)
/-- o.m(..) in a try: what is raised is wished for at the caller's slots -/
def tMethS (C : Addr) (m : Str) (sp : L2.Sp) (E : L2.St → XK) (ta : TE) (t : TA) : TE := fun σ H Q => ta σ H fun x H1 => ∃ a dx fs, x = .ref a ∧ H1 a = some (.ins C dx fs) ∧ fs.lookup m = none ∧ t σ H1 fun vs H2 => sp (x :: vs) H2 Q (E σ)
theorem pe_methS {pl : Sem Bool} {E : L2.St → XK} (he : PE X o ta) (c : Cls X.K C) (hm : Meth X.K C m f) (F : FnOk X.prog X.w X.K X.mg X.base CX k f fd ps sp) (hr : Room k X.A) (hb : Binds X.K fd ps []) (hx : ∀ σ, PassesAt CX X σ (E σ)) (ha : PA X (e :: es) t)
    (hst : starEach (e :: es) X.env = (false, eval e X.env) :: starEach es X.env := by rfl) (hpl : (backTo pos (starEach es X.env)).any (·.1) = false := by rfl)
    (ht : eval (.Call (.Attribute o m apos) (e :: es) [] pos) X.env = (do
      let ov ← eval o X.env
      standAt apos.atName
      let (f, first) ← holding [ov] (getMethod ov m pl)
      callWith pos f first (backTo pos (starEach (e :: es) X.env)) (backToKw pos (keywordEach [] X.env))) := by rfl) :
    PE X (.Call (.Attribute o m apos) (e :: es) [] pos) (tMethS C m sp E ta t) := by
  constructor
  intro pins s σ H Q I h
  refine PySem.W.methodCall_KW (pl := pl) (thn (he.run pins s σ H _ I h) ?_) ht
  rintro u s1 ⟨v, H1, I1, rx, a, dx, fs, rfl, ea, l, q⟩
  obtain rfl : u = Value.ref a := rx
  refine getmeth_ok I1 ea c hm l ?_
  refine PySem.W.callWith_K (first := [.ref a]) (h₀ := X.base) I.ok.mod.kin hm.kp (thn (ha.run pos pins s1 σ H1 _ I1 q) ?_) hst hpl
  rintro us s2 ⟨vs, H2, I2, r, q2⟩
  refine ⟨I2.kIn, ?_⟩
  exact run_fnS (us := .ref a :: us) (vs := .ref a :: vs) F hr hb (hx σ) I2 (.cons rfl r) q2
end
/-! ### readings -/
section
variable {K : PySem.W.Frag} {σ : L2.St} {H : Hp} {Q : VK} {D : Ends} {t u ta to : TE} {tr : TA} {C : Addr} {m f : Str} {sp : L2.Sp} {E : XK} {dvs : List V}
theorem x_o1 (h : t σ H Q) : tOr2 t u σ H Q := .inl h
theorem x_o2 (h : u σ H Q) : tOr2 t u σ H Q := .inr h
theorem x_meth (h : ta σ H fun x H1 => ∃ a dx fs, x = .ref a ∧ H1 a = some (.ins C dx fs) ∧ fs.lookup m = none ∧ tr σ H1 fun vs H2 => sp (x :: (vs ++ dvs)) H2 Q E) : tMeth C m sp dvs E ta tr σ H Q := h
theorem x_methS {E : L2.St → XK} (h : ta σ H fun x H1 => ∃ a dx fs, x = .ref a ∧ H1 a = some (.ins C dx fs) ∧ fs.lookup m = none ∧ tr σ H1 fun vs H2 => sp (x :: vs) H2 Q (E σ)) : tMethS C m sp E ta tr σ H Q := h
theorem x_base (h : to σ H fun x H1 => x = .ref C ∧ tr σ H1 fun vs H2 => sp vs H2 Q E) : tBase C sp E to tr σ H Q := h
theorem x_at {P : V → Prop} {a : Addr} (h : P (.ref a)) (e : V) (he : e = .ref a) : P e := he ▸ h
theorem x_fld (h : ta σ H fun x H1 => ∃ a C dx fs v, x = .ref a ∧ H1 a = some (.ins C dx fs) ∧ Cls K C ∧ NoAttr K C f ∧ fs.lookup f = some v ∧ Q v H1) : tFld K ta f σ H Q := h
theorem x_sfld {tv : TE} (h : tv σ H fun y H1 => ta σ H1 fun x H2 => ∃ a C dx fs, x = .ref a ∧ H2 a = some (.ins C dx fs) ∧ Cls K C ∧ NoAttr K C f ∧ fs.length < 1000 ∧ D.nx σ (upd H2 a (.ins C dx (putF f y fs)))) : sFld K ta tv f D σ H := h
theorem x_make (h : tr σ H fun vs H1 => ∀ x dx, H1 x = none → H1 dx = none → dx ≠ x → sp (.ref x :: (vs ++ dvs)) (upd (upd H1 dx (.own x)) x (.ins C dx [])) (fun v H2 => v = .non ∧ Q (.ref x) H2) E) : tMake C sp dvs E tr σ H Q := h
end
/-- but for what stands at p, all stands -/
def SameX (p : Addr) (H H' : Hp) : Prop := ∀ q o, q ≠ p → H q = some o → H' q = some o
theorem SameX.refl (p : Addr) (H : Hp) : SameX p H H := fun _ _ _ h => h
theorem SameX.upd {p : Addr} {H : Hp} {o : HO} : SameX p H (upd H p o) := fun q u h e => by rw [upd_ne h]; exact e
theorem SameX.trans {p : Addr} {H H' H'' : Hp} (a : SameX p H H') (b : SameX p H' H'') : SameX p H H'' := fun q o h e => b q o h (a q o h e)
theorem Same.x {p : Addr} {H H' : Hp} (s : Same H H') : SameX p H H' := fun q o _ e => s _ _ e
theorem Own.setX {B H H' : Hp} {cs : Cells} {p : Addr} {o o' : HO} (w : Own B cs H) (i : Nat) (h : cs[i]? = some (p, o)) (s : SameX p H H') (c : H' p = some o') : Own B (cs.set i (p, o')) H' := by
  have w2 := w.put (o' := o') i h
  have e : Same (upd H p o') H' := fun q u hq => by
    by_cases z : q = p
    · subst z; rw [upd_same] at hq; rw [← hq]; exact c
    · rw [upd_ne z] at hq; exact s q u z hq
  exact w2.ext e
theorem own_setXN {B H H' : Hp} {cs : Cells} {p l : Addr} {o o' ol : HO} (w : Own B cs H) (i : Nat) (h : cs[i]? = some (p, o)) (s : SameX p H H') (c : H' p = some o') (nl : H l = none) (cl : H' l = some ol) : Own B ((l, ol) :: cs.set i (p, o')) H' := by
  have w2 := w.setX i h s c
  refine ⟨w2.ex, fun q hq => ?_, ?_⟩
  · cases hq with
    | head => exact ⟨cl, w.fresh nl⟩
    | tail _ hq => exact w2.cell q hq
  · rw [List.map_cons, List.nodup_cons]
    refine ⟨fun m => ?_, w2.nd⟩
    have e : (cs.set i (p, o')).map (·.1) = cs.map (·.1) := by
      rw [List.map_set]
      apply List.ext_getElem?
      intro j
      by_cases z : i = j
      · subst z
        have hi := (List.getElem?_eq_some_iff.mp h).1
        rw [List.getElem?_set_self (by rw [List.length_map]; exact hi), List.getElem?_map, h] <;> rfl
      · rw [List.getElem?_set_ne z]
    rw [e] at m
    exact w.off nl m
theorem own_keep {B H1 : Hp} {cs : Cells} (w : Own B cs H1) {x dx q : Addr} {o1 o2 oq : HO} (i : Nat) (h : cs[i]? = some (q, oq)) (n1 : H1 x = none) (n2 : H1 dx = none) : upd (upd H1 dx o1) x o2 q = some oq ∧ q ≠ x := by
  have hq := w.get i h
  have a1 : q ≠ x := fun z => by subst z; rw [hq] at n1; cases n1
  have a2 : q ≠ dx := fun z => by subst z; rw [hq] at n2; cases n2
  exact ⟨by rw [upd_ne a1, upd_ne a2]; exact hq, a1⟩
/-- an object made, filled by its __init__, with one list of its own: it stands and stays -/
theorem own_made {B H1 H2 : Hp} {cs : Cells} (w : Own B cs H1) {x dx l C : Addr} {o ol : HO} (n1 : H1 x = none) (n2 : H1 dx = none) (hne : dx ≠ x) (nl : (upd (upd H1 dx (.own x)) x (.ins C dx [])) l = none)
    (s : SameX x (upd (upd H1 dx (.own x)) x (.ins C dx [])) H2) (c : H2 x = some o) (cl : H2 l = some ol) : ∃ B2, Same B B2 ∧ Own B2 cs H2 ∧ B2 x = some o ∧ B2 l = some ol := by
  have w1 := (w.new (o := .own x) n2).new (p := x) (o := .ins C dx []) (by rw [upd_ne (Ne.symm hne)]; exact n1)
  have w2 := own_setXN w1 0 rfl s c nl cl
  have nlx : x ≠ l := fun z => by subst z; rw [upd_same] at nl; cases nl
  have nld : dx ≠ l := fun z => by subst z; rw [upd_ne hne, upd_same] at nl; cases nl
  refine ⟨_, ?_, w2.freeze.freeze.freeze, ?_, ?_⟩
  · exact ((same_upd (w2.none 0 rfl)).trans (same_upd (w2.freeze.none 0 rfl))).trans (same_upd (w2.freeze.freeze.none 0 rfl))
  · rw [upd_ne (Ne.symm hne), upd_same]
  · rw [upd_ne (Ne.symm nld), upd_ne (Ne.symm nlx), upd_same]
theorem own_made0 {B H1 H2 : Hp} {cs : Cells} (w : Own B cs H1) {x dx C : Addr} {o : HO} (n1 : H1 x = none) (n2 : H1 dx = none) (hne : dx ≠ x)
    (s : SameX x (upd (upd H1 dx (.own x)) x (.ins C dx [])) H2) (c : H2 x = some o) : ∃ B2, Same B B2 ∧ Own B2 cs H2 ∧ B2 x = some o := by
  have w1 := (w.new (o := .own x) n2).new (p := x) (o := .ins C dx []) (by rw [upd_ne (Ne.symm hne)]; exact n1)
  have w2 := w1.setX 0 rfl s c
  refine ⟨_, ?_, w2.freeze.freeze, ?_⟩
  · exact (same_upd (w2.none 0 rfl)).trans (same_upd (w2.freeze.none 0 rfl))
  · rw [upd_ne (Ne.symm hne), upd_same]
/-- a list without its cell i -/
theorem Own.at {B H : Hp} {cs : Cells} {p : Addr} {o : HO} (w : Own B cs H) (i : Nat) (h : cs[i]? = some (p, o)) : H p = some o := w.get i h
/-- what isinstance asks of a class of instances -/
structure InsC (K : PySem.W.Frag) (C : Addr) : Prop where
  cl : Cls K C
  ha : PySem.W.findIn K (.ref C) "__class__" = some (some (.builtin "object.__class__"))
  hn : PySem.W.specialIn K (.builtin "object.__class__") "__get__" = some (some (.builtin "getset_descriptor.__get__"))
  ht : PySem.W.takesIn K (.builtin "object.__class__") = some true
  hm : PySem.W.mroIn K C (.type "object") = some true
theorem x_isiC {K : PySem.W.Frag} {H : Hp} {Q : VK} {a C D dx : Addr} {fs : List (Str × V)} {b : Bool} (e : H a = some (.ins C dx fs)) (ic : InsC K C) (ak : AskC K D) (h : PySem.W.subIn K (.ref C) (.ref D) = some b) (q : Q (.bl b) H) : rIsi K [.ref a, .ref D] H Q :=
  ⟨.ref a, .ref D, .ref C, .ref D, b, rfl, .own D, .base (.ins e ic.cl ic.ha ic.hn ic.ht ic.hm), kit_own ak h, q⟩
end Sp

/-! Rul: rules as objects: what stands in them, what a group earns. -/
namespace Sp
open PySem PySem.Spec L2 PyProof.Rows
theorem pi_or2 {X : Cx} {tg e : Expr} {t u : TI} (h1 : PI X tg e t) (h2 : PI X tg e u) : PI X tg e (fun σ H R => t σ H R ∨ u σ H R) := ⟨fun pins s σ H R I h => h.elim (h1.run pins s σ H R I) (h2.run pins s σ H R I)⟩
/-- of the first i hands, those in g: their numbers -/
def sumTo (Ts : List Int) (g : Nat) : Nat → Int
  | 0 => 0
  | i + 1 => if bitOn i g = true then sumTo Ts g i + gi Ts (i : Int) else sumTo Ts g i
def sumS (Ts : List Int) (g : Nat) : Int := sumTo Ts g Ts.length
theorem bit_high : ∀ m, m < 7 → ∀ g, g < 2 ^ m → ∀ i, i < 6 → m ≤ i → bitOn i g = false := by decide +kernel
theorem sumTo_high {Ts : List Int} {g m : Nat} (hm : m ≤ 6) (hg : g < 2 ^ m) : ∀ j, m + j ≤ 6 → sumTo Ts g (m + j) = sumTo Ts g m
  | 0, _ => rfl
  | j + 1, h => by
    show (if bitOn (m + j) g = true then sumTo Ts g (m + j) + gi Ts ((m + j : Nat) : Int) else sumTo Ts g (m + j)) = _
    rw [bit_high m (by omega) g hg (m + j) (by omega) (by omega), if_neg Bool.false_ne_true, sumTo_high hm hg j (by omega)]
theorem hands_sum (Ts : List Int) (g : Nat) : ∀ i, (((List.range i).filter fun h => bitOn h g).map fun h : Nat => gi Ts (h : Int)).sum = sumTo Ts g i
  | 0 => rfl
  | i + 1 => by
    have ih := hands_sum Ts g i
    show _ = (if bitOn i g = true then sumTo Ts g i + gi Ts (i : Int) else sumTo Ts g i)
    cases c : bitOn i g with
    | true => rw [filter_yes (p := fun h => bitOn h g) c, List.sum_append, ih, if_pos rfl]; simp
    | false => rw [filter_no (p := fun h => bitOn h g) c, ih, if_neg Bool.false_ne_true]
theorem hands_sumS {Ts : List Int} {g m : Nat} (hl : Ts.length = m) (hm : m ≤ 6) (hg : g < 2 ^ m) : ((handsM g).map fun h : Nat => gi Ts (h : Int)).sum = sumS Ts g := by
  unfold handsM sumS
  rw [hands_sum, hl]
  have := sumTo_high (Ts := Ts) hm hg (6 - m) (by omega)
  rwa [show m + (6 - m) = 6 by omega] at this
theorem hands_lt {g m h : Nat} (hm : m ≤ 6) (hg : g < 2 ^ m) (hh : h ∈ handsM g) : h < m := by
  have h6 := handsM_lt hh
  unfold handsM at hh
  have hb := (List.mem_filter.mp hh).2
  by_cases c : h < m
  · exact c
  · rw [bit_high m (by omega) g hg h h6 (by omega)] at hb; cases hb
/-- fields as they stand -/
structure InsF (H : Hp) (a C dx : Addr) (fs : List (Str × V)) (m : Nat) : Prop where
  e : H a = some (.ins C dx fs)
  many : fs.lookup ("many" : Str) = some (.int (m : Int))
  c1 : fs.lookup ("earn" : Str) = none
  c2 : fs.lookup ("reckoned" : Str) = none
  c3 : fs.lookup ("hands" : Str) = none
  c4 : fs.lookup ("words" : Str) = none
inductive BaseAt (C : Addr) (K : PySem.W.Frag) (H : Hp) (a : Addr) (m : Nat) (f : Nat → Int) : Prop
  | mk {dx : Addr} (e : H a = some (.ins C dx [("many", .int (m : Int))])) (hf : ∀ g, g < 2 ^ m → f g = 0) : BaseAt C K H a m f
inductive OwnAt (C : Addr) (K : PySem.W.Frag) (H : Hp) (a : Addr) (m : Nat) (f : Nat → Int) : Prop
  | mk {dx l : Addr} {ns : List Int} (e : H a = some (.ins C dx [("many", .int (m : Int)), ("numbers", .ref l)])) (h : SqL K H l (ns.map V.int)) (hl : ns.length = m) (hf : ∀ g, g < 2 ^ m → f g = sumS ns g) : OwnAt C K H a m f
inductive PlainAt (C : Addr) (K : PySem.W.Frag) (H : Hp) (a : Addr) (m : Nat) (f : Nat → Int) : Prop
  | mk {dx l : Addr} {ns : List Int} (e : H a = some (.ins C dx [("many", .int (m : Int)), ("row", .ref l)])) (h : SqL K H l (ns.map V.int)) (hl : ns.length = 2 ^ m) (hf : ∀ g, g < 2 ^ m → f g = fn ns g) : PlainAt C K H a m f
abbrev Tr := Nat × Nat × Int
abbrev trV (t : Tr) : List V := [.int (t.1 : Int), .int (t.2.1 : Int), .int t.2.2]
inductive TrAll (H : Hp) : List Addr → List Tr → Prop
  | nil : TrAll H [] []
  | cons {t : Addr} {ts : List Addr} {f : Tr} {fs : List Tr} : H t = some (.tup (trV f)) → TrAll H ts fs → TrAll H (t :: ts) (f :: fs)
theorem TrAll.same {H H' : Hp} (s : Same H H') : ∀ {ts : List Addr} {fs : List Tr}, TrAll H ts fs → TrAll H' ts fs
  | _, _, .nil => .nil
  | _, _, .cons h r => .cons (s _ _ h) (r.same s)
theorem TrAll.len {H : Hp} : ∀ {ts : List Addr} {fs : List Tr}, TrAll H ts fs → ts.length = fs.length
  | _, _, .nil => rfl
  | _, _, .cons _ r => by rw [List.length_cons, List.length_cons, r.len]
theorem TrAll.at {H : Hp} : ∀ {ts : List Addr} {fs : List Tr}, TrAll H ts fs → ∀ {i : Nat} {t : Addr}, ts[i]? = some t → ∃ f, fs[i]? = some f ∧ H t = some (.tup (trV f))
  | _, _, .nil, i, _, h => by rw [List.getElem?_nil] at h; cases h
  | _, _, .cons (f := f) h r, 0, t, e => ⟨f, rfl, by cases e; exact h⟩
  | _, _, .cons h r, i + 1, t, e => r.at (i := i) (by simpa using e)
theorem TrAll.snoc {H : Hp} {t : Addr} {f : Tr} (ht : H t = some (.tup (trV f))) : ∀ {ts : List Addr} {fs : List Tr}, TrAll H ts fs → TrAll H (ts ++ [t]) (fs ++ [f])
  | _, _, .nil => .cons ht .nil
  | _, _, .cons h r => .cons h (r.snoc ht)
def both (t : Tr) (g : Nat) : Bool := bitOn t.1 g && bitOn t.2.1 g
def pairsS (fs : List Tr) (g : Nat) : Int := (fs.map fun t => if both t g = true then t.2.2 else 0).sum
theorem pairsS_step {fs : List Tr} {i : Nat} {t : Tr} (h : fs[i]? = some t) (g : Nat) : pairsS (fs.take (i + 1)) g = pairsS (fs.take i) g + (if both t g = true then t.2.2 else 0) := by
  unfold pairsS
  rw [List.take_add_one, h, List.map_append, List.sum_append]
  simp
/-- a pair of hands below m, the lesser first -/
def PairOk (m : Nat) (t : Tr) : Prop := t.1 < t.2.1 ∧ t.2.1 < m
inductive PairsAt (C : Addr) (K : PySem.W.Frag) (H : Hp) (a : Addr) (m : Nat) (f : Nat → Int) : Prop
  | mk {dx l : Addr} {ts : List Addr} {fs : List Tr} (e : H a = some (.ins C dx [("many", .int (m : Int)), ("pairs", .ref l)])) (h : SqL K H l (ts.map V.ref)) (hr : TrAll H ts fs) (hp : ∀ t ∈ fs, PairOk m t) (hf : ∀ g, g < 2 ^ m → f g = pairsS fs g) : PairsAt C K H a m f
inductive VotesAt (C : Addr) (K : PySem.W.Frag) (H : Hp) (a : Addr) (m : Nat) (f : Nat → Int) : Prop
  | mk {dx l : Addr} {q p : Int} {ws : List Int} (e : H a = some (.ins C dx [("many", .int (m : Int)), ("quota", .int q), ("prize", .int p), ("weights", .ref l)])) (h : SqL K H l (ws.map V.int)) (hl : ws.length = m) (hf : ∀ g, g < 2 ^ m → f g = if q ≤ sumS ws g then p else 0) : VotesAt C K H a m f
section
variable {C : Addr} {K : PySem.W.Frag} {H H' : Hp} {a : Addr} {m : Nat} {f : Nat → Int}
theorem BaseAt.same (h : BaseAt C K H a m f) (s : Same H H') : BaseAt C K H' a m f := by cases h with | mk e hf => exact .mk (s _ _ e) hf
theorem OwnAt.same (h : OwnAt C K H a m f) (s : Same H H') : OwnAt C K H' a m f := by cases h with | mk e h hl hf => exact .mk (s _ _ e) (s.seq h) hl hf
theorem PlainAt.same (h : PlainAt C K H a m f) (s : Same H H') : PlainAt C K H' a m f := by cases h with | mk e h hl hf => exact .mk (s _ _ e) (s.seq h) hl hf
theorem PairsAt.same (h : PairsAt C K H a m f) (s : Same H H') : PairsAt C K H' a m f := by cases h with | mk e h hr hp hf => exact .mk (s _ _ e) (s.seq h) (hr.same s) hp hf
theorem VotesAt.same (h : VotesAt C K H a m f) (s : Same H H') : VotesAt C K H' a m f := by cases h with | mk e h hl hf => exact .mk (s _ _ e) (s.seq h) hl hf
theorem BaseAt.ins (h : BaseAt C K H a m f) : ∃ dx fs, InsF H a C dx fs m := by cases h with | mk e hf => exact ⟨_, _, e, rfl, rfl, rfl, rfl, rfl⟩
theorem OwnAt.ins (h : OwnAt C K H a m f) : ∃ dx fs, InsF H a C dx fs m := by cases h with | mk e h hl hf => exact ⟨_, _, e, rfl, rfl, rfl, rfl, rfl⟩
theorem PlainAt.ins (h : PlainAt C K H a m f) : ∃ dx fs, InsF H a C dx fs m := by cases h with | mk e h hl hf => exact ⟨_, _, e, rfl, rfl, rfl, rfl, rfl⟩
theorem PairsAt.ins (h : PairsAt C K H a m f) : ∃ dx fs, InsF H a C dx fs m := by cases h with | mk e h hr hp hf => exact ⟨_, _, e, rfl, rfl, rfl, rfl, rfl⟩
theorem VotesAt.ins (h : VotesAt C K H a m f) : ∃ dx fs, InsF H a C dx fs m := by cases h with | mk e h hl hf => exact ⟨_, _, e, rfl, rfl, rfl, rfl, rfl⟩
end
theorem thing_x {p : Addr} {H H' : Hp} {v : V} (s : SameX p H H') (h : Thing H v) (n : v ≠ .ref p) : Thing H' v := by
  have k : ∀ {a : Addr} {u : HO}, V.ref a ≠ .ref p → Rd H a u → Rd H' a u := fun {a u} hne r => by
    have hn : a ≠ p := fun z => hne (by rw [z])
    rcases r with r | ⟨o, r⟩
    · exact .inl (s _ _ hn r)
    · exact .inr ⟨o, s _ _ hn r⟩
  cases h with
  | non => exact .non
  | bl b => exact .bl b
  | int i => exact .int i
  | str x => exact .str x
  | lst q => exact .lst (k n q)
  | tup q => exact .tup (k n q)
  | dic q => exact .dic (s _ _ (fun z => n (by rw [z])) q)
theorem sqL_x {K : PySem.W.Frag} {p b : Addr} {H H' : Hp} {xs : List V} (s : SameX p H H') (h : SqL K H b xs) (n : b ≠ p) : SqL K H' b xs := by
  rcases h with (h | ⟨o, h⟩) | h
  · exact .inl (.inl (s _ _ n h))
  · exact .inl (.inr ⟨o, s _ _ n h⟩)
  · exact .inr h
theorem all_int {ys : List V} (h : ys.all isI = true) : ∃ ns : List Int, ys = ns.map V.int := by
  induction ys with
  | nil => exact ⟨[], rfl⟩
  | cons y r ih =>
    rw [List.all_cons, Bool.and_eq_true] at h
    obtain ⟨ns, rfl⟩ := ih h.2
    cases y with
    | int z => exact ⟨z :: ns, rfl⟩
    | _ => exact absurd h.1 Bool.false_ne_true
theorem thing_ne {p C dx : Addr} {fs : List (Str × V)} {H : Hp} {v : V} (e : H p = some (.ins C dx fs)) (h : Thing H v) : v ≠ .ref p := fun z => by
  subst z
  cases h with
  | lst q => rcases q with q | ⟨o, q⟩ <;> rw [e] at q <;> cases q
  | tup q => rcases q with q | ⟨o, q⟩ <;> rw [e] at q <;> cases q
  | dic q => rw [e] at q; cases q
theorem sqL_ne {K : PySem.W.Frag} {p C dx b : Addr} {fs : List (Str × V)} {H : Hp} {xs : List V} (e : H p = some (.ins C dx fs)) (h : Rd H b (.lst xs)) : b ≠ p := fun z => by
  subst z
  rcases h with h | ⟨o, h⟩ <;> rw [e] at h <;> cases h
theorem rdT_ne {p C dx b : Addr} {fs : List (Str × V)} {H : Hp} {xs : List V} (e : H p = some (.ins C dx fs)) (h : Rd H b (.tup xs)) : b ≠ p := fun z => by
  subst z
  rcases h with h | ⟨o, h⟩ <;> rw [e] at h <;> cases h
theorem rd_x {p b : Addr} {H H' : Hp} {u : HO} (s : SameX p H H') (h : Rd H b u) (n : b ≠ p) : Rd H' b u := by
  rcases h with h | ⟨o, h⟩
  · exact .inl (s _ _ n h)
  · exact .inr ⟨o, s _ _ n h⟩
/-- the bits of two hands at once -/
theorem both_bits : ∀ i, i < 6 → ∀ j, j < 6 → ∀ g, g < 64 → decide ((g / 2 ^ i &&& g / 2 ^ j) &&& 1 = 1) = (bitOn i g && bitOn j g) := by decide +kernel
theorem both_int {i j g : Nat} (hi : i < 6) (hj : j < 6) (hg : g < 64) : decide (Builtin.bitAnd (Builtin.bitAnd ((g : Int) / 2 ^ ((i : Int)).toNat) ((g : Int) / 2 ^ ((j : Int)).toNat)) 1 = 1) = (bitOn i g && bitOn j g) := by
  rw [← both_bits i hi j hj g hg]
  have e : ∀ k : Nat, (g : Int) / 2 ^ ((k : Int)).toNat = ((g / 2 ^ k : Nat) : Int) := fun k => by rw [Int.toNat_natCast, Int.natCast_ediv, Int.natCast_pow] <;> rfl
  rw [e i, e j, and_nat, show (1 : Int) = ((1 : Nat) : Int) from rfl, and_nat]
  exact decide_eq_decide.mpr (by omega)
/-- what a def that fills an object leaves: all but p stands -/
def RetX (p : Addr) (o : HO) (H : Hp) (Q : VK) : Prop := ∀ H', SameX p H H' → H' p = some o → Q .non H'
end Sp

/-! Sdt: sorted(d) of a dict whose keys are pairs of ints. -/
namespace Sp
open PySem PySem.Spec L2 PyProof.Rows
/-- the pair that stands at b -/
def pairH (H : Hp) (b : Addr) : Int × Int := match H b with
  | some (.tup [.int i, .int j]) => (i, j)
  | _ => (0, 0)
theorem pairH_of {H : Hp} {b : Addr} {i j : Int} (h : H b = some (.tup [.int i, .int j])) : pairH H b = (i, j) := by unfold pairH; rw [h]
def pairK (H : Hp) (v : Value) : Int × Int := match v with
  | .ref b => pairH H b
  | _ => (0, 0)
def keyP (p : Int × Int) : List Key := [Sum.inl p.1, Sum.inl p.2]
def rSortedDT : List V → Hp → VK → Prop := fun xs H Q => ∃ (d : Addr) (kvs : List (List Key × V)) (pk : List (Int × Int)), xs = [V.ref d] ∧ Rd H d (.dT kvs) ∧ kvs.map (·.1) = pk.map keyP ∧
  ∀ (bs : List Addr) (ps : List (Int × Int)) (p : Addr), ps.Perm pk → ps.Pairwise (fun x y => SrtO.lexB y x = false) → Paired (fun b q => H b = some (.tup [.int q.1, .int q.2])) bs ps → H p = none → Q (.ref p) (upd H p (.lst (bs.map V.ref)))
theorem paired_map {H : Hp} : ∀ {bs : List Addr}, (∀ b ∈ bs, ∃ i j, H b = some (.tup [.int i, .int j])) → Paired (fun b q => H b = some (.tup [.int q.1, .int q.2])) bs (bs.map (pairH H))
  | [], _ => .nil
  | b :: bs, h => by
    obtain ⟨i, j, e⟩ := h b (.head _)
    refine .cons ?_ (paired_map fun x m => h x (.tail _ m))
    rw [pairH_of e]; exact e
theorem kt_keys {H : Hp} : ∀ {kvs : List (List Key × V)} {ks : List (List Key × Addr × Value)}, KT H kvs ks → ∀ {pk : List (Int × Int)}, kvs.map (·.1) = pk.map keyP →
    (∀ b ∈ ks.map (fun x => x.2.1), ∃ i j, H b = some (.tup [.int i, .int j])) ∧ (ks.map fun x => x.2.1).map (pairH H) = pk
  | _, _, .nil, pk, h => by
    cases pk with
    | nil => exact ⟨fun _ m => (nomatch m), rfl⟩
    | cons p pk => cases h
  | _, _, @Paired.cons _ _ _ _ q _ _ a r, pk, h => by
    cases pk with
    | nil => cases h
    | cons p pk =>
      rw [List.map_cons, List.map_cons] at h
      obtain ⟨h1, h2⟩ := List.cons.inj h
      obtain ⟨i1, i2⟩ := kt_keys r h2
      have e : H q.2.1 = some (.tup [.int p.1, .int p.2]) := by
        have := a.2.1
        rw [h1] at this; exact this
      refine ⟨fun b m => ?_, ?_⟩
      · rw [List.map_cons] at m
        cases m with
        | head => exact ⟨_, _, e⟩
        | tail _ m => exact i1 b m
      · rw [List.map_cons, List.map_cons, i2, pairH_of e]
theorem refs_of {bs : List Addr} : ∀ {out : List Value}, (∀ v ∈ out, v ∈ bs.map Value.ref) → ∃ cs : List Addr, out = cs.map Value.ref ∧ ∀ c ∈ cs, c ∈ bs
  | [], _ => ⟨[], rfl, fun _ m => nomatch m⟩
  | v :: out, h => by
    obtain ⟨cs, rfl, hc⟩ := refs_of fun x m => h x (.tail _ m)
    obtain ⟨b, hb, rfl⟩ := List.mem_map.mp (h v (.head _))
    exact ⟨b :: cs, rfl, fun c m => by
      cases m with
      | head => exact hb
      | tail _ m => exact hc c m⟩
def unref (v : Value) : Addr := match v with
  | .ref b => b
  | _ => 0
theorem unref_map : ∀ bs : List Addr, (bs.map Value.ref).map unref = bs
  | [] => rfl
  | b :: bs => by rw [List.map_cons, List.map_cons, unref_map bs] <;> rfl
theorem call_sortedDT {X : Cx} (hcalm : X.calm = true) : CallR X (.builtin "sorted") rSortedDT := by
  intro pins s σ H xs us Q I r want
  obtain ⟨d, kvs, pk, rfl, hd, hk, want⟩ := want
  obtain ⟨u, rfl, rx⟩ := r.one
  cases rx
  obtain ⟨z, hs, ks, pr, o, es, ep, ho, hx, hdt, he, hn⟩ := (show ObjOk X.prog X.w H s.heap d (.dT kvs) from hd.ok I.hok)
  have l1 : es.size = ks.length := size_of_entries he
  have l2 : kvs.length = ks.length := Paired.length pr
  obtain ⟨kt1, kt2⟩ := kt_keys pr hk
  refine Calls.call_function_entry kind_sorted plain_sorted entry_sorted (args_sorted1 _) ?_
  unfold Builtin.«sorted»
  refine wpAny_bind (m := checkCount "sorted" 1 1 _) (wpAny_pure ?_)
  refine wpAny_bind (PySem.W.kdu_collect (A := X.A.in1) (kdl_raw hs hx hdt) (I.ok.hd hcalm) ho (by omega) ?_)
  intro h' tk acc keep it
  have ea : acc.toList = (ks.map fun x => x.2.1).map Value.ref := by
    have hl : acc.toList.length = ks.length := by rw [Array.length_toList, it.1]; exact l1
    apply List.ext_getElem?
    intro j
    rw [List.getElem?_map, List.getElem?_map]
    cases hj : acc.toList[j]? with
    | none =>
      rw [List.getElem?_eq_none (by have := List.getElem?_eq_none_iff.mp hj; omega)] <;> rfl
    | some v =>
      obtain ⟨en, hen, rfl⟩ := it.2 j v (by rw [← Array.getElem?_toList]; exact hj)
      have qe := entry_at he j
      rw [hen] at qe
      cases hb : ks[j]? with
      | none => rw [hb] at qe; cases qe
      | some b =>
        rw [hb] at qe
        obtain rfl : en = entryOfKey (tupleKind (mixKind X.prog X.w)) b := Option.some.inj qe
        rfl
  have I1 : Inv X pins σ H { s with heap := h', toks := tk } := I.kept keep
  have hal : acc.toList.length ≤ sizeLine := by rw [ea, List.length_map, List.length_map]; omega
  refine wpAny_bind (wpAny_newList ?_ hal)
  have hoL : (h'.push (seqObj "list" acc.toList.toArray 0)).get? h'.objs.size = some (seqObj "list" acc.toList.toArray 0) := Heap.get?_push_size _ rfl
  have pairs : ∀ v ∈ acc.toList, Srt.IsPair h' v (pairK H v).1 (pairK H v).2 := fun v hv => by
    rw [ea] at hv
    obtain ⟨b, hb, rfl⟩ := List.mem_map.mp hv
    obtain ⟨i, j, e⟩ := kt1 b hb
    obtain ⟨_, its2, r2, o2, ho2, hc2, n2, hd2⟩ := (show ObjOk X.prog X.w H h' b (.tup [.int i, .int j]) from I1.hok _ _ e)
    obtain ⟨u1, u2, rfl, ri, rj⟩ := vals2 r2
    obtain ⟨t1, rfl⟩ := ri
    obtain ⟨t2, rfl⟩ := rj
    have ek : pairK H (.ref b) = (i, j) := pairH_of e
    rw [ek]
    exact ⟨b, o2, t1, t2, n2, rfl, ho2, hc2, hd2⟩
  refine (show wpAny _ _ _ _ _ { s with heap := h'.push (seqObj "list" acc.toList.toArray 0), toks := tk } from ?_)
  refine wpAny_bind (wpAny_holding (wpAny_call_entry slot_list_sort ⟨_, hoL, rfl⟩ entry_list_sort (SrtO.list_sort_ord (SrtO.swo_lex (pairK H)) hoL hal (fun h2 => ?_) fun out g1 g2 => ⟨_, rfl, ?_⟩) (args_list_sort _)))
  · refine SrtO.pairs_sortableO (by omega) (fun v hm => (pairs v hm).keeps fun b o e _ => Heap.get?_push_of_some _ e) fun o e => ?_
    rw [hoL] at e
    cases e
    intro c
    exact absurd (Value.type.inj c) (by decide)
  · obtain ⟨e', he'⟩ := sortedHeap_at (vs := acc.toList) (out := out.toArray) hoL
    obtain ⟨bs, rfl, hbs⟩ := refs_of (bs := ks.map fun x => x.2.1) (out := out) fun v hv => by rw [← ea]; exact g2.perm.mem_iff.mp hv
    have hperm : bs.Perm (ks.map fun x => x.2.1) := by
      have := g2.perm
      rw [ea] at this
      have h2 := this.map unref
      rw [unref_map, unref_map] at h2
      exact h2
    have hb' : ∀ b ∈ bs, ∃ i j, H b = some (.tup [.int i, .int j]) := fun b m => kt1 b (hbs b m)
    have hlen : (bs.map V.ref).length ≤ sizeLine := by
      rw [List.length_map, hperm.length_eq, List.length_map]; omega
    have q := want bs (bs.map (pairH H)) h'.objs.size (by rw [← kt2]; exact hperm.map _) (List.pairwise_map.mpr (List.pairwise_map.mp g1)) (paired_map hb') (I1.hok.fresh (Nat.le_refl _))
    refine wpAny_pure ⟨_, rfl, .ref h'.objs.size, upd H h'.objs.size (.lst (bs.map V.ref)), I1.laid (t' := tk) (fun b u e => ?_) (Nat.le_refl _)
      (show ObjOk X.prog X.w _ _ _ (.lst (bs.map V.ref)) from ⟨hlen, bs.map Value.ref, e', vals_refs bs, he'⟩), rfl, q⟩
    have hb : b < h'.objs.size := Heap.lt_size e
    rw [sortedHeap_old (Nat.ne_of_lt hb) (by rw [size_push']; exact Nat.lt_succ_of_lt hb)]
    exact Heap.get?_push_of_some _ e
end Sp

/-! Prs: pairs of hands with numbers, in dicts, sorted. -/
namespace Sp
open PySem PySem.Spec L2 PyProof.Rows
def trK (t : Tr) : List Key := [Sum.inl (t.1 : Int), Sum.inl (t.2.1 : Int)]
def trP (t : Tr) : Int × Int := ((t.1 : Int), (t.2.1 : Int))
def entT2 (t : Tr) : List Key × V := (trK t, .int t.2.2)
theorem trK_inj {a b : Tr} (h : trK a = trK b) : a.1 = b.1 ∧ a.2.1 = b.2.1 := by
  unfold trK at h
  simp only [List.cons.injEq, Sum.inl.injEq, and_true] at h
  omega
theorem valT_none {fs : List Tr} {k : List Key} (h : ∀ t ∈ fs, trK t ≠ k) : valV (fs.map entT2) k = none := by
  induction fs with
  | nil => rfl
  | cons t fs ih =>
    rw [List.map_cons, valV_neg (h t (.head _)), ih fun x m => h x (.tail _ m)]
theorem valT_some {fs : List Tr} {t : Tr} (nd : (fs.map trK).Nodup) (h : t ∈ fs) : valV (fs.map entT2) (trK t) = some (.int t.2.2) := by
  induction fs with
  | nil => cases h
  | cons u fs ih =>
    rw [List.map_cons, List.nodup_cons] at nd
    rw [List.map_cons]
    cases h with
    | head => exact valV_pos rfl
    | tail _ h =>
      rw [valV_neg (fun e => nd.1 (by rw [show trK u = trK t from e]; exact List.mem_map.mpr ⟨t, h, rfl⟩)), ih nd.2 h]
theorem valT_mem {fs : List Tr} {k : List Key} (h : (valV (fs.map entT2) k).isSome = true) : ∃ t ∈ fs, trK t = k := by
  induction fs with
  | nil => cases h
  | cons t fs ih =>
    rw [List.map_cons] at h
    by_cases e : trK t = k
    · exact ⟨t, .head _, e⟩
    · rw [valV_neg (p := entT2 t) e] at h
      obtain ⟨u, m, hu⟩ := ih h
      exact ⟨u, .tail _ m, hu⟩
theorem putT_new {fs : List Tr} {k : List Key} {v : V} (h : ∀ t ∈ fs, trK t ≠ k) : putK (fs.map entT2) k v = fs.map entT2 ++ [(k, v)] := by
  unfold putK
  rw [if_neg]
  intro z
  rw [List.any_eq_true] at z
  obtain ⟨p, hp, e⟩ := z
  obtain ⟨t, m, rfl⟩ := List.mem_map.mp hp
  exact h t m (of_decide_eq_true e)
/-- a list of pairs with their numbers is told -/
def RetTr (fs : List Tr) (H : Hp) (Q : VK) : Prop := ∀ (p : Addr) (ts : List Addr) (H' : Hp), H p = none → (∀ t ∈ ts, H t = none) → Same H H' → H' p = some (.lst (ts.map V.ref)) → TrAll H' ts fs → Q (.ref p) H'
theorem TrAll.congr {H H' : Hp} : ∀ {ts : List Addr} {fs : List Tr}, (∀ t ∈ ts, H' t = H t) → TrAll H ts fs → TrAll H' ts fs
  | _, _, _, .nil => .nil
  | _, _, e, .cons h r => .cons ((e _ (.head _)).trans h) (r.congr fun t m => e t (.tail _ m))
theorem TrAll.mem {H : Hp} : ∀ {ts : List Addr} {fs : List Tr}, TrAll H ts fs → ∀ t ∈ ts, ∃ f, H t = some (.tup (trV f))
  | _, _, .cons (f := f) h r, t, m => by
    cases m with
    | head => exact ⟨f, h⟩
    | tail _ m => exact r.mem t m
theorem TrAll.tup {H : Hp} : ∀ {ts : List Addr} {fs : List Tr}, TrAll H ts fs → ∀ {i : Nat} {f : Tr}, fs[i]? = some f → ∃ t, ts[i]? = some t ∧ H t = some (.tup (trV f))
  | _, _, .nil, i, _, h => by rw [List.getElem?_nil] at h; cases h
  | _, _, .cons (t := t) h r, 0, f, e => ⟨t, rfl, by cases e; exact h⟩
  | _, _, .cons h r, i + 1, f, e => r.tup (i := i) (by simpa using e)
theorem TrAll.app {H : Hp} : ∀ {ts us : List Addr} {fs gs : List Tr}, TrAll H ts fs → TrAll H us gs → TrAll H (ts ++ us) (fs ++ gs)
  | _, _, _, _, .nil, h => h
  | _, _, _, _, .cons a r, h => .cons a (r.app h)
theorem TrAll.take {H : Hp} : ∀ {ts : List Addr} {fs : List Tr}, TrAll H ts fs → ∀ n, TrAll H (ts.take n) (fs.take n)
  | _, _, .nil, n => by rw [List.take_nil, List.take_nil]; exact .nil
  | _, _, .cons _ _, 0 => .nil
  | _, _, .cons a r, n + 1 => .cons a (r.take n)
theorem TrAll.drop {H : Hp} : ∀ {ts : List Addr} {fs : List Tr}, TrAll H ts fs → ∀ n, TrAll H (ts.drop n) (fs.drop n)
  | _, _, .nil, n => by rw [List.drop_nil, List.drop_nil]; exact .nil
  | _, _, .cons a r, 0 => .cons a r
  | _, _, .cons a r, n + 1 => r.drop n
/-- tuples that are new join what stands and stays -/
theorem own_freezeT {B H : Hp} {cs : Cells} {ts : List Addr} {fs : List Tr} (w : Own B cs H) (f : TrAll H ts fs) (n : ∀ t ∈ ts, B t = none ∧ t ∉ cs.map (·.1)) : ∃ B2, Same B B2 ∧ TrAll B2 ts fs ∧ Own B2 cs H := by
  classical
  refine ⟨fun a => if a ∈ ts then H a else B a, fun a o h => ?_, f.congr fun t m => by show (if t ∈ ts then H t else B t) = _; rw [if_pos m], fun a o h => ?_, fun q hq => ?_, w.nd⟩
  · have : a ∉ ts := fun m => by rw [(n a m).1] at h; cases h
    show (if a ∈ ts then H a else B a) = some o
    rw [if_neg this]; exact h
  · have h : (if a ∈ ts then H a else B a) = some o := h
    by_cases m : a ∈ ts
    · rw [if_pos m] at h; exact h
    · rw [if_neg m] at h; exact w.ex _ _ h
  · obtain ⟨h1, h2⟩ := w.cell q hq
    refine ⟨h1, ?_⟩
    have : q.1 ∉ ts := fun m => (n _ m).2 (List.mem_map.mpr ⟨q, hq, rfl⟩)
    show (if q.1 ∈ ts then H q.1 else B q.1) = none
    rw [if_neg this]; exact h2
/-- a told list of pairs, beside cells of our own -/
theorem own_newT {B H H' : Hp} {cs : Cells} {p : Addr} {ts : List Addr} {fs : List Tr} (w : Own B cs H) (np : H p = none) (nt : ∀ t ∈ ts, H t = none) (s : Same H H') (c : H' p = some (.lst (ts.map V.ref))) (f : TrAll H' ts fs) :
    ∃ B2, Same B B2 ∧ TrAll B2 ts fs ∧ Own B2 ((p, .lst (ts.map V.ref)) :: cs) H' := by
  refine own_freezeT (w.newE np s c) f fun t m => ⟨w.fresh (nt t m), fun hm => ?_⟩
  rw [List.map_cons] at hm
  cases hm with
  | head =>
    obtain ⟨g, hg⟩ := f.mem _ m
    rw [c] at hg; cases hg
  | tail _ hm => exact w.off (nt t m) hm
theorem sum_perm {l l' : List Int} (h : l.Perm l') : l.sum = l'.sum := by
  induction h with
  | nil => rfl
  | cons x _ ih => rw [List.sum_cons, List.sum_cons, ih]
  | swap x y l => rw [List.sum_cons, List.sum_cons, List.sum_cons, List.sum_cons]; omega
  | trans _ _ i1 i2 => exact i1.trans i2
theorem pairsS_perm {fs gs : List Tr} (h : fs.Perm gs) (g : Nat) : pairsS fs g = pairsS gs g := by
  unfold pairsS
  exact sum_perm (h.map _)
/-- which pairs a list of tuples tells -/
def pairsOk (m : Nat) (fs : List Tr) : Prop := (∀ t ∈ fs, PairOk m t) ∧ (fs.map trK).Nodup
theorem pairsOk_perm {m : Nat} {fs gs : List Tr} (h : fs.Perm gs) (o : pairsOk m fs) : pairsOk m gs := ⟨fun t ht => o.1 t (h.mem_iff.mpr ht), (h.map trK).nodup_iff.mp o.2⟩
/-- sorted by their hands -/
def SortedT (fs : List Tr) : Prop := (fs.map trP).Pairwise fun x y => SrtO.lexB y x = false
end Sp
namespace Sp
open PySem PySem.Spec L2 PyProof.Rows
/-- what stands at ts joins what stands and stays -/
theorem own_freezeA {B H : Hp} {cs : Cells} (w : Own B cs H) (ts : List Addr) (n : ∀ t ∈ ts, t ∉ cs.map (·.1)) : ∃ B2, Same B B2 ∧ (∀ t ∈ ts, B2 t = H t) ∧ Own B2 cs H := by
  classical
  refine ⟨fun a => if a ∈ ts then H a else B a, fun a o h => ?_, fun t m => by show (if t ∈ ts then H t else B t) = _; rw [if_pos m], fun a o h => ?_, fun q hq => ?_, w.nd⟩
  · show (if a ∈ ts then H a else B a) = some o
    by_cases m : a ∈ ts
    · rw [if_pos m]; exact w.ex _ _ h
    · rw [if_neg m]; exact h
  · have h : (if a ∈ ts then H a else B a) = some o := h
    by_cases m : a ∈ ts
    · rw [if_pos m] at h; exact h
    · rw [if_neg m] at h; exact w.ex _ _ h
  · obtain ⟨h1, h2⟩ := w.cell q hq
    refine ⟨h1, ?_⟩
    have : q.1 ∉ ts := fun m => n _ m (List.mem_map.mpr ⟨q, hq, rfl⟩)
    show (if q.1 ∈ ts then H q.1 else B q.1) = none
    rw [if_neg this]; exact h2
theorem x_dNewT {σ : L2.St} {H : Hp} {Q : VK} (h : ∀ p, H p = none → Q (.ref p) (upd H p (.dT []))) : tDNewT σ H Q := h
theorem x_dInT {ty td : TE} {σ : L2.St} {H : Hp} {Q : VK} (h : ty σ H fun y H1 => td σ H1 fun x H2 => ∃ a o, x = .ref a ∧ DGet H2 a y o ∧ Q (.bl o.isSome) H2) : tDIn ty td σ H Q := h
theorem x_dPutT {td ty tv : TE} {D : Ends} {σ : L2.St} {H : Hp} (h : tv σ H fun v H1 => td σ H1 fun x H2 => ty σ H2 fun y H3 => ∃ a H4, x = .ref a ∧ DPut H3 a y v H4 ∧ D.nx σ H4) : sDPut td ty tv D σ H := h
theorem x_dGetT {td ty : TE} {σ : L2.St} {H : Hp} {Q : VK} (h : td σ H fun x H1 => ty σ H1 fun y H2 => ∃ a v, x = .ref a ∧ DGet H2 a y (some v) ∧ Q v H2) : tDGet td ty σ H Q := h
theorem x_sortDT {H : Hp} {Q : VK} {d : Addr} {kvs : List (List Key × V)} {pk : List (Int × Int)} (hd : H d = some (.dT kvs)) (hk : kvs.map (·.1) = pk.map keyP)
    (q : ∀ (bs : List Addr) (ps : List (Int × Int)) (p : Addr), ps.Perm pk → ps.Pairwise (fun x y => SrtO.lexB y x = false) → Paired (fun b q => H b = some (.tup [.int q.1, .int q.2])) bs ps → H p = none → Q (.ref p) (upd H p (.lst (bs.map V.ref)))) : rSortedDT [.ref d] H Q := ⟨d, kvs, pk, rfl, .inl hd, hk, q⟩
end Sp
namespace Sp
open PySem PySem.Spec L2 PyProof.Rows
/-- an object made with a list of pairs of its own -/
theorem own_madeT {B H1 H2 : Hp} {cs : Cells} (w : Own B cs H1) {x dx l C : Addr} {fl : List (Str × V)} {C' dx' : Addr} {us : List Addr} {gs : List Tr} (n1 : H1 x = none) (n2 : H1 dx = none) (hne : dx ≠ x) (nl : (upd (upd H1 dx (.own x)) x (.ins C dx [])) l = none)
    (nu : ∀ u ∈ us, (upd (upd H1 dx (.own x)) x (.ins C dx [])) u = none) (s : SameX x (upd (upd H1 dx (.own x)) x (.ins C dx [])) H2) (c : H2 x = some (.ins C' dx' fl)) (cl : H2 l = some (.lst (us.map V.ref))) (hu : TrAll H2 us gs) :
    ∃ B2, Same B B2 ∧ Own B2 cs H2 ∧ B2 x = some (.ins C' dx' fl) ∧ B2 l = some (.lst (us.map V.ref)) ∧ TrAll B2 us gs := by
  have w1 := (w.new (o := .own x) n2).new (p := x) (o := .ins C dx []) (by rw [upd_ne (Ne.symm hne)]; exact n1)
  have w2 := own_setXN w1 0 rfl s c nl cl
  have hoff : ∀ t ∈ us, t ∉ ((l, HO.lst (us.map V.ref)) :: ([(x, HO.ins C dx []), (dx, HO.own x)] ++ cs).set 0 (x, HO.ins C' dx' fl)).map (·.1) := fun t ht hm => by
    obtain ⟨f, hf⟩ := hu.mem t ht
    have hn := nu t ht
    rw [show ((l, HO.lst (us.map V.ref)) :: ([(x, HO.ins C dx []), (dx, HO.own x)] ++ cs).set 0 (x, HO.ins C' dx' fl)).map (·.1) = l :: x :: dx :: cs.map (·.1) from rfl] at hm
    simp only [List.mem_cons] at hm
    rcases hm with rfl | rfl | rfl | hm
    · rw [cl] at hf; cases hf
    · rw [c] at hf; cases hf
    · rw [upd_ne hne, upd_same] at hn; cases hn
    · obtain ⟨q, hq, rfl⟩ := List.mem_map.mp hm
      have h1 := (w1.cell q (.tail _ (.tail _ hq))).1
      rw [h1] at hn; cases hn
  obtain ⟨B1, sB, hB1, w3⟩ := own_freezeT w2 hu fun t ht => ⟨w1.fresh (nu t ht), hoff t ht⟩
  have nlx : x ≠ l := fun z => by subst z; rw [upd_same] at nl; cases nl
  have nld : dx ≠ l := fun z => by subst z; rw [upd_ne hne, upd_same] at nl; cases nl
  have sF := ((same_upd (o := .lst (us.map V.ref)) (w3.none 0 rfl)).trans (same_upd (o := .ins C' dx' fl) (w3.freeze.none 0 rfl))).trans (same_upd (o := .own x) (w3.freeze.freeze.none 0 rfl))
  refine ⟨_, sB.trans sF, w3.freeze.freeze.freeze, ?_, ?_, hB1.same sF⟩
  · rw [upd_ne (Ne.symm hne), upd_same]
  · rw [upd_ne (Ne.symm nld), upd_ne (Ne.symm nlx), upd_same]
/-- their data -/
def trD (fs : List Tr) : PyData := .list (fs.map fun f => .tuple [.int (f.1 : Int), .int (f.2.1 : Int), .int f.2.2])
theorem dpAll_tr {K : PySem.W.Frag} {H : Hp} : ∀ {ts : List Addr} {fs : List Tr}, TrAll H ts fs → DpAll K H (ts.map V.ref) (fs.map fun f => .tuple [.int (f.1 : Int), .int (f.2.1 : Int), .int f.2.2])
  | _, _, .nil => .nil
  | _, _, .cons h r => .cons (.tup (SqT.of h) (.cons (.int _) (.cons (.int _) (.cons (.int _) .nil)))) (dpAll_tr r)
theorem dp_tr {K : PySem.W.Frag} {H : Hp} {p : Addr} {ts : List Addr} {fs : List Tr} (h : SqL K H p (ts.map V.ref)) (f : TrAll H ts fs) : Dp K H (.ref p) (trD fs) := .lst h (dpAll_tr f)
theorem lay_tr (fs : List Tr) : LayD 3 (trD fs) := LayD.list fun d hd => by
  obtain ⟨f, _, rfl⟩ := List.mem_map.mp hd
  refine LayD.tuple fun e he => ?_
  simp only [List.mem_cons, List.not_mem_nil, or_false] at he
  rcases he with rfl | rfl | rfl
  all_goals exact LayD.int (by decide) _
end Sp

/-! Com: rules as drawn rows (kind, numbers, pairs); cells beside what is new. -/
namespace Sp
open PySem PySem.Spec L2 PyProof.Rows
structure DRow where
  kind : Nat
  ns : List Int
  ps : List Tr
def rowOk (m : Nat) (r : DRow) : Prop :=
  (r.kind = 0 ∧ r.ns = [] ∧ r.ps = []) ∨ (r.kind = 1 ∧ r.ns.length = m ∧ r.ps = []) ∨ (r.kind = 2 ∧ r.ns = [] ∧ pairsOk m r.ps ∧ r.ps.length ≤ 36) ∨
  (r.kind = 3 ∧ r.ns.length = m + 2 ∧ 1 ≤ gi r.ns 0 ∧ r.ps = []) ∨ (r.kind = 4 ∧ r.ns.length = 2 ^ m - 1 ∧ r.ps = [])
def rowF (r : DRow) (g : Nat) : Int :=
  if r.kind = 1 then sumS r.ns g else if r.kind = 2 then pairsS r.ps g else if r.kind = 3 then (if gi r.ns 0 ≤ sumS (r.ns.drop 2) g then gi r.ns 1 else 0)
  else if r.kind = 4 then fn (0 :: r.ns) g else 0
structure RowC (H : Hp) (t l q : Addr) (ts : List Addr) (r : DRow) : Prop where
  t : H t = some (.tup [.int (r.kind : Int), .ref l, .ref q])
  l : H l = some (.lst (r.ns.map V.int))
  q : H q = some (.lst (ts.map V.ref))
  p : TrAll H ts r.ps
def RowAt (H : Hp) (t : Addr) (r : DRow) : Prop := ∃ l q ts, RowC H t l q ts r
theorem RowAt.same {H H' : Hp} {t : Addr} {r : DRow} (h : RowAt H t r) (s : Same H H') : RowAt H' t r := by
  obtain ⟨l, q, ts, c⟩ := h
  exact ⟨l, q, ts, s _ _ c.t, s _ _ c.l, s _ _ c.q, c.p.same s⟩
inductive RowsAt (H : Hp) : List Addr → List DRow → Prop
  | nil : RowsAt H [] []
  | cons {t : Addr} {ts : List Addr} {r : DRow} {rs : List DRow} : RowAt H t r → RowsAt H ts rs → RowsAt H (t :: ts) (r :: rs)
theorem RowsAt.same {H H' : Hp} (s : Same H H') : ∀ {ts : List Addr} {rs : List DRow}, RowsAt H ts rs → RowsAt H' ts rs
  | _, _, .nil => .nil
  | _, _, .cons h r => .cons (h.same s) (r.same s)
theorem RowsAt.len {H : Hp} : ∀ {ts : List Addr} {rs : List DRow}, RowsAt H ts rs → ts.length = rs.length
  | _, _, .nil => rfl
  | _, _, .cons _ r => by rw [List.length_cons, List.length_cons, r.len]
theorem RowsAt.at {H : Hp} : ∀ {ts : List Addr} {rs : List DRow}, RowsAt H ts rs → ∀ {i : Nat} {t : Addr}, ts[i]? = some t → ∃ r, rs[i]? = some r ∧ RowAt H t r
  | _, _, .nil, i, _, h => by rw [List.getElem?_nil] at h; cases h
  | _, _, .cons (r := f) h r, 0, t, e => ⟨f, rfl, by cases e; exact h⟩
  | _, _, .cons h r, i + 1, t, e => r.at (i := i) (by simpa using e)
theorem RowsAt.snoc {H : Hp} {t : Addr} {r : DRow} (ht : RowAt H t r) : ∀ {ts : List Addr} {rs : List DRow}, RowsAt H ts rs → RowsAt H (ts ++ [t]) (rs ++ [r])
  | _, _, .nil => .cons ht .nil
  | _, _, .cons h r => .cons h (r.snoc ht)
/-- all that is not a cell of our own stands and stays -/
theorem own_all {B H H' : Hp} {cs : Cells} (w : Own B cs H) (s : Same H H') : ∃ B2, Same B B2 ∧ Own B2 cs H' ∧ ∀ a, a ∉ cs.map (·.1) → B2 a = H' a := by
  classical
  refine ⟨fun a => if a ∈ cs.map (·.1) then none else H' a, fun a o h => ?_, ⟨fun a o h => ?_, fun q hq => ⟨s _ _ (w.cell q hq).1, if_pos (List.mem_map.mpr ⟨q, hq, rfl⟩)⟩, w.nd⟩, fun a h => if_neg h⟩
  · have : a ∉ cs.map (·.1) := fun m => by
      obtain ⟨q, hq, rfl⟩ := List.mem_map.mp m
      rw [(w.cell q hq).2] at h; cases h
    show (if a ∈ cs.map (·.1) then none else H' a) = some o
    rw [if_neg this]; exact s _ _ (w.ex _ _ h)
  · have h : (if a ∈ cs.map (·.1) then none else H' a) = some o := h
    by_cases m : a ∈ cs.map (·.1)
    · rw [if_pos m] at h; cases h
    · rw [if_neg m] at h; exact h
def RetRow (m : Nat) (H : Hp) (Q : VK) : Prop := ∀ (r : DRow) (t l q : Addr) (ts : List Addr) (H' : Hp), rowOk m r → H t = none → H l = none → H q = none → (∀ u ∈ ts, H u = none) → Same H H' → RowC H' t l q ts r → Q (.ref t) H'
theorem own_row {B H H' : Hp} {cs : Cells} {t l q : Addr} {ts : List Addr} {r : DRow} (w : Own B cs H) (nt : H t = none) (nl : H l = none) (nq : H q = none) (nu : ∀ u ∈ ts, H u = none) (s : Same H H') (c : RowC H' t l q ts r) : ∃ B2, Same B B2 ∧ Own B2 cs H' ∧ RowAt B2 t r := by
  obtain ⟨B2, sB, w2, e⟩ := own_all w s
  exact ⟨B2, sB, w2, l, q, ts, (e _ (w.off nt)).trans c.t, (e _ (w.off nl)).trans c.l, (e _ (w.off nq)).trans c.q, c.p.congr fun u hu => e _ (w.off (nu u hu))⟩
theorem Own.perm {B H : Hp} {cs ds : Cells} (w : Own B cs H) (h : cs.Perm ds) : Own B ds H := ⟨w.ex, fun q hq => w.cell q (h.mem_iff.mpr hq), (h.map (·.1)).nodup_iff.mp w.nd⟩
/-- pairs drawn so far, ahead of (one, other) -/
def AheadR (m one other : Nat) (fs : List Tr) : Prop := (∀ t ∈ fs, PairOk m t ∧ (t.1 < one ∨ (t.1 = one ∧ t.2.1 < other))) ∧ (fs.map trK).Nodup
theorem AheadR.ok {m one other : Nat} {fs : List Tr} (h : AheadR m one other fs) : pairsOk m fs := ⟨fun t ht => (h.1 t ht).1, h.2⟩
theorem AheadR.snoc {m one other : Nat} {fs : List Tr} (h : AheadR m one other fs) (h1 : one < other) (h2 : other < m) (z : Int) : AheadR m one (other + 1) (fs ++ [(one, other, z)]) := by
  refine ⟨fun t ht => ?_, ?_⟩
  · rcases List.mem_append.mp ht with h' | h'
    · exact ⟨(h.1 t h').1, by have := (h.1 t h').2; omega⟩
    · obtain rfl := List.mem_singleton.mp h'
      exact ⟨⟨h1, h2⟩, .inr ⟨rfl, by show other < other + 1; omega⟩⟩
  · rw [List.map_append, List.nodup_append]
    refine ⟨h.2, by simp, fun x hx y hy e => ?_⟩
    obtain ⟨u, hu, rfl⟩ := List.mem_map.mp hx
    simp at hy
    have e2 := trK_inj (b := (one, other, z)) (e.trans hy)
    have e3 : u.1 = one := e2.1
    have e4 : u.2.1 = other := e2.2
    have := (h.1 u hu).2
    omega
theorem AheadR.skip {m one other : Nat} {fs : List Tr} (h : AheadR m one other fs) : AheadR m one (other + 1) fs := ⟨fun t ht => ⟨(h.1 t ht).1, by have := (h.1 t ht).2; omega⟩, h.2⟩
theorem AheadR.next {m one other : Nat} {fs : List Tr} (h : AheadR m one other fs) (hm : m ≤ other) : AheadR m (one + 1) (one + 2) fs := ⟨fun t ht => ⟨(h.1 t ht).1, by have := (h.1 t ht).2; omega⟩, h.2⟩
/-- filter, then sum -/
theorem pairs_sum (fs : List Tr) (g : Nat) : ((fs.filter fun t => both t g).map fun t => t.2.2).sum = pairsS fs g := by
  unfold pairsS
  induction fs with
  | nil => rfl
  | cons t fs ih =>
    rw [List.map_cons, List.sum_cons, ← ih]
    cases c : both t g with
    | true => rw [List.filter_cons_of_pos (p := fun t => both t g) c, List.map_cons, List.sum_cons, if_pos rfl]
    | false => rw [List.filter_cons_of_neg (p := fun t => both t g) (by rw [c]; exact Bool.false_ne_true), if_neg Bool.false_ne_true, Int.zero_add]
theorem trVs_inj {fs gs : List Tr} (h : fs.map trV = gs.map trV) : fs = gs := by
  induction fs generalizing gs with
  | nil => cases gs with
    | nil => rfl
    | cons _ _ => cases h
  | cons f fs ih =>
    cases gs with
    | nil => cases h
    | cons g gs =>
      rw [List.map_cons, List.map_cons] at h
      injection h with h1 h2
      obtain ⟨f1, f2, f3⟩ := f
      obtain ⟨g1, g2, g3⟩ := g
      simp only [trV, List.cons.injEq, V.int.injEq, and_true] at h1
      obtain ⟨e1, e2, e3⟩ := h1
      rw [ih h2, show f1 = g1 by omega, show f2 = g2 by omega, e3]
theorem tr_thing {H : Hp} {ts : List Addr} {fs : List Tr} (h : TrAll H ts fs) {i : Nat} {t : Addr} {ys : List V} (ht : ts[i]? = some t) (hy : (fs.map trV)[i]? = some ys) : Rd H t (.tup ys) ∧ ∀ y ∈ ys, Thing H y := by
  obtain ⟨f, hf, e⟩ := h.at ht
  rw [List.getElem?_map, hf] at hy
  obtain rfl := Option.some.inj hy
  refine ⟨.inl e, fun y m => ?_⟩
  simp only [trV, List.mem_cons, List.not_mem_nil, or_false] at m
  rcases m with rfl | rfl | rfl <;> exact .int _
theorem x_asgG {K : PySem.W.Frag} {te : TE} {n : Nat} {gs : TGs} {D : Ends} {σ : L2.St} {H : Hp} (h : te σ H fun x H1 => gTup K n gs x σ H1 fun σ2 H2 => D.nx σ2 H2) : tAsg te (gTup K n gs) D σ H := h
theorem at_lastR {ts : List Addr} {t : Addr} : atI ((ts ++ [t]).map V.ref) (-1) = some (.ref t) := by
  unfold atI
  rw [List.length_map, ixN_last (by rw [List.length_append]; exact Nat.succ_pos _), Option.bind_some, List.getElem?_map, List.length_append, List.getElem?_append_right (by show ts.length ≤ ts.length + 1 - 1; omega)]
  rw [show ts.length + [t].length - 1 - ts.length = 0 by show ts.length + 1 - 1 - ts.length = 0; omega] <;> rfl
end Sp

/-! Mks: an object of an own class made in a try. -/
namespace Sp
open PySem PySem.Spec L2 PyProof.Rows
section
variable {X : Cx} {CX : CXT} {k : Nat} {f C : Addr} {fd : FuncData} {ps : List Str} {sp : L2.Sp} {E : L2.St → XK} {x : Str} {p pos : Pos} {e : Expr} {es : List Expr} {t : TA}
theorem run_makeS {pins : List (Addr × Obj)} {σ : L2.St} {H : Hp} {s : Shared} {Q : VK} {us : List Value} {vs : List V} (M : Mk X.K C f) (F : FnOk X.prog X.w X.K X.mg X.base CX k f fd ps sp) (hr : Room (k + 1) X.A) (hb : Binds X.K fd ps [])
    (hx : PassesAt CX X σ (E σ)) (I : Inv X pins σ H s) (r : Vals vs us)
    (h : ∀ x dx, H x = none → H dx = none → dx ≠ x → sp (.ref x :: vs) (upd (upd H dx (.own x)) x (.ins C dx [])) (fun v H2 => v = .non ∧ Q (.ref x) H2) (E σ)) :
    wpAny (model X.prog X.w) X.A (call (.ref C) us) (EP X pins σ Q) X.xe s := by
  have hq := h (s.heap.objs.size + 1) s.heap.objs.size (I.hok.fresh (Nat.le_succ _)) (I.hok.fresh (Nat.le_refl _)) (Nat.ne_of_lt (Nat.lt_succ_self _))
  have I2 := Inv.made (C := C) I
  have r2 : Vals (V.ref (s.heap.objs.size + 1) :: vs) (Value.ref (s.heap.objs.size + 1) :: us) := .cons rfl r
  have hl : (Value.ref (s.heap.objs.size + 1) :: us ++ []).length = ps.length := by
    rw [List.append_nil]
    have e := r2.length
    rw [F.len _ _ _ _ hq] at e
    exact e.symm
  have hb2 := hb _ (Value.ref (s.heap.objs.size + 1) :: us) I2.kIn hl
  rw [List.append_nil] at hb2
  refine wpAny_call (make_map (f := f) I.kIn M.makes M.init (beq_iff_eq.mp M.fn) (codeAny_mono (F.run _ X.stack _ _ ⟨Value.ref (s.heap.objs.size + 1) :: us, []⟩ (Value.ref (s.heap.objs.size + 1) :: us) _ _ (E σ) (hr.make C us [])
    (I2.env0.make C us []) hb2 r2 hq) fun r s' hq' => ?_))
  cases r with
  | error e => exact hx pins _ _ e s' I2 hq'
  | ok fl =>
    cases fl with
    | ret u =>
      obtain ⟨v, H', I3, rv, ev, q3⟩ := I2.after hq'
      subst ev
      exact ⟨rv, ⟨V.ref (s.heap.objs.size + 1), H', I3, rfl, q3⟩⟩
    | next => exact False.elim hq'
    | brk => exact False.elim hq'
    | cont => exact False.elim hq'
def tMakeS (C : Addr) (sp : L2.Sp) (E : L2.St → XK) (t : TA) : TE := fun σ H Q => t σ H fun vs H1 => ∀ x dx, H1 x = none → H1 dx = none → dx ≠ x → sp (.ref x :: vs) (upd (upd H1 dx (.own x)) x (.ins C dx [])) (fun v H2 => v = .non ∧ Q (.ref x) H2) (E σ)
theorem x_makeS {σ : L2.St} {H : Hp} {Q : VK} (h : t σ H fun vs H1 => ∀ x dx, H1 x = none → H1 dx = none → dx ≠ x → sp (.ref x :: vs) (upd (upd H1 dx (.own x)) x (.ins C dx [])) (fun v H2 => v = .non ∧ Q (.ref x) H2) (E σ)) : tMakeS C sp E t σ H Q := h
theorem pe_makeS (M : Mk X.K C f) (F : FnOk X.prog X.w X.K X.mg X.base CX k f fd ps sp) (hr : Room (k + 1) X.A) (hg : Gl X x) (hm : X.mg x = some (.ref C)) (hb : Binds X.K fd ps []) (hx : ∀ σ, PassesAt CX X σ (E σ))
    (ha : PA X (e :: es) t) (hdb : (x == ("__debug__" : Str)) = false := by decide) (he : starEach (e :: es) X.env = (false, eval e X.env) :: starEach es X.env := by rfl) (hpl : (backTo pos (starEach es X.env)).any (·.1) = false := by rfl) :
    PE X (.Call (.Name x p) (e :: es) [] pos) (tMakeS C sp E t) := by
  refine ⟨fun pins s σ H Q I h => ?_⟩
  refine wpAny_Call_Name_kw (ld_glob I hg hm ?_ hdb)
  refine PySem.W.callWith_K (h₀ := X.base) I.ok.mod.kin M.kp (thn (ha.run pos pins s σ H _ I h) fun us s1 ⟨vs, H1, I1, r, q⟩ => ⟨I1.kIn, ?_⟩) he hpl
  exact run_makeS M F hr hb (hx σ) I1 r q
end
end Sp

/-! Sam: != of two lists that hold the same objects. -/
namespace Sp
open PySem PySem.Spec L2 PyProof.Rows
def rNeS (K : PySem.W.Frag) : R2 := fun x y H Q => ∃ (a b : Addr) (rs : List Addr), x = .ref a ∧ y = .ref b ∧ SqL K H a (rs.map V.ref) ∧ SqL K H b (rs.map V.ref) ∧ Q (.bl false) H
theorem vals_refs : ∀ {rs : List Addr} {us vs : List Value}, Vals (rs.map V.ref) us → Vals (rs.map V.ref) vs → us = vs
  | [], _, _, .nil, .nil => rfl
  | r :: rs, _, _, .cons h1 t1, .cons h2 t2 => by
    have e1 : _ = Value.ref r := h1
    have e2 : _ = Value.ref r := h2
    rw [e1, e2, vals_refs t1 t2]
theorem op_neS {X : Cx} (hu : X.A.units + 64 < cLine) : OpR X (compareOp .NotEq) (rNeS X.K) := by
  intro pins s σ H x y v u Q I rx ry h
  obtain ⟨a, b, rs, rfl, rfl, h1, h2, q⟩ := h
  obtain rfl : v = Value.ref a := rx
  obtain rfl : u = Value.ref b := ry
  obtain ⟨i1, r1, p1, _⟩ := I.list h1
  obtain ⟨i2, r2, p2, _⟩ := I.list h2
  obtain rfl := vals_refs r1 r2
  have k := SeqAt.RcNeAt.lists (A := X.A) (s := s) (e := fun _ => true) p1.isList p2.isList rfl (by omega) (fun j _ _ => SeqAt.EqAt.same _)
  refine k X.prog X.w X.xe _ ⟨.bl false, H, I, ?_, q⟩
  have e : ((List.range i1.toArray.size).all fun _ => true) = true := List.all_eq_true.mpr fun _ _ => rfl
  rw [e] <;> rfl
theorem op_neSK {X : Cx} {K : PySem.W.Frag} (h : X.K = K) (hu : X.A.units + 64 < cLine) : OpR X (compareOp .NotEq) (rNeS K) := h ▸ op_neS hu
end Sp

namespace Lw
open PySem PySem.Spec PyProof.Rows L2 Sp
def topS (i : Nat) : Stmt := PySem.Challenge.pw_shareparley_k12_a_company.main.body.getD i (.Pass ⟨0, 0, 0, 0⟩)
abbrev s_is_whole : Stmt := topS 15
abbrev N_is_whole : List Str := ["thing"]
theorem sc_is_whole : FnScope N_is_whole ["thing"] (defScope s_is_whole) := ⟨rfl, rfl, rfl, by decide +kernel, rfl, by decide +kernel, by decide +kernel⟩
abbrev s_look_group : Stmt := topS 18
abbrev N_look_group : List Str := ["group", "least", "greatest"]
theorem sc_look_group : FnScope N_look_group ["group", "least", "greatest"] (defScope s_look_group) := ⟨rfl, rfl, rfl, by decide +kernel, rfl, by decide +kernel, by decide +kernel⟩
abbrev s_whole_of : Stmt := topS 19
abbrev N_whole_of : List Str := ["many"]
theorem sc_whole_of : FnScope N_whole_of ["many"] (defScope s_whole_of) := ⟨rfl, rfl, rfl, by decide +kernel, rfl, by decide +kernel, by decide +kernel⟩
abbrev s_hands_of : Stmt := topS 20
abbrev N_hands_of : List Str := ["group", "hand"]
theorem sc_hands_of : FnScope N_hands_of ["group"] (defScope s_hands_of) := ⟨rfl, rfl, rfl, by decide +kernel, rfl, by decide +kernel, by decide +kernel⟩
abbrev s_Company___init__ : Stmt := inClass (topS 23) 0
abbrev N_Company___init__ : List Str := ["self", "many", "rules", "rule"]
theorem sc_Company___init__ : FnScope N_Company___init__ ["self", "many", "rules"] (defScope s_Company___init__) := ⟨rfl, rfl, rfl, by decide +kernel, rfl, by decide +kernel, by decide +kernel⟩
abbrev s_Company_hands : Stmt := inClass (topS 23) 1
abbrev N_Company_hands : List Str := ["self"]
theorem sc_Company_hands : FnScope N_Company_hands ["self"] (defScope s_Company_hands) := ⟨rfl, rfl, rfl, by decide +kernel, rfl, by decide +kernel, by decide +kernel⟩
abbrev s_Company_earn : Stmt := inClass (topS 23) 2
abbrev N_Company_earn : List Str := ["self", "group", "total", "rule"]
theorem sc_Company_earn : FnScope N_Company_earn ["self", "group"] (defScope s_Company_earn) := ⟨rfl, rfl, rfl, by decide +kernel, rfl, by decide +kernel, by decide +kernel⟩
abbrev s_Company_table : Stmt := inClass (topS 23) 3
abbrev N_Company_table : List Str := ["self", "group"]
theorem sc_Company_table : FnScope N_Company_table ["self"] (defScope s_Company_table) := ⟨rfl, rfl, rfl, by decide +kernel, rfl, by decide +kernel, by decide +kernel⟩
abbrev s_look : Stmt := topS 25
abbrev N_look : List Str := ["table", "many", "number"]
theorem sc_look : FnScope N_look ["table"] (defScope s_look) := ⟨rfl, rfl, rfl, by decide +kernel, rfl, by decide +kernel, by decide +kernel⟩
abbrev s_look_numbers : Stmt := topS 27
abbrev N_look_numbers : List Str := ["numbers", "number"]
theorem sc_look_numbers : FnScope N_look_numbers ["numbers"] (defScope s_look_numbers) := ⟨rfl, rfl, rfl, by decide +kernel, rfl, by decide +kernel, by decide +kernel⟩
abbrev s_one_pair : Stmt := topS 28
abbrev N_one_pair : List Str := ["many", "pair"]
theorem sc_one_pair : FnScope N_one_pair ["many", "pair"] (defScope s_one_pair) := ⟨rfl, rfl, rfl, by decide +kernel, rfl, by decide +kernel, by decide +kernel⟩
abbrev s_pairs_of : Stmt := topS 29
abbrev N_pairs_of : List Str := ["many", "pairs", "seen", "pair", "both"]
theorem sc_pairs_of : FnScope N_pairs_of ["many", "pairs"] (defScope s_pairs_of) := ⟨rfl, rfl, rfl, by decide +kernel, rfl, by decide +kernel, by decide +kernel⟩
abbrev s_Rule___init__ : Stmt := inClass (topS 30) 0
abbrev N_Rule___init__ : List Str := ["self", "many"]
theorem sc_Rule___init__ : FnScope N_Rule___init__ ["self", "many"] (defScope s_Rule___init__) := ⟨rfl, rfl, rfl, by decide +kernel, rfl, by decide +kernel, by decide +kernel⟩
abbrev s_Rule_hands : Stmt := inClass (topS 30) 1
abbrev N_Rule_hands : List Str := ["self"]
theorem sc_Rule_hands : FnScope N_Rule_hands ["self"] (defScope s_Rule_hands) := ⟨rfl, rfl, rfl, by decide +kernel, rfl, by decide +kernel, by decide +kernel⟩
abbrev s_Rule_earn : Stmt := inClass (topS 30) 2
abbrev N_Rule_earn : List Str := ["self", "group"]
theorem sc_Rule_earn : FnScope N_Rule_earn ["self", "group"] (defScope s_Rule_earn) := ⟨rfl, rfl, rfl, by decide +kernel, rfl, by decide +kernel, by decide +kernel⟩
abbrev s_Rule_reckoned : Stmt := inClass (topS 30) 3
abbrev N_Rule_reckoned : List Str := ["self", "group"]
theorem sc_Rule_reckoned : FnScope N_Rule_reckoned ["self", "group"] (defScope s_Rule_reckoned) := ⟨rfl, rfl, rfl, by decide +kernel, rfl, by decide +kernel, by decide +kernel⟩
abbrev s_Own___init__ : Stmt := inClass (topS 31) 0
abbrev N_Own___init__ : List Str := ["self", "numbers"]
theorem sc_Own___init__ : FnScope N_Own___init__ ["self", "numbers"] (defScope s_Own___init__) := ⟨rfl, rfl, rfl, by decide +kernel, rfl, by decide +kernel, by decide +kernel⟩
abbrev s_Own_reckoned : Stmt := inClass (topS 31) 1
abbrev N_Own_reckoned : List Str := ["self", "group", "hand"]
theorem sc_Own_reckoned : FnScope N_Own_reckoned ["self", "group"] (defScope s_Own_reckoned) := ⟨rfl, rfl, rfl, by decide +kernel, rfl, by decide +kernel, by decide +kernel⟩
abbrev s_Pairs___init__ : Stmt := inClass (topS 32) 0
abbrev N_Pairs___init__ : List Str := ["self", "many", "pairs"]
theorem sc_Pairs___init__ : FnScope N_Pairs___init__ ["self", "many", "pairs"] (defScope s_Pairs___init__) := ⟨rfl, rfl, rfl, by decide +kernel, rfl, by decide +kernel, by decide +kernel⟩
abbrev s_Pairs_reckoned : Stmt := inClass (topS 32) 1
abbrev N_Pairs_reckoned : List Str := ["self", "group", "total", "one", "other", "number"]
theorem sc_Pairs_reckoned : FnScope N_Pairs_reckoned ["self", "group"] (defScope s_Pairs_reckoned) := ⟨rfl, rfl, rfl, by decide +kernel, rfl, by decide +kernel, by decide +kernel⟩
abbrev s_Votes___init__ : Stmt := inClass (topS 33) 0
abbrev N_Votes___init__ : List Str := ["self", "quota", "prize", "weights"]
theorem sc_Votes___init__ : FnScope N_Votes___init__ ["self", "quota", "prize", "weights"] (defScope s_Votes___init__) := ⟨rfl, rfl, rfl, by decide +kernel, rfl, by decide +kernel, by decide +kernel⟩
abbrev s_Votes_reckoned : Stmt := inClass (topS 33) 1
abbrev N_Votes_reckoned : List Str := ["self", "group", "hand"]
theorem sc_Votes_reckoned : FnScope N_Votes_reckoned ["self", "group"] (defScope s_Votes_reckoned) := ⟨rfl, rfl, rfl, by decide +kernel, rfl, by decide +kernel, by decide +kernel⟩
abbrev s_Plain___init__ : Stmt := inClass (topS 34) 0
abbrev N_Plain___init__ : List Str := ["self", "table"]
theorem sc_Plain___init__ : FnScope N_Plain___init__ ["self", "table"] (defScope s_Plain___init__) := ⟨rfl, rfl, rfl, by decide +kernel, rfl, by decide +kernel, by decide +kernel⟩
abbrev s_Plain_reckoned : Stmt := inClass (topS 34) 1
abbrev N_Plain_reckoned : List Str := ["self", "group"]
theorem sc_Plain_reckoned : FnScope N_Plain_reckoned ["self", "group"] (defScope s_Plain_reckoned) := ⟨rfl, rfl, rfl, by decide +kernel, rfl, by decide +kernel, by decide +kernel⟩
abbrev s__law_whole : Stmt := topS 36
abbrev N__law_whole : List Str := ["_law_found"]
theorem sc__law_whole : FnScope N__law_whole ["_law_found"] (defScope s__law_whole) := ⟨rfl, rfl, rfl, by decide +kernel, rfl, by decide +kernel, by decide +kernel⟩
abbrev s__law_cell : Stmt := topS 37
abbrev N__law_cell : List Str := ["_law_script", "_law_k", "_law_number_here"]
theorem sc__law_cell : FnScope N__law_cell ["_law_script", "_law_k"] (defScope s__law_cell) := ⟨rfl, rfl, rfl, by decide +kernel, rfl, by decide +kernel, by decide +kernel⟩
abbrev s__law_number : Stmt := topS 38
abbrev N__law_number : List Str := ["_law_cell_here"]
theorem sc__law_number : FnScope N__law_number ["_law_cell_here"] (defScope s__law_number) := ⟨rfl, rfl, rfl, by decide +kernel, rfl, by decide +kernel, by decide +kernel⟩
abbrev s__law_rule : Stmt := topS 39
abbrev N__law_rule : List Str := ["_law_script", "_law_at", "_law_many", "_law_cell_here", "_law_size", "_law_numbers", "_law_pairs", "_law_one", "_law_other", "_law_k"]
theorem sc__law_rule : FnScope N__law_rule ["_law_script", "_law_at", "_law_many"] (defScope s__law_rule) := ⟨rfl, rfl, rfl, by decide +kernel, rfl, by decide +kernel, by decide +kernel⟩
abbrev s__law_rules : Stmt := topS 40
abbrev N__law_rules : List Str := ["_law_script", "_law_many", "_law_some", "_law_at", "_law_most"]
theorem sc__law_rules : FnScope N__law_rules ["_law_script", "_law_many"] (defScope s__law_rules) := ⟨rfl, rfl, rfl, by decide +kernel, rfl, by decide +kernel, by decide +kernel⟩
abbrev s__law_earned : Stmt := topS 41
abbrev N__law_earned : List Str := ["_law_row", "_law_group", "_law_kind", "_law_numbers", "_law_pairs", "_law_weight", "_law_k", "_law_number_here", "_law_one", "_law_other"]
theorem sc__law_earned : FnScope N__law_earned ["_law_row", "_law_group"] (defScope s__law_earned) := ⟨rfl, rfl, rfl, by decide +kernel, rfl, by decide +kernel, by decide +kernel⟩
abbrev s__law_object : Stmt := topS 42
abbrev N__law_object : List Str := ["_law_row", "_law_many", "_law_handed", "_law_kind", "_law_numbers", "_law_pairs"]
theorem sc__law_object : FnScope N__law_object ["_law_row", "_law_many", "_law_handed"] (defScope s__law_object) := ⟨rfl, rfl, rfl, by decide +kernel, rfl, by decide +kernel, by decide +kernel⟩
abbrev s__law_holds : Stmt := topS 43
abbrev N__law_holds : List Str := ["_law_company", "_law_due", "_law_many", "_law_found", "_law_group", "_law_told"]
theorem sc__law_holds : FnScope N__law_holds ["_law_company", "_law_due"] (defScope s__law_holds) := ⟨rfl, rfl, rfl, by decide +kernel, rfl, by decide +kernel, by decide +kernel⟩
abbrev s__law_no_group : Stmt := topS 44
abbrev N__law_no_group : List Str := ["_law_company", "_law_group", "_law_told", "_law_other", "error"]
theorem sc__law_no_group : FnScope N__law_no_group ["_law_company", "_law_group"] (defScope s__law_no_group) := ⟨rfl, rfl, rfl, by decide +kernel, rfl, by decide +kernel, by decide +kernel⟩
abbrev s__law_no_rule : Stmt := topS 45
abbrev N__law_no_rule : List Str := ["_law_many", "_law_some", "_law_told", "_law_other", "error"]
theorem sc__law_no_rule : FnScope N__law_no_rule ["_law_many", "_law_some"] (defScope s__law_no_rule) := ⟨rfl, rfl, rfl, by decide +kernel, rfl, by decide +kernel, by decide +kernel⟩
abbrev s__law_refusals : Stmt := topS 46
abbrev N__law_refusals : List Str := ["_law_script", "_law_company", "_law_objects", "_law_many", "_law_cell_here", "_law_strange", "_law_at", "_law_strangers"]
theorem sc__law_refusals : FnScope N__law_refusals ["_law_script", "_law_company", "_law_objects", "_law_many"] (defScope s__law_refusals) := ⟨rfl, rfl, rfl, by decide +kernel, rfl, by decide +kernel, by decide +kernel⟩
abbrev s_law : Stmt := topS 47
abbrev N_law : List Str := ["_law_script", "_law_many", "_law_some", "_law_row", "_law_due", "_law_handed", "_law_objects", "_law_given", "_law_company", "_law_others", "_law_second", "_law_sums", "_law_first", "_law_more", "_law_group", "_law_k"]
theorem sc_law : FnScope N_law ["_law_script"] (defScope s_law) := ⟨rfl, rfl, rfl, by decide +kernel, rfl, by decide +kernel, by decide +kernel⟩
structure Ads where
  a_is_whole : Addr
  d_is_whole : FuncData
  a_look_group : Addr
  d_look_group : FuncData
  a_whole_of : Addr
  d_whole_of : FuncData
  a_hands_of : Addr
  d_hands_of : FuncData
  a_Company___init__ : Addr
  d_Company___init__ : FuncData
  a_Company_hands : Addr
  d_Company_hands : FuncData
  a_Company_earn : Addr
  d_Company_earn : FuncData
  a_Company_table : Addr
  d_Company_table : FuncData
  a_look : Addr
  d_look : FuncData
  a_look_numbers : Addr
  d_look_numbers : FuncData
  a_one_pair : Addr
  d_one_pair : FuncData
  a_pairs_of : Addr
  d_pairs_of : FuncData
  a_Rule___init__ : Addr
  d_Rule___init__ : FuncData
  a_Rule_hands : Addr
  d_Rule_hands : FuncData
  a_Rule_earn : Addr
  d_Rule_earn : FuncData
  a_Rule_reckoned : Addr
  d_Rule_reckoned : FuncData
  a_Own___init__ : Addr
  d_Own___init__ : FuncData
  a_Own_reckoned : Addr
  d_Own_reckoned : FuncData
  a_Pairs___init__ : Addr
  d_Pairs___init__ : FuncData
  a_Pairs_reckoned : Addr
  d_Pairs_reckoned : FuncData
  a_Votes___init__ : Addr
  d_Votes___init__ : FuncData
  a_Votes_reckoned : Addr
  d_Votes_reckoned : FuncData
  a_Plain___init__ : Addr
  d_Plain___init__ : FuncData
  a_Plain_reckoned : Addr
  d_Plain_reckoned : FuncData
  a__law_whole : Addr
  d__law_whole : FuncData
  a__law_cell : Addr
  d__law_cell : FuncData
  a__law_number : Addr
  d__law_number : FuncData
  a__law_rule : Addr
  d__law_rule : FuncData
  a__law_rules : Addr
  d__law_rules : FuncData
  a__law_earned : Addr
  d__law_earned : FuncData
  a__law_object : Addr
  d__law_object : FuncData
  a__law_holds : Addr
  d__law_holds : FuncData
  a__law_no_group : Addr
  d__law_no_group : FuncData
  a__law_no_rule : Addr
  d__law_no_rule : FuncData
  a__law_refusals : Addr
  d__law_refusals : FuncData
  a_law : Addr
  d_law : FuncData
  ShareError : Addr
  NoNumber : Addr
  NoGroup : Addr
  NoRule : Addr
  NoText : Addr
  NoTable : Addr
  Unlike : Addr
  TooMany : Addr
  NoOrder : Addr
  NoRows : Addr
  NoShares : Addr
  NoVotes : Addr
  Company : Addr
  Rule : Addr
  Own : Addr
  Pairs : Addr
  Votes : Addr
  Plain : Addr
  t_MOST : Tok
  t_FULL : Tok
/-- what the top has written -/
structure Txt (K : PySem.W.Frag) (mg : Str → Option Value) (A : Ads) : Prop where
  F_is_whole : Fun K "is_whole" "is_whole" s_is_whole A.a_is_whole A.d_is_whole
  b_is_whole : Binds K A.d_is_whole ["thing"] []
  g_is_whole : mg "is_whole" = some (.ref A.a_is_whole)
  F_look_group : Fun K "look_group" "look_group" s_look_group A.a_look_group A.d_look_group
  b_look_group : Binds K A.d_look_group ["group", "least", "greatest"] []
  g_look_group : mg "look_group" = some (.ref A.a_look_group)
  F_whole_of : Fun K "whole_of" "whole_of" s_whole_of A.a_whole_of A.d_whole_of
  b_whole_of : Binds K A.d_whole_of ["many"] []
  g_whole_of : mg "whole_of" = some (.ref A.a_whole_of)
  F_hands_of : Fun K "hands_of" "hands_of" s_hands_of A.a_hands_of A.d_hands_of
  b_hands_of : Binds K A.d_hands_of ["group"] []
  g_hands_of : mg "hands_of" = some (.ref A.a_hands_of)
  F_Company___init__ : Fun K "__init__" "Company.__init__" s_Company___init__ A.a_Company___init__ A.d_Company___init__
  b_Company___init__ : Binds K A.d_Company___init__ ["self", "many", "rules"] []
  F_Company_hands : Fun K "hands" "Company.hands" s_Company_hands A.a_Company_hands A.d_Company_hands
  b_Company_hands : Binds K A.d_Company_hands ["self"] []
  F_Company_earn : Fun K "earn" "Company.earn" s_Company_earn A.a_Company_earn A.d_Company_earn
  b_Company_earn : Binds K A.d_Company_earn ["self", "group"] []
  F_Company_table : Fun K "table" "Company.table" s_Company_table A.a_Company_table A.d_Company_table
  b_Company_table : Binds K A.d_Company_table ["self"] []
  F_look : Fun K "look" "look" s_look A.a_look A.d_look
  b_look : Binds K A.d_look ["table"] []
  g_look : mg "look" = some (.ref A.a_look)
  F_look_numbers : Fun K "look_numbers" "look_numbers" s_look_numbers A.a_look_numbers A.d_look_numbers
  b_look_numbers : Binds K A.d_look_numbers ["numbers"] []
  g_look_numbers : mg "look_numbers" = some (.ref A.a_look_numbers)
  F_one_pair : Fun K "one_pair" "one_pair" s_one_pair A.a_one_pair A.d_one_pair
  b_one_pair : Binds K A.d_one_pair ["many", "pair"] []
  g_one_pair : mg "one_pair" = some (.ref A.a_one_pair)
  F_pairs_of : Fun K "pairs_of" "pairs_of" s_pairs_of A.a_pairs_of A.d_pairs_of
  b_pairs_of : Binds K A.d_pairs_of ["many", "pairs"] []
  g_pairs_of : mg "pairs_of" = some (.ref A.a_pairs_of)
  F_Rule___init__ : Fun K "__init__" "Rule.__init__" s_Rule___init__ A.a_Rule___init__ A.d_Rule___init__
  b_Rule___init__ : Binds K A.d_Rule___init__ ["self", "many"] []
  F_Rule_hands : Fun K "hands" "Rule.hands" s_Rule_hands A.a_Rule_hands A.d_Rule_hands
  b_Rule_hands : Binds K A.d_Rule_hands ["self"] []
  F_Rule_earn : Fun K "earn" "Rule.earn" s_Rule_earn A.a_Rule_earn A.d_Rule_earn
  b_Rule_earn : Binds K A.d_Rule_earn ["self", "group"] []
  F_Rule_reckoned : Fun K "reckoned" "Rule.reckoned" s_Rule_reckoned A.a_Rule_reckoned A.d_Rule_reckoned
  b_Rule_reckoned : Binds K A.d_Rule_reckoned ["self", "group"] []
  F_Own___init__ : Fun K "__init__" "Own.__init__" s_Own___init__ A.a_Own___init__ A.d_Own___init__
  b_Own___init__ : Binds K A.d_Own___init__ ["self", "numbers"] []
  F_Own_reckoned : Fun K "reckoned" "Own.reckoned" s_Own_reckoned A.a_Own_reckoned A.d_Own_reckoned
  b_Own_reckoned : Binds K A.d_Own_reckoned ["self", "group"] []
  F_Pairs___init__ : Fun K "__init__" "Pairs.__init__" s_Pairs___init__ A.a_Pairs___init__ A.d_Pairs___init__
  b_Pairs___init__ : Binds K A.d_Pairs___init__ ["self", "many", "pairs"] []
  F_Pairs_reckoned : Fun K "reckoned" "Pairs.reckoned" s_Pairs_reckoned A.a_Pairs_reckoned A.d_Pairs_reckoned
  b_Pairs_reckoned : Binds K A.d_Pairs_reckoned ["self", "group"] []
  F_Votes___init__ : Fun K "__init__" "Votes.__init__" s_Votes___init__ A.a_Votes___init__ A.d_Votes___init__
  b_Votes___init__ : Binds K A.d_Votes___init__ ["self", "quota", "prize", "weights"] []
  F_Votes_reckoned : Fun K "reckoned" "Votes.reckoned" s_Votes_reckoned A.a_Votes_reckoned A.d_Votes_reckoned
  b_Votes_reckoned : Binds K A.d_Votes_reckoned ["self", "group"] []
  F_Plain___init__ : Fun K "__init__" "Plain.__init__" s_Plain___init__ A.a_Plain___init__ A.d_Plain___init__
  b_Plain___init__ : Binds K A.d_Plain___init__ ["self", "table"] []
  F_Plain_reckoned : Fun K "reckoned" "Plain.reckoned" s_Plain_reckoned A.a_Plain_reckoned A.d_Plain_reckoned
  b_Plain_reckoned : Binds K A.d_Plain_reckoned ["self", "group"] []
  F__law_whole : Fun K "_law_whole" "_law_whole" s__law_whole A.a__law_whole A.d__law_whole
  b__law_whole : Binds K A.d__law_whole ["_law_found"] []
  g__law_whole : mg "_law_whole" = some (.ref A.a__law_whole)
  F__law_cell : Fun K "_law_cell" "_law_cell" s__law_cell A.a__law_cell A.d__law_cell
  b__law_cell : Binds K A.d__law_cell ["_law_script", "_law_k"] []
  g__law_cell : mg "_law_cell" = some (.ref A.a__law_cell)
  F__law_number : Fun K "_law_number" "_law_number" s__law_number A.a__law_number A.d__law_number
  b__law_number : Binds K A.d__law_number ["_law_cell_here"] []
  g__law_number : mg "_law_number" = some (.ref A.a__law_number)
  F__law_rule : Fun K "_law_rule" "_law_rule" s__law_rule A.a__law_rule A.d__law_rule
  b__law_rule : Binds K A.d__law_rule ["_law_script", "_law_at", "_law_many"] []
  g__law_rule : mg "_law_rule" = some (.ref A.a__law_rule)
  F__law_rules : Fun K "_law_rules" "_law_rules" s__law_rules A.a__law_rules A.d__law_rules
  b__law_rules : Binds K A.d__law_rules ["_law_script", "_law_many"] []
  g__law_rules : mg "_law_rules" = some (.ref A.a__law_rules)
  F__law_earned : Fun K "_law_earned" "_law_earned" s__law_earned A.a__law_earned A.d__law_earned
  b__law_earned : Binds K A.d__law_earned ["_law_row", "_law_group"] []
  g__law_earned : mg "_law_earned" = some (.ref A.a__law_earned)
  F__law_object : Fun K "_law_object" "_law_object" s__law_object A.a__law_object A.d__law_object
  b__law_object : Binds K A.d__law_object ["_law_row", "_law_many", "_law_handed"] []
  g__law_object : mg "_law_object" = some (.ref A.a__law_object)
  F__law_holds : Fun K "_law_holds" "_law_holds" s__law_holds A.a__law_holds A.d__law_holds
  b__law_holds : Binds K A.d__law_holds ["_law_company", "_law_due"] []
  g__law_holds : mg "_law_holds" = some (.ref A.a__law_holds)
  F__law_no_group : Fun K "_law_no_group" "_law_no_group" s__law_no_group A.a__law_no_group A.d__law_no_group
  b__law_no_group : Binds K A.d__law_no_group ["_law_company", "_law_group"] []
  g__law_no_group : mg "_law_no_group" = some (.ref A.a__law_no_group)
  F__law_no_rule : Fun K "_law_no_rule" "_law_no_rule" s__law_no_rule A.a__law_no_rule A.d__law_no_rule
  b__law_no_rule : Binds K A.d__law_no_rule ["_law_many", "_law_some"] []
  g__law_no_rule : mg "_law_no_rule" = some (.ref A.a__law_no_rule)
  F__law_refusals : Fun K "_law_refusals" "_law_refusals" s__law_refusals A.a__law_refusals A.d__law_refusals
  b__law_refusals : Binds K A.d__law_refusals ["_law_script", "_law_company", "_law_objects", "_law_many"] []
  g__law_refusals : mg "_law_refusals" = some (.ref A.a__law_refusals)
  F_law : Fun K "law" "law" s_law A.a_law A.d_law
  b_law : Binds K A.d_law ["_law_script"] []
  g_law : mg "law" = some (.ref A.a_law)
  g_ShareError : mg "ShareError" = some (.ref A.ShareError)
  g_NoNumber : mg "NoNumber" = some (.ref A.NoNumber)
  g_NoGroup : mg "NoGroup" = some (.ref A.NoGroup)
  k_NoGroup : PySem.W.keepIn K (.ref A.NoGroup) = true
  e_NoGroup : PySem.W.subIn K (.ref A.NoGroup) (.type "BaseException") = some true
  t_NoGroup : PySem.W.typeIn K (.ref A.NoGroup) = some (.type "type")
  x_NoGroup : PySem.W.excIn K A.NoGroup [.type "ValueError", .type "Exception", .type "BaseException", .type "object"] "ValueError.__new__" = true
  g_NoRule : mg "NoRule" = some (.ref A.NoRule)
  k_NoRule : PySem.W.keepIn K (.ref A.NoRule) = true
  e_NoRule : PySem.W.subIn K (.ref A.NoRule) (.type "BaseException") = some true
  t_NoRule : PySem.W.typeIn K (.ref A.NoRule) = some (.type "type")
  x_NoRule : PySem.W.excIn K A.NoRule [.type "ValueError", .type "Exception", .type "BaseException", .type "object"] "ValueError.__new__" = true
  g_NoText : mg "NoText" = some (.ref A.NoText)
  g_NoTable : mg "NoTable" = some (.ref A.NoTable)
  k_NoTable : PySem.W.keepIn K (.ref A.NoTable) = true
  e_NoTable : PySem.W.subIn K (.ref A.NoTable) (.type "BaseException") = some true
  t_NoTable : PySem.W.typeIn K (.ref A.NoTable) = some (.type "type")
  x_NoTable : PySem.W.excIn K A.NoTable [.type "ValueError", .type "Exception", .type "BaseException", .type "object"] "ValueError.__new__" = true
  g_Unlike : mg "Unlike" = some (.ref A.Unlike)
  g_TooMany : mg "TooMany" = some (.ref A.TooMany)
  g_NoOrder : mg "NoOrder" = some (.ref A.NoOrder)
  g_NoRows : mg "NoRows" = some (.ref A.NoRows)
  g_NoShares : mg "NoShares" = some (.ref A.NoShares)
  g_NoVotes : mg "NoVotes" = some (.ref A.NoVotes)
  g_Company : mg "Company" = some (.ref A.Company)
  cl_Company : Cls K A.Company
  mk_Company : Mk K A.Company A.a_Company___init__
  i_Company : InsC K A.Company
  u_Company_Rule : PySem.W.subIn K (.ref A.Company) (.ref A.Rule) = some false
  m_Company_hands : Meth K A.Company "hands" A.a_Company_hands
  m_Company_earn : Meth K A.Company "earn" A.a_Company_earn
  m_Company_table : Meth K A.Company "table" A.a_Company_table
  n_Company_many : NoAttr K A.Company "many"
  n_Company_rules : NoAttr K A.Company "rules"
  g_Rule : mg "Rule" = some (.ref A.Rule)
  q_Rule : AskC K A.Rule
  bs_Rule : BaseC K A.Rule "__init__" A.a_Rule___init__
  cl_Rule : Cls K A.Rule
  mk_Rule : Mk K A.Rule A.a_Rule___init__
  i_Rule : InsC K A.Rule
  u_Rule_Rule : PySem.W.subIn K (.ref A.Rule) (.ref A.Rule) = some true
  m_Rule_hands : Meth K A.Rule "hands" A.a_Rule_hands
  m_Rule_earn : Meth K A.Rule "earn" A.a_Rule_earn
  m_Rule_reckoned : Meth K A.Rule "reckoned" A.a_Rule_reckoned
  n_Rule_many : NoAttr K A.Rule "many"
  g_Own : mg "Own" = some (.ref A.Own)
  cl_Own : Cls K A.Own
  mk_Own : Mk K A.Own A.a_Own___init__
  i_Own : InsC K A.Own
  u_Own_Rule : PySem.W.subIn K (.ref A.Own) (.ref A.Rule) = some true
  m_Own_reckoned : Meth K A.Own "reckoned" A.a_Own_reckoned
  m_Own_hands : Meth K A.Own "hands" A.a_Rule_hands
  m_Own_earn : Meth K A.Own "earn" A.a_Rule_earn
  n_Own_numbers : NoAttr K A.Own "numbers"
  n_Own_many : NoAttr K A.Own "many"
  g_Pairs : mg "Pairs" = some (.ref A.Pairs)
  cl_Pairs : Cls K A.Pairs
  mk_Pairs : Mk K A.Pairs A.a_Pairs___init__
  i_Pairs : InsC K A.Pairs
  u_Pairs_Rule : PySem.W.subIn K (.ref A.Pairs) (.ref A.Rule) = some true
  m_Pairs_reckoned : Meth K A.Pairs "reckoned" A.a_Pairs_reckoned
  m_Pairs_hands : Meth K A.Pairs "hands" A.a_Rule_hands
  m_Pairs_earn : Meth K A.Pairs "earn" A.a_Rule_earn
  n_Pairs_pairs : NoAttr K A.Pairs "pairs"
  n_Pairs_many : NoAttr K A.Pairs "many"
  g_Votes : mg "Votes" = some (.ref A.Votes)
  cl_Votes : Cls K A.Votes
  mk_Votes : Mk K A.Votes A.a_Votes___init__
  i_Votes : InsC K A.Votes
  u_Votes_Rule : PySem.W.subIn K (.ref A.Votes) (.ref A.Rule) = some true
  m_Votes_reckoned : Meth K A.Votes "reckoned" A.a_Votes_reckoned
  m_Votes_hands : Meth K A.Votes "hands" A.a_Rule_hands
  m_Votes_earn : Meth K A.Votes "earn" A.a_Rule_earn
  n_Votes_quota : NoAttr K A.Votes "quota"
  n_Votes_prize : NoAttr K A.Votes "prize"
  n_Votes_weights : NoAttr K A.Votes "weights"
  n_Votes_many : NoAttr K A.Votes "many"
  g_Plain : mg "Plain" = some (.ref A.Plain)
  cl_Plain : Cls K A.Plain
  mk_Plain : Mk K A.Plain A.a_Plain___init__
  i_Plain : InsC K A.Plain
  u_Plain_Rule : PySem.W.subIn K (.ref A.Plain) (.ref A.Rule) = some true
  m_Plain_reckoned : Meth K A.Plain "reckoned" A.a_Plain_reckoned
  m_Plain_hands : Meth K A.Plain "hands" A.a_Rule_hands
  m_Plain_earn : Meth K A.Plain "earn" A.a_Rule_earn
  n_Plain_row : NoAttr K A.Plain "row"
  n_Plain_many : NoAttr K A.Plain "many"
  q_NoGroup : AskC K A.NoGroup
  q_NoNumber : AskC K A.NoNumber
  q_NoOrder : AskC K A.NoOrder
  q_NoRows : AskC K A.NoRows
  q_NoRule : AskC K A.NoRule
  q_NoShares : AskC K A.NoShares
  q_NoTable : AskC K A.NoTable
  q_NoText : AskC K A.NoText
  q_NoVotes : AskC K A.NoVotes
  q_ShareError : AskC K A.ShareError
  q_TooMany : AskC K A.TooMany
  q_Unlike : AskC K A.Unlike
  X_NoGroup : ExcC K A.NoGroup
  u_NoGroup_NoGroup : PySem.W.subIn K (.ref A.NoGroup) (.ref A.NoGroup) = some true
  u_NoGroup_NoNumber : PySem.W.subIn K (.ref A.NoGroup) (.ref A.NoNumber) = some false
  u_NoGroup_NoOrder : PySem.W.subIn K (.ref A.NoGroup) (.ref A.NoOrder) = some false
  u_NoGroup_NoRows : PySem.W.subIn K (.ref A.NoGroup) (.ref A.NoRows) = some false
  u_NoGroup_NoRule : PySem.W.subIn K (.ref A.NoGroup) (.ref A.NoRule) = some false
  u_NoGroup_NoShares : PySem.W.subIn K (.ref A.NoGroup) (.ref A.NoShares) = some false
  u_NoGroup_NoTable : PySem.W.subIn K (.ref A.NoGroup) (.ref A.NoTable) = some false
  u_NoGroup_NoText : PySem.W.subIn K (.ref A.NoGroup) (.ref A.NoText) = some false
  u_NoGroup_NoVotes : PySem.W.subIn K (.ref A.NoGroup) (.ref A.NoVotes) = some false
  u_NoGroup_ShareError : PySem.W.subIn K (.ref A.NoGroup) (.ref A.ShareError) = some true
  u_NoGroup_TooMany : PySem.W.subIn K (.ref A.NoGroup) (.ref A.TooMany) = some false
  u_NoGroup_Unlike : PySem.W.subIn K (.ref A.NoGroup) (.ref A.Unlike) = some false
  v_NoGroup : PySem.W.subIn K (.ref A.NoGroup) (.type "ValueError") = some true
  h_NoGroup_ShareError : PySem.W.exmOne K (.ref A.NoGroup) (.ref A.ShareError) = some true
  X_NoRule : ExcC K A.NoRule
  u_NoRule_NoGroup : PySem.W.subIn K (.ref A.NoRule) (.ref A.NoGroup) = some false
  u_NoRule_NoNumber : PySem.W.subIn K (.ref A.NoRule) (.ref A.NoNumber) = some false
  u_NoRule_NoOrder : PySem.W.subIn K (.ref A.NoRule) (.ref A.NoOrder) = some false
  u_NoRule_NoRows : PySem.W.subIn K (.ref A.NoRule) (.ref A.NoRows) = some false
  u_NoRule_NoRule : PySem.W.subIn K (.ref A.NoRule) (.ref A.NoRule) = some true
  u_NoRule_NoShares : PySem.W.subIn K (.ref A.NoRule) (.ref A.NoShares) = some false
  u_NoRule_NoTable : PySem.W.subIn K (.ref A.NoRule) (.ref A.NoTable) = some false
  u_NoRule_NoText : PySem.W.subIn K (.ref A.NoRule) (.ref A.NoText) = some false
  u_NoRule_NoVotes : PySem.W.subIn K (.ref A.NoRule) (.ref A.NoVotes) = some false
  u_NoRule_ShareError : PySem.W.subIn K (.ref A.NoRule) (.ref A.ShareError) = some true
  u_NoRule_TooMany : PySem.W.subIn K (.ref A.NoRule) (.ref A.TooMany) = some false
  u_NoRule_Unlike : PySem.W.subIn K (.ref A.NoRule) (.ref A.Unlike) = some false
  v_NoRule : PySem.W.subIn K (.ref A.NoRule) (.type "ValueError") = some true
  h_NoRule_ShareError : PySem.W.exmOne K (.ref A.NoRule) (.ref A.ShareError) = some true
  X_NoTable : ExcC K A.NoTable
  u_NoTable_NoGroup : PySem.W.subIn K (.ref A.NoTable) (.ref A.NoGroup) = some false
  u_NoTable_NoNumber : PySem.W.subIn K (.ref A.NoTable) (.ref A.NoNumber) = some false
  u_NoTable_NoOrder : PySem.W.subIn K (.ref A.NoTable) (.ref A.NoOrder) = some false
  u_NoTable_NoRows : PySem.W.subIn K (.ref A.NoTable) (.ref A.NoRows) = some false
  u_NoTable_NoRule : PySem.W.subIn K (.ref A.NoTable) (.ref A.NoRule) = some false
  u_NoTable_NoShares : PySem.W.subIn K (.ref A.NoTable) (.ref A.NoShares) = some false
  u_NoTable_NoTable : PySem.W.subIn K (.ref A.NoTable) (.ref A.NoTable) = some true
  u_NoTable_NoText : PySem.W.subIn K (.ref A.NoTable) (.ref A.NoText) = some false
  u_NoTable_NoVotes : PySem.W.subIn K (.ref A.NoTable) (.ref A.NoVotes) = some false
  u_NoTable_ShareError : PySem.W.subIn K (.ref A.NoTable) (.ref A.ShareError) = some true
  u_NoTable_TooMany : PySem.W.subIn K (.ref A.NoTable) (.ref A.TooMany) = some false
  u_NoTable_Unlike : PySem.W.subIn K (.ref A.NoTable) (.ref A.Unlike) = some false
  v_NoTable : PySem.W.subIn K (.ref A.NoTable) (.type "ValueError") = some true
  h_NoTable_ShareError : PySem.W.exmOne K (.ref A.NoTable) (.ref A.ShareError) = some true
  c_MOST : mg "MOST" = some (.int 6 A.t_MOST)
  c_FULL : mg "FULL" = some (.int 12 A.t_FULL)
  z_ValueError : mg "ValueError" = none
  z_abs : mg "abs" = none
  z_bool : mg "bool" = none
  z_enumerate : mg "enumerate" = none
  z_int : mg "int" = none
  z_isinstance : mg "isinstance" = none
  z_len : mg "len" = none
  z_list : mg "list" = none
  z_max : mg "max" = none
  z_min : mg "min" = none
  z_range : mg "range" = none
  z_sorted : mg "sorted" = none
  z_sum : mg "sum" = none
inductive RuleAt (A : Ads) (K : PySem.W.Frag) (H : Hp) (a : Addr) (m : Nat) (f : Nat → Int) : Prop
  | kRule (h : BaseAt A.Rule K H a m f) : RuleAt A K H a m f
  | kOwn (h : OwnAt A.Own K H a m f) : RuleAt A K H a m f
  | kPairs (h : PairsAt A.Pairs K H a m f) : RuleAt A K H a m f
  | kVotes (h : VotesAt A.Votes K H a m f) : RuleAt A K H a m f
  | kPlain (h : PlainAt A.Plain K H a m f) : RuleAt A K H a m f
theorem RuleAt.same {A : Ads} {K : PySem.W.Frag} {H H' : Hp} {a : Addr} {m : Nat} {f : Nat → Int} (h : RuleAt A K H a m f) (s : Same H H') : RuleAt A K H' a m f := by
  cases h with
  | kRule h => exact .kRule (h.same s)
  | kOwn h => exact .kOwn (h.same s)
  | kPairs h => exact .kPairs (h.same s)
  | kVotes h => exact .kVotes (h.same s)
  | kPlain h => exact .kPlain (h.same s)
theorem RuleAt.ins {A : Ads} {K : PySem.W.Frag} {mg : Str → Option Value} {H : Hp} {a : Addr} {m : Nat} {f : Nat → Int} (T : Txt K mg A) (h : RuleAt A K H a m f) : ∃ C dx fs, InsF H a C dx fs m ∧ Cls K C ∧ NoAttr K C "many" := by
  cases h with
  | kRule h => obtain ⟨dx, fs, i⟩ := h.ins; exact ⟨_, dx, fs, i, T.cl_Rule, T.n_Rule_many⟩
  | kOwn h => obtain ⟨dx, fs, i⟩ := h.ins; exact ⟨_, dx, fs, i, T.cl_Own, T.n_Own_many⟩
  | kPairs h => obtain ⟨dx, fs, i⟩ := h.ins; exact ⟨_, dx, fs, i, T.cl_Pairs, T.n_Pairs_many⟩
  | kVotes h => obtain ⟨dx, fs, i⟩ := h.ins; exact ⟨_, dx, fs, i, T.cl_Votes, T.n_Votes_many⟩
  | kPlain h => obtain ⟨dx, fs, i⟩ := h.ins; exact ⟨_, dx, fs, i, T.cl_Plain, T.n_Plain_many⟩
theorem RuleAt.uniq {A : Ads} {K : PySem.W.Frag} {mg : Str → Option Value} {H : Hp} {a : Addr} {m m' : Nat} {f f' : Nat → Int} (T : Txt K mg A) (h : RuleAt A K H a m f) (h' : RuleAt A K H a m' f') : m = m' := by
  obtain ⟨C, dx, fs, i, _, _⟩ := h.ins T
  obtain ⟨C', dx', fs', i', _, _⟩ := h'.ins T
  have e := i.e.symm.trans i'.e
  simp only [Option.some.injEq, HO.ins.injEq] at e
  obtain ⟨_, _, rfl⟩ := e
  have e2 := i.many.symm.trans i'.many
  simp only [Option.some.injEq, V.int.injEq] at e2
  omega
inductive RulesF (A : Ads) (K : PySem.W.Frag) (H : Hp) (m : Nat) : List Addr → List (Nat → Int) → Prop
  | nil : RulesF A K H m [] []
  | cons {r : Addr} {rs : List Addr} {f : Nat → Int} {fs : List (Nat → Int)} : RuleAt A K H r m f → RulesF A K H m rs fs → RulesF A K H m (r :: rs) (f :: fs)
theorem RulesF.same {A : Ads} {K : PySem.W.Frag} {H H' : Hp} {m : Nat} (s : Same H H') : ∀ {rs : List Addr} {fs : List (Nat → Int)}, RulesF A K H m rs fs → RulesF A K H' m rs fs
  | _, _, .nil => .nil
  | _, _, .cons h r => .cons (h.same s) (r.same s)
theorem RulesF.len {A : Ads} {K : PySem.W.Frag} {H : Hp} {m : Nat} : ∀ {rs : List Addr} {fs : List (Nat → Int)}, RulesF A K H m rs fs → rs.length = fs.length
  | _, _, .nil => rfl
  | _, _, .cons _ r => by rw [List.length_cons, List.length_cons, r.len]
theorem RulesF.at {A : Ads} {K : PySem.W.Frag} {H : Hp} {m : Nat} : ∀ {rs : List Addr} {fs : List (Nat → Int)}, RulesF A K H m rs fs → ∀ {i : Nat} {r : Addr}, rs[i]? = some r → ∃ f, fs[i]? = some f ∧ RuleAt A K H r m f
  | _, _, .nil, i, _, h => by rw [List.getElem?_nil] at h; cases h
  | _, _, .cons (f := f) h r, 0, t, e => ⟨f, rfl, by cases e; exact h⟩
  | _, _, .cons h r, i + 1, t, e => r.at (i := i) (by simpa using e)
theorem RulesF.app {A : Ads} {K : PySem.W.Frag} {H : Hp} {m : Nat} {us : List Addr} {gs : List (Nat → Int)} (h2 : RulesF A K H m us gs) : ∀ {rs : List Addr} {fs : List (Nat → Int)}, RulesF A K H m rs fs → RulesF A K H m (rs ++ us) (fs ++ gs)
  | _, _, .nil => h2
  | _, _, .cons h r => .cons h (RulesF.app h2 r)
theorem RulesF.mem {A : Ads} {K : PySem.W.Frag} {H : Hp} {m : Nat} {rs : List Addr} {fs : List (Nat → Int)} (h : RulesF A K H m rs fs) : ∀ r ∈ rs, ∃ f, RuleAt A K H r m f := fun r hr => by
  obtain ⟨i, hi⟩ := List.getElem?_of_mem hr
  obtain ⟨f, _, R⟩ := h.at hi
  exact ⟨f, R⟩
def sumF (fs : List (Nat → Int)) (g : Nat) : Int := (fs.map fun f => f g).sum
theorem sumF_step {fs : List (Nat → Int)} {i : Nat} {f : Nat → Int} (h : fs[i]? = some f) (g : Nat) : sumF (fs.take (i + 1)) g = sumF (fs.take i) g + f g := by
  unfold sumF
  rw [List.take_add_one, h, List.map_append, List.sum_append]
  simp
inductive CompAt (A : Ads) (K : PySem.W.Frag) (H : Hp) (a : Addr) (m : Nat) (f : Nat → Int) : Prop
  | mk {dx l : Addr} {rs : List Addr} {fs : List (Nat → Int)} (e : H a = some (.ins A.Company dx [("many", .int (m : Int)), ("rules", .ref l)])) (h : SqL K H l (rs.map V.ref)) (hr : RulesF A K H m rs fs) (h1 : 1 ≤ m) (h6 : m ≤ 6) (hl : rs.length ≤ 12) (hf : ∀ g, g < 2 ^ m → f g = sumF fs g) : CompAt A K H a m f
theorem CompAt.same {A : Ads} {K : PySem.W.Frag} {H H' : Hp} {a : Addr} {m : Nat} {f : Nat → Int} (h : CompAt A K H a m f) (s : Same H H') : CompAt A K H' a m f := by cases h with | mk e h hr h1 h6 hl hf => exact .mk (s _ _ e) (s.seq h) (hr.same s) h1 h6 hl hf

local macro_rules | `(tactic| walk_at "x") => `(tactic| repeat (first
  | with_reducible refine x_seq ?_ | with_reducible refine x_asg ?_ | with_reducible refine x_op ?_ | with_reducible refine x_un ?_ | ((with_reducible refine' x_var ?e ?_); (case e => rfl)) | with_reducible refine x_c ?_
  | with_reducible refine x_if ?_ | with_reducible refine x_test ?_ | with_reducible refine x_B ?_ | with_reducible refine x_ex ?_ | with_reducible refine x_exI ?_ | with_reducible refine x_ret ?_ | with_reducible refine x_drop ?_
  | with_reducible refine x_rev ?_ | with_reducible refine x_lstRg1 ?_ | with_reducible refine x_dIn ?_ | with_reducible refine x_dPut ?_ | with_reducible refine x_dNew ?_ | with_reducible refine x_par ?_ | with_reducible refine x_call ?_ | with_reducible refine x_callS ?_ | with_reducible refine x_cons ?_ | with_reducible refine x_nil ?_ | with_reducible refine x_cb ?_
  | with_reducible refine x_addI ?_ | with_reducible refine x_subI ?_ | with_reducible refine x_ltI ?_ | with_reducible refine x_leI ?_ | with_reducible refine x_gtI ?_ | with_reducible refine x_geI ?_ | with_reducible refine x_eqI ?_ | with_reducible refine x_neI ?_
  | with_reducible refine x_eqS ?_ | with_reducible refine x_eqB ?_ | with_reducible refine x_isX ?_ | with_reducible refine x_isN ?_ | with_reducible refine x_notN ?_ | with_reducible refine x_ipI ?_
  | with_reducible refine x_andI ?_ | with_reducible refine x_orI ?_ | with_reducible refine x_xorI ?_ | with_reducible refine x_U ?_
  | with_reducible refine x_and ?_ | with_reducible refine x_or ?_ | with_reducible refine x_not ?_ | with_reducible refine x_andV ?_ | with_reducible refine x_orV ?_ | with_reducible refine x_notV ?_ | with_reducible refine x_ifE ?_
  | with_reducible refine x_for ?_ | with_reducible refine x_iList ?_ | with_reducible refine x_iTup ?_ | with_reducible refine x_iR1 ?_ | with_reducible refine x_iR2 ?_ | with_reducible refine x_iZip ?_ | with_reducible refine x_iEnum ?_ | with_reducible refine x_iR3 ?_ | with_reducible refine x_ev ?_
  | with_reducible refine x_meth ?_ | with_reducible refine x_methS ?_ | with_reducible refine x_base ?_ | with_reducible refine x_fld ?_ | with_reducible refine x_sfld ?_ | with_reducible refine x_make ?_ | with_reducible refine x_dNewT ?_ | with_reducible refine x_dInT ?_ | with_reducible refine x_dPutT ?_ | with_reducible refine x_dGetT ?_
  | with_reducible refine x_sl ?_ | with_reducible refine x_noPart ?_ | with_reducible refine x_part ?_ | with_reducible refine x_asgS ?_ | with_reducible refine x_augS ?_ | ((with_reducible refine' x_aug ?e ?_); (case e => rfl))
  | with_reducible refine x_bm ?_ | with_reducible refine x_bm0 ?_ | with_reducible refine x_tup ?_ | with_reducible refine x_lst ?_ | with_reducible refine x_next ?_ | with_reducible refine x_retN ?_ | with_reducible refine x_brk ?_ | with_reducible refine x_ct ?_
  | with_reducible refine x_lc ?_ | with_reducible refine x_yes ?_ | with_reducible refine x_gn ?_ | with_reducible refine x_gc ?_ | with_reducible refine x_g0 ?_ | with_reducible refine x_abs ?_ | with_reducible refine x_max2 ?_ | with_reducible refine x_min2 ?_))
local macro_rules | `(tactic| walk_at "sq") => `(tactic| first
  | assumption | exact .inl (by assumption) | exact Own.sq (by assumption) 0 rfl | exact Own.sq (by assumption) 1 rfl | exact Own.sq (by assumption) 2 rfl | exact Own.sq (by assumption) 3 rfl
  | exact Own.seq (by assumption) (by first | assumption | exact .inl (by assumption)))
section
variable {P : Program} {w : World} {K : PySem.W.Frag} {mg : Str → Option Value} {base : Heap} {A : Ads}
/-! ### is_whole -/
def sp_is_whole : Sp := fun vs H Q _ => ∃ v, vs = [v] ∧ Thing H v ∧ RetV (.bl (isI v)) H Q
theorem ok_is_whole (T : Txt K mg A) : FnOk P w K mg base (L2.CX P w) 1 A.a_is_whole A.d_is_whole ["thing"] sp_is_whole := by
  refine T.F_is_whole.okX sc_is_whole (fun vs H Q E h => ?_) (fun cdv A0 outer s H vs Q E hr h => ?_)
  · obtain ⟨v, rfl, _⟩ := h; rfl
  · obtain ⟨v, rfl, hv, k⟩ := h
    refine ⟨_, (pss_cons (ps_if (PW.pt (pw_or (pt_cmpR op_isX (pv 0) pe_bl (nomark _)) (pw_or1 (pt_cmpR op_isX (pv 0) pe_bl (nomark _))))) (pss_one (ps_ret pe_bl)) pss_nil)
      (pss_one (ps_ret (pe_callB (call_isiX (K := K) rfl) (by rfl) T.z_isinstance (by decide +kernel) (pa_cons (pv 0) (pa_cons (pe_bltn (v := .ty "int") (by rfl) T.z_int (by decide +kernel) rfl) pa_nil)))))), ?_⟩
    walk_at "x"
    have go : isB v = false → rIsi K [v, .ty "int"] H Q := fun e => x_isiInt hv (by rw [e, Bool.or_false]; exact k.go (Same.refl H))
    cases v with
    | bl b =>
      cases b
      · refine iteF ?_
        walk_at "x"
        exact iteT (k.go (Same.refl H))
      · exact iteT (iteT (k.go (Same.refl H)))
    | _ =>
      refine iteF ?_
      walk_at "x"
      refine iteF ?_
      walk_at "x"
      exact go rfl

/-! ### look_group -/
def sp_look_group (A : Ads) : Sp := fun vs H Q E => ∃ (v : V) (l g : Int), vs = [v, .int l, .int g] ∧ Thing H v ∧ (inR v l g → RetV .non H Q) ∧ (¬ inR v l g → ∀ H', Same H H' → E (.ref A.NoGroup) none H')
theorem ok_look_group (T : Txt K mg A) : FnOk P w K mg base (L2.CX P w) 2 A.a_look_group A.d_look_group ["group", "least", "greatest"] (sp_look_group A) := by
  refine T.F_look_group.okX sc_look_group (fun vs H Q E h => ?_) (fun cdv A0 outer s H vs Q E hr h => ?_)
  · obtain ⟨v, l, g, rfl, _⟩ := h; rfl
  · obtain ⟨v, l, g, rfl, hT, k, kE⟩ := h
    refine ⟨_, (pss_one (ps_if (PW.pt (pw_or (pt_not (pt_val (pe_call (ok_is_whole T) (hr.mono (by decide)) (by rfl) T.g_is_whole T.F_is_whole.kp T.b_is_whole .nil (passes_call (takes_of rfl rfl rfl rfl) (fun _ _ _ _ h => h)) (pa_cons (pv 0) pa_nil)))) (pw_or (pt_cmpR op_ltX (pv 0) (pv 1) (nomark _)) (pw_or1 (pt_cmpR op_gtX (pv 0) (pv 2) (nomark _)))))) (pss_one (ps_raise rfl (takes_of rfl rfl rfl rfl) (pmk_own PySem.F.excBase_ValueError T.x_NoGroup T.g_NoGroup T.k_NoGroup (raises_own T.e_NoGroup T.t_NoGroup) (by rfl)))) pss_nil)), ?_⟩
    walk_at "x"
    refine ⟨v, rfl, hT, fun H1 s1 => ?_⟩
    walk_at "x"
    cases hI : isI v with
    | false =>
      refine iteT ?_
      refine iteT (kE (fun ⟨z, e, _⟩ => ?_) H1 s1)
      rw [e] at hI; cases hI
    | true =>
      refine iteF ?_
      walk_at "x"
      obtain ⟨z, rfl⟩ : ∃ z, v = .int z := by
        cases v with
        | int z => exact ⟨z, rfl⟩
        | _ => cases hI
      walk_at "x"
      by_cases c1 : z < l
      · rw [decide_eq_true c1]
        refine iteT (iteT (kE (fun ⟨y, e, h1, h2⟩ => ?_) H1 s1))
        obtain rfl := V.int.inj e
        omega
      · rw [decide_eq_false c1]
        refine iteF ?_
        walk_at "x"
        by_cases c2 : g < z
        · rw [decide_eq_true c2]
          refine iteT (kE (fun ⟨y, e, h1, h2⟩ => ?_) H1 s1)
          obtain rfl := V.int.inj e
          omega
        · rw [decide_eq_false c2]
          refine iteF ?_
          walk_at "x"
          exact k ⟨z, rfl, by omega, by omega⟩ H1 s1

/-! ### whole_of -/
def sp_whole_of : Sp := fun vs H Q _ => ∃ k : Nat, vs = [.int (k : Int)] ∧ k ≤ 1000 ∧ RetV (.int (((2 ^ k : Nat) : Int) - 1)) H Q
theorem ok_whole_of (T : Txt K mg A) : FnOk P w K mg base (L2.CX P w) 1 A.a_whole_of A.d_whole_of ["many"] sp_whole_of := by
  refine T.F_whole_of.okX sc_whole_of (fun vs H Q E h => ?_) (fun cdv A0 outer s H vs Q E hr h => ?_)
  · obtain ⟨n, rfl, _⟩ := h; rfl
  · obtain ⟨n, rfl, hn, k⟩ := h
    refine ⟨_, (pss_one (ps_ret (pe_op op_subX (pe_op op_shlX pe_int (pv 0)) pe_int))), ?_⟩
    walk_at "x"
    refine x_shl ⟨by omega, by omega, by decide⟩ ?_
    rw [shl_nat]
    walk_at "x"
    exact k.go (Same.refl H)

/-! ### hands_of -/
def sp_hands_of (A : Ads) : Sp := fun vs H Q E => ∃ v : V, vs = [v] ∧ Thing H v ∧ (∀ g : Nat, v = .int (g : Int) → g < 64 → RetL ((handsM g).map vnat) H Q) ∧ (¬ inR v 0 63 → ∀ H', Same H H' → E (.ref A.NoGroup) none H')
theorem u_hands_of {H : Hp} {Q : VK} {E : XK} {g : Nat} (hg : g < 64) (q : RetL ((handsM g).map vnat) H Q) : sp_hands_of A [.int (g : Int)] H Q E :=
  ⟨_, rfl, .int _, fun g' e _ => by
    have : g = g' := by have := V.int.inj e; omega
    exact this ▸ q, fun h => absurd ⟨_, rfl, by omega, by omega⟩ h⟩
theorem ok_hands_of (T : Txt K mg A) : FnOk P w K mg base (L2.CX P w) 3 A.a_hands_of A.d_hands_of ["group"] (sp_hands_of A) := by
  refine T.F_hands_of.okX sc_hands_of (fun vs H Q E h => ?_) (fun cdv A0 outer s H vs Q E hr h => ?_)
  · obtain ⟨v, rfl, _⟩ := h; rfl
  · obtain ⟨v, rfl, hT, k, kE⟩ := h
    refine ⟨_, (pss_cons (ps_expr (pe_call (ok_look_group T) (hr.mono (by decide)) (by rfl) T.g_look_group T.F_look_group.kp T.b_look_group .nil (passes_call (takes_of rfl rfl rfl rfl) (fun _ _ _ _ h => h)) (pa_cons (pv 0) (pa_cons pe_int (pa_cons (pe_call (ok_whole_of T) (hr.mono (by decide)) (by rfl) T.g_whole_of T.F_whole_of.kp T.b_whole_of .nil (passes_call (takes_of rfl rfl rfl rfl) (fun _ _ _ _ h => h)) (pa_cons (pe_glob (v := .int 6) (by rfl) T.c_MOST ⟨_, rfl⟩) pa_nil)) pa_nil)))))
      (pss_one (ps_ret (pe_lc (own := [("hand", 1)]) rfl sc_hands_of.nd (pi_range1 (by rfl) T.z_range (pa_cons (pe_glob (v := .int 6) (by rfl) T.c_MOST ⟨_, rfl⟩) pa_nil)) (blkOk_by (own := [("hand", 1)]) (N := N_hands_of) (sc := defScope s_hands_of) (by decide +kernel)) (fun _ _ _ _ _ => (pg_name (i := 1) sc_hands_of.nd rfl (.inl rfl))) (fun _ _ _ _ _ => (pts_one (pt_cmpR (op_eqK (K := K) rfl hr.units) (pe_op op_andX (pe_op op_shrX (pv 0) (pv 1)) pe_int) pe_int (nomark _)))) (fun _ _ _ _ _ => (pv 1)))))), ?_⟩
    walk_at "x"
    refine ⟨6, rfl, by decide, fun H1 s1 => ?_⟩
    walk_at "x"
    refine ⟨v, 0, _, rfl, hT.same s1, fun hin H2 s2 => ?_, fun hn H2 s2 => kE hn H2 (s1.trans s2)⟩
    obtain ⟨z, rfl, h0, h1⟩ := hin
    have w : Own H [] H2 := Own.start.ext (s1.trans s2)
    obtain ⟨g, rfl⟩ := Int.eq_ofNat_of_zero_le h0
    have hg : g < 64 := by
      have : (((2 ^ 6 : Nat) : Int) - 1) = 63 := by decide
      omega
    walk_at "x"
    refine ⟨_, rfl, by decide, by decide, cp_r0 (n := 6) (fun i => ((List.range i).filter fun h => bitOn h g).map vnat) w rfl ?_ ?_⟩
    · intro D i H' hi p
      walk_at "x"
      refine ⟨rfl, ?_⟩
      walk_at "x"
      refine x_shr (by omega) ?_
      walk_at "x"
      rw [bit_int (by omega) hg]
      cases c : bitOn i g with
      | true =>
        refine iteT ?_
        walk_at "x"
        exact cp_fin p (filter_yes (p := fun h => bitOn h g) c vnat) (by rw [List.length_map]; have := filter_len (fun h => bitOn h g) i; omega)
      | false =>
        exact iteF (cp_no p (filter_no (p := fun h => bitOn h g) c vnat))
    · intro D H' w2
      exact (k g rfl hg).go w2

/-! ### Rule_hands -/
def sp_Rule_hands (A : Ads) (K : PySem.W.Frag) : Sp := fun vs H Q _ => ∃ (a : Addr) (m : Nat) (f : Nat → Int), vs = [.ref a] ∧ RuleAt A K H a m f ∧ RetV (.int (m : Int)) H Q
theorem ok_Rule_hands (T : Txt K mg A) : FnOk P w K mg base (L2.CX P w) 1 A.a_Rule_hands A.d_Rule_hands ["self"] (sp_Rule_hands A K) := by
  refine T.F_Rule_hands.okX sc_Rule_hands (fun vs H Q E h => ?_) (fun cdv A0 outer s H vs Q E hr h => ?_)
  · obtain ⟨a, m, f, rfl, _⟩ := h; rfl
  · obtain ⟨a, m, f, rfl, R, k⟩ := h
    obtain ⟨C, dx, fs, i, c, n⟩ := R.ins T
    refine ⟨_, (pss_one (ps_ret (pe_fldK (K := K) rfl (pv 0) rfl))), ?_⟩
    walk_at "x"
    exact ⟨a, C, dx, fs, _, rfl, i.e, c, n, i.many, k _ (Same.refl _)⟩

/-! ### Company___init__ -/
def compOk (A : Ads) (K : PySem.W.Frag) (H : Hp) (v : V) (rs : List Addr) (m : Nat) : Prop := v = .int (m : Int) ∧ 1 ≤ m ∧ m ≤ 6 ∧ rs.length ≤ 12 ∧ ∀ r ∈ rs, ∃ f, RuleAt A K H r m f
def sp_Company___init__ (A : Ads) (K : PySem.W.Frag) : Sp := fun vs H Q E => ∃ (p C dx b : Addr) (v : V) (rs : List Addr), vs = [.ref p, v, .ref b] ∧ H p = some (.ins C dx []) ∧ Cls K C ∧ NoAttr K C "many" ∧ NoAttr K C "rules" ∧ Thing H v ∧ SqL K H b (rs.map V.ref) ∧ b ≠ p ∧ rs.length ≤ 1000 ∧
  (∀ r ∈ rs, ∃ m f, RuleAt A K H r m f) ∧
  (∀ m : Nat, compOk A K H v rs m → ∀ l H', H l = none → SameX p H H' → H' p = some (.ins C dx [("many", .int (m : Int)), ("rules", .ref l)]) → H' l = some (.lst (rs.map V.ref)) → Q .non H') ∧
  ((∀ m : Nat, ¬ compOk A K H v rs m) → ∀ H', SameX p H H' → E (.ref A.NoRule) none H')
theorem ok_Company___init__ (T : Txt K mg A) : FnOk P w K mg base (L2.CX P w) 2 A.a_Company___init__ A.d_Company___init__ ["self", "many", "rules"] (sp_Company___init__ A K) := by
  refine T.F_Company___init__.okX sc_Company___init__ (fun vs H Q E h => ?_) (fun cdv A0 outer s H vs Q E hr h => ?_)
  · obtain ⟨p, C, dx, b, v, rs, rfl, _⟩ := h; rfl
  · obtain ⟨p, C, dx, b, v, rs, rfl, e, c, na, nb, hT, hS, hne, hl, hR, k, kE⟩ := h
    refine ⟨_, (pss_cons (ps_if (PW.pt (pw_or (pt_not (pt_val (pe_call (ok_is_whole T) (hr.mono (by decide)) (by rfl) T.g_is_whole T.F_is_whole.kp T.b_is_whole .nil (passes_call (takes_of rfl rfl rfl rfl) (fun _ _ _ _ h => h)) (pa_cons (pv 1) pa_nil)))) (pw_or (pt_cmpR op_ltX (pv 1) pe_int (nomark _)) (pw_or1 (pt_cmpR op_gtX (pv 1) (pe_glob (v := .int 6) (by rfl) T.c_MOST ⟨_, rfl⟩) (nomark _)))))) (pss_one (ps_raise rfl (takes_of rfl rfl rfl rfl) (pmk_own PySem.F.excBase_ValueError T.x_NoRule T.g_NoRule T.k_NoRule (raises_own T.e_NoRule T.t_NoRule) (by rfl)))) pss_nil)
      (pss_cons (ps_if (pt_cmpR op_gtX (pe_callB (call_lenK (K := K) rfl) (by rfl) T.z_len (by decide +kernel) (pa_cons (pv 2) pa_nil)) (pe_glob (v := .int 12) (by rfl) T.c_FULL ⟨_, rfl⟩) (nomark _)) (pss_one (ps_raise rfl (takes_of rfl rfl rfl rfl) (pmk_own PySem.F.excBase_ValueError T.x_NoRule T.g_NoRule T.k_NoRule (raises_own T.e_NoRule T.t_NoRule) (by rfl)))) pss_nil)
      (pss_cons (ps_for (passes_of rfl) rfl (pi_listK (K := K) rfl (pv 2)) (pg_name (i := 3) sc_Company___init__.nd rfl (.inl rfl)) (pss_one (ps_if (pt_cmpR (op_neK (K := K) rfl hr.units) (pe_or2 (pe_meth0 (pv 3) T.cl_Rule T.m_Rule_hands (ok_Rule_hands T) (hr.mono (by decide)) T.b_Rule_hands .nil (passes_call (takes_of rfl rfl rfl rfl) (fun _ _ _ _ h => h))) (pe_or2 (pe_meth0 (pv 3) T.cl_Own T.m_Own_hands (ok_Rule_hands T) (hr.mono (by decide)) T.b_Rule_hands .nil (passes_call (takes_of rfl rfl rfl rfl) (fun _ _ _ _ h => h))) (pe_or2 (pe_meth0 (pv 3) T.cl_Pairs T.m_Pairs_hands (ok_Rule_hands T) (hr.mono (by decide)) T.b_Rule_hands .nil (passes_call (takes_of rfl rfl rfl rfl) (fun _ _ _ _ h => h))) (pe_or2 (pe_meth0 (pv 3) T.cl_Votes T.m_Votes_hands (ok_Rule_hands T) (hr.mono (by decide)) T.b_Rule_hands .nil (passes_call (takes_of rfl rfl rfl rfl) (fun _ _ _ _ h => h))) (pe_meth0 (pv 3) T.cl_Plain T.m_Plain_hands (ok_Rule_hands T) (hr.mono (by decide)) T.b_Rule_hands .nil (passes_call (takes_of rfl rfl rfl rfl) (fun _ _ _ _ h => h))))))) (pv 1) (nomark _)) (pss_one (ps_raise rfl (takes_of rfl rfl rfl rfl) (pmk_own PySem.F.excBase_ValueError T.x_NoRule T.g_NoRule T.k_NoRule (raises_own T.e_NoRule T.t_NoRule) (by rfl)))) pss_nil)))
      (pss_cons (ps_fld (pv 0) (pv 1) rfl)
      (pss_one (ps_fld (pv 0) (pe_callTy (call_listK (K := K) rfl) (by rfl) T.z_list (by decide +kernel) (pa_cons (pv 2) pa_nil)) rfl)))))), ?_⟩
    walk_at "x"
    refine ⟨v, rfl, hT, fun H1 s1 => ?_⟩
    walk_at "x"
    cases hI : isI v with
    | false =>
      refine iteT (iteT (kE (fun m ⟨ez, _⟩ => ?_) H1 (Same.x s1)))
      rw [ez] at hI; cases hI
    | true =>
      refine iteF ?_
      obtain ⟨z, rfl⟩ : ∃ z, v = .int z := by
        cases v with
        | int z => exact ⟨z, rfl⟩
        | _ => cases hI
      walk_at "x"
      by_cases c1 : z < 1
      · rw [decide_eq_true c1]
        refine iteT (iteT (kE (fun m ⟨ey, h1, h2, _⟩ => ?_) H1 (Same.x s1)))
        have := V.int.inj ey
        omega
      · rw [decide_eq_false c1]
        refine iteF ?_
        walk_at "x"
        by_cases c2 : 6 < z
        · rw [decide_eq_true c2]
          refine iteT (kE (fun m ⟨ey, h1, h2, _⟩ => ?_) H1 (Same.x s1))
          have := V.int.inj ey
          omega
        · rw [decide_eq_false c2]
          refine iteF ?_
          obtain ⟨m, rfl⟩ := Int.eq_ofNat_of_zero_le (show 0 ≤ z by omega)
          walk_at "x"
          refine x_lenL (s1.seq hS) ?_
          rw [List.length_map]
          walk_at "x"
          refine ite2 (fun c3 => ?_) (fun c3 => ?_)
          · have c3 := of_decide_eq_true c3
            exact kE (fun m ⟨ey, h1, h2, h3, _⟩ => by omega) H1 (Same.x s1)
          have h12 : rs.length ≤ 12 := by
            refine Nat.le_of_not_lt fun h => c3 (decide_eq_true (by omega))
          walk_at "x"
          refine ⟨b, rfl, ⟨_, s1.seq hS⟩, for_list (xs := rs.map V.ref) (fun i σ' H' => (∃ v, σ' = [some (.ref p), some (.int (m : Int)), some (.ref b), v]) ∧ Same H H' ∧ ∀ r ∈ rs.take i, ∃ f, RuleAt A K H r m f) ⟨⟨_, rfl⟩, s1, fun r hr => by cases hr⟩ (fun i σ' H' _ h => h.2.1.seq hS) ?_ ?_⟩
          · rintro i x σ' H' hx ⟨⟨v, rfl⟩, s2, hg⟩
            obtain ⟨r, hr, rfl⟩ := map_at hx
            obtain ⟨m', f, R⟩ := hR r (List.mem_of_getElem? hr)
            have R2 := R.same s2
            walk_at "x"
            have fin : ∀ H3, Same H' H3 → (if (!decide ((m' : Int) = (m : Int))) = true then E (.ref A.NoRule) none H3 else (∃ v, [some (V.ref p), some (.int (m : Int)), some (.ref b), some (.ref r)] = [some (.ref p), some (.int (m : Int)), some (.ref b), v]) ∧ Same H H3 ∧ ∀ r ∈ rs.take (i + 1), ∃ f, RuleAt A K H r m f) := fun H3 s3 => by
              by_cases ee : m' = m
              · subst ee
                rw [decide_eq_true rfl]
                refine iteF ⟨⟨_, rfl⟩, s2.trans s3, fun r' hr' => ?_⟩
                rw [List.take_add_one, hr] at hr'
                rcases List.mem_append.mp hr' with h | h
                · exact hg r' h
                · obtain rfl := List.mem_singleton.mp h
                  exact ⟨f, R⟩
              · rw [decide_eq_false (fun z => ee (by omega))]
                refine iteT (kE (fun m2 ⟨ey, _, _, _, h5⟩ => ?_) H3 (Same.x (s2.trans s3)))
                obtain ⟨f2, R3⟩ := h5 r (List.mem_of_getElem? hr)
                have := V.int.inj ey
                exact ee (by have := R.uniq T R3; omega)
            cases R2 with
            | kRule h =>
              obtain ⟨dx, fl, i⟩ := h.ins
              exact .inl ((x_meth (x_var rfl ⟨r, dx, fl, rfl, i.e, i.c3, x_nil ⟨r, m', f, rfl, R.same s2, fun H3 s3 => by walk_at "x"; exact fin H3 s3⟩⟩)))
            | kOwn h =>
              obtain ⟨dx, fl, i⟩ := h.ins
              exact .inr (.inl ((x_meth (x_var rfl ⟨r, dx, fl, rfl, i.e, i.c3, x_nil ⟨r, m', f, rfl, R.same s2, fun H3 s3 => by walk_at "x"; exact fin H3 s3⟩⟩))))
            | kPairs h =>
              obtain ⟨dx, fl, i⟩ := h.ins
              exact .inr (.inr (.inl ((x_meth (x_var rfl ⟨r, dx, fl, rfl, i.e, i.c3, x_nil ⟨r, m', f, rfl, R.same s2, fun H3 s3 => by walk_at "x"; exact fin H3 s3⟩⟩)))))
            | kVotes h =>
              obtain ⟨dx, fl, i⟩ := h.ins
              exact .inr (.inr (.inr (.inl ((x_meth (x_var rfl ⟨r, dx, fl, rfl, i.e, i.c3, x_nil ⟨r, m', f, rfl, R.same s2, fun H3 s3 => by walk_at "x"; exact fin H3 s3⟩⟩))))))
            | kPlain h =>
              obtain ⟨dx, fl, i⟩ := h.ins
              exact .inr (.inr (.inr (.inr ((x_meth (x_var rfl ⟨r, dx, fl, rfl, i.e, i.c3, x_nil ⟨r, m', f, rfl, R.same s2, fun H3 s3 => by walk_at "x"; exact fin H3 s3⟩⟩))))))
          · rintro σ' H' ⟨⟨v, rfl⟩, s2, hg⟩
            rw [List.length_map, List.take_length] at hg
            walk_at "x"
            refine ⟨p, C, dx, [], rfl, s2 _ _ e, c, na, by decide, ?_⟩
            have sx0 : SameX p H (upd H' p (.ins C dx (putF "many" (.int (m : Int)) []))) := SameX.trans (Same.x s2) SameX.upd
            have hS1 := sqL_x sx0 hS hne
            walk_at "x"
            refine x_list hS1 (fun l nl => ?_)
            have nlp : l ≠ p := fun z => by subst z; rw [upd_same] at nl; cases nl
            walk_at "x"
            refine ⟨p, C, dx, _, rfl, by rw [upd_ne (Ne.symm nlp), upd_same] <;> rfl, c, nb, by show 1 < 1000; decide, ?_⟩
            have sx : SameX p H (upd (upd (upd H' p (.ins C dx (putF "many" (.int (m : Int)) []))) l (.lst (rs.map V.ref))) p (.ins C dx (putF "rules" (.ref l) (putF "many" (.int (m : Int)) [])))) := fun q o hq h => by
              rw [upd_ne hq]
              have h2 := sx0 q o hq h
              rw [upd_ne (fun z => by subst z; rw [nl] at h2; cases h2)]
              exact h2
            refine k m ⟨rfl, by omega, by omega, h12, hg⟩ l _ ?_ sx ?_ ?_
            · cases hl : H l with
              | none => rfl
              | some o => have := sx0 l o nlp hl; rw [nl] at this; cases this
            · rw [upd_same] <;> rfl
            · rw [upd_ne nlp, upd_same]

/-! ### Company_hands -/
def sp_Company_hands (A : Ads) (K : PySem.W.Frag) : Sp := fun vs H Q _ => ∃ (a : Addr) (m : Nat) (f : Nat → Int), vs = [.ref a] ∧ CompAt A K H a m f ∧ RetV (.int (m : Int)) H Q
theorem ok_Company_hands (T : Txt K mg A) : FnOk P w K mg base (L2.CX P w) 1 A.a_Company_hands A.d_Company_hands ["self"] (sp_Company_hands A K) := by
  refine T.F_Company_hands.okX sc_Company_hands (fun vs H Q E h => ?_) (fun cdv A0 outer s H vs Q E hr h => ?_)
  · obtain ⟨a, m, f, rfl, _⟩ := h; rfl
  · obtain ⟨a, m, f, rfl, R, k⟩ := h
    cases R with
    | @mk dx l rs fs e h hr h1 h6 hl hf =>
      refine ⟨_, (pss_one (ps_ret (pe_fldK (K := K) rfl (pv 0) rfl))), ?_⟩
      walk_at "x"
      exact ⟨a, A.Company, dx, _, _, rfl, e, T.cl_Company, T.n_Company_many, rfl, k _ (Same.refl _)⟩

/-! ### Rule_reckoned -/
def sp_Rule_reckoned (A : Ads) (K : PySem.W.Frag) : Sp := fun vs H Q _ => ∃ (a : Addr) (m g : Nat) (f : Nat → Int), vs = [.ref a, .int (g : Int)] ∧ BaseAt A.Rule K H a m f ∧ g < 2 ^ m ∧ m ≤ 6 ∧ RetV (.int (f g)) H Q
theorem ok_Rule_reckoned (T : Txt K mg A) : FnOk P w K mg base (L2.CX P w) 1 A.a_Rule_reckoned A.d_Rule_reckoned ["self", "group"] (sp_Rule_reckoned A K) := by
  refine T.F_Rule_reckoned.okX sc_Rule_reckoned (fun vs H Q E h => ?_) (fun cdv A0 outer s H vs Q E hr h => ?_)
  · obtain ⟨a, m, g, f, rfl, _⟩ := h; rfl
  · obtain ⟨a, m, g, f, rfl, R, hg, hm, k⟩ := h
    cases R with
    | mk e hf =>
      refine ⟨_, (pss_one (ps_ret pe_int)), ?_⟩
      walk_at "x"
      rw [hf g hg] at k
      exact k _ (Same.refl _)

/-! ### Plain_reckoned -/
def sp_Plain_reckoned (A : Ads) (K : PySem.W.Frag) : Sp := fun vs H Q _ => ∃ (a : Addr) (m g : Nat) (f : Nat → Int), vs = [.ref a, .int (g : Int)] ∧ PlainAt A.Plain K H a m f ∧ g < 2 ^ m ∧ m ≤ 6 ∧ RetV (.int (f g)) H Q
theorem ok_Plain_reckoned (T : Txt K mg A) : FnOk P w K mg base (L2.CX P w) 1 A.a_Plain_reckoned A.d_Plain_reckoned ["self", "group"] (sp_Plain_reckoned A K) := by
  refine T.F_Plain_reckoned.okX sc_Plain_reckoned (fun vs H Q E h => ?_) (fun cdv A0 outer s H vs Q E hr h => ?_)
  · obtain ⟨a, m, g, f, rfl, _⟩ := h; rfl
  · obtain ⟨a, m, g, f, rfl, R, hg, hm, k⟩ := h
    cases R with
    | @mk dx l ns e h hl hf =>
      refine ⟨_, (pss_one (ps_ret (pe_ix (ix_seqK (K := K) rfl) (pe_fldK (K := K) rfl (pv 0) rfl) (pv 1) (fun _ _ => rfl)))), ?_⟩
      walk_at "x"
      refine ⟨a, _, dx, _, .ref l, rfl, e, T.cl_Plain, T.n_Plain_row, rfl, ?_⟩
      walk_at "x"
      refine x_ixXL h (at_int (by omega) (by omega)) ?_
      rw [show gi ns (g : Int) = f g from (hf g hg).symm]
      exact k _ (Same.refl _)

/-! ### Own_reckoned -/
def sp_Own_reckoned (A : Ads) (K : PySem.W.Frag) : Sp := fun vs H Q _ => ∃ (a : Addr) (m g : Nat) (f : Nat → Int), vs = [.ref a, .int (g : Int)] ∧ OwnAt A.Own K H a m f ∧ g < 2 ^ m ∧ m ≤ 6 ∧ RetV (.int (f g)) H Q
theorem ok_Own_reckoned (T : Txt K mg A) : FnOk P w K mg base (L2.CX P w) 4 A.a_Own_reckoned A.d_Own_reckoned ["self", "group"] (sp_Own_reckoned A K) := by
  refine T.F_Own_reckoned.okX sc_Own_reckoned (fun vs H Q E h => ?_) (fun cdv A0 outer s H vs Q E hr h => ?_)
  · obtain ⟨a, m, g, f, rfl, _⟩ := h; rfl
  · obtain ⟨a, m, g, f, rfl, R, hg, hm, k⟩ := h
    cases R with
    | @mk dx l ns e h hl hf =>
      have hg64 : g < 64 := Nat.lt_of_lt_of_le hg (pow6 hm)
      refine ⟨_, (pss_one (ps_ret (pe_callB (cr_sumK (K := K) rfl rfl) (by rfl) T.z_sum (by decide +kernel) (pa_cons (pe_lc (own := [("hand", 2)]) rfl sc_Own_reckoned.nd (pi_listK (K := K) rfl (pe_call (ok_hands_of T) (hr.mono (by decide)) (by rfl) T.g_hands_of T.F_hands_of.kp T.b_hands_of .nil (passes_call (takes_of rfl rfl rfl rfl) (fun _ _ _ _ h => h)) (pa_cons (pv 1) pa_nil))) (blkOk_by (own := [("hand", 2)]) (N := N_Own_reckoned) (sc := defScope s_Own_reckoned) (by decide +kernel)) (fun _ _ _ _ _ => (pg_name (i := 2) sc_Own_reckoned.nd rfl (.inl rfl))) (fun _ _ _ _ _ => pts_nil) (fun _ _ _ _ _ => (pe_ix (ix_seqK (K := K) rfl) (pe_fldK (K := K) rfl (pv 0) rfl) (pv 2) (fun _ _ => rfl)))) pa_nil)))), ?_⟩
      walk_at "x"
      refine u_hands_of hg64 fun p1 H1 n1 s1 c1 => ?_
      have w := Own.start (H := H)
      have w1 := (w.newE n1 s1 c1).freeze
      have hB : SqL K (upd H p1 (.lst ((handsM g).map vnat))) p1 ((handsM g).map vnat) := SqL.of upd_same
      have sB := same_upd (o := .lst ((handsM g).map vnat)) n1
      walk_at "x"
      refine ⟨_, rfl, ⟨_, w1.seq hB⟩, cp_list (xs := (handsM g).map vnat) (fun i => ((handsM g).take i).map fun h : Nat => V.int (gi ns (h : Int))) w1 hB rfl ?_ ?_⟩
      · intro D i x H' hx p
        obtain ⟨z, hz, rfl⟩ := map_at hx
        have hzm := hands_lt hm hg (List.mem_of_getElem? hz)
        walk_at "x"
        refine ⟨rfl, ?_⟩
        walk_at "x"
        refine iteT ?_
        walk_at "x"
        refine ⟨a, _, dx, _, .ref l, rfl, Own.ext p (Same.refl _) |>.ex _ _ (sB _ _ e), T.cl_Own, T.n_Own_numbers, rfl, ?_⟩
        walk_at "x"
        refine x_ixXL (Own.seq p (sB.seq h)) (at_int (by omega) (by omega)) ?_
        exact cp_fin p (take_map hz _) (by rw [List.length_map, List.length_take]; have := handsM_len g; omega)
      · intro D H' w2
        rw [List.length_map, List.take_length] at w2
        have e2 : ((handsM g).map fun h : Nat => V.int (gi ns (h : Int))) = ((handsM g).map fun h : Nat => gi ns (h : Int)).map V.int := by rw [List.map_map] <;> rfl
        rw [e2] at w2
        refine x_nil ?_
        refine x_sum (w2.sq 0 rfl) ?_
        rw [hands_sumS hl hm hg, ← hf g hg]
        exact k _ (sB.trans w2.ex)

/-! ### Votes_reckoned -/
def sp_Votes_reckoned (A : Ads) (K : PySem.W.Frag) : Sp := fun vs H Q _ => ∃ (a : Addr) (m g : Nat) (f : Nat → Int), vs = [.ref a, .int (g : Int)] ∧ VotesAt A.Votes K H a m f ∧ g < 2 ^ m ∧ m ≤ 6 ∧ RetV (.int (f g)) H Q
theorem ok_Votes_reckoned (T : Txt K mg A) : FnOk P w K mg base (L2.CX P w) 4 A.a_Votes_reckoned A.d_Votes_reckoned ["self", "group"] (sp_Votes_reckoned A K) := by
  refine T.F_Votes_reckoned.okX sc_Votes_reckoned (fun vs H Q E h => ?_) (fun cdv A0 outer s H vs Q E hr h => ?_)
  · obtain ⟨a, m, g, f, rfl, _⟩ := h; rfl
  · obtain ⟨a, m, g, f, rfl, R, hg, hm, k⟩ := h
    cases R with
    | @mk dx l qu pr ns e h hl hf =>
      have hg64 : g < 64 := Nat.lt_of_lt_of_le hg (pow6 hm)
      refine ⟨_, (pss_cons (ps_if (pt_cmpR op_geX (pe_callB (cr_sumK (K := K) rfl rfl) (by rfl) T.z_sum (by decide +kernel) (pa_cons (pe_lc (own := [("hand", 2)]) rfl sc_Votes_reckoned.nd (pi_listK (K := K) rfl (pe_call (ok_hands_of T) (hr.mono (by decide)) (by rfl) T.g_hands_of T.F_hands_of.kp T.b_hands_of .nil (passes_call (takes_of rfl rfl rfl rfl) (fun _ _ _ _ h => h)) (pa_cons (pv 1) pa_nil))) (blkOk_by (own := [("hand", 2)]) (N := N_Votes_reckoned) (sc := defScope s_Votes_reckoned) (by decide +kernel)) (fun _ _ _ _ _ => (pg_name (i := 2) sc_Votes_reckoned.nd rfl (.inl rfl))) (fun _ _ _ _ _ => pts_nil) (fun _ _ _ _ _ => (pe_ix (ix_seqK (K := K) rfl) (pe_fldK (K := K) rfl (pv 0) rfl) (pv 2) (fun _ _ => rfl)))) pa_nil)) (pe_fldK (K := K) rfl (pv 0) rfl) (nomark _)) (pss_one (ps_ret (pe_fldK (K := K) rfl (pv 0) rfl))) pss_nil)
      (pss_one (ps_ret pe_int))), ?_⟩
      walk_at "x"
      refine u_hands_of hg64 fun p1 H1 n1 s1 c1 => ?_
      have w := Own.start (H := H)
      have w1 := (w.newE n1 s1 c1).freeze
      have hB : SqL K (upd H p1 (.lst ((handsM g).map vnat))) p1 ((handsM g).map vnat) := SqL.of upd_same
      have sB := same_upd (o := .lst ((handsM g).map vnat)) n1
      walk_at "x"
      refine ⟨_, rfl, ⟨_, w1.seq hB⟩, cp_list (xs := (handsM g).map vnat) (fun i => ((handsM g).take i).map fun h : Nat => V.int (gi ns (h : Int))) w1 hB rfl ?_ ?_⟩
      · intro D i x H' hx p
        obtain ⟨z, hz, rfl⟩ := map_at hx
        have hzm := hands_lt hm hg (List.mem_of_getElem? hz)
        walk_at "x"
        refine ⟨rfl, ?_⟩
        walk_at "x"
        refine iteT ?_
        walk_at "x"
        refine ⟨a, _, dx, _, .ref l, rfl, Own.ext p (Same.refl _) |>.ex _ _ (sB _ _ e), T.cl_Votes, T.n_Votes_weights, rfl, ?_⟩
        walk_at "x"
        refine x_ixXL (Own.seq p (sB.seq h)) (at_int (by omega) (by omega)) ?_
        exact cp_fin p (take_map hz _) (by rw [List.length_map, List.length_take]; have := handsM_len g; omega)
      · intro D H' w2
        rw [List.length_map, List.take_length] at w2
        have e2 : ((handsM g).map fun h : Nat => V.int (gi ns (h : Int))) = ((handsM g).map fun h : Nat => gi ns (h : Int)).map V.int := by rw [List.map_map] <;> rfl
        rw [e2] at w2
        refine x_nil ?_
        refine x_sum (w2.sq 0 rfl) ?_
        rw [hands_sumS hl hm hg]
        have sA := sB.trans w2.ex
        walk_at "x"
        refine ⟨a, _, dx, _, .int qu, rfl, sA _ _ e, T.cl_Votes, T.n_Votes_quota, rfl, ?_⟩
        walk_at "x"
        have hfg := hf g hg
        refine ite2 (fun c => ?_) (fun c => ?_)
        · rw [if_pos (of_decide_eq_true c)] at hfg
          walk_at "x"
          refine ⟨a, _, dx, _, .int pr, rfl, sA _ _ e, T.cl_Votes, T.n_Votes_prize, rfl, ?_⟩
          rw [← hfg]
          exact k _ sA
        · rw [if_neg (fun z => c (decide_eq_true z))] at hfg
          walk_at "x"
          rw [← hfg]
          exact k _ sA

/-! ### Pairs_reckoned -/
def sp_Pairs_reckoned (A : Ads) (K : PySem.W.Frag) : Sp := fun vs H Q _ => ∃ (a : Addr) (m g : Nat) (f : Nat → Int), vs = [.ref a, .int (g : Int)] ∧ PairsAt A.Pairs K H a m f ∧ g < 2 ^ m ∧ m ≤ 6 ∧ RetV (.int (f g)) H Q
theorem ok_Pairs_reckoned (T : Txt K mg A) : FnOk P w K mg base (L2.CX P w) 1 A.a_Pairs_reckoned A.d_Pairs_reckoned ["self", "group"] (sp_Pairs_reckoned A K) := by
  refine T.F_Pairs_reckoned.okX sc_Pairs_reckoned (fun vs H Q E h => ?_) (fun cdv A0 outer s H vs Q E hr h => ?_)
  · obtain ⟨a, m, g, f, rfl, _⟩ := h; rfl
  · obtain ⟨a, m, g, f, rfl, R, hg, hm, k⟩ := h
    cases R with
    | @mk dx l ts fs e h hr2 hp hf =>
      have hg64 : g < 64 := Nat.lt_of_lt_of_le hg (pow6 hm)
      refine ⟨_, (pss_cons (ps_set (i := 2) sc_Pairs_reckoned.nd rfl (.inl rfl) pe_int)
      (pss_cons (ps_for (passes_of rfl) rfl (pi_listK (K := K) rfl (pe_fldK (K := K) rfl (pv 0) rfl)) (pg_tupK (K := K) (n := 3) rfl rfl (pgs_cons (pg_name (i := 3) sc_Pairs_reckoned.nd rfl (.inl rfl)) (pgs_cons (pg_name (i := 4) sc_Pairs_reckoned.nd rfl (.inl rfl)) (pgs_cons (pg_name (i := 5) sc_Pairs_reckoned.nd rfl (.inl rfl)) pgs_nil)))) (pss_one (ps_if (pt_cmpR (op_eqK (K := K) rfl hr.units) (pe_op op_andX (pe_op op_andX (pe_op op_shrX (pv 1) (pv 3)) (pe_op op_shrX (pv 1) (pv 4))) pe_int) pe_int (nomark _)) (pss_one (ps_aug (i := 2) sc_Pairs_reckoned.nd rfl (.inl rfl) (pv 5) ip_add)) pss_nil)))
      (pss_one (ps_ret (pv 2))))), ?_⟩
      walk_at "x"
      refine ⟨a, _, dx, _, .ref l, rfl, e, T.cl_Pairs, T.n_Pairs_pairs, rfl, ?_⟩
      refine ⟨l, rfl, ⟨_, h⟩, for_list (xs := ts.map V.ref) (fun i σ' H' => (∃ v3 v4 v5, σ' = [some (.ref a), some (.int (g : Int)), some (.int (pairsS (fs.take i) g)), v3, v4, v5]) ∧ H' = H) ⟨⟨_, _, _, rfl⟩, rfl⟩ (fun i σ' H' _ h' => by rw [h'.2]; exact h) ?_ ?_⟩
      · rintro i x σ' H' hx ⟨⟨v3, v4, v5, rfl⟩, rfl⟩
        obtain ⟨t, ht, rfl⟩ := map_at hx
        obtain ⟨tr, htr, hT⟩ := hr2.at ht
        obtain ⟨p1, p2⟩ := hp tr (List.mem_of_getElem? htr)
        refine x_gt (SqT.of hT) rfl ?_
        walk_at "x"
        refine x_shr (by omega) ?_
        walk_at "x"
        refine x_shr (by omega) ?_
        walk_at "x"
        rw [both_int (by omega) (by omega) hg64]
        have st := pairsS_step htr g
        unfold both at st
        cases c : (bitOn tr.1 g && bitOn tr.2.1 g) with
        | true =>
          rw [c, if_pos rfl] at st
          refine iteT ?_
          walk_at "x"
          rw [← st]
          exact ⟨⟨_, _, _, rfl⟩, rfl⟩
        | false =>
          rw [c, if_neg Bool.false_ne_true, Int.add_zero] at st
          refine iteF ?_
          rw [← st]
          exact ⟨⟨_, _, _, rfl⟩, rfl⟩
      · rintro σ' H' ⟨⟨v3, v4, v5, rfl⟩, rfl⟩
        rw [List.length_map, hr2.len, List.take_length]
        walk_at "x"
        rw [← hf g hg]
        exact k _ (Same.refl _)

/-! ### Rule_earn -/
def sp_Rule_earn (A : Ads) (K : PySem.W.Frag) : Sp := fun vs H Q E => ∃ (a : Addr) (m : Nat) (f : Nat → Int) (v : V), vs = [.ref a, v] ∧ RuleAt A K H a m f ∧ m ≤ 6 ∧ Thing H v ∧ (∀ g : Nat, v = .int (g : Int) → g < 2 ^ m → RetV (.int (f g)) H Q) ∧ (¬ inR v 0 (((2 ^ m : Nat) : Int) - 1) → ∀ H', Same H H' → E (.ref A.NoGroup) none H')
theorem u_earn {K : PySem.W.Frag} {H : Hp} {Q : VK} {E : XK} {a : Addr} {m g : Nat} {f : Nat → Int} (R : RuleAt A K H a m f) (hm : m ≤ 6) (hg : g < 2 ^ m) (q : RetV (.int (f g)) H Q) : sp_Rule_earn A K [.ref a, .int (g : Int)] H Q E :=
  ⟨a, m, f, _, rfl, R, hm, .int _, fun g' e _ => by
    have : g = g' := by have := V.int.inj e; omega
    exact this ▸ q, fun h => absurd ⟨_, rfl, by omega, by omega⟩ h⟩
theorem ok_Rule_earn (T : Txt K mg A) : FnOk P w K mg base (L2.CX P w) 5 A.a_Rule_earn A.d_Rule_earn ["self", "group"] (sp_Rule_earn A K) := by
  refine T.F_Rule_earn.okX sc_Rule_earn (fun vs H Q E h => ?_) (fun cdv A0 outer s H vs Q E hr h => ?_)
  · obtain ⟨a, m, f, v, rfl, _⟩ := h; rfl
  · obtain ⟨a, m, f, v, rfl, R, hm, hT, k, kE⟩ := h
    obtain ⟨C, dx, fs, i, c, n⟩ := R.ins T
    refine ⟨_, (pss_cons (ps_expr (pe_call (ok_look_group T) (hr.mono (by decide)) (by rfl) T.g_look_group T.F_look_group.kp T.b_look_group .nil (passes_call (takes_of rfl rfl rfl rfl) (fun _ _ _ _ h => h)) (pa_cons (pv 1) (pa_cons pe_int (pa_cons (pe_call (ok_whole_of T) (hr.mono (by decide)) (by rfl) T.g_whole_of T.F_whole_of.kp T.b_whole_of .nil (passes_call (takes_of rfl rfl rfl rfl) (fun _ _ _ _ h => h)) (pa_cons (pe_fldK (K := K) rfl (pv 0) rfl) pa_nil)) pa_nil)))))
      (pss_one (ps_ret (pe_or2 (pe_meth (pv 0) T.cl_Rule T.m_Rule_reckoned (ok_Rule_reckoned T) (hr.mono (by decide)) T.b_Rule_reckoned .nil (passes_call (takes_of rfl rfl rfl rfl) (fun _ _ _ _ h => h)) (pa_cons (pv 1) pa_nil)) (pe_or2 (pe_meth (pv 0) T.cl_Own T.m_Own_reckoned (ok_Own_reckoned T) (hr.mono (by decide)) T.b_Own_reckoned .nil (passes_call (takes_of rfl rfl rfl rfl) (fun _ _ _ _ h => h)) (pa_cons (pv 1) pa_nil)) (pe_or2 (pe_meth (pv 0) T.cl_Pairs T.m_Pairs_reckoned (ok_Pairs_reckoned T) (hr.mono (by decide)) T.b_Pairs_reckoned .nil (passes_call (takes_of rfl rfl rfl rfl) (fun _ _ _ _ h => h)) (pa_cons (pv 1) pa_nil)) (pe_or2 (pe_meth (pv 0) T.cl_Votes T.m_Votes_reckoned (ok_Votes_reckoned T) (hr.mono (by decide)) T.b_Votes_reckoned .nil (passes_call (takes_of rfl rfl rfl rfl) (fun _ _ _ _ h => h)) (pa_cons (pv 1) pa_nil)) (pe_meth (pv 0) T.cl_Plain T.m_Plain_reckoned (ok_Plain_reckoned T) (hr.mono (by decide)) T.b_Plain_reckoned .nil (passes_call (takes_of rfl rfl rfl rfl) (fun _ _ _ _ h => h)) (pa_cons (pv 1) pa_nil))))))))), ?_⟩
    walk_at "x"
    refine ⟨a, C, dx, fs, _, rfl, i.e, c, n, i.many, ?_⟩
    walk_at "x"
    refine ⟨m, rfl, by omega, fun H1 s1 => ?_⟩
    walk_at "x"
    refine ⟨v, 0, _, rfl, hT.same s1, fun hin H2 s2 => ?_, fun hn H2 s2 => kE hn H2 (s1.trans s2)⟩
    obtain ⟨z, rfl, h0, h1⟩ := hin
    obtain ⟨g, rfl⟩ := Int.eq_ofNat_of_zero_le h0
    have s12 := s1.trans s2
    have hg : g < 2 ^ m := by omega
    have fin : ∀ H3, Same H2 H3 → Q (.int (f g)) H3 := fun H3 s3 => k g rfl hg H3 (s12.trans s3)
    walk_at "x"
    have R2 := R.same s12
    cases R2 with
    | kRule R =>
      obtain ⟨dx, fs, i⟩ := R.ins
      exact .inl (⟨_, rfl, a, dx, fs, rfl, i.e, i.c2, _, rfl, a, m, g, f, rfl, R, hg, hm, fin⟩)
    | kOwn R =>
      obtain ⟨dx, fs, i⟩ := R.ins
      exact .inr (.inl (⟨_, rfl, a, dx, fs, rfl, i.e, i.c2, _, rfl, a, m, g, f, rfl, R, hg, hm, fin⟩))
    | kPairs R =>
      obtain ⟨dx, fs, i⟩ := R.ins
      exact .inr (.inr (.inl (⟨_, rfl, a, dx, fs, rfl, i.e, i.c2, _, rfl, a, m, g, f, rfl, R, hg, hm, fin⟩)))
    | kVotes R =>
      obtain ⟨dx, fs, i⟩ := R.ins
      exact .inr (.inr (.inr (.inl (⟨_, rfl, a, dx, fs, rfl, i.e, i.c2, _, rfl, a, m, g, f, rfl, R, hg, hm, fin⟩))))
    | kPlain R =>
      obtain ⟨dx, fs, i⟩ := R.ins
      exact .inr (.inr (.inr (.inr (⟨_, rfl, a, dx, fs, rfl, i.e, i.c2, _, rfl, a, m, g, f, rfl, R, hg, hm, fin⟩))))

/-! ### Company_earn -/
def sp_Company_earn (A : Ads) (K : PySem.W.Frag) : Sp := fun vs H Q E => ∃ (a : Addr) (m : Nat) (f : Nat → Int) (v : V), vs = [.ref a, v] ∧ CompAt A K H a m f ∧ Thing H v ∧ (∀ g : Nat, v = .int (g : Int) → g < 2 ^ m → RetV (.int (f g)) H Q) ∧ (¬ inR v 0 (((2 ^ m : Nat) : Int) - 1) → ∀ H', Same H H' → E (.ref A.NoGroup) none H')
theorem u_cearn {K : PySem.W.Frag} {H : Hp} {Q : VK} {E : XK} {a : Addr} {m g : Nat} {f : Nat → Int} (R : CompAt A K H a m f) (hg : g < 2 ^ m) (q : RetV (.int (f g)) H Q) : sp_Company_earn A K [.ref a, .int (g : Int)] H Q E :=
  ⟨a, m, f, _, rfl, R, .int _, fun g' e _ => by
    have : g = g' := by have := V.int.inj e; omega
    exact this ▸ q, fun h => absurd ⟨_, rfl, by omega, by omega⟩ h⟩
theorem ok_Company_earn (T : Txt K mg A) : FnOk P w K mg base (L2.CX P w) 6 A.a_Company_earn A.d_Company_earn ["self", "group"] (sp_Company_earn A K) := by
  refine T.F_Company_earn.okX sc_Company_earn (fun vs H Q E h => ?_) (fun cdv A0 outer s H vs Q E hr h => ?_)
  · obtain ⟨a, m, f, v, rfl, _⟩ := h; rfl
  · obtain ⟨a, m, f, v, rfl, R, hT, k, kE⟩ := h
    cases R with
    | @mk dx l rs fs e h hrs h1 h6 hl hf =>
    refine ⟨_, (pss_cons (ps_expr (pe_call (ok_look_group T) (hr.mono (by decide)) (by rfl) T.g_look_group T.F_look_group.kp T.b_look_group .nil (passes_call (takes_of rfl rfl rfl rfl) (fun _ _ _ _ h => h)) (pa_cons (pv 1) (pa_cons pe_int (pa_cons (pe_call (ok_whole_of T) (hr.mono (by decide)) (by rfl) T.g_whole_of T.F_whole_of.kp T.b_whole_of .nil (passes_call (takes_of rfl rfl rfl rfl) (fun _ _ _ _ h => h)) (pa_cons (pe_fldK (K := K) rfl (pv 0) rfl) pa_nil)) pa_nil)))))
      (pss_cons (ps_set (i := 2) sc_Company_earn.nd rfl (.inl rfl) pe_int)
      (pss_cons (ps_for (passes_of rfl) rfl (pi_listK (K := K) rfl (pe_fldK (K := K) rfl (pv 0) rfl)) (pg_name (i := 3) sc_Company_earn.nd rfl (.inl rfl)) (pss_one (ps_aug (i := 2) sc_Company_earn.nd rfl (.inl rfl) (pe_or2 (pe_meth (pv 3) T.cl_Rule T.m_Rule_earn (ok_Rule_earn T) (hr.mono (by decide)) T.b_Rule_earn .nil (passes_call (takes_of rfl rfl rfl rfl) (fun _ _ _ _ h => h)) (pa_cons (pv 1) pa_nil)) (pe_or2 (pe_meth (pv 3) T.cl_Own T.m_Own_earn (ok_Rule_earn T) (hr.mono (by decide)) T.b_Rule_earn .nil (passes_call (takes_of rfl rfl rfl rfl) (fun _ _ _ _ h => h)) (pa_cons (pv 1) pa_nil)) (pe_or2 (pe_meth (pv 3) T.cl_Pairs T.m_Pairs_earn (ok_Rule_earn T) (hr.mono (by decide)) T.b_Rule_earn .nil (passes_call (takes_of rfl rfl rfl rfl) (fun _ _ _ _ h => h)) (pa_cons (pv 1) pa_nil)) (pe_or2 (pe_meth (pv 3) T.cl_Votes T.m_Votes_earn (ok_Rule_earn T) (hr.mono (by decide)) T.b_Rule_earn .nil (passes_call (takes_of rfl rfl rfl rfl) (fun _ _ _ _ h => h)) (pa_cons (pv 1) pa_nil)) (pe_meth (pv 3) T.cl_Plain T.m_Plain_earn (ok_Rule_earn T) (hr.mono (by decide)) T.b_Rule_earn .nil (passes_call (takes_of rfl rfl rfl rfl) (fun _ _ _ _ h => h)) (pa_cons (pv 1) pa_nil)))))) ip_add)))
      (pss_one (ps_ret (pv 2)))))), ?_⟩
    walk_at "x"
    refine ⟨a, A.Company, dx, _, _, rfl, e, T.cl_Company, T.n_Company_many, rfl, ?_⟩
    walk_at "x"
    refine ⟨m, rfl, by omega, fun H1 s1 => ?_⟩
    walk_at "x"
    refine ⟨v, 0, _, rfl, hT.same s1, fun hin H2 s2 => ?_, fun hn H2 s2 => kE hn H2 (s1.trans s2)⟩
    obtain ⟨z, rfl, h0, hz1⟩ := hin
    obtain ⟨g, rfl⟩ := Int.eq_ofNat_of_zero_le h0
    have s12 := s1.trans s2
    have hg : g < 2 ^ m := by omega
    walk_at "x"
    refine ⟨a, A.Company, dx, _, _, rfl, s12 _ _ e, T.cl_Company, T.n_Company_rules, rfl, ?_⟩
    refine ⟨l, rfl, ⟨_, s12.seq h⟩, for_list (xs := rs.map V.ref) (fun i σ' H' => (∃ v, σ' = [some (.ref a), some (.int (g : Int)), some (.int (sumF (fs.take i) g)), v]) ∧ Same H H') ⟨⟨_, rfl⟩, s12⟩ (fun i σ' H' _ h' => h'.2.seq h) ?_ ?_⟩
    · rintro i x σ' H' hx ⟨⟨v, rfl⟩, s3⟩
      obtain ⟨r, hr, rfl⟩ := map_at hx
      obtain ⟨f1, hf1, R⟩ := hrs.at hr
      have R2 := R.same s3
      have st := sumF_step hf1 g
      walk_at "x"
      have fin : ∀ H3, Same H' H3 → (∃ v, [some (V.ref a), some (V.int (g : Int)), some (V.int (sumF (fs.take i) g + f1 g)), some (V.ref r)] = [some (V.ref a), some (V.int (g : Int)), some (V.int (sumF (fs.take (i + 1)) g)), v]) ∧ Same H H3 := fun H3 s4 => ⟨⟨_, by rw [st]⟩, s3.trans s4⟩
      have R3 := R2
      cases R2 with
      | kRule h =>
        obtain ⟨dx, fl, i⟩ := h.ins
        exact .inl ((x_meth (x_var rfl ⟨r, dx, fl, rfl, i.e, i.c1, x_cons (x_var rfl (x_nil (u_earn R3 h6 hg fun H3 s4 => ⟨_, _, rfl, rfl, fin H3 s4⟩)))⟩)))
      | kOwn h =>
        obtain ⟨dx, fl, i⟩ := h.ins
        exact .inr (.inl ((x_meth (x_var rfl ⟨r, dx, fl, rfl, i.e, i.c1, x_cons (x_var rfl (x_nil (u_earn R3 h6 hg fun H3 s4 => ⟨_, _, rfl, rfl, fin H3 s4⟩)))⟩))))
      | kPairs h =>
        obtain ⟨dx, fl, i⟩ := h.ins
        exact .inr (.inr (.inl ((x_meth (x_var rfl ⟨r, dx, fl, rfl, i.e, i.c1, x_cons (x_var rfl (x_nil (u_earn R3 h6 hg fun H3 s4 => ⟨_, _, rfl, rfl, fin H3 s4⟩)))⟩)))))
      | kVotes h =>
        obtain ⟨dx, fl, i⟩ := h.ins
        exact .inr (.inr (.inr (.inl ((x_meth (x_var rfl ⟨r, dx, fl, rfl, i.e, i.c1, x_cons (x_var rfl (x_nil (u_earn R3 h6 hg fun H3 s4 => ⟨_, _, rfl, rfl, fin H3 s4⟩)))⟩))))))
      | kPlain h =>
        obtain ⟨dx, fl, i⟩ := h.ins
        exact .inr (.inr (.inr (.inr ((x_meth (x_var rfl ⟨r, dx, fl, rfl, i.e, i.c1, x_cons (x_var rfl (x_nil (u_earn R3 h6 hg fun H3 s4 => ⟨_, _, rfl, rfl, fin H3 s4⟩)))⟩))))))
    · rintro σ' H' ⟨⟨v, rfl⟩, s3⟩
      rw [List.length_map, hrs.len, List.take_length]
      walk_at "x"
      rw [← hf g hg]
      exact k g rfl hg H' s3

/-! ### Company_table -/
def sp_Company_table (A : Ads) (K : PySem.W.Frag) : Sp := fun vs H Q _ => ∃ (a : Addr) (m : Nat) (f : Nat → Int), vs = [.ref a] ∧ CompAt A K H a m f ∧ RetL (((List.range (2 ^ m)).map f).map V.int) H Q
theorem ok_Company_table (T : Txt K mg A) : FnOk P w K mg base (L2.CX P w) 7 A.a_Company_table A.d_Company_table ["self"] (sp_Company_table A K) := by
  refine T.F_Company_table.okX sc_Company_table (fun vs H Q E h => ?_) (fun cdv A0 outer s H vs Q E hr h => ?_)
  · obtain ⟨a, m, f, rfl, _⟩ := h; rfl
  · obtain ⟨a, m, f, rfl, R, k⟩ := h
    have R0 := R
    cases R with
    | @mk dx l rs fs e h hrs h1 h6 hl hf =>
    have hp := pow6 h6
    have hp1 := Nat.two_pow_pos m
    refine ⟨_, (pss_one (ps_ret (pe_lc (own := [("group", 1)]) rfl sc_Company_table.nd (pi_range1 (by rfl) T.z_range (pa_cons (pe_op op_shlX pe_int (pe_fldK (K := K) rfl (pv 0) rfl)) pa_nil)) (blkOk_by (own := [("group", 1)]) (N := N_Company_table) (sc := defScope s_Company_table) (by decide +kernel)) (fun _ _ _ _ _ => (pg_name (i := 1) sc_Company_table.nd rfl (.inl rfl))) (fun _ _ _ _ _ => pts_nil) (fun _ _ _ _ _ => (pe_meth (pv 0) T.cl_Company T.m_Company_earn (ok_Company_earn T) (hr.mono (by decide)) T.b_Company_earn .nil passL (pa_cons (pv 1) pa_nil)))))), ?_⟩
    walk_at "x"
    refine ⟨a, A.Company, dx, _, _, rfl, e, T.cl_Company, T.n_Company_many, rfl, ?_⟩
    walk_at "x"
    refine x_shl ⟨by omega, by omega, by decide⟩ ?_
    rw [shl_nat]
    walk_at "x"
    refine ⟨_, rfl, by omega, by omega, cp_r0 (n := ((2 ^ m : Nat) : Int)) (fun i => ((List.range i).map f).map V.int) (Own.start (H := H)) rfl ?_ ?_⟩
    · intro D i H' hi p
      walk_at "x"
      refine ⟨rfl, ?_⟩
      walk_at "x"
      refine iteT ?_
      walk_at "x"
      refine ⟨a, dx, _, rfl, Own.ex p _ _ e, rfl, ?_⟩
      walk_at "x"
      refine u_cearn (R0.same (Own.ex p)) (by omega) fun H3 s3 => ?_
      exact cp_fin (Own.ext p s3) (by rw [range_map, List.map_append] <;> rfl) (by rw [List.length_map, List.length_map, List.length_range]; omega)
    · intro D H' w
      rw [Int.toNat_natCast] at w
      exact k.go w

/-! ### look -/
def sp_look (A : Ads) : Sp := fun vs H Q E => ∃ (a : Addr) (xs : List V), vs = [.ref a] ∧ Rd H a (.lst xs) ∧ (∀ v ∈ xs, Thing H v) ∧
  (∀ n, lookM xs = some n → RetV (.int n) H Q) ∧ (lookM xs = none → ∀ H', Same H H' → E (.ref A.NoTable) none H')
theorem ok_look (T : Txt K mg A) : FnOk P w K mg base (L2.CX P w) 2 A.a_look A.d_look ["table"] (sp_look A) := by
  refine T.F_look.okX sc_look (fun vs H Q E h => ?_) (fun cdv A0 outer s H vs Q E hr h => ?_)
  · obtain ⟨a, xs, rfl, _⟩ := h; rfl
  · obtain ⟨a, xs, rfl, hR, hT, k, kE⟩ := h
    have hS : SqL K H a xs := .inl hR
    refine ⟨_, (pss_cons (ps_set (i := 1) sc_look.nd rfl (.inl rfl) pe_int)
      (pss_cons (ps_while (passes_of rfl) (PW.pt (pw_and (pt_cmpR op_ltX (pv 1) (pe_glob (v := .int 6) (by rfl) T.c_MOST ⟨_, rfl⟩) (nomark _)) (pw_and1 (pt_cmpR op_ltX (pe_op op_shlX pe_int (pv 1)) (pe_callB (call_lenK (K := K) rfl) (by rfl) T.z_len (by decide +kernel) (pa_cons (pv 0) pa_nil)) (nomark _))))) (pss_one (ps_set (i := 1) sc_look.nd rfl (.inl rfl) (pe_op op_addX (pv 1) pe_int))))
      (pss_cons (ps_if (pt_cmpR (op_neK (K := K) rfl hr.units) (pe_callB (call_lenK (K := K) rfl) (by rfl) T.z_len (by decide +kernel) (pa_cons (pv 0) pa_nil)) (pe_op op_shlX pe_int (pv 1)) (nomark _)) (pss_one (ps_raise rfl (takes_of rfl rfl rfl rfl) (pmk_own PySem.F.excBase_ValueError T.x_NoTable T.g_NoTable T.k_NoTable (raises_own T.e_NoTable T.t_NoTable) (by rfl)))) pss_nil)
      (pss_cons (ps_for (passes_of rfl) rfl (pi_listK (K := K) rfl (pv 0)) (pg_name (i := 2) sc_look.nd rfl (.inl rfl)) (pss_one (ps_if (pt_not (pt_val (pe_call (ok_is_whole T) (hr.mono (by decide)) (by rfl) T.g_is_whole T.F_is_whole.kp T.b_is_whole .nil (passes_call (takes_of rfl rfl rfl rfl) (fun _ _ _ _ h => h)) (pa_cons (pv 2) pa_nil)))) (pss_one (ps_raise rfl (takes_of rfl rfl rfl rfl) (pmk_own PySem.F.excBase_ValueError T.x_NoTable T.g_NoTable T.k_NoTable (raises_own T.e_NoTable T.t_NoTable) (by rfl)))) pss_nil)))
      (pss_cons (ps_if (pt_cmpR (op_neK (K := K) rfl hr.units) (pe_ix (ix_seqK (K := K) rfl) (pv 0) pe_int (fun _ _ => rfl)) pe_int (nomark _)) (pss_one (ps_raise rfl (takes_of rfl rfl rfl rfl) (pmk_own PySem.F.excBase_ValueError T.x_NoTable T.g_NoTable T.k_NoTable (raises_own T.e_NoTable T.t_NoTable) (by rfl)))) pss_nil)
      (pss_one (ps_ret (pv 1)))))))), ?_⟩
    walk_at "x"
    refine x_while (fun m σ' H' => ∃ k : Nat, σ' = [some (.ref a), some (.int k), none] ∧ H' = H ∧ m = 6 - k ∧ 1 ≤ k ∧ k ≤ 6 ∧ (k = 1 ∨ 2 ^ (k - 1) < xs.length)) 5 ⟨1, rfl, rfl, rfl, by decide, by decide, .inl rfl⟩ ?_
    rintro m σ' H' ⟨n, rfl, rfl, rfl, h1, h6, hlo⟩
    have out : (n = 6 ∨ xs.length ≤ 2 ^ n) → manyOf xs.length = n := fun h => manyOf_is h1 h6 hlo h
    walk_at "x"
    -- what stands behind the loop
    have fin : manyOf xs.length = n → tSeq
        (tIfS (tTest (tOp (rNeX K) (tCB (Sp.rLen K) (tCons (tVar 0) tNil)) (tOp rShl (tC (V.int 1)) (tVar 1)))) (fun x σ H => E (.ref A.NoTable) none H) tNext) (tSeq
        (tFor (iList K (tVar 0)) (gName 2) (tIfS (tNot (tB (tCall sp_is_whole [] E (tCons (tVar 2) tNil)))) (fun x σ H => E (.ref A.NoTable) none H) tNext)) (tSeq
        (tIfS (tTest (tOp (rNeX K) (tOp (rIx K) (tVar 0) (tC (V.int 0))) (tC (V.int 0)))) (fun x σ H => E (.ref A.NoTable) none H) tNext) (tRet (tVar 1))))
        { nx := fun _ H' => Q .non H', rt := Q } [some (.ref a), some (.int n), none] H' := fun en => by
      have bad' : ∀ H2, Same H' H2 → ¬ (xs.length = 2 ^ manyOf xs.length ∧ xs.all isI = true ∧ xs[0]? = some (.int 0)) → E (.ref A.NoTable) none H2 := fun H2 s2 z => kE (by unfold lookM; rw [if_neg z]) H2 s2
      walk_at "x"
      refine x_lenL hS ?_
      walk_at "x"
      refine x_shl ⟨by omega, by omega, by decide⟩ ?_
      walk_at "x"
      have e1 : (1 : Int) * 2 ^ (n : Int).toNat = ((2 ^ n : Nat) : Int) := by rw [Int.one_mul, Int.toNat_natCast, Int.natCast_pow] <;> rfl
      rw [e1]
      by_cases c1 : xs.length = 2 ^ n
      · rw [decide_eq_true (show (xs.length : Int) = ((2 ^ n : Nat) : Int) by omega)]
        refine iteF ?_
        walk_at "x"
        refine ⟨_, rfl, ⟨_, hS⟩, for_list (xs := xs) (fun i σ' H2 => (∃ v, σ' = [some (.ref a), some (.int n), v]) ∧ Same H' H2 ∧ (xs.take i).all isI = true) ⟨⟨_, rfl⟩, Same.refl _, rfl⟩ (fun i σ' H2 _ p => p.2.1.seq hS) ?_ ?_⟩
        · rintro i x σ' H2 hx ⟨⟨v, rfl⟩, s2, p⟩
          have hxm := List.mem_of_getElem? hx
          walk_at "x"
          refine ⟨x, rfl, (hT x hxm).same s2, fun H3 s3 => ?_⟩
          walk_at "x"
          cases hI : isI x with
          | false =>
            refine iteT (bad' H3 (s2.trans s3) fun z => ?_)
            have := List.all_eq_true.mp z.2.1 x hxm
            rw [hI] at this; cases this
          | true =>
            refine iteF ?_
            walk_at "x"
            refine ⟨⟨_, rfl⟩, s2.trans s3, ?_⟩
            rw [List.take_add_one, hx, List.all_append, p]
            simp [hI]
        · rintro σ' H2 ⟨⟨v, rfl⟩, s2, p⟩
          rw [List.take_length] at p
          walk_at "x"
          have h0 : 0 < xs.length := by rw [c1]; exact Nat.two_pow_pos n
          have hI := List.all_eq_true.mp p xs[0] (List.getElem_mem h0)
          obtain ⟨z, hz⟩ : ∃ z, xs[0] = .int z := by
            cases e : xs[0] with
            | int z => exact ⟨z, rfl⟩
            | _ => rw [e] at hI; cases hI
          have h0' : xs[0]? = some (.int z) := by rw [List.getElem?_eq_getElem h0, hz]
          refine x_ixXL (s2.seq hS) (atI_nat (j := 0) h0') ?_
          walk_at "x"
          by_cases ez : z = 0
          · rw [decide_eq_true ez]
            refine iteF ?_
            walk_at "x"
            refine k n (by unfold lookM; rw [en, if_pos ⟨c1, p, by rw [h0', ez]⟩]) _ s2
          · rw [decide_eq_false ez]
            refine iteT (bad' H2 s2 fun y => ez ?_)
            rw [h0'] at y
            exact V.int.inj (Option.some.inj y.2.2)
      · rw [decide_eq_false (show ¬ (xs.length : Int) = ((2 ^ n : Nat) : Int) by omega)]
        exact iteT (bad' H' (Same.refl _) fun z => c1 (by rw [en] at z; exact z.1))
    by_cases hk : (n : Int) < 6
    · rw [decide_eq_true hk]
      refine iteT ?_
      walk_at "x"
      refine x_shl ⟨by omega, by omega, by decide⟩ ?_
      walk_at "x"
      refine x_lenL hS ?_
      walk_at "x"
      have e1 : (1 : Int) * 2 ^ (n : Int).toNat = ((2 ^ n : Nat) : Int) := by rw [Int.one_mul, Int.toNat_natCast, Int.natCast_pow] <;> rfl
      rw [e1]
      refine ite2 (fun hl => ?_) (fun hl => ?_)
      · have hl := of_decide_eq_true hl
        refine x_N ?_
        walk_at "x"
        exact ⟨6 - (n + 1), by omega, n + 1, by rw [Int.natCast_add] <;> rfl, rfl, rfl, by omega, by omega, .inr (by rw [Nat.add_sub_cancel]; omega)⟩
      · exact fin (out (.inr (by have := mt decide_eq_true hl; omega)))
    · rw [decide_eq_false hk]
      exact iteF (fin (out (.inl (by omega))))

/-! ### look_numbers -/
def sp_look_numbers (A : Ads) (K : PySem.W.Frag) : Sp := fun vs H Q E => ∃ (a : Addr) (xs : List V), vs = [.ref a] ∧ (SqL K H a xs ∨ SqT K H a xs) ∧ (∀ y ∈ xs, Thing H y) ∧ (xs.all isI = true → RetV .non H Q) ∧ (xs.all isI = false → ∀ H', Same H H' → E (.ref A.NoRule) none H')
theorem ok_look_numbers (T : Txt K mg A) : FnOk P w K mg base (L2.CX P w) 2 A.a_look_numbers A.d_look_numbers ["numbers"] (sp_look_numbers A K) := by
  refine T.F_look_numbers.okX sc_look_numbers (fun vs H Q E h => ?_) (fun cdv A0 outer s H vs Q E hr h => ?_)
  · obtain ⟨a, xs, rfl, _⟩ := h; rfl
  · obtain ⟨a, xs, rfl, hS, hT, k, kE⟩ := h
    refine ⟨_, (pss_one (ps_for (passes_of rfl) rfl (pi_or2 (pi_listK (K := K) rfl (pv 0)) (pi_tupK (K := K) rfl (pv 0))) (pg_name (i := 1) sc_look_numbers.nd rfl (.inl rfl)) (pss_one (ps_if (pt_not (pt_val (pe_call (ok_is_whole T) (hr.mono (by decide)) (by rfl) T.g_is_whole T.F_is_whole.kp T.b_is_whole .nil (passes_call (takes_of rfl rfl rfl rfl) (fun _ _ _ _ h => h)) (pa_cons (pv 1) pa_nil)))) (pss_one (ps_raise rfl (takes_of rfl rfl rfl rfl) (pmk_own PySem.F.excBase_ValueError T.x_NoRule T.g_NoRule T.k_NoRule (raises_own T.e_NoRule T.t_NoRule) (by rfl)))) pss_nil)))), ?_⟩
    have turn : ∀ (i : Nat) (x : V) (σ' : L2.St) (H' : Hp), xs[i]? = some x → ((∃ v, σ' = [some (.ref a), v]) ∧ Same H H' ∧ (xs.take i).all isI = true) → gName 1 x σ' H' fun σ2 H2 => tIfS (tNot (tB (tCall sp_is_whole [] E (tCons (tVar 1) tNil)))) (fun _ _ H => E (.ref A.NoRule) none H) tNext
        { nx := fun σ' H' => (∃ v, σ' = [some (.ref a), v]) ∧ Same H H' ∧ (xs.take (i + 1)).all isI = true, rt := Q, ct := fun σ' H' => (∃ v, σ' = [some (.ref a), v]) ∧ Same H H' ∧ (xs.take (i + 1)).all isI = true, bk := fun _ H' => Q .non H' } σ2 H2 := by
      rintro i x σ' H' hx ⟨⟨v, rfl⟩, s1, p⟩
      walk_at "x"
      refine ⟨x, rfl, (hT x (List.mem_of_getElem? hx)).same s1, fun H2 s2 => ?_⟩
      walk_at "x"
      cases hI : isI x with
      | false =>
        refine iteT (kE ?_ H2 (s1.trans s2))
        rw [Bool.eq_false_iff]
        intro z
        have := List.all_eq_true.mp z x (List.mem_of_getElem? hx)
        rw [hI] at this; cases this
      | true =>
        refine iteF ?_
        refine ⟨⟨_, rfl⟩, s1.trans s2, ?_⟩
        rw [List.take_add_one, hx, List.all_append, p]
        simp [hI]
    have done : ∀ (σ' : L2.St) (H' : Hp), ((∃ v, σ' = [some (.ref a), v]) ∧ Same H H' ∧ (xs.take xs.length).all isI = true) → Q .non H' := by
      rintro σ' H' ⟨_, s1, p⟩
      rw [List.take_length] at p
      exact k p _ s1
    refine x_for ?_
    rcases hS with hS | hS
    · refine .inl ⟨.ref a, rfl, a, rfl, ⟨_, hS⟩, for_list (xs := xs) (fun i σ' H' => (∃ v, σ' = [some (.ref a), v]) ∧ Same H H' ∧ (xs.take i).all isI = true) ⟨⟨_, rfl⟩, Same.refl _, rfl⟩ (fun i σ' H' _ h => h.2.1.seq hS) turn done⟩
    · refine .inr ⟨.ref a, rfl, a, rfl, ⟨_, hS⟩, for_tup (xs := xs) (fun i σ' H' => (∃ v, σ' = [some (.ref a), v]) ∧ Same H H' ∧ (xs.take i).all isI = true) ⟨⟨_, rfl⟩, Same.refl _, rfl⟩ (fun i σ' H' _ h => same_sqT h.2.1 hS) turn done⟩

/-! ### one_pair -/
def sp_one_pair (A : Ads) (K : PySem.W.Frag) : Sp := fun vs H Q E => ∃ (m : Nat) (t : Addr) (ys : List V), vs = [.int (m : Int), .ref t] ∧ Rd H t (.tup ys) ∧ (∀ y ∈ ys, Thing H y) ∧
  (∀ f : Tr, ys = trV f → PairOk m f → RetT [.int (f.1 : Int), .int (f.2.1 : Int)] H Q) ∧ ((∀ f : Tr, ys = trV f → ¬ PairOk m f) → ∀ H', Same H H' → E (.ref A.NoRule) none H')
theorem ok_one_pair (T : Txt K mg A) : FnOk P w K mg base (L2.CX P w) 3 A.a_one_pair A.d_one_pair ["many", "pair"] (sp_one_pair A K) := by
  refine T.F_one_pair.okX sc_one_pair (fun vs H Q E h => ?_) (fun cdv A0 outer s H vs Q E hr h => ?_)
  · obtain ⟨m, t, ys, rfl, _⟩ := h; rfl
  · obtain ⟨m, t, ys, rfl, hR, hT, k, kE⟩ := h
    refine ⟨_, (pss_cons (ps_if (pt_cmpR (op_neK (K := K) rfl hr.units) (pe_callB (call_lenK (K := K) rfl) (by rfl) T.z_len (by decide +kernel) (pa_cons (pv 1) pa_nil)) pe_int (nomark _)) (pss_one (ps_raise rfl (takes_of rfl rfl rfl rfl) (pmk_own PySem.F.excBase_ValueError T.x_NoRule T.g_NoRule T.k_NoRule (raises_own T.e_NoRule T.t_NoRule) (by rfl)))) pss_nil)
      (pss_cons (ps_expr (pe_call (ok_look_numbers T) (hr.mono (by decide)) (by rfl) T.g_look_numbers T.F_look_numbers.kp T.b_look_numbers .nil (passes_call (takes_of rfl rfl rfl rfl) (fun _ _ _ _ h => h)) (pa_cons (pv 1) pa_nil)))
      (pss_cons (ps_if (PW.pt (pw_or (pt_cmpR op_ltX (pe_ix (ix_seqK (K := K) rfl) (pv 1) pe_int (fun _ _ => rfl)) pe_int (nomark _)) (pw_or (pt_cmpR op_geX (pe_ix (ix_seqK (K := K) rfl) (pv 1) pe_int (fun _ _ => rfl)) (pe_ix (ix_seqK (K := K) rfl) (pv 1) pe_int (fun _ _ => rfl)) (nomark _)) (pw_or1 (pt_cmpR op_geX (pe_ix (ix_seqK (K := K) rfl) (pv 1) pe_int (fun _ _ => rfl)) (pv 0) (nomark _)))))) (pss_one (ps_raise rfl (takes_of rfl rfl rfl rfl) (pmk_own PySem.F.excBase_ValueError T.x_NoRule T.g_NoRule T.k_NoRule (raises_own T.e_NoRule T.t_NoRule) (by rfl)))) pss_nil)
      (pss_one (ps_ret (pe_tup (pa_cons (pe_ix (ix_seqK (K := K) rfl) (pv 1) pe_int (fun _ _ => rfl)) (pa_cons (pe_ix (ix_seqK (K := K) rfl) (pv 1) pe_int (fun _ _ => rfl)) pa_nil)))))))), ?_⟩
    walk_at "x"
    refine x_lenT (.inl hR) ?_
    walk_at "x"
    by_cases c3 : ys.length = 3
    case neg =>
      rw [decide_eq_false (by omega)]
      exact iteT (kE (fun f e => absurd (by rw [e] <;> rfl) c3) H (Same.refl _))
    rw [decide_eq_true (by omega)]
    refine iteF ?_
    walk_at "x"
    refine ⟨t, ys, rfl, .inr (.inl hR), hT, fun hall H1 s1 => ?_, fun hn H1 s1 => kE (fun f e => by rw [e] at hn; cases hn) H1 s1⟩
    obtain ⟨a, b, c, rfl⟩ : ∃ a b c : Int, ys = [.int a, .int b, .int c] := by
      obtain ⟨ns, rfl⟩ := all_int hall
      rw [List.length_map] at c3
      match ns, c3 with
      | [a, b, c], _ => exact ⟨a, b, c, rfl⟩
    have hR1 := rd_same s1 hR
    have bad : ¬ (0 ≤ a ∧ a < b ∧ b < (m : Int)) → ∀ H', Same H1 H' → E (.ref A.NoRule) none H' := fun hn H' s' => kE (fun f e p => hn ?_) H' (s1.trans s')
    case refine_1 =>
      obtain ⟨p1, p2⟩ := p
      have e1 := V.int.inj (List.cons.inj e).1
      have e2 := V.int.inj (List.cons.inj (List.cons.inj e).2).1
      omega
    walk_at "x"
    refine x_ixXT (.inl hR1) (v := .int a) rfl ?_
    walk_at "x"
    by_cases c1 : a < 0
    · rw [decide_eq_true c1]
      exact iteT (iteT (bad (by omega) _ (Same.refl _)))
    rw [decide_eq_false c1]
    refine iteF ?_
    walk_at "x"
    refine x_ixXT (.inl hR1) (v := .int a) rfl ?_
    walk_at "x"
    refine x_ixXT (.inl hR1) (v := .int b) rfl ?_
    walk_at "x"
    by_cases c2 : b ≤ a
    · rw [decide_eq_true c2]
      exact iteT (iteT (bad (by omega) _ (Same.refl _)))
    rw [decide_eq_false c2]
    refine iteF ?_
    walk_at "x"
    refine x_ixXT (.inl hR1) (v := .int b) rfl ?_
    walk_at "x"
    by_cases c4 : (m : Int) ≤ b
    · rw [decide_eq_true c4]
      exact iteT (bad (by omega) _ (Same.refl _))
    rw [decide_eq_false c4]
    refine iteF ?_
    obtain ⟨i, rfl⟩ := Int.eq_ofNat_of_zero_le (show 0 ≤ a by omega)
    obtain ⟨j, rfl⟩ := Int.eq_ofNat_of_zero_le (show 0 ≤ b by omega)
    walk_at "x"
    refine x_ixXT (.inl hR1) (v := .int (i : Int)) rfl ?_
    walk_at "x"
    refine x_ixXT (.inl hR1) (v := .int (j : Int)) rfl ?_
    walk_at "x"
    refine ⟨(by show 2 ≤ sizeLine; decide), fun p np => ?_⟩
    exact k (i, j, c) rfl ⟨by show i < j; omega, by show j < m; omega⟩ p _ (s1.free np) (s1.trans (same_upd np)) upd_same

/-! ### pairs_of -/
def sp_pairs_of (A : Ads) (K : PySem.W.Frag) : Sp := fun vs H Q E => ∃ (m : Nat) (a : Addr) (ts : List Addr) (yss : List (List V)), vs = [.int (m : Int), .ref a] ∧ SqL K H a (ts.map V.ref) ∧ ts.length = yss.length ∧ ts.length ≤ 1000 ∧ (∀ (i : Nat) (t : Addr) (ys : List V), ts[i]? = some t → yss[i]? = some ys → Rd H t (.tup ys) ∧ ∀ y ∈ ys, Thing H y) ∧
  (∀ fs : List Tr, yss = fs.map trV → pairsOk m fs → ∀ gs : List Tr, gs.Perm fs → SortedT gs → RetTr gs H Q) ∧ ((∀ fs : List Tr, yss = fs.map trV → ¬ pairsOk m fs) → ∀ H', Same H H' → E (.ref A.NoRule) none H')
theorem trV_inj {f g : Tr} (h : trV f = trV g) : f = g := by
  obtain ⟨a, b, c⟩ := f
  obtain ⟨d, e, z⟩ := g
  have e1 := V.int.inj (List.cons.inj h).1
  have e2 := V.int.inj (List.cons.inj (List.cons.inj h).2).1
  have e3 := V.int.inj (List.cons.inj (List.cons.inj (List.cons.inj h).2).2).1
  dsimp only at e1 e2 e3
  have : a = d := by omega
  have : b = e := by omega
  subst_vars; rfl
theorem map_trV_inj : ∀ {fs gs : List Tr}, fs.map trV = gs.map trV → fs = gs
  | [], [], _ => rfl
  | [], _ :: _, h => by cases h
  | _ :: _, [], h => by cases h
  | f :: fs, g :: gs, h => by rw [List.map_cons, List.map_cons] at h; rw [trV_inj (List.cons.inj h).1, map_trV_inj (List.cons.inj h).2]
/-- pairs found by their hands, in the order of a sorted list of hands -/
theorem perm_lift {fs : List Tr} (nd : (fs.map trK).Nodup) : ∀ {ps : List (Int × Int)}, ps.Perm (fs.map trP) → ∃ gs : List Tr, gs.Perm fs ∧ ps = gs.map trP := by
  intro ps hp
  have key : ∀ (ps qs : List (Int × Int)), ps.Perm qs → ∀ fs : List Tr, qs = fs.map trP → ∃ gs : List Tr, gs.Perm fs ∧ ps = gs.map trP := by
    intro ps qs h
    induction h with
    | nil => intro fs e; exact ⟨fs, List.Perm.refl _, e⟩
    | cons x h ih =>
      intro fs e
      cases fs with
      | nil => cases e
      | cons f fs =>
        rw [List.map_cons] at e
        obtain ⟨e1, e2⟩ := List.cons.inj e
        obtain ⟨gs, h1, h2⟩ := ih fs e2
        exact ⟨f :: gs, h1.cons f, by rw [List.map_cons, ← h2, e1]⟩
    | swap x y l =>
      intro fs e
      match fs, e with
      | [], e => cases e
      | [f], e => cases e
      | f :: g :: fs, e =>
        rw [List.map_cons, List.map_cons] at e
        obtain ⟨e1, e2⟩ := List.cons.inj e
        obtain ⟨e3, e4⟩ := List.cons.inj e2
        exact ⟨g :: f :: fs, List.Perm.swap f g fs, by rw [List.map_cons, List.map_cons, ← e1, ← e3, ← e4]⟩
    | trans h1 h2 i1 i2 =>
      intro fs e
      obtain ⟨gs, a1, a2⟩ := i2 fs e
      obtain ⟨hs, b1, b2⟩ := i1 gs a2
      exact ⟨hs, b1.trans a1, b2⟩
  exact key ps _ hp fs rfl
theorem paired_at {α β : Type} {R : α → β → Prop} : ∀ {xs : List α} {ys : List β}, Paired R xs ys → ∀ {i : Nat} {x : α}, xs[i]? = some x → ∃ y, ys[i]? = some y ∧ R x y
  | _, _, .nil, i, _, h => by rw [List.getElem?_nil] at h; cases h
  | _, _, .cons a _, 0, x, e => by cases e; exact ⟨_, rfl, a⟩
  | _, _, .cons _ r, i + 1, x, e => paired_at r (i := i) (by simpa using e)
theorem ok_pairs_of (T : Txt K mg A) : FnOk P w K mg base (L2.CX P w) 4 A.a_pairs_of A.d_pairs_of ["many", "pairs"] (sp_pairs_of A K) := by
  refine T.F_pairs_of.okX sc_pairs_of (fun vs H Q E h => ?_) (fun cdv A0 outer s H vs Q E hr h => ?_)
  · obtain ⟨m, a, ts, yss, rfl, _⟩ := h; rfl
  · obtain ⟨m, a, ts, yss, rfl, hS, hl, hz, hR, k, kE⟩ := h
    refine ⟨_, (pss_cons (ps_set (i := 2) sc_pairs_of.nd rfl (.inr rfl) pe_dnewT)
      (pss_cons (ps_for (passes_of rfl) rfl (pi_listK (K := K) rfl (pv 1)) (pg_name (i := 3) sc_pairs_of.nd rfl (.inl rfl)) (pss_cons (ps_set (i := 4) sc_pairs_of.nd rfl (.inl rfl) (pe_call (ok_one_pair T) (hr.mono (by decide)) (by rfl) T.g_one_pair T.F_one_pair.kp T.b_one_pair .nil (passes_call (takes_of rfl rfl rfl rfl) (fun _ _ _ _ h => h)) (pa_cons (pv 0) (pa_cons (pv 3) pa_nil))))
      (pss_cons (ps_if (pt_cmp (pc_din (hu_of hr) (pv 4) (pv 2))) (pss_one (ps_raise rfl (takes_of rfl rfl rfl rfl) (pmk_own PySem.F.excBase_ValueError T.x_NoRule T.g_NoRule T.k_NoRule (raises_own T.e_NoRule T.t_NoRule) (by rfl)))) pss_nil)
      (pss_one (ps_dput (hu_of hr) (pv 2) (pv 4) (pe_ix (ix_seqK (K := K) rfl) (pv 3) pe_int (fun _ _ => rfl)) rfl)))))
      (pss_one (ps_ret (pe_lc (own := [("both", 4)]) rfl sc_pairs_of.nd (pi_listK (K := K) rfl (pe_callB (call_sortedDT rfl) (by rfl) T.z_sorted (by decide +kernel) (pa_cons (pv 2) pa_nil))) (blkOk_by (own := [("both", 4)]) (N := N_pairs_of) (sc := defScope s_pairs_of) (by decide +kernel)) (fun _ _ _ _ _ => (pg_name (i := 4) sc_pairs_of.nd rfl (.inl rfl))) (fun _ _ _ _ _ => pts_nil) (fun _ _ _ _ _ => (pe_tup (pa_cons (pe_ix (ix_seqK (K := K) rfl) (pv 4) pe_int (fun _ _ => rfl)) (pa_cons (pe_ix (ix_seqK (K := K) rfl) (pv 4) pe_int (fun _ _ => rfl)) (pa_cons (pe_dget (hu_of hr) (pv 2) (pv 4) (fun _ _ => rfl)) pa_nil)))))))))), ?_⟩
    walk_at "x"
    intro d nd
    have w0 := (Own.start (H := H)).new (o := .dT []) nd
    walk_at "x"
    refine ⟨a, rfl, ⟨_, w0.seq hS⟩, for_list (xs := ts.map V.ref) (fun i σ' H' => ∃ fs : List Tr, yss.take i = fs.map trV ∧ pairsOk m fs ∧ (∃ v3 v4, σ' = [some (.int (m : Int)), some (.ref a), some (.ref d), v3, v4]) ∧ Own H [(d, .dT (fs.map entT2))] H') ⟨[], rfl, ⟨fun _ h => (nomatch h), List.nodup_nil⟩, ⟨_, _, rfl⟩, w0⟩ (fun i σ' H' _ h => ?_) ?_ ?_⟩
    · obtain ⟨_, _, _, _, w⟩ := h; exact w.seq hS
    · rintro i x σ' H' hx ⟨fs, hfs, ok, ⟨v3, v4, rfl⟩, w⟩
      obtain ⟨t, ht, rfl⟩ := map_at hx
      have hi := (List.getElem?_eq_some_iff.mp ht).1
      have hy : yss[i]? = some yss[i] := List.getElem?_eq_getElem (by omega)
      obtain ⟨r1, r2⟩ := hR i t _ ht hy
      generalize yss[i] = ys at hy r1 r2
      have htk : yss.take (i + 1) = yss.take i ++ [ys] := by rw [List.take_add_one, hy] <;> rfl
      have hfl : fs.length = i := by
        have := congrArg List.length hfs
        rw [List.length_take, List.length_map] at this
        omega
      -- what all pairs would be
      have pre : ∀ gs : List Tr, yss = gs.map trV → ∃ f rest, gs = fs ++ f :: rest ∧ ys = trV f := fun gs e => by
        have e1 : (gs.take i).map trV = fs.map trV := by rw [List.map_take, ← e, hfs]
        have e2 := map_trV_inj e1
        have e3 : gs[i]?.map trV = some ys := by rw [← List.getElem?_map, ← e]; exact hy
        cases e4 : gs[i]? with
        | none => rw [e4] at e3; cases e3
        | some f =>
          rw [e4] at e3
          refine ⟨f, gs.drop (i + 1), ?_, (Option.some.inj e3).symm⟩
          obtain ⟨hi2, e5⟩ := List.getElem?_eq_some_iff.mp e4
          rw [← e2, ← e5, List.getElem_cons_drop, List.take_append_drop]
      walk_at "x"
      refine ⟨m, t, ys, rfl, rd_same w.ex r1, fun y hy => (r2 y hy).same w.ex, fun f ef hp p2 H2 n2 s2 c2 => ?_, fun hn H' s' => kE (fun gs e o => ?_) H' (w.ex.trans s')⟩
      case refine_2 =>
        obtain ⟨f, rest, e1, e2⟩ := pre gs e
        exact hn f e2 (o.1 f (by rw [e1]; exact List.mem_append_right _ (.head _)))
      have w2 := w.newE n2 s2 c2
      walk_at "x"
      refine ⟨d, _, rfl, DGet.t (k := trK f) (w2.get 1 rfl) c2, ?_⟩
      by_cases c : (valV (fs.map entT2) (trK f)).isSome = true
      · rw [c]
        refine ⟨true, rfl, iteT (kE (fun gs e o => ?_) _ w2.ex)⟩
        obtain ⟨u, hu, ek⟩ := valT_mem c
        obtain ⟨f', rest, e1, e2⟩ := pre gs e
        have ef' : f = f' := trV_inj (ef.symm.trans e2)
        subst ef'
        have nd2 := o.2
        rw [e1, List.map_append, List.map_cons, List.nodup_append] at nd2
        exact nd2.2.2 (trK u) (List.mem_map.mpr ⟨u, hu, rfl⟩) (trK f) (.head _) ek
      · have hne : ∀ u ∈ fs, trK u ≠ trK f := fun u hu e => c (by rw [← e, valT_some ok.2 hu] <;> rfl)
        rw [Bool.not_eq_true] at c
        rw [c]
        refine ⟨false, rfl, iteF ?_⟩
        walk_at "x"
        refine x_ixXT (.inl (rd_same w2.ex r1)) (v := .int f.2.2) (by rw [ef] <;> rfl) ?_
        walk_at "x"
        refine ⟨d, _, rfl, DPut.t (k := trK f) (w2.get 1 rfl) c2 (by rw [List.length_map]; exact Nat.lt_of_lt_of_le (show fs.length < 10000 by omega) (by decide)), ?_⟩
        rw [putT_new hne]
        have w3 := (w2.put (o' := .dT (fs.map entT2 ++ [(trK f, .int f.2.2)])) 1 rfl).pop
        refine ⟨fs ++ [f], by rw [htk, hfs, ef, List.map_append] <;> rfl, ⟨fun u hu => ?_, ?_⟩, ⟨_, _, rfl⟩, by rw [List.map_append]; exact w3⟩
        · rcases List.mem_append.mp hu with h | h
          · exact ok.1 u h
          · rw [List.mem_singleton] at h; subst h; exact hp
        · rw [List.map_append, List.nodup_append]
          refine ⟨ok.2, by simp, fun x hx y hy e => ?_⟩
          obtain ⟨u, hu, rfl⟩ := List.mem_map.mp hx
          simp at hy
          exact hne u hu (e.trans hy)
    · rintro σ' H' ⟨fs, hfs, ok, ⟨v3, v4, rfl⟩, w⟩
      rw [List.length_map, hl, List.take_length] at hfs
      have hfl : fs.length = ts.length := by rw [hl, hfs, List.length_map]
      walk_at "x"
      refine x_sortDT (w.get 0 rfl) (pk := fs.map trP) (by rw [List.map_map, List.map_map] <;> rfl) (fun bs ps p hp hs hb np => ?_)
      obtain ⟨gs, hg, rfl⟩ := perm_lift ok.2 hp
      have hgl : gs.length = fs.length := hg.length_eq
      have w1 := w.new (o := .lst (bs.map V.ref)) np
      have hbl : bs.length = gs.length := by have := Paired.length hb; rwa [List.length_map] at this
      have s1 := same_upd (o := .lst (bs.map V.ref)) np
      have okg := pairsOk_perm hg.symm ok
      have hb1 : ∀ {i : Nat} {b : Addr}, bs[i]? = some b → ∃ f : Tr, gs[i]? = some f ∧ upd H' p (.lst (bs.map V.ref)) b = some (.tup [.int (f.1 : Int), .int (f.2.1 : Int)]) := fun {i b} e => by
        obtain ⟨y, hy, r⟩ := paired_at hb e
        rw [List.getElem?_map] at hy
        cases e2 : gs[i]? with
        | none => rw [e2] at hy; cases hy
        | some f =>
          rw [e2] at hy
          cases hy
          exact ⟨f, rfl, s1 _ _ r⟩
      have hoff : ∀ t ∈ bs, t ∉ [(p, HO.lst (bs.map V.ref)), (d, HO.dT (fs.map entT2))].map (·.1) := fun t ht hm => by
        obtain ⟨i, hi, e⟩ := List.getElem_of_mem ht
        obtain ⟨f, _, hf⟩ := hb1 (i := i) (b := t) (by rw [List.getElem?_eq_getElem hi, e])
        simp only [List.map_cons, List.map_nil, List.mem_cons, List.not_mem_nil, or_false] at hm
        rcases hm with rfl | rfl
        · rw [w1.get 0 rfl] at hf; cases hf
        · rw [w1.get 1 rfl] at hf; cases hf
      obtain ⟨B1, sB1, hB1, w1⟩ := own_freezeA w1 bs hoff
      have hb2 : ∀ {i : Nat} {b : Addr}, bs[i]? = some b → ∃ f : Tr, gs[i]? = some f ∧ upd B1 p (.lst (bs.map V.ref)) b = some (.tup [.int (f.1 : Int), .int (f.2.1 : Int)]) := fun {i b} e => by
        obtain ⟨f, h1, h2⟩ := hb1 e
        have h3 := hB1 b (List.mem_of_getElem? e)
        rw [h2] at h3
        exact ⟨f, h1, same_upd (w1.none 0 rfl) _ _ h3⟩
      have wF := w1.freeze
      have sF : Same H (upd B1 p (.lst (bs.map V.ref))) := sB1.trans (same_upd (w1.none 0 rfl))
      have hp1 : SqL K (upd B1 p (.lst (bs.map V.ref))) p (bs.map V.ref) := SqL.of upd_same
      generalize upd B1 p (.lst (bs.map V.ref)) = BF at hb2 wF sF hp1
      refine ⟨_, rfl, ⟨_, wF.seq hp1⟩, cpE_list (xs := bs.map V.ref) (G := fun B2 i acc => ∃ us : List Addr, acc = us.map V.ref ∧ TrAll B2 us (gs.take i) ∧ ∀ t ∈ us, H t = none) wF hp1 ⟨[], rfl, .nil, fun _ h => nomatch h⟩ ?_ ?_⟩
      · rintro D i x H2 B2 acc hx sB ⟨us, rfl, hus, hn⟩ w2
        obtain ⟨b, hbx, rfl⟩ := map_at hx
        obtain ⟨f, hf, r⟩ := hb2 hbx
        have hi := (List.getElem?_eq_some_iff.mp hf).1
        have hul : us.length = i := by have := hus.len; rw [List.length_take] at this; omega
        have r2 := w2.ex _ _ (sB _ _ r)
        walk_at "x"
        refine ⟨rfl, ?_⟩
        walk_at "x"
        refine iteT ?_
        walk_at "x"
        refine x_ixXT (.inl (.inl r2)) (v := .int (f.1 : Int)) rfl ?_
        walk_at "x"
        refine x_ixXT (.inl (.inl r2)) (v := .int (f.2.1 : Int)) rfl ?_
        walk_at "x"
        have gv := DGet.t (k := trK f) (w2.get 1 rfl) r2
        rw [valT_some ok.2 (hg.mem_iff.mp (List.mem_of_getElem? hf))] at gv
        refine ⟨d, _, rfl, gv, ?_⟩
        walk_at "x"
        refine ⟨(by show 3 ≤ sizeLine; decide), fun t nt => ?_⟩
        have w3 := (w2.new (o := .tup (trV f)) nt).freeze
        have nB := w2.fresh nt
        have sB3 := same_upd (o := .tup (trV f)) nB
        refine cpE_fin w3 (sB.trans sB3) ⟨us ++ [t], by rw [List.map_append] <;> rfl, ?_, fun u hu => ?_⟩ (by rw [List.length_map]; omega)
        · rw [List.take_add_one, hf]
          exact (hus.same sB3).snoc upd_same
        · rcases List.mem_append.mp hu with h | h
          · exact hn u h
          · rw [List.mem_singleton] at h; subst h
            exact (sF.trans sB).free nB
      · rintro D H2 B2 acc sB ⟨us, rfl, hus, hn⟩ w2
        rw [List.length_map, hbl, List.take_length] at hus
        have sA := sF.trans sB
        refine k fs hfs ok gs hg ?_ D us H2 (sA.free (w2.none 0 rfl)) hn (sA.trans w2.ex) (w2.get 0 rfl) (hus.same w2.ex)
        exact hs

/-! ### Rule___init__ -/
def sp_Rule___init__ (A : Ads) (K : PySem.W.Frag) : Sp := fun vs H Q E => ∃ (p C dx : Addr) (v : V), vs = [.ref p, v] ∧ H p = some (.ins C dx []) ∧ Cls K C ∧ NoAttr K C "many" ∧ Thing H v ∧
  (∀ n : Nat, v = .int (n : Int) → 1 ≤ n → n ≤ 6 → RetX p (.ins C dx [("many", .int (n : Int))]) H Q) ∧ (¬ inR v 1 6 → ∀ H', Same H H' → E (.ref A.NoRule) none H')
theorem u_rule {K : PySem.W.Frag} {H : Hp} {Q : VK} {E : XK} {p C dx : Addr} {n : Nat} (e : H p = some (.ins C dx [])) (c : Cls K C) (na : NoAttr K C "many") (h1 : 1 ≤ n) (h6 : n ≤ 6) (q : RetX p (.ins C dx [("many", .int (n : Int))]) H Q) : sp_Rule___init__ A K [.ref p, .int (n : Int)] H Q E :=
  ⟨p, C, dx, _, rfl, e, c, na, .int _, fun n' en _ _ => by
    have : n = n' := by have := V.int.inj en; omega
    exact this ▸ q, fun h => absurd ⟨_, rfl, by omega, by omega⟩ h⟩
theorem ok_Rule___init__ (T : Txt K mg A) : FnOk P w K mg base (L2.CX P w) 2 A.a_Rule___init__ A.d_Rule___init__ ["self", "many"] (sp_Rule___init__ A K) := by
  refine T.F_Rule___init__.okX sc_Rule___init__ (fun vs H Q E h => ?_) (fun cdv A0 outer s H vs Q E hr h => ?_)
  · obtain ⟨p, C, dx, v, rfl, _⟩ := h; rfl
  · obtain ⟨p, C, dx, v, rfl, e, c, na, hT, k, kE⟩ := h
    refine ⟨_, (pss_cons (ps_if (PW.pt (pw_or (pt_not (pt_val (pe_call (ok_is_whole T) (hr.mono (by decide)) (by rfl) T.g_is_whole T.F_is_whole.kp T.b_is_whole .nil (passes_call (takes_of rfl rfl rfl rfl) (fun _ _ _ _ h => h)) (pa_cons (pv 1) pa_nil)))) (pw_or (pt_cmpR op_ltX (pv 1) pe_int (nomark _)) (pw_or1 (pt_cmpR op_gtX (pv 1) (pe_glob (v := .int 6) (by rfl) T.c_MOST ⟨_, rfl⟩) (nomark _)))))) (pss_one (ps_raise rfl (takes_of rfl rfl rfl rfl) (pmk_own PySem.F.excBase_ValueError T.x_NoRule T.g_NoRule T.k_NoRule (raises_own T.e_NoRule T.t_NoRule) (by rfl)))) pss_nil)
      (pss_one (ps_fld (pv 0) (pv 1) rfl))), ?_⟩
    walk_at "x"
    refine ⟨v, rfl, hT, fun H1 s1 => ?_⟩
    walk_at "x"
    cases hI : isI v with
    | false =>
      refine iteT (iteT (kE (fun ⟨z, ez, _⟩ => ?_) H1 s1))
      rw [ez] at hI; cases hI
    | true =>
      refine iteF ?_
      obtain ⟨z, rfl⟩ : ∃ z, v = .int z := by
        cases v with
        | int z => exact ⟨z, rfl⟩
        | _ => cases hI
      walk_at "x"
      by_cases c1 : z < 1
      · rw [decide_eq_true c1]
        refine iteT (iteT (kE (fun ⟨y, ey, h1, h2⟩ => ?_) H1 s1))
        obtain rfl := V.int.inj ey
        omega
      · rw [decide_eq_false c1]
        refine iteF ?_
        walk_at "x"
        by_cases c2 : 6 < z
        · rw [decide_eq_true c2]
          refine iteT (kE (fun ⟨y, ey, h1, h2⟩ => ?_) H1 s1)
          obtain rfl := V.int.inj ey
          omega
        · rw [decide_eq_false c2]
          refine iteF ?_
          obtain ⟨n, rfl⟩ := Int.eq_ofNat_of_zero_le (show 0 ≤ z by omega)
          walk_at "x"
          refine ⟨p, C, dx, [], rfl, s1 _ _ e, c, na, by decide, ?_⟩
          exact k n rfl (by omega) (by omega) _ (SameX.trans (Same.x s1) SameX.upd) upd_same

/-! ### Own___init__ -/
def sp_Own___init__ (A : Ads) (K : PySem.W.Frag) : Sp := fun vs H Q E => ∃ (p C dx b : Addr) (xs : List V), vs = [.ref p, .ref b] ∧ H p = some (.ins C dx []) ∧ Cls K C ∧ NoAttr K C "many" ∧ NoAttr K C "numbers" ∧ SqL K H b xs ∧ b ≠ p ∧ (∀ y ∈ xs, Thing H y ∧ y ≠ .ref p) ∧
  (∀ (ns : List Int), xs = ns.map V.int → 1 ≤ ns.length → ns.length ≤ 6 → ∀ l H', H l = none → SameX p H H' → H' p = some (.ins C dx [("many", .int (ns.length : Int)), ("numbers", .ref l)]) → H' l = some (.lst (ns.map V.int)) → Q .non H') ∧
  (¬ (1 ≤ xs.length ∧ xs.length ≤ 6 ∧ xs.all isI = true) → ∀ H', SameX p H H' → E (.ref A.NoRule) none H')
theorem ok_Own___init__ (T : Txt K mg A) : FnOk P w K mg base (L2.CX P w) 3 A.a_Own___init__ A.d_Own___init__ ["self", "numbers"] (sp_Own___init__ A K) := by
  refine T.F_Own___init__.okX sc_Own___init__ (fun vs H Q E h => ?_) (fun cdv A0 outer s H vs Q E hr h => ?_)
  · obtain ⟨p, C, dx, b, xs, rfl, _⟩ := h; rfl
  · obtain ⟨p, C, dx, b, xs, rfl, e, c, na, nb, hS, hne, hT, k, kE⟩ := h
    refine ⟨_, (pss_cons (ps_expr (pe_base (pe_glob (v := .ref A.Rule) (by rfl) T.g_Rule rfl) T.bs_Rule (ok_Rule___init__ T) (hr.mono (by decide)) T.b_Rule___init__ (passes_call (takes_of rfl rfl rfl rfl) (fun _ _ _ _ h => h)) (pa_cons (pv 0) (pa_cons (pe_callB (call_lenK (K := K) rfl) (by rfl) T.z_len (by decide +kernel) (pa_cons (pv 1) pa_nil)) pa_nil))))
      (pss_cons (ps_expr (pe_call (ok_look_numbers T) (hr.mono (by decide)) (by rfl) T.g_look_numbers T.F_look_numbers.kp T.b_look_numbers .nil (passes_call (takes_of rfl rfl rfl rfl) (fun _ _ _ _ h => h)) (pa_cons (pv 1) pa_nil)))
      (pss_one (ps_fld (pv 0) (pe_callTy (call_listK (K := K) rfl) (by rfl) T.z_list (by decide +kernel) (pa_cons (pv 1) pa_nil)) rfl)))), ?_⟩
    walk_at "x"
    refine ⟨rfl, ?_⟩
    walk_at "x"
    refine x_lenL hS ?_
    walk_at "x"
    refine ⟨p, C, dx, _, rfl, e, c, na, .int _, fun n en h1 h6 H1 s1 c1 => ?_, fun hn H' s' => kE (fun ⟨a1, a2, _⟩ => hn ⟨_, rfl, by omega, by omega⟩) H' (Same.x s')⟩
    have hxl : xs.length = n := by have := V.int.inj en; omega
    walk_at "x"
    have hS1 := sqL_x s1 hS hne
    refine ⟨b, xs, rfl, .inl hS1, fun y hy => thing_x s1 (hT y hy).1 (hT y hy).2, fun hall H2 s2 => ?_, fun hn H' s' => kE (fun ⟨_, _, z⟩ => by rw [hn] at z; cases z) H' (s1.trans (Same.x s'))⟩
    obtain ⟨ns, rfl⟩ := all_int hall
    rw [List.length_map] at hxl
    walk_at "x"
    refine x_list (s2.seq hS1) (fun l nl => ?_)
    walk_at "x"
    have nlp : l ≠ p := fun z => by subst z; rw [s2 _ _ c1] at nl; cases nl
    have c3 : upd H2 l (.lst (ns.map V.int)) p = some (.ins C dx [("many", .int (n : Int))]) := by rw [upd_ne (Ne.symm nlp)]; exact s2 _ _ c1
    refine ⟨p, C, dx, _, rfl, c3, c, nb, by show 1 < 1000; decide, ?_⟩
    have sx : SameX p H (upd (upd H2 l (.lst (ns.map V.int))) p (.ins C dx (putF "numbers" (.ref l) [("many", .int (n : Int))]))) := fun q o hq h => by
      rw [upd_ne hq]
      have h2 := s2 _ _ (s1 q o hq h)
      rw [upd_ne (fun z => by subst z; rw [nl] at h2; cases h2)]
      exact h2
    refine k ns rfl (by omega) (by omega) l _ ?_ sx ?_ ?_
    · cases hl : H l with
      | none => rfl
      | some o => have := s2 _ _ (s1 l o nlp hl); rw [nl] at this; cases this
    · rw [upd_same, hxl] <;> rfl
    · rw [upd_ne nlp, upd_same]

/-! ### Pairs___init__ -/
def sp_Pairs___init__ (A : Ads) (K : PySem.W.Frag) : Sp := fun vs H Q E => ∃ (p C dx b : Addr) (v : V) (ts : List Addr) (yss : List (List V)), vs = [.ref p, v, .ref b] ∧ H p = some (.ins C dx []) ∧ Cls K C ∧ NoAttr K C "many" ∧ NoAttr K C "pairs" ∧ Thing H v ∧ Rd H b (.lst (ts.map V.ref)) ∧
  ts.length = yss.length ∧ ts.length ≤ 1000 ∧ (∀ (i : Nat) (t : Addr) (ys : List V), ts[i]? = some t → yss[i]? = some ys → Rd H t (.tup ys) ∧ ∀ y ∈ ys, Thing H y) ∧
  (∀ (m : Nat) (fs : List Tr), v = .int (m : Int) → 1 ≤ m → m ≤ 6 → yss = fs.map trV → pairsOk m fs → ∀ gs : List Tr, gs.Perm fs → SortedT gs → ∀ (l : Addr) (us : List Addr) (H' : Hp), H l = none → (∀ u ∈ us, H u = none) → SameX p H H' → H' p = some (.ins C dx [("many", .int (m : Int)), ("pairs", .ref l)]) → H' l = some (.lst (us.map V.ref)) → TrAll H' us gs → Q .non H') ∧
  ((∀ (m : Nat) (fs : List Tr), v = .int (m : Int) → 1 ≤ m → m ≤ 6 → yss = fs.map trV → ¬ pairsOk m fs) → ∀ H', SameX p H H' → E (.ref A.NoRule) none H')
theorem ok_Pairs___init__ (T : Txt K mg A) : FnOk P w K mg base (L2.CX P w) 5 A.a_Pairs___init__ A.d_Pairs___init__ ["self", "many", "pairs"] (sp_Pairs___init__ A K) := by
  refine T.F_Pairs___init__.okX sc_Pairs___init__ (fun vs H Q E h => ?_) (fun cdv A0 outer s H vs Q E hr h => ?_)
  · obtain ⟨p, C, dx, b, v, ts, yss, rfl, _⟩ := h; rfl
  · obtain ⟨p, C, dx, b, v, ts, yss, rfl, e, c, na, nb, hT, hS, hl, hz, hR, k, kE⟩ := h
    have hbp := sqL_ne (K := K) e hS
    refine ⟨_, (pss_cons (ps_expr (pe_base (pe_glob (v := .ref A.Rule) (by rfl) T.g_Rule rfl) T.bs_Rule (ok_Rule___init__ T) (hr.mono (by decide)) T.b_Rule___init__ (passes_call (takes_of rfl rfl rfl rfl) (fun _ _ _ _ h => h)) (pa_cons (pv 0) (pa_cons (pv 1) pa_nil))))
      (pss_one (ps_fld (pv 0) (pe_call (ok_pairs_of T) (hr.mono (by decide)) (by rfl) T.g_pairs_of T.F_pairs_of.kp T.b_pairs_of .nil (passes_call (takes_of rfl rfl rfl rfl) (fun _ _ _ _ h => h)) (pa_cons (pv 1) (pa_cons (pv 2) pa_nil))) rfl))), ?_⟩
    walk_at "x"
    refine ⟨rfl, ?_⟩
    walk_at "x"
    refine ⟨p, C, dx, v, rfl, e, c, na, hT, fun m ev h1 h6 H1 s1 c1 => ?_, fun hn H' s' => kE (fun m fs ev h1 h6 _ _ => hn ⟨_, ev, by omega, by omega⟩) H' (Same.x s')⟩
    subst ev
    walk_at "x"
    refine ⟨m, b, ts, yss, rfl, .inl (rd_x s1 hS hbp), hl, hz, fun i t ys ht hy => ?_, fun fs ey ok gs hg hs l us H2 nl nu s2 c2 hu => ?_, fun hn H' s' => kE (fun m' fs ev h1 h6 ey ok => ?_) H' (s1.trans (Same.x s'))⟩
    · obtain ⟨r1, r2⟩ := hR i t ys ht hy
      exact ⟨rd_x s1 r1 (rdT_ne e r1), fun y hy => thing_x s1 (r2 y hy) (thing_ne e (r2 y hy))⟩
    case refine_3 =>
      have : m = m' := by have := V.int.inj ev; omega
      subst this
      exact hn fs ey ok
    walk_at "x"
    have nlp : l ≠ p := fun z => by subst z; rw [c1] at nl; cases nl
    refine ⟨p, C, dx, _, rfl, s2 _ _ c1, c, nb, by show 1 < 1000; decide, ?_⟩
    have back : ∀ q, q ≠ p → H1 q = none → H q = none := fun q hq hn => by
      cases e2 : H q with
      | none => rfl
      | some o => have := s1 q o hq e2; rw [hn] at this; cases this
    have nup : ∀ u ∈ us, u ≠ p := fun u hu z => by subst z; have := nu _ hu; rw [c1] at this; cases this
    refine k m fs rfl h1 h6 ey ok gs hg hs l us _ (back l nlp nl) (fun u hu => back u (nup u hu) (nu u hu)) ?_ ?_ ?_ ?_
    · intro q o hq h
      rw [upd_ne hq]
      exact s2 _ _ (s1 q o hq h)
    · rw [upd_same] <;> rfl
    · rw [upd_ne nlp]; exact c2
    · exact hu.congr fun t ht => upd_ne (nup t ht)

/-! ### Votes___init__ -/
def sp_Votes___init__ (A : Ads) (K : PySem.W.Frag) : Sp := fun vs H Q E => ∃ (p C dx b : Addr) (q r : V) (xs : List V), vs = [.ref p, q, r, .ref b] ∧ H p = some (.ins C dx []) ∧ Cls K C ∧ NoAttr K C "many" ∧ NoAttr K C "quota" ∧ NoAttr K C "prize" ∧ NoAttr K C "weights" ∧ Thing H q ∧ Thing H r ∧ Rd H b (.lst xs) ∧ (∀ y ∈ xs, Thing H y) ∧
  (∀ (qi ri : Int) (ns : List Int), q = .int qi → r = .int ri → 1 ≤ qi → xs = ns.map V.int → 1 ≤ ns.length → ns.length ≤ 6 → ∀ l H', H l = none → SameX p H H' → H' p = some (.ins C dx [("many", .int (ns.length : Int)), ("quota", .int qi), ("prize", .int ri), ("weights", .ref l)]) → H' l = some (.lst (ns.map V.int)) → Q .non H') ∧
  (¬ (1 ≤ xs.length ∧ xs.length ≤ 6 ∧ xs.all isI = true ∧ isI r = true ∧ ∃ qi, q = .int qi ∧ 1 ≤ qi) → ∀ H', SameX p H H' → E (.ref A.NoRule) none H')
theorem ok_Votes___init__ (T : Txt K mg A) : FnOk P w K mg base (L2.CX P w) 3 A.a_Votes___init__ A.d_Votes___init__ ["self", "quota", "prize", "weights"] (sp_Votes___init__ A K) := by
  refine T.F_Votes___init__.okX sc_Votes___init__ (fun vs H Q E h => ?_) (fun cdv A0 outer s H vs Q E hr h => ?_)
  · obtain ⟨p, C, dx, b, q, r, xs, rfl, _⟩ := h; rfl
  · obtain ⟨p, C, dx, b, q, r, xs, rfl, e, c, na, n1, n2, n3, hq, hr2, hR, hT, k, kE⟩ := h
    have hbp := sqL_ne (K := K) e hR
    refine ⟨_, (pss_cons (ps_expr (pe_base (pe_glob (v := .ref A.Rule) (by rfl) T.g_Rule rfl) T.bs_Rule (ok_Rule___init__ T) (hr.mono (by decide)) T.b_Rule___init__ (passes_call (takes_of rfl rfl rfl rfl) (fun _ _ _ _ h => h)) (pa_cons (pv 0) (pa_cons (pe_callB (call_lenK (K := K) rfl) (by rfl) T.z_len (by decide +kernel) (pa_cons (pv 3) pa_nil)) pa_nil))))
      (pss_cons (ps_expr (pe_call (ok_look_numbers T) (hr.mono (by decide)) (by rfl) T.g_look_numbers T.F_look_numbers.kp T.b_look_numbers .nil (passes_call (takes_of rfl rfl rfl rfl) (fun _ _ _ _ h => h)) (pa_cons (pe_lst (pa_cons (pv 1) (pa_cons (pv 2) pa_nil))) pa_nil)))
      (pss_cons (ps_expr (pe_call (ok_look_numbers T) (hr.mono (by decide)) (by rfl) T.g_look_numbers T.F_look_numbers.kp T.b_look_numbers .nil (passes_call (takes_of rfl rfl rfl rfl) (fun _ _ _ _ h => h)) (pa_cons (pv 3) pa_nil)))
      (pss_cons (ps_if (pt_cmpR op_ltX (pv 1) pe_int (nomark _)) (pss_one (ps_raise rfl (takes_of rfl rfl rfl rfl) (pmk_own PySem.F.excBase_ValueError T.x_NoRule T.g_NoRule T.k_NoRule (raises_own T.e_NoRule T.t_NoRule) (by rfl)))) pss_nil)
      (pss_cons (ps_fld (pv 0) (pv 1) rfl)
      (pss_cons (ps_fld (pv 0) (pv 2) rfl)
      (pss_one (ps_fld (pv 0) (pe_callTy (call_listK (K := K) rfl) (by rfl) T.z_list (by decide +kernel) (pa_cons (pv 3) pa_nil)) rfl)))))))), ?_⟩
    walk_at "x"
    refine ⟨rfl, ?_⟩
    walk_at "x"
    refine x_lenL (.inl hR) ?_
    walk_at "x"
    refine ⟨p, C, dx, _, rfl, e, c, na, .int _, fun n en h1 h6 H1 s1 c1 => ?_, fun hn H' s' => kE (fun ⟨a1, a2, _⟩ => hn ⟨_, rfl, by omega, by omega⟩) H' (Same.x s')⟩
    have hxl : xs.length = n := by have := V.int.inj en; omega
    walk_at "x"
    refine ⟨(by show 2 ≤ sizeLine; decide), fun p2 np2 => ?_⟩
    have s2 := same_upd (o := .lst [q, r]) np2
    have tq := thing_x s1 hq (thing_ne e hq)
    have tr := thing_x s1 hr2 (thing_ne e hr2)
    refine ⟨p2, [q, r], rfl, .inl (SqL.of upd_same), fun y hy => ?_, fun hall H3 s3 => ?_, fun hn H' s' => kE (fun ⟨_, _, _, z1, qi, z2, _⟩ => ?_) H' (s1.trans (Same.x (s2.trans s')))⟩
    · simp only [List.mem_cons, List.not_mem_nil, or_false] at hy
      rcases hy with rfl | rfl
      · exact tq.same s2
      · exact tr.same s2
    case refine_3 =>
      rw [z2, List.all_cons, List.all_cons, z1] at hn
      simp [isI] at hn
    obtain ⟨qr, hqr⟩ := all_int hall
    obtain ⟨qi, ri, rfl⟩ : ∃ qi ri, qr = [qi, ri] := by
      match qr, congrArg List.length hqr with
      | [a, b], _ => exact ⟨a, b, rfl⟩
    have eq1 : q = .int qi := (List.cons.inj hqr).1
    have eq2 : r = .int ri := (List.cons.inj (List.cons.inj hqr).2).1
    subst eq1 eq2
    have s3 := s2.trans s3
    have hR1 := rd_same s3 (rd_x s1 hR hbp)
    walk_at "x"
    refine ⟨b, xs, rfl, .inl (.inl hR1), fun y hy => (thing_x s1 (hT y hy) (thing_ne e (hT y hy))).same s3, fun hall H4 s4 => ?_, fun hn H' s' => kE (fun ⟨_, _, z, _⟩ => by rw [hn] at z; cases z) H' (s1.trans (Same.x (s3.trans s')))⟩
    obtain ⟨ns, rfl⟩ := all_int hall
    rw [List.length_map] at hxl
    have s4 := s3.trans s4
    walk_at "x"
    refine ite2 (fun cq => ?_) (fun cq => ?_)
    · have cq := of_decide_eq_true cq
      exact kE (fun ⟨_, _, _, _, qj, ej, hj⟩ => by have := V.int.inj ej; omega) _ (s1.trans (Same.x s4))
    have hq1 : 1 ≤ qi := by
      by_cases z : qi < 1
      · exact absurd (decide_eq_true z) cq
      · omega
    have e4 := s4 _ _ c1
    walk_at "x"
    refine ⟨p, C, dx, _, rfl, e4, c, n1, by show 1 < 1000; decide, ?_⟩
    walk_at "x"
    refine ⟨p, C, dx, _, rfl, upd_same, c, n2, by show 2 < 1000; decide, ?_⟩
    walk_at "x"
    have hS5 : SqL K H4 b (ns.map V.int) := .inl (rd_same s4 (rd_x s1 hR hbp))
    have hS6 : SqL K (upd (upd H4 p (.ins C dx (putF "quota" (.int qi) [("many", .int (n : Int))]))) p (.ins C dx (putF "prize" (.int ri) (putF "quota" (.int qi) [("many", .int (n : Int))])))) b (ns.map V.int) := sqL_x SameX.upd (sqL_x SameX.upd hS5 hbp) hbp
    refine x_list hS6 (fun l nl => ?_)
    walk_at "x"
    have nlp : l ≠ p := fun z => by subst z; rw [upd_same] at nl; cases nl
    rw [upd_ne nlp, upd_ne nlp] at nl
    refine ⟨p, C, dx, putF "prize" (.int ri) (putF "quota" (.int qi) [("many", .int (n : Int))]), rfl, by rw [upd_ne (Ne.symm nlp), upd_same], c, n3, by show 3 < 1000; decide, ?_⟩
    have sx : ∀ q o, q ≠ p → H q = some o → H4 q = some o := fun q o hq h => s4 _ _ (s1 q o hq h)
    refine k qi ri ns rfl rfl hq1 rfl (by omega) (by omega) l _ ?_ (fun q o hq h => ?_) ?_ ?_
    · cases hl2 : H l with
      | none => rfl
      | some o => have := sx l o nlp hl2; rw [nl] at this; cases this
    · have h2 := sx q o hq h
      rw [upd_ne hq, upd_ne (fun z => by subst z; rw [nl] at h2; cases h2), upd_ne hq, upd_ne hq]
      exact h2
    · rw [upd_same, hxl] <;> rfl
    · rw [upd_ne nlp, upd_same]

/-! ### Plain___init__ -/
def sp_Plain___init__ (A : Ads) (K : PySem.W.Frag) : Sp := fun vs H Q E => ∃ (p C dx b : Addr) (xs : List V), vs = [.ref p, .ref b] ∧ H p = some (.ins C dx []) ∧ Cls K C ∧ NoAttr K C "many" ∧ NoAttr K C "row" ∧ Rd H b (.lst xs) ∧ (∀ y ∈ xs, Thing H y) ∧
  (∀ (ns : List Int) (m : Nat), xs = ns.map V.int → Tab ns m → ∀ l H', H l = none → SameX p H H' → H' p = some (.ins C dx [("many", .int (m : Int)), ("row", .ref l)]) → H' l = some (.lst (ns.map V.int)) → Q .non H') ∧
  (lookM xs = none → ∀ H', SameX p H H' → E (.ref A.NoTable) none H')
theorem ok_Plain___init__ (T : Txt K mg A) : FnOk P w K mg base (L2.CX P w) 3 A.a_Plain___init__ A.d_Plain___init__ ["self", "table"] (sp_Plain___init__ A K) := by
  refine T.F_Plain___init__.okX sc_Plain___init__ (fun vs H Q E h => ?_) (fun cdv A0 outer s H vs Q E hr h => ?_)
  · obtain ⟨p, C, dx, b, xs, rfl, _⟩ := h; rfl
  · obtain ⟨p, C, dx, b, xs, rfl, e, c, na, nb, hR, hT, k, kE⟩ := h
    refine ⟨_, (pss_cons (ps_expr (pe_base (pe_glob (v := .ref A.Rule) (by rfl) T.g_Rule rfl) T.bs_Rule (ok_Rule___init__ T) (hr.mono (by decide)) T.b_Rule___init__ (passes_call (takes_of rfl rfl rfl rfl) (fun _ _ _ _ h => h)) (pa_cons (pv 0) (pa_cons (pe_call (ok_look T) (hr.mono (by decide)) (by rfl) T.g_look T.F_look.kp T.b_look .nil (passes_call (takes_of rfl rfl rfl rfl) (fun _ _ _ _ h => h)) (pa_cons (pv 1) pa_nil)) pa_nil))))
      (pss_one (ps_fld (pv 0) (pe_callTy (call_listK (K := K) rfl) (by rfl) T.z_list (by decide +kernel) (pa_cons (pv 1) pa_nil)) rfl))), ?_⟩
    have hbp : b ≠ p := fun z => by
      subst z
      rcases hR with h | ⟨o, h⟩ <;> rw [e] at h <;> cases h
    walk_at "x"
    refine ⟨rfl, ?_⟩
    walk_at "x"
    refine ⟨b, xs, rfl, hR, hT, fun n hn H1 s1 => ?_, fun hn H' s' => kE hn H' (Same.x s')⟩
    obtain ⟨ns, m, tb, rfl, rfl⟩ := look_tab hn
    have hlo := tb.lo
    have hhi := tb.hi
    walk_at "x"
    refine ⟨p, C, dx, _, rfl, s1 _ _ e, c, na, .int _, fun n en h1 h6 H2 s2 c2 => ?_, fun hn H' s' => absurd ⟨_, rfl, by omega, by omega⟩ hn⟩
    have hnm : m = n := by have := V.int.inj en; omega
    subst hnm
    have hS2 : SqL K H2 b (ns.map V.int) := by
      have r := rd_same s1 hR
      rcases r with r | ⟨o, r⟩
      · exact .inl (.inl (s2 _ _ hbp r))
      · exact .inl (.inr ⟨o, s2 _ _ hbp r⟩)
    walk_at "x"
    refine x_list hS2 (fun l nl => ?_)
    walk_at "x"
    have nlp : l ≠ p := fun z => by subst z; rw [c2] at nl; cases nl
    have c3 : upd H2 l (.lst (ns.map V.int)) p = some (.ins C dx [("many", .int (m : Int))]) := by rw [upd_ne (Ne.symm nlp)]; exact c2
    refine ⟨p, C, dx, _, rfl, c3, c, nb, by show 1 < 1000; decide, ?_⟩
    have sx : SameX p H (upd (upd H2 l (.lst (ns.map V.int))) p (.ins C dx (putF "row" (.ref l) [("many", .int (m : Int))]))) := fun q o hq h => by
      rw [upd_ne hq]
      have h2 := s2 _ _ hq (s1 q o h)
      rw [upd_ne (fun z => by subst z; rw [nl] at h2; cases h2)]
      exact h2
    refine k ns m rfl tb l _ ?_ sx ?_ ?_
    · cases hl : H l with
      | none => rfl
      | some o => have := s2 _ _ nlp (s1 l o hl); rw [nl] at this; cases this
    · rw [upd_same] <;> rfl
    · rw [upd_ne nlp, upd_same]

/-! ### _law_whole -/
def sp__law_whole : Sp := fun vs H Q _ => ∃ v, vs = [v] ∧ Thing H v ∧ RetV (.bl (isI v)) H Q
theorem ok__law_whole (T : Txt K mg A) : FnOk P w K mg base (L2.CX P w) 1 A.a__law_whole A.d__law_whole ["_law_found"] sp__law_whole := by
  refine T.F__law_whole.okX sc__law_whole (fun vs H Q E h => ?_) (fun cdv A0 outer s H vs Q E hr h => ?_)
  · obtain ⟨v, rfl, _⟩ := h; rfl
  · obtain ⟨v, rfl, hv, k⟩ := h
    refine ⟨_, (pss_one (ps_ret (pe_and (pe_callB (call_isiX (K := K) rfl) (by rfl) T.z_isinstance (by decide +kernel) (pa_cons (pv 0) (pa_cons (pe_bltn (v := .ty "int") (by rfl) T.z_int (by decide +kernel) rfl) pa_nil))) (pe_one (pe_not (pe_callB (call_isiX (K := K) rfl) (by rfl) T.z_isinstance (by decide +kernel) (pa_cons (pv 0) (pa_cons (pe_bltn (v := .ty "bool") (by rfl) T.z_bool (by decide +kernel) rfl) pa_nil)))))))), ?_⟩
    walk_at "x"
    refine x_isiInt hv ?_
    walk_at "x"
    have e : isI v = ((isI v || isB v) && !isB v) := by cases v <;> rfl
    have k' := k.go (Same.refl H)
    rw [e] at k'
    cases c : (isI v || isB v) with
    | false => rw [c, Bool.false_and] at k'; exact iteF k'
    | true =>
      rw [c, Bool.true_and] at k'
      refine iteT ?_
      walk_at "x"
      refine x_isiBool hv ?_
      walk_at "x"
      exact k'

/-! ### _law_cell -/
def sp__law_cell (K : PySem.W.Frag) : Sp := fun vs H Q _ => ∃ (a : Addr) (ns : List Int) (j : Int), vs = [.ref a, .int j] ∧ SqL K H a (ns.map V.int) ∧ ns.length ≤ 63 ∧ 0 ≤ j ∧ j < 2 ^ 20 ∧ ∀ z, RetV (.int z) H Q
theorem ok__law_cell (T : Txt K mg A) : FnOk P w K mg base (L2.CX P w) 1 A.a__law_cell A.d__law_cell ["_law_script", "_law_k"] (sp__law_cell K) := by
  refine T.F__law_cell.okX sc__law_cell (fun vs H Q E h => ?_) (fun cdv A0 outer s H vs Q E hr h => ?_)
  · obtain ⟨a, ns, j, rfl, _⟩ := h; rfl
  · obtain ⟨a, ns, j, rfl, hS, hl, h0, h1, k⟩ := h
    have k' : ∀ z, Q (.int z) H := fun z => (k z).go (Same.refl H)
    refine ⟨_, (pss_cons (ps_if (pt_cmpR op_ltX (pv 1) (pe_callB (call_lenK (K := K) rfl) (by rfl) T.z_len (by decide +kernel) (pa_cons (pv 0) pa_nil)) (nomark _)) (pss_one (ps_ret (pe_ix (ix_seqK (K := K) rfl) (pv 0) (pv 1) (fun _ _ => rfl)))) pss_nil)
      (pss_cons (ps_set (i := 2) sc__law_cell.nd rfl (.inl rfl) (pe_op op_addX (pe_op op_mulX (pe_op op_mulX (pv 1) (pv 1)) pe_int) pe_int))
      (pss_cons (ps_if (pt_cmpR op_gtX (pe_callB (call_lenK (K := K) rfl) (by rfl) T.z_len (by decide +kernel) (pa_cons (pv 0) pa_nil)) pe_int (nomark _)) (pss_one (ps_set (i := 2) sc__law_cell.nd rfl (.inl rfl) (pe_op op_addX (pv 2) (pe_op op_mulX (pe_op op_modX (pe_ix (ix_seqK (K := K) rfl) (pv 0) (pe_op op_modX (pe_op op_mulX (pv 1) pe_int) (pe_callB (call_lenK (K := K) rfl) (by rfl) T.z_len (by decide +kernel) (pa_cons (pv 0) pa_nil))) (fun _ _ => rfl)) pe_int) pe_int)))) pss_nil)
      (pss_one (ps_ret (pe_op op_modX (pe_op op_mulX (pv 2) pe_int) pe_int)))))), ?_⟩
    walk_at "x"
    refine x_lenL hS ?_
    walk_at "x"
    rw [List.length_map]
    refine ite2 (fun c => ?_) (fun c => ?_)
    · have c := of_decide_eq_true c
      walk_at "x"
      exact x_ixXL hS (at_int h0 c) (k' _)
    · walk_at "x"
      refine x_mulI (.of_left (intBits_le_64 (by omega) (by omega))) ?_
      walk_at "x"
      refine x_mulI (.of_right (by decide)) ?_
      walk_at "x"
      refine x_lenL hS ?_
      walk_at "x"
      rw [List.length_map]
      refine ite2 (fun d => ?_) (fun d => ?_)
      · have d := of_decide_eq_true d
        walk_at "x"
        refine x_mulI (.of_right (by decide)) ?_
        walk_at "x"
        refine x_lenL hS ?_
        walk_at "x"
        rw [List.length_map]
        refine x_modP d ?_
        walk_at "x"
        refine x_ixXL hS (at_int (Int.emod_nonneg _ (by omega)) (Int.emod_lt_of_pos _ d)) ?_
        walk_at "x"
        refine x_modP (by decide) ?_
        walk_at "x"
        refine x_mulI (.of_right (by decide)) ?_
        walk_at "x"
        refine x_mulI (.of_right (by decide)) ?_
        walk_at "x"
        exact x_modP (by decide) (k' _)
      · walk_at "x"
        refine x_mulI (.of_right (by decide)) ?_
        walk_at "x"
        exact x_modP (by decide) (k' _)

/-! ### _law_number -/
def sp__law_number : Sp := fun vs H Q _ => ∃ (c : Int), vs = [.int c] ∧ ∀ z, RetV (.int z) H Q
theorem ok__law_number (T : Txt K mg A) : FnOk P w K mg base (L2.CX P w) 1 A.a__law_number A.d__law_number ["_law_cell_here"] sp__law_number := by
  refine T.F__law_number.okX sc__law_number (fun vs H Q E h => ?_) (fun cdv A0 outer s H vs Q E hr h => ?_)
  · obtain ⟨c, rfl, _⟩ := h; rfl
  · obtain ⟨c, rfl, k⟩ := h
    refine ⟨_, (pss_cons (ps_if (pt_cmpR (op_eqK (K := K) rfl hr.units) (pe_op op_modX (pv 0) pe_int) pe_int (nomark _)) (pss_one (ps_ret (pe_op op_subX (pe_op op_modX (pe_op op_fdivX (pv 0) pe_int) pe_int) pe_int))) pss_nil)
      (pss_one (ps_ret (pe_op op_subX (pe_op op_modX (pe_op op_mulX (pe_op op_fdivX (pv 0) pe_int) pe_int) (pe_op op_addX (pe_op op_mulX pe_int (pe_op op_powX pe_int pe_int)) pe_int)) (pe_op op_powX pe_int pe_int))))), ?_⟩
    walk_at "x"
    refine x_modP (by decide) ?_
    walk_at "x"
    refine ite2 (fun _ => ?_) (fun _ => ?_)
    · walk_at "x"
      refine x_divP (by decide) (by decide) ?_
      walk_at "x"
      refine x_modP (by decide) ?_
      walk_at "x"
      exact k _ _ (Same.refl _)
    · walk_at "x"
      refine x_divP (by decide) (by decide) ?_
      walk_at "x"
      refine x_mulI (.of_right (by decide)) ?_
      walk_at "x"
      refine x_powN ⟨by decide, by decide, by decide⟩ ?_
      refine x_mulI (.of_left (by decide)) ?_
      walk_at "x"
      refine x_modP (by decide) ?_
      walk_at "x"
      refine x_powN ⟨by decide, by decide, by decide⟩ ?_
      walk_at "x"
      exact k _ _ (Same.refl _)

/-! ### _law_rule -/
def sp__law_rule (K : PySem.W.Frag) : Sp := fun vs H Q _ => ∃ (a : Addr) (ns : List Int) (at_ : Int) (m : Nat), vs = [.ref a, .int at_, .int (m : Int)] ∧ SqL K H a (ns.map V.int) ∧ ns.length ≤ 63 ∧ 0 ≤ at_ ∧ at_ ≤ 1000 ∧ 1 ≤ m ∧ m ≤ 6 ∧ RetRow m H Q
theorem ok__law_rule (T : Txt K mg A) : FnOk P w K mg base (L2.CX P w) 2 A.a__law_rule A.d__law_rule ["_law_script", "_law_at", "_law_many"] (sp__law_rule K) := by
  refine T.F__law_rule.okX sc__law_rule (fun vs H Q E h => ?_) (fun cdv A0 outer s H vs Q E hr h => ?_)
  · obtain ⟨a, ns, at_, m, rfl, _⟩ := h; rfl
  · obtain ⟨a, ns, at_, m, rfl, hS, hl, a0, a1, m1, m6, k⟩ := h
    have hp2 : 2 ≤ 2 ^ m ∧ 2 ^ m ≤ 64 := ⟨Nat.pow_le_pow_right (n := 2) (by decide) m1, pow6 m6⟩
    refine ⟨_, (pss_cons (ps_set (i := 3) sc__law_rule.nd rfl (.inl rfl) (pe_op op_modX (pe_op op_mulX (pe_op op_modX (pe_call (ok__law_cell T) (hr.mono (by decide)) (by rfl) T.g__law_cell T.F__law_cell.kp T.b__law_cell .nil (passes_call (takes_of rfl rfl rfl rfl) (fun _ _ _ _ h => h)) (pa_cons (pv 0) (pa_cons (pv 1) pa_nil))) pe_int) pe_int) pe_int))
      (pss_cons (ps_set (i := 4) sc__law_rule.nd rfl (.inl rfl) (pe_ix (ix_seqK (K := K) rfl) (pe_lst (pa_cons pe_int (pa_cons (pv 2) (pa_cons pe_int (pa_cons (pe_op op_addX (pv 2) pe_int) (pa_cons (pe_op op_subX (pe_op op_shlX pe_int (pv 2)) pe_int) pa_nil)))))) (pe_op op_modX (pv 3) pe_int) (fun _ _ => rfl)))
      (pss_cons (ps_setLc (i := 5) (own := [("_law_k", 9)]) rfl sc__law_rule.nd rfl rfl (sw_true rfl rfl rfl (by decide +kernel)) (pi_range1 (by rfl) T.z_range (pa_cons (pv 4) pa_nil)) (blkOk_by (own := [("_law_k", 9)]) (N := N__law_rule) (sc := defScope s__law_rule) (by decide +kernel)) (fun _ _ _ _ _ => (pg_name (i := 9) sc__law_rule.nd rfl (.inl rfl))) (fun _ _ _ _ _ => pts_nil) (fun _ _ _ _ _ => (pe_call (ok__law_number T) (hr.mono (by decide)) (by rfl) T.g__law_number T.F__law_number.kp T.b__law_number .nil passL (pa_cons (pe_call (ok__law_cell T) (hr.mono (by decide)) (by rfl) T.g__law_cell T.F__law_cell.kp T.b__law_cell .nil passL (pa_cons (pv 0) (pa_cons (pe_op op_addX (pe_op op_addX (pv 1) pe_int) (pv 9)) pa_nil))) pa_nil))))
      (pss_cons (ps_set (i := 6) sc__law_rule.nd rfl (.inl rfl) (pe_lst pa_nil))
      (pss_cons (ps_if (pt_cmpR (op_eqK (K := K) rfl hr.units) (pe_op op_modX (pv 3) pe_int) pe_int (nomark _)) (pss_one (ps_for (passes_of rfl) rfl (pi_range1 (by rfl) T.z_range (pa_cons (pv 2) pa_nil)) (pg_name (i := 7) sc__law_rule.nd rfl (.inl rfl)) (pss_one (ps_for (passes_of rfl) rfl (pi_range2 (by rfl) T.z_range (pa_cons (pe_op op_addX (pv 7) pe_int) (pa_cons (pv 2) pa_nil))) (pg_name (i := 8) sc__law_rule.nd rfl (.inl rfl)) (pss_one (ps_if (pt_cmpR (op_eqK (K := K) rfl hr.units) (pe_op op_andX (pe_op op_shrX (pe_op op_fdivX (pv 3) pe_int) (pe_op op_addX (pv 7) (pe_op op_fdivX (pe_op op_mulX (pv 8) (pe_op op_subX (pv 8) pe_int)) pe_int))) pe_int) pe_int (nomark _)) (pss_one (ps_expr (pe_bm PySem.F.plainAttrs_list PySem.F.slot_list_append PySem.F.type_list_append mt_append (pv 6) (pa_cons (pe_tup (pa_cons (pv 7) (pa_cons (pv 8) (pa_cons (pe_call (ok__law_number T) (hr.mono (by decide)) (by rfl) T.g__law_number T.F__law_number.kp T.b__law_number .nil (passes_call (takes_of rfl rfl rfl rfl) (fun _ _ _ _ h => h)) (pa_cons (pe_call (ok__law_cell T) (hr.mono (by decide)) (by rfl) T.g__law_cell T.F__law_cell.kp T.b__law_cell .nil (passes_call (takes_of rfl rfl rfl rfl) (fun _ _ _ _ h => h)) (pa_cons (pv 0) (pa_cons (pe_op op_addX (pe_op op_addX (pv 1) pe_int) (pe_callB (call_lenK (K := K) rfl) (by rfl) T.z_len (by decide +kernel) (pa_cons (pv 6) pa_nil))) pa_nil))) pa_nil)) pa_nil)))) pa_nil)))) pss_nil)))))) pss_nil)
      (pss_cons (ps_if (pt_cmpR (op_eqK (K := K) rfl hr.units) (pe_op op_modX (pv 3) pe_int) pe_int (nomark _)) (pss_one (ps_asg (pe_callB (call_max2X rfl) (by rfl) T.z_max (by decide +kernel) (pa_cons pe_int (pa_cons (pe_callB call_absX (by rfl) T.z_abs (by decide +kernel) (pa_cons (pe_ix (ix_seqK (K := K) rfl) (pv 5) pe_int (fun _ _ => rfl)) pa_nil)) pa_nil))) (pg_sub (pv 5) pe_int set_list))) pss_nil)
      (pss_one (ps_ret (pe_tup (pa_cons (pe_op op_modX (pv 3) pe_int) (pa_cons (pv 5) (pa_cons (pv 6) pa_nil)))))))))))), ?_⟩
    walk_at "x"
    refine ⟨a, ns, at_, rfl, hS, hl, a0, by omega, fun z H1 s1 => ?_⟩
    have w1 := (Own.start (H := H)).ext s1
    walk_at "x"
    refine x_modP (by decide) ?_
    walk_at "x"
    refine x_mulI (.of_right (by decide)) ?_
    walk_at "x"
    refine x_modP (by decide) ?_
    generalize z % 1000003 * 48271 % 2147483629 = c
    walk_at "x"
    refine x_shl ⟨by omega, by omega, by decide⟩ ?_
    rw [shl_nat]
    walk_at "x"
    refine ⟨(by show 5 ≤ sizeLine; decide), fun p1 n1 => ?_⟩
    have w2 := w1.new (o := .lst [.int 0, .int (m : Int), .int 0, .int ((m : Int) + 2), .int (((2 ^ m : Nat) : Int) - 1)]) n1
    walk_at "x"
    refine x_modP (by decide) ?_
    obtain ⟨kd, hk⟩ := Int.eq_ofNat_of_zero_le (Int.emod_nonneg c (show (5 : Int) ≠ 0 by decide))
    have hk5 : kd < 5 := by have := Int.emod_lt_of_pos c (show (0 : Int) < 5 by decide); omega
    rw [hk]
    obtain ⟨sz, hsz, hsz0, hsz1, hsz2, hsz3, hsz4, hsz64⟩ : ∃ sz : Nat, ([V.int 0, .int (m : Int), .int 0, .int ((m : Int) + 2), .int (((2 ^ m : Nat) : Int) - 1)])[kd]? = some (.int (sz : Int)) ∧ (kd = 0 → sz = 0) ∧ (kd = 1 → sz = m) ∧ (kd = 2 → sz = 0) ∧ (kd = 3 → sz = m + 2) ∧ (kd = 4 → sz = 2 ^ m - 1) ∧ sz ≤ 64 := by
      have : kd = 0 ∨ kd = 1 ∨ kd = 2 ∨ kd = 3 ∨ kd = 4 := by omega
      rcases this with rfl | rfl | rfl | rfl | rfl
      · exact ⟨0, rfl, fun _ => rfl, fun h => (nomatch h), fun _ => by omega, fun h => (nomatch h), fun h => (nomatch h), by omega⟩
      · exact ⟨m, rfl, fun h => (nomatch h), fun _ => rfl, fun h => by omega, fun h => by omega, fun h => by omega, by omega⟩
      · exact ⟨0, rfl, fun h => by omega, fun h => by omega, fun _ => rfl, fun h => by omega, fun h => by omega, by omega⟩
      · exact ⟨m + 2, rfl, fun h => by omega, fun h => by omega, fun h => by omega, fun _ => rfl, fun h => by omega, by omega⟩
      · exact ⟨2 ^ m - 1, by show some (V.int (((2 ^ m : Nat) : Int) - 1)) = _; rw [show ((2 ^ m : Nat) : Int) - 1 = ((2 ^ m - 1 : Nat) : Int) by omega], fun h => by omega, fun h => by omega, fun h => by omega, fun h => by omega, fun _ => rfl, by omega⟩
    refine x_ixXL (w2.sq 0 rfl) (atI_nat hsz) ?_
    have w3 := w2.pop
    walk_at "x"
    refine ⟨_, rfl, by omega, by omega, cpE_range (lo := 0) (n := ((sz : Int)).toNat) (G := fun B2 i acc => ∃ zs : List Int, acc = zs.map V.int ∧ zs.length = i) w3 ⟨[], rfl, rfl⟩ ?_ ?_⟩
    · rintro D i H' B2 acc hi sB ⟨zs, rfl, hz⟩ w
      rw [Int.toNat_natCast] at hi
      walk_at "x"
      refine ⟨rfl, ?_⟩
      walk_at "x"
      refine iteT ?_
      walk_at "x"
      rw [Int.zero_add]
      refine ⟨a, ns, _, rfl, w.seq (sB.seq hS), hl, by omega, by omega, fun y H4 s4 => ?_⟩
      have w4 := w.ext s4
      refine ⟨y, rfl, fun y2 H5 s5 => ?_⟩
      exact cpE_fin (w4.ext s5) sB ⟨zs ++ [_], by rw [List.map_append] <;> rfl, by rw [List.length_append, hz] <;> rfl⟩ (by rw [List.length_map]; omega)
    · rintro D H' B2 acc sB ⟨zs, rfl, hz⟩ w
      rw [Int.toNat_natCast] at hz
      have hS2 := sB.seq hS
      walk_at "x"
      refine ⟨(by show 0 ≤ sizeLine; decide), fun p2 n2 => ?_⟩
      have w4 := w.new (o := .lst []) n2
      have nD := w4.none 1 rfl
      have np := w4.none 0 rfl
      have rest : ∀ (B : Hp) (ts : List Addr) (fs : List Tr) (v7 v8 v9 : Option V) (H' : Hp), Same H B → Own B [(p2, .lst (ts.map V.ref)), (D, .lst (zs.map V.int))] H' → TrAll B ts fs → (∀ u ∈ ts, H u = none) → (kd = 2 → pairsOk m fs ∧ fs.length ≤ 36) → (kd ≠ 2 → fs = []) →
          tSeq (tIfS (tTest (tOp (rEqX K) (tOp rModX (tVar 3) (tC (V.int 5))) (tC (V.int 3)))) (tAsg (tCB rMax2 (tCons (tC (V.int 1)) (tCons (tCB rAbs (tCons (tOp (rIx K) (tVar 5) (tC (V.int 0))) tNil)) tNil))) (gSub (tVar 5) (tC (V.int 0)) rSetL)) tNext) (tRet (tTup (tCons (tOp rModX (tVar 3) (tC (V.int 5))) (tCons (tVar 5) (tCons (tVar 6) tNil))))) { nx := fun x H' => Q V.non H', rt := Q }
            [some (.ref a), some (.int at_), some (.int (m : Int)), some (.int c), some (.int (sz : Int)), some (.ref D), some (.ref p2), v7, v8, v9] H' := fun B ts fs v7 v8 v9 H' sB w hA hn ok2 no2 => by
        have fin : ∀ (zs : List Int) (H' : Hp), zs.length = sz → (kd = 3 → 1 ≤ gi zs 0) → Own B [(p2, .lst (ts.map V.ref)), (D, .lst (zs.map V.int))] H' → tRet (tTup (tCons (tOp rModX (tVar 3) (tC (V.int 5))) (tCons (tVar 5) (tCons (tVar 6) tNil)))) { nx := fun x H' => Q V.non H', rt := Q }
            [some (.ref a), some (.int at_), some (.int (m : Int)), some (.int c), some (.int (sz : Int)), some (.ref D), some (.ref p2), v7, v8, v9] H' := fun zs H' hz h3 w => by
          walk_at "x"
          refine x_modP (by decide) ?_
          rw [hk]
          walk_at "x"
          refine ⟨(by show 3 ≤ sizeLine; decide), fun t nt => ?_⟩
          have w5 := w.new (o := .tup [.int (kd : Int), .ref D, .ref p2]) nt
          refine k ⟨kd, zs, fs⟩ t D p2 ts _ ?_ (sB.free (w5.none 0 rfl)) (sB.free (w5.none 2 rfl)) (sB.free (w5.none 1 rfl)) hn (sB.trans w5.ex) ⟨w5.get 0 rfl, w5.get 2 rfl, w5.get 1 rfl, hA.same w5.ex⟩
          have : kd = 0 ∨ kd = 1 ∨ kd = 2 ∨ kd = 3 ∨ kd = 4 := by omega
          rcases this with e | e | e | e | e
          · exact .inl ⟨e, List.length_eq_zero_iff.mp (hz.trans (hsz0 e)), no2 (by omega)⟩
          · exact .inr (.inl ⟨e, hz.trans (hsz1 e), no2 (by omega)⟩)
          · exact .inr (.inr (.inl ⟨e, List.length_eq_zero_iff.mp (hz.trans (hsz2 e)), ok2 e⟩))
          · exact .inr (.inr (.inr (.inl ⟨e, hz.trans (hsz3 e), h3 e, no2 (by omega)⟩)))
          · exact .inr (.inr (.inr (.inr ⟨e, hz.trans (hsz4 e), no2 (by omega)⟩)))
        refine x_seq ?_
        walk_at "x"
        refine x_modP (by decide) ?_
        rw [hk]
        walk_at "x"
        refine ite2 (fun c3 => ?_) (fun c3 => ?_)
        · have c3 : kd = 3 := by have := of_decide_eq_true c3; omega
          have hz3 : 0 < zs.length := by have := hsz3 c3; omega
          walk_at "x"
          refine x_ixXL (w.sq 1 rfl) (at_int (ns := zs) (by decide) (by show (0 : Int) < _; omega)) ?_
          walk_at "x"
          refine x_setL (w.get 1 rfl) (by rw [List.length_map]; exact ixN_int (by decide) (by omega)) ?_
          rw [map_set_int]
          refine fin _ _ (by rw [List.length_set]; exact hz) (fun _ => ?_) (w.put (o' := .lst ((zs.set 0 _).map V.int)) 1 rfl)
          unfold gi
          rw [List.getD_eq_getElem?_getD, show (0 : Int).toNat = 0 from rfl, List.getElem?_set_self hz3]
          show 1 ≤ (if _ > (1 : Int) then _ else (1 : Int))
          split <;> omega
        · exact fin zs H' hz (fun e => absurd (decide_eq_true (by rw [e] <;> rfl)) c3) w
      walk_at "x"
      refine x_modP (by decide) ?_
      rw [hk]
      walk_at "x"
      by_cases c2 : kd = 2
      · rw [decide_eq_true (show (kd : Int) = 2 by omega)]
        refine iteT ?_
        have hw : ∀ {n : Nat}, n ≤ 6 → (n : Int) * 6 ≤ 36 := fun h => by omega
        walk_at "x"
        refine ⟨_, rfl, by omega, by omega, for_r0 (n := (m : Int)) (fun i σ' H' => ∃ (B : Hp) (ts : List Addr) (fs : List Tr), (∃ v7 v8 v9, σ' = [some (.ref a), some (.int at_), some (.int (m : Int)), some (.int c), some (.int (sz : Int)), some (.ref D), some (.ref p2), v7, v8, v9]) ∧ Same H B ∧ Own B [(p2, .lst (ts.map V.ref)), (D, .lst (zs.map V.int))] H' ∧ TrAll B ts fs ∧ (∀ t ∈ ts, H t = none) ∧ fs.length ≤ 6 * i ∧ AheadR m i (i + 1) fs)
          ⟨_, [], [], ⟨_, _, _, rfl⟩, sB, w4, .nil, fun _ h => (nomatch h), Nat.zero_le _, ⟨fun _ h => (nomatch h), List.nodup_nil⟩⟩ ?_ ?_⟩
        · rintro i σ' H' hi ⟨B, ts, fs, ⟨v7, v8, v9, rfl⟩, sB, w, hA, hn, hfl, ah⟩
          have hi6 : i < 6 := by omega
          walk_at "x"
          refine ⟨_, _, rfl, ⟨by omega, by omega, by omega, by omega⟩, for_range (lo := (i : Int) + 1) (n := ((m : Int) - ((i : Int) + 1)).toNat) (fun j σ' H' => ∃ (B : Hp) (ts : List Addr) (fs : List Tr), (∃ v8 v9, σ' = [some (.ref a), some (.int at_), some (.int (m : Int)), some (.int c), some (.int (sz : Int)), some (.ref D), some (.ref p2), some (.int (i : Int)), v8, v9]) ∧ Same H B ∧ Own B [(p2, .lst (ts.map V.ref)), (D, .lst (zs.map V.int))] H' ∧ TrAll B ts fs ∧ (∀ t ∈ ts, H t = none) ∧ fs.length ≤ 6 * i + j ∧ AheadR m i (i + 1 + j) fs)
            ⟨B, ts, fs, ⟨_, _, rfl⟩, sB, w, hA, hn, hfl, ah⟩ ?_ ?_⟩
          · rintro j σ' H' hj ⟨B, ts, fs, ⟨v8, v9, rfl⟩, sB, w, hA, hn, hfl, ah⟩
            have hjm : i + 1 + j < m := by omega
            rw [show (i : Int) + 1 + (j : Int) = ((i + 1 + j : Nat) : Int) by omega]
            have ho : i < i + 1 + j := by omega
            have hb : fs.length ≤ 36 := by omega
            have hs1 : i + 1 + (j + 1) = i + 1 + j + 1 := by omega
            rw [hs1]
            have hfl2 : fs.length + 1 ≤ 6 * i + (j + 1) := by omega
            have hfl3 : fs.length ≤ 6 * i + (j + 1) := by omega
            generalize i + 1 + j = o at *
            walk_at "x"
            refine x_divP (by decide) (by decide) ?_
            walk_at "x"
            have ho6 : o < 6 := by omega
            refine x_mulI (.of_left (intBits_le_64 (by omega) (by omega))) ?_
            walk_at "x"
            have sq0 : 0 ≤ (o : Int) * ((o : Int) - 1) := Int.mul_nonneg (by omega) (by omega)
            refine x_divP (by decide) (by decide) ?_
            walk_at "x"
            refine x_shr (by omega) ?_
            walk_at "x"
            refine ite2 (fun _ => ?_) (fun _ => ?_)
            · walk_at "x"
              refine ⟨x_tyL (w.get 0 rfl), ?_⟩
              walk_at "x"
              refine x_lenL (w.sq 0 rfl) ?_
              rw [List.length_map, hA.len]
              walk_at "x"
              refine ⟨a, ns, _, rfl, w.seq (sB.seq hS), hl, by omega, by omega, fun y H4 s4 => ?_⟩
              have w4 := w.ext s4
              refine ⟨y, rfl, fun y2 H5 s5 => ?_⟩
              have w5 := w4.ext s5
              walk_at "x"
              refine ⟨(by show 3 ≤ sizeLine; decide), fun t nt => ?_⟩
              have w6 := (w5.new (o := .tup (trV (i, o, y2))) nt).freeze
              have nB := w5.fresh nt
              have sB2 := same_upd (o := .tup (trV (i, o, y2))) nB
              walk_at "x"
              refine x_append (w6.get 0 rfl) (by rw [List.length_map, hA.len]; exact Nat.lt_of_lt_of_le (show fs.length < 1000 by omega) (by decide)) ?_
              have w7 := w6.put (o' := .lst (ts.map V.ref ++ [.ref t])) 0 rfl
              refine ⟨_, ts ++ [t], fs ++ [(i, o, y2)], ⟨_, _, rfl⟩, sB.trans sB2, by rw [List.map_append]; exact w7, (hA.same sB2).snoc upd_same, fun u hu => ?_, by rw [List.length_append]; exact hfl2, ah.snoc ho hjm y2⟩
              rcases List.mem_append.mp hu with h | h
              · exact hn u h
              · rw [List.mem_singleton] at h; subst h; exact sB.free nB
            · exact ⟨B, ts, fs, ⟨_, _, rfl⟩, sB, w, hA, hn, hfl3, ah.skip⟩
          · rintro σ' H' ⟨B, ts, fs, ⟨v8, v9, rfl⟩, sB, w, hA, hn, hfl, ah⟩
            exact ⟨B, ts, fs, ⟨_, _, _, rfl⟩, sB, w, hA, hn, by omega, ah.next (by omega)⟩
        · rintro σ' H' ⟨B, ts, fs, ⟨v7, v8, v9, rfl⟩, sB, w, hA, hn, hfl, ah⟩
          rw [Int.toNat_natCast] at hfl
          exact rest B ts fs _ _ _ _ sB w hA hn (fun _ => ⟨ah.ok, by omega⟩) (fun e => absurd c2 e)
      · rw [decide_eq_false (show ¬ (kd : Int) = 2 by omega)]
        refine iteF ?_
        exact rest _ [] [] _ _ _ _ sB w4 .nil (fun _ h => nomatch h) (fun e => absurd e c2) (fun _ => rfl)

/-! ### _law_rules -/
def RetRows (m : Nat) (H : Hp) (Q : VK) : Prop := ∀ (p : Addr) (ts : List Addr) (rs : List DRow) (H' : Hp), Same H H' → H' p = some (.lst (ts.map V.ref)) → RowsAt H' ts rs → (∀ r ∈ rs, rowOk m r) → rs.length ≤ 12 → (4 < m → rs.length ≤ 5) → Q (.ref p) H'
def sp__law_rules (K : PySem.W.Frag) : Sp := fun vs H Q _ => ∃ (a : Addr) (ns : List Int) (m : Nat), vs = [.ref a, .int (m : Int)] ∧ SqL K H a (ns.map V.int) ∧ ns.length ≤ 63 ∧ 1 ≤ m ∧ m ≤ 6 ∧ RetRows m H Q
theorem ok__law_rules (T : Txt K mg A) : FnOk P w K mg base (L2.CX P w) 3 A.a__law_rules A.d__law_rules ["_law_script", "_law_many"] (sp__law_rules K) := by
  refine T.F__law_rules.okX sc__law_rules (fun vs H Q E h => ?_) (fun cdv A0 outer s H vs Q E hr h => ?_)
  · obtain ⟨a, ns, m, rfl, _⟩ := h; rfl
  · obtain ⟨a, ns, m, rfl, hS, hl, m1, m6, k⟩ := h
    refine ⟨_, (pss_cons (ps_set (i := 2) sc__law_rules.nd rfl (.inl rfl) (pe_lst pa_nil))
      (pss_cons (ps_set (i := 3) sc__law_rules.nd rfl (.inl rfl) pe_int)
      (pss_cons (ps_set (i := 4) sc__law_rules.nd rfl (.inl rfl) (pe_ix (ix_seqK (K := K) rfl) (pe_lst (pa_cons pe_int (pa_cons pe_int pa_nil))) (pe_callTy call_int1X (by rfl) T.z_int (by decide +kernel) (pa_cons (pe_cmpR op_gtX (pv 1) pe_int (nomark _)) pa_nil)) (fun _ _ => rfl)))
      (pss_cons (ps_while (passes_of rfl) (PW.pt (pw_and (pt_cmpR op_ltX (pv 3) (pe_callB (call_min2X rfl) (by rfl) T.z_min (by decide +kernel) (pa_cons (pe_callB (call_lenK (K := K) rfl) (by rfl) T.z_len (by decide +kernel) (pa_cons (pv 0) pa_nil)) (pa_cons pe_int pa_nil))) (nomark _)) (pw_and1 (pt_cmpR op_ltX (pe_callB (call_lenK (K := K) rfl) (by rfl) T.z_len (by decide +kernel) (pa_cons (pv 2) pa_nil)) (pv 4) (nomark _))))) (pss_cons (ps_expr (pe_bm PySem.F.plainAttrs_list PySem.F.slot_list_append PySem.F.type_list_append mt_append (pv 2) (pa_cons (pe_call (ok__law_rule T) (hr.mono (by decide)) (by rfl) T.g__law_rule T.F__law_rule.kp T.b__law_rule .nil (passes_call (takes_of rfl rfl rfl rfl) (fun _ _ _ _ h => h)) (pa_cons (pv 0) (pa_cons (pv 3) (pa_cons (pv 1) pa_nil)))) pa_nil)))
      (pss_one (ps_set (i := 3) sc__law_rules.nd rfl (.inl rfl) (pe_op op_addX (pe_op op_addX (pe_op op_addX (pv 3) pe_int) (pe_callB (call_lenK (K := K) rfl) (by rfl) T.z_len (by decide +kernel) (pa_cons (pe_ix (ix_seqK (K := K) rfl) (pe_ix (ix_seqK (K := K) rfl) (pv 2) (pe_un un_neg pe_int) (fun _ _ => rfl)) pe_int (fun _ _ => rfl)) pa_nil))) (pe_callB (call_lenK (K := K) rfl) (by rfl) T.z_len (by decide +kernel) (pa_cons (pe_ix (ix_seqK (K := K) rfl) (pe_ix (ix_seqK (K := K) rfl) (pv 2) (pe_un un_neg pe_int) (fun _ _ => rfl)) pe_int (fun _ _ => rfl)) pa_nil)))))))
      (pss_one (ps_ret (pv 2))))))), ?_⟩
    walk_at "x"
    refine ⟨(by show 0 ≤ sizeLine; decide), fun p1 n1 => ?_⟩
    have w1 := (Own.start (H := H)).new (o := .lst []) n1
    walk_at "x"
    refine ⟨(by show 2 ≤ sizeLine; decide), fun p2 n2 => ?_⟩
    have w2 := w1.new (o := .lst [.int 12, .int 5]) n2
    walk_at "x"
    refine .inr ⟨_, rfl, ?_⟩
    obtain ⟨mo, hmo, hm12, hm5⟩ : ∃ mo : Nat, atI [V.int 12, .int 5] (if (decide ((4 : Int) < (m : Int))) = true then 1 else 0) = some (.int (mo : Int)) ∧ mo ≤ 12 ∧ (4 < m → mo ≤ 5) := by
      by_cases h : 4 < m
      · rw [decide_eq_true (show (4 : Int) < (m : Int) by omega), if_pos rfl]
        exact ⟨5, rfl, by decide, fun _ => by decide⟩
      · rw [decide_eq_false (show ¬ (4 : Int) < (m : Int) by omega), if_neg Bool.false_ne_true]
        exact ⟨12, rfl, by decide, fun h2 => absurd h2 h⟩
    refine x_ixXL (w2.sq 0 rfl) hmo ?_
    have w3 := w2.pop
    walk_at "x"
    refine x_while (fun k σ' H' => ∃ (B : Hp) (at_ : Int) (ts : List Addr) (rs : List DRow), σ' = [some (.ref a), some (.int (m : Int)), some (.ref p1), some (.int at_), some (.int (mo : Int))] ∧ Same H B ∧ Own B [(p1, .lst (ts.map V.ref))] H' ∧ RowsAt B ts rs ∧ (∀ r ∈ rs, rowOk m r) ∧ k = mo - rs.length ∧ rs.length ≤ mo ∧ 1 ≤ at_) mo ⟨H, 1, [], [], rfl, Same.refl _, w3, .nil, fun _ h => (nomatch h), rfl, Nat.zero_le _, by decide⟩ ?_
    rintro k' σ' H' ⟨B, at_, ts, rs, rfl, sB, w, hA, ok, rfl, hle, ha1⟩
    have htl := hA.len
    have fin : Q (.ref p1) H' := k p1 ts rs H' (sB.trans w.ex) (w.get 0 rfl) (hA.same w.ex) ok (by omega) (fun h => by have := hm5 h; omega)
    walk_at "x"
    refine x_lenL (w.seq (sB.seq hS)) ?_
    walk_at "x"
    rw [List.length_map]
    refine ite2 (fun c1 => ?_) (fun c1 => ?_)
    · have c1 := of_decide_eq_true c1
      have hat : at_ ≤ 200 := by
        by_cases z : (120 : Int) < (ns.length : Int)
        · rw [if_pos z] at c1; omega
        · rw [if_neg z] at c1; omega
      walk_at "x"
      refine x_lenL (w.sq 0 rfl) ?_
      rw [List.length_map]
      walk_at "x"
      refine ite2 (fun c2 => ?_) (fun c2 => ?_)
      · have c2 := of_decide_eq_true c2
        refine x_N ?_
        walk_at "x"
        refine ⟨x_tyL (w.get 0 rfl), ?_⟩
        walk_at "x"
        refine ⟨a, ns, at_, m, rfl, w.seq (sB.seq hS), hl, by omega, by omega, m1, m6, fun r t l q us H4 okr nt nl nq nu s4 c4 => ?_⟩
        obtain ⟨B2, sB2, w4, R4⟩ := own_row w nt nl nq nu s4 c4
        walk_at "x"
        refine x_append (w4.get 0 rfl) (by rw [List.length_map]; exact Nat.lt_of_lt_of_le (show ts.length < 1000 by omega) (by decide)) ?_
        have w5 := w4.put (o' := .lst (ts.map V.ref ++ [.ref t])) 0 rfl
        rw [show ts.map V.ref ++ [.ref t] = (ts ++ [t]).map V.ref by rw [List.map_append] <;> rfl] at w5 ⊢
        obtain ⟨l2, q2, us2, c2'⟩ := R4
        have eR : atI ((ts ++ [t]).map V.ref) (-1) = some (.ref t) := at_lastR
        have sB5 := w5.ex
        walk_at "x"
        refine x_ixXL (w5.sq 0 rfl) eR ?_
        walk_at "x"
        refine x_ixXT (SqT.of (sB5 _ _ c2'.t)) (atI_nat (j := 1) rfl) ?_
        walk_at "x"
        refine x_lenL (SqL.of (sB5 _ _ c2'.l)) ?_
        walk_at "x"
        refine x_ixXL (w5.sq 0 rfl) eR ?_
        walk_at "x"
        refine x_ixXT (SqT.of (sB5 _ _ c2'.t)) (atI_nat (j := 2) rfl) ?_
        walk_at "x"
        refine x_lenL (SqL.of (sB5 _ _ c2'.q)) ?_
        walk_at "x"
        refine ⟨mo - (rs ++ [r]).length, by rw [List.length_append]; show mo - (rs.length + 1) < _; omega, B2, _, ts ++ [t], rs ++ [r], rfl, sB.trans sB2, w5, (hA.same sB2).snoc ⟨l2, q2, us2, c2'⟩, fun r' hr' => ?_, rfl, by rw [List.length_append]; show rs.length + 1 ≤ _; omega, by omega⟩
        rcases List.mem_append.mp hr' with h | h
        · exact ok r' h
        · rw [List.mem_singleton] at h; subst h; exact okr
      · exact x_ret (x_var rfl fin)
    · rw [if_neg Bool.false_ne_true]; exact x_ret (x_var rfl fin)

/-! ### _law_earned -/
def sp__law_earned (K : PySem.W.Frag) : Sp := fun vs H Q _ => ∃ (t : Addr) (r : DRow) (m g : Nat), vs = [.ref t, .int (g : Int)] ∧ RowAt H t r ∧ rowOk m r ∧ m ≤ 6 ∧ g < 2 ^ m ∧ RetV (.int (rowF r g)) H Q
theorem bit_sum (zs : List Int) (g : Nat) (i : Nat) : ((List.range i).filter fun j => bitOn j g).map (fun j : Nat => V.int (gi zs (j : Int))) = (((List.range i).filter fun j => bitOn j g).map fun j : Nat => gi zs (j : Int)).map V.int := by
  rw [List.map_map] <;> rfl
theorem ok__law_earned (T : Txt K mg A) : FnOk P w K mg base (L2.CX P w) 1 A.a__law_earned A.d__law_earned ["_law_row", "_law_group"] (sp__law_earned K) := by
  refine T.F__law_earned.okX sc__law_earned (fun vs H Q E h => ?_) (fun cdv A0 outer s H vs Q E hr h => ?_)
  · obtain ⟨t, r, m, g, rfl, _⟩ := h; rfl
  · obtain ⟨t, r, m, g, rfl, ⟨l, q, ts, c⟩, ok, m6, hg, k⟩ := h
    have hg64 : g < 64 := Nat.lt_of_lt_of_le hg (pow6 m6)
    have hL : SqL K H l (r.ns.map V.int) := SqL.of c.l
    have hQ : SqL K H q (ts.map V.ref) := SqL.of c.q
    have k' : ∀ z H', Same H H' → z = rowF r g → Q (.int z) H' := fun z H' s e => by subst e; exact k _ s
    refine ⟨_, (pss_cons (ps_asg (pv 0) (pg_tupK (K := K) (n := 3) rfl rfl (pgs_cons (pg_name (i := 2) sc__law_earned.nd rfl (.inl rfl)) (pgs_cons (pg_name (i := 3) sc__law_earned.nd rfl (.inl rfl)) (pgs_cons (pg_name (i := 4) sc__law_earned.nd rfl (.inl rfl)) pgs_nil)))))
      (pss_cons (ps_if (pt_cmpR (op_eqK (K := K) rfl hr.units) (pv 2) pe_int (nomark _)) (pss_one (ps_ret (pe_callB (cr_sumK (K := K) rfl rfl) (by rfl) T.z_sum (by decide +kernel) (pa_cons (pe_lc (own := [("_law_k", 6), ("_law_number_here", 7)]) rfl sc__law_earned.nd (pi_enumK (K := K) rfl (by rfl) T.z_enumerate (pa_cons (pv 3) pa_nil)) (blkOk_by (own := [("_law_k", 6), ("_law_number_here", 7)]) (N := N__law_earned) (sc := defScope s__law_earned) (by decide +kernel)) (fun _ _ _ _ _ => (pg_tupK (K := K) (n := 2) rfl rfl (pgs_cons (pg_name (i := 6) sc__law_earned.nd rfl (.inl rfl)) (pgs_cons (pg_name (i := 7) sc__law_earned.nd rfl (.inl rfl)) pgs_nil)))) (fun _ _ _ _ _ => (pts_one (pt_cmpR (op_eqK (K := K) rfl hr.units) (pe_op op_andX (pe_op op_shrX (pv 1) (pv 6)) pe_int) pe_int (nomark _)))) (fun _ _ _ _ _ => (pv 7))) pa_nil)))) pss_nil)
      (pss_cons (ps_if (pt_cmpR (op_eqK (K := K) rfl hr.units) (pv 2) pe_int (nomark _)) (pss_one (ps_ret (pe_callB (cr_sumK (K := K) rfl rfl) (by rfl) T.z_sum (by decide +kernel) (pa_cons (pe_lc (own := [("_law_one", 8), ("_law_other", 9), ("_law_number_here", 7)]) rfl sc__law_earned.nd (pi_listK (K := K) rfl (pv 4)) (blkOk_by (own := [("_law_one", 8), ("_law_other", 9), ("_law_number_here", 7)]) (N := N__law_earned) (sc := defScope s__law_earned) (by decide +kernel)) (fun _ _ _ _ _ => (pg_tupK (K := K) (n := 3) rfl rfl (pgs_cons (pg_name (i := 8) sc__law_earned.nd rfl (.inl rfl)) (pgs_cons (pg_name (i := 9) sc__law_earned.nd rfl (.inl rfl)) (pgs_cons (pg_name (i := 7) sc__law_earned.nd rfl (.inl rfl)) pgs_nil))))) (fun _ _ _ _ _ => (pts_one (pt_cmpR (op_eqK (K := K) rfl hr.units) (pe_op op_andX (pe_op op_andX (pe_op op_shrX (pv 1) (pv 8)) (pe_op op_shrX (pv 1) (pv 9))) pe_int) pe_int (nomark _)))) (fun _ _ _ _ _ => (pv 7))) pa_nil)))) pss_nil)
      (pss_cons (ps_if (pt_cmpR (op_eqK (K := K) rfl hr.units) (pv 2) pe_int (nomark _)) (pss_cons (ps_set (i := 5) sc__law_earned.nd rfl (.inl rfl) (pe_callB (cr_sumK (K := K) rfl rfl) (by rfl) T.z_sum (by decide +kernel) (pa_cons (pe_lc (own := [("_law_k", 6), ("_law_number_here", 7)]) rfl sc__law_earned.nd (pi_enumK (K := K) rfl (by rfl) T.z_enumerate (pa_cons (pe_slice (sl_listK (K := K) rfl) (pv 3) (po_some pe_int) po_none) pa_nil)) (blkOk_by (own := [("_law_k", 6), ("_law_number_here", 7)]) (N := N__law_earned) (sc := defScope s__law_earned) (by decide +kernel)) (fun _ _ _ _ _ => (pg_tupK (K := K) (n := 2) rfl rfl (pgs_cons (pg_name (i := 6) sc__law_earned.nd rfl (.inl rfl)) (pgs_cons (pg_name (i := 7) sc__law_earned.nd rfl (.inl rfl)) pgs_nil)))) (fun _ _ _ _ _ => (pts_one (pt_cmpR (op_eqK (K := K) rfl hr.units) (pe_op op_andX (pe_op op_shrX (pv 1) (pv 6)) pe_int) pe_int (nomark _)))) (fun _ _ _ _ _ => (pv 7))) pa_nil)))
      (pss_one (ps_ret (pe_ix (ix_seqK (K := K) rfl) (pe_lst (pa_cons pe_int (pa_cons (pe_ix (ix_seqK (K := K) rfl) (pv 3) pe_int (fun _ _ => rfl)) pa_nil))) (pe_callTy call_int1X (by rfl) T.z_int (by decide +kernel) (pa_cons (pe_cmpR op_geX (pv 5) (pe_ix (ix_seqK (K := K) rfl) (pv 3) pe_int (fun _ _ => rfl)) (nomark _)) pa_nil)) (fun _ _ => rfl))))) pss_nil)
      (pss_cons (ps_if (PW.pt (pw_and (pt_cmpR (op_eqK (K := K) rfl hr.units) (pv 2) pe_int (nomark _)) (pw_and1 (pt_cmpR op_gtX (pv 1) pe_int (nomark _))))) (pss_one (ps_ret (pe_ix (ix_seqK (K := K) rfl) (pv 3) (pe_op op_subX (pv 1) pe_int) (fun _ _ => rfl)))) pss_nil)
      (pss_one (ps_ret pe_int))))))), ?_⟩
    walk_at "x"
    refine x_asgG ?_
    walk_at "x"
    refine x_gt (SqT.of c.t) rfl ?_
    walk_at "x"
    have kd5 : r.kind = 0 ∨ r.kind = 1 ∨ r.kind = 2 ∨ r.kind = 3 ∨ r.kind = 4 := by rcases ok with h | h | h | h | h <;> omega
    have hp := pow6 m6
    have hn64 : r.ns.length ≤ 64 := by
      rcases ok with h | h | h | h | h
      · rw [h.2.1]; exact Nat.zero_le _
      · omega
      · rw [h.2.1]; exact Nat.zero_le _
      · omega
      · omega
    rcases kd5 with e | e | e | e | e
    · rw [show (r.kind : Int) = 0 by omega]
      refine iteF ?_
      walk_at "x"
      refine iteF ?_
      walk_at "x"
      refine iteF ?_
      walk_at "x"
      refine iteF ?_
      refine iteF ?_
      walk_at "x"
      exact k' _ _ (Same.refl _) (by unfold rowF; simp [e])
    · rw [show (r.kind : Int) = 1 by omega]
      have hln : r.ns.length = m := by rcases ok with h | h | h | h | h <;> omega
      refine iteT ?_
      walk_at "x"
      refine ⟨l, r.ns.map V.int, rfl, hL, cp_enum (fun i => ((List.range i).filter fun j => bitOn j g).map fun j : Nat => V.int (gi r.ns (j : Int))) (Own.start (H := H)) hL rfl ?_ ?_⟩
      · intro D2 i x Tt H6 hx p6 nT
        obtain ⟨z, hz, rfl⟩ := map_at hx
        have hi : i < 6 := by have := (List.getElem?_eq_some_iff.mp hz).1; omega
        have p7 := Own.ext p6 (same_upd (o := .tup [.int (i : Int), .int z]) nT)
        have gz : gi r.ns (i : Int) = z := by
          unfold gi
          rw [List.getD_eq_getElem?_getD, Int.toNat_natCast, hz] <;> rfl
        refine x_gt (SqT.of upd_same) rfl ?_
        walk_at "x"
        refine ⟨rfl, ?_⟩
        walk_at "x"
        refine x_shr (by omega) ?_
        walk_at "x"
        rw [bit_int hi hg64]
        cases cb : bitOn i g with
        | true =>
          refine iteT ?_
          walk_at "x"
          refine cp_fin (F := fun i => ((List.range i).filter fun j => bitOn j g).map fun j : Nat => V.int (gi r.ns (j : Int))) p7 ?_ (by rw [List.length_map]; have := filter_len (fun j => bitOn j g) i; omega)
          rw [filter_yes (p := fun j => bitOn j g) cb, gz]
        | false => exact iteF (cp_no p7 (filter_no (p := fun j => bitOn j g) cb _))
      · intro D2 H6 w6
        walk_at "x"
        rw [List.length_map, bit_sum] at w6
        refine x_sum (w6.sq 0 rfl) ?_
        rw [hands_sum]
        exact k' _ _ w6.ex (by unfold rowF; rw [if_pos e] <;> rfl)
    · rw [show (r.kind : Int) = 2 by omega]
      have hok : pairsOk m r.ps ∧ r.ps.length ≤ 36 := by
        rcases ok with h | h | h | h | h
        · omega
        · omega
        · exact h.2.2
        · omega
        · omega
      refine iteF ?_
      walk_at "x"
      refine iteT ?_
      walk_at "x"
      refine ⟨q, rfl, ⟨_, hQ⟩, cp_list (xs := ts.map V.ref) (fun i => ((r.ps.take i).filter fun t => both t g).map fun t => V.int t.2.2) (Own.start (H := H)) hQ rfl ?_ ?_⟩
      · intro D2 i x H6 hx p6
        obtain ⟨u, hu, rfl⟩ := map_at hx
        obtain ⟨tr, htr, hT⟩ := c.p.at hu
        obtain ⟨p1, p2⟩ := hok.1.1 tr (List.mem_of_getElem? htr)
        have hlen := (List.getElem?_eq_some_iff.mp htr).1
        refine x_gt (SqT.of (Own.ex p6 _ _ hT)) rfl ?_
        walk_at "x"
        refine ⟨rfl, ?_⟩
        walk_at "x"
        refine x_shr (by omega) ?_
        walk_at "x"
        refine x_shr (by omega) ?_
        walk_at "x"
        rw [both_int (by omega) (by omega) hg64]
        cases cb : (bitOn tr.1 g && bitOn tr.2.1 g) with
        | true =>
          refine iteT ?_
          walk_at "x"
          refine cp_fin (F := fun i => ((r.ps.take i).filter fun t => both t g).map fun t => V.int t.2.2) p6 ?_ (by rw [List.length_map]; have := List.length_filter_le (fun t => both t g) (r.ps.take i); have := List.length_take_le i r.ps; omega)
          rw [List.take_add_one, htr, List.filter_append, List.map_append]
          have ff : (some tr).toList.filter (fun t => both t g) = [tr] := by
            show [tr].filter (fun t => both t g) = [tr]
            rw [List.filter_cons_of_pos (p := fun t => both t g) cb] <;> rfl
          rw [ff] <;> rfl
        | false =>
          refine iteF (cp_no p6 ?_)
          show ((r.ps.take (i + 1)).filter fun t => both t g).map _ = _
          rw [List.take_add_one, htr, List.filter_append, List.map_append]
          show _ ++ ([tr].filter fun t => both t g).map _ = _
          rw [List.filter_cons_of_neg (p := fun t => both t g) (by rw [show both tr g = false from cb]; exact Bool.false_ne_true)]
          exact List.append_nil _
      · intro D2 H6 w6
        walk_at "x"
        rw [List.length_map, c.p.len, List.take_length, show ((r.ps.filter fun t => both t g).map fun t => V.int t.2.2) = ((r.ps.filter fun t => both t g).map fun t => t.2.2).map V.int by rw [List.map_map] <;> rfl] at w6
        refine x_sum (w6.sq 0 rfl) ?_
        rw [pairs_sum]
        exact k' _ _ w6.ex (by unfold rowF; rw [if_neg (by omega), if_pos e])
    · rw [show (r.kind : Int) = 3 by omega]
      have hln : r.ns.length = m + 2 := by rcases ok with h | h | h | h | h <;> omega
      refine iteF ?_
      walk_at "x"
      refine iteF ?_
      walk_at "x"
      refine iteT ?_
      walk_at "x"
      refine ⟨l, _, rfl, hL, fun p1 n1 => ?_⟩
      rw [show (2 : Int) = ((2 : Nat) : Int) from rfl, cut_from, ← List.map_drop]
      have w1 := (Own.start (H := H)).new (o := .lst ((r.ns.drop 2).map V.int)) n1
      have w1f := w1.freeze
      have hP : SqL K (upd H p1 (.lst ((r.ns.drop 2).map V.int))) p1 ((r.ns.drop 2).map V.int) := SqL.of upd_same
      have hdl : (r.ns.drop 2).length = m := by rw [List.length_drop]; omega
      have sP := same_upd (o := .lst ((r.ns.drop 2).map V.int)) n1
      walk_at "x"
      refine ⟨p1, (r.ns.drop 2).map V.int, rfl, hP, cp_enum (fun i => ((List.range i).filter fun j => bitOn j g).map fun j : Nat => V.int (gi (r.ns.drop 2) (j : Int))) w1f hP rfl ?_ ?_⟩
      · intro D2 i x Tt H6 hx p6 nT
        obtain ⟨z, hz, rfl⟩ := map_at hx
        have hi : i < 6 := by have := (List.getElem?_eq_some_iff.mp hz).1; omega
        have p7 := Own.ext p6 (same_upd (o := .tup [.int (i : Int), .int z]) nT)
        have gz : gi (r.ns.drop 2) (i : Int) = z := by
          unfold gi
          rw [List.getD_eq_getElem?_getD, Int.toNat_natCast, hz] <;> rfl
        refine x_gt (SqT.of upd_same) rfl ?_
        walk_at "x"
        refine ⟨rfl, ?_⟩
        walk_at "x"
        refine x_shr (by omega) ?_
        walk_at "x"
        rw [bit_int hi hg64]
        cases cb : bitOn i g with
        | true =>
          refine iteT ?_
          walk_at "x"
          refine cp_fin (F := fun i => ((List.range i).filter fun j => bitOn j g).map fun j : Nat => V.int (gi (r.ns.drop 2) (j : Int))) p7 ?_ (by rw [List.length_map]; have := filter_len (fun j => bitOn j g) i; omega)
          rw [filter_yes (p := fun j => bitOn j g) cb, gz]
        | false => exact iteF (cp_no p7 (filter_no (p := fun j => bitOn j g) cb _))
      · intro D2 H6 w6
        walk_at "x"
        rw [List.length_map, bit_sum] at w6
        refine x_sum (w6.sq 0 rfl) ?_
        rw [hands_sum]
        walk_at "x"
        refine x_ixXL (w6.seq (sP.seq hL)) (at_int (ns := r.ns) (by decide) (by show (1 : Int) < _; omega)) ?_
        walk_at "x"
        refine ⟨(by show 2 ≤ sizeLine; decide), fun p2 n2 => ?_⟩
        have w7 := w6.new (o := .lst [.int 0, .int (gi r.ns 1)]) n2
        walk_at "x"
        refine x_ixXL (w7.seq (sP.seq hL)) (at_int (ns := r.ns) (by decide) (by show (0 : Int) < _; omega)) ?_
        walk_at "x"
        refine .inr ⟨_, rfl, ?_⟩
        have er : rowF r g = if gi r.ns 0 ≤ sumTo (r.ns.drop 2) g (r.ns.drop 2).length then gi r.ns 1 else 0 := by
          unfold rowF
          rw [if_neg (by omega), if_neg (by omega), if_pos e] <;> rfl
        by_cases cc : gi r.ns 0 ≤ sumTo (r.ns.drop 2) g (r.ns.drop 2).length
        · rw [decide_eq_true cc, if_pos rfl]
          rw [if_pos cc] at er
          refine x_ixXL (w7.sq 0 rfl) (atI_nat (j := 1) rfl) ?_
          exact k' _ _ (sP.trans w7.ex) er.symm
        · rw [decide_eq_false cc, if_neg Bool.false_ne_true]
          rw [if_neg cc] at er
          refine x_ixXL (w7.sq 0 rfl) (atI_nat (j := 0) rfl) ?_
          exact k' _ _ (sP.trans w7.ex) er.symm
    · rw [show (r.kind : Int) = 4 by omega]
      have hln : r.ns.length + 1 = 2 ^ m := by
        have := Nat.two_pow_pos m
        rcases ok with h | h | h | h | h <;> omega
      refine iteF ?_
      walk_at "x"
      refine iteF ?_
      walk_at "x"
      refine iteF ?_
      walk_at "x"
      refine iteT ?_
      walk_at "x"
      have er : rowF r g = fn (0 :: r.ns) g := by
        unfold rowF
        rw [if_neg (by omega), if_neg (by omega), if_neg (by omega), if_pos e]
      refine ite2 (fun cg => ?_) (fun cg => ?_)
      · have cg := of_decide_eq_true cg
        walk_at "x"
        refine x_ixXL hL (at_int (ns := r.ns) (by omega) (by omega)) ?_
        refine k' _ _ (Same.refl _) ?_
        rw [er]
        obtain ⟨g', rfl⟩ : ∃ g', g = g' + 1 := ⟨g - 1, by omega⟩
        unfold fn gi
        rw [show ((g' + 1 : Nat) : Int) - 1 = (g' : Int) by omega, Int.toNat_natCast, Int.toNat_natCast]
        rfl
      · have : g = 0 := by
          refine Nat.eq_zero_of_not_pos fun h => cg (decide_eq_true (by omega))
        subst this
        walk_at "x"
        refine k' _ _ (Same.refl _) ?_
        rw [er]
        rfl

/-! ### _law_object -/
theorem tab_cons {zs : List Int} {m : Nat} (h1 : 1 ≤ m) (h6 : m ≤ 6) (h : zs.length = 2 ^ m - 1) : Tab (0 :: zs) m := ⟨by rw [List.length_cons, h]; have := Nat.two_pow_pos m; omega, h1, h6, rfl⟩
theorem set_lastR {ts : List Addr} {t u : Addr} : ((ts ++ [t]).map V.ref).set ts.length (.ref u) = (ts ++ [u]).map V.ref := by
  rw [List.map_append, List.map_append, List.set_append_right _ _ (by rw [List.length_map]; exact Nat.le_refl _), List.length_map, Nat.sub_self] <;> rfl
theorem ixN_lastR {ts : List Addr} {t : Addr} : ixN ((ts ++ [t]).map V.ref).length (-1) = some ts.length := by
  rw [List.length_map, ixN_last (by rw [List.length_append]; exact Nat.succ_pos _), List.length_append] <;> rfl
def sp__law_object (A : Ads) (K : PySem.W.Frag) : Sp := fun vs H Q _ => ∃ (t b : Addr) (r : DRow) (m : Nat) (B : Hp) (cs : Cells) (hs : List Addr), vs = [.ref t, .int (m : Int), .ref b] ∧ Own B ((b, .lst (hs.map V.ref)) :: cs) H ∧ RowAt B t r ∧ rowOk m r ∧ 1 ≤ m ∧ m ≤ 6 ∧ hs.length ≤ 100 ∧
  ∀ (x l : Addr) (zs : List V) (B2 H' : Hp), Same B B2 → Own B2 ((b, .lst ((hs ++ [l]).map V.ref)) :: (l, .lst zs) :: cs) H' → RuleAt A K B2 x m (rowF r) → Q (.ref x) H'
theorem ok__law_object (T : Txt K mg A) : FnOk P w K mg base (L2.CX P w) 7 A.a__law_object A.d__law_object ["_law_row", "_law_many", "_law_handed"] (sp__law_object A K) := by
  refine T.F__law_object.okX sc__law_object (fun vs H Q E h => ?_) (fun cdv A0 outer s H vs Q E hr h => ?_)
  · obtain ⟨t, b, r, m, B, cs, hs, rfl, _⟩ := h; rfl
  · obtain ⟨t, b, r, m, B, cs, hs, rfl, w, ⟨l, q, ts, c⟩, ok, m1, m6, hh, k⟩ := h
    have hp := pow6 m6
    have hpp := Nat.two_pow_pos m
    have kd5 : r.kind = 0 ∨ r.kind = 1 ∨ r.kind = 2 ∨ r.kind = 3 ∨ r.kind = 4 := by rcases ok with h | h | h | h | h <;> omega
    have hn64 : r.ns.length ≤ 64 := by
      rcases ok with h | h | h | h | h
      · rw [h.2.1]; exact Nat.zero_le _
      · omega
      · rw [h.2.1]; exact Nat.zero_le _
      · omega
      · omega
    have hL : SqL K B l (r.ns.map V.int) := SqL.of c.l
    have hQ : SqL K B q (ts.map V.ref) := SqL.of c.q
    refine ⟨_, (pss_cons (ps_asg (pv 0) (pg_tupK (K := K) (n := 3) rfl rfl (pgs_cons (pg_name (i := 3) sc__law_object.nd rfl (.inl rfl)) (pgs_cons (pg_name (i := 4) sc__law_object.nd rfl (.inl rfl)) (pgs_cons (pg_name (i := 5) sc__law_object.nd rfl (.inl rfl)) pgs_nil)))))
      (pss_cons (ps_expr (pe_bm PySem.F.plainAttrs_list PySem.F.slot_list_append PySem.F.type_list_append mt_append (pv 2) (pa_cons (pe_callTy (call_listK (K := K) rfl) (by rfl) T.z_list (by decide +kernel) (pa_cons (pv 4) pa_nil)) pa_nil)))
      (pss_cons (ps_if (pt_cmpR (op_eqK (K := K) rfl hr.units) (pv 3) pe_int (nomark _)) (pss_one (ps_ret (pe_make T.mk_Own (ok_Own___init__ T) (hr.mono (by decide)) (by rfl) T.g_Own T.b_Own___init__ .nil (passes_call (takes_of rfl rfl rfl rfl) (fun _ _ _ _ h => h)) (pa_cons (pe_ix (ix_seqK (K := K) rfl) (pv 2) (pe_un un_neg pe_int) (fun _ _ => rfl)) pa_nil)))) pss_nil)
      (pss_cons (ps_if (pt_cmpR (op_eqK (K := K) rfl hr.units) (pv 3) pe_int (nomark _)) (pss_cons (ps_asg (pe_callTy (call_listK (K := K) rfl) (by rfl) T.z_list (by decide +kernel) (pa_cons (pv 5) pa_nil)) (pg_sub (pv 2) (pe_un un_neg pe_int) set_list))
      (pss_one (ps_ret (pe_make T.mk_Pairs (ok_Pairs___init__ T) (hr.mono (by decide)) (by rfl) T.g_Pairs T.b_Pairs___init__ .nil (passes_call (takes_of rfl rfl rfl rfl) (fun _ _ _ _ h => h)) (pa_cons (pv 1) (pa_cons (pe_ix (ix_seqK (K := K) rfl) (pv 2) (pe_un un_neg pe_int) (fun _ _ => rfl)) pa_nil)))))) pss_nil)
      (pss_cons (ps_if (pt_cmpR (op_eqK (K := K) rfl hr.units) (pv 3) pe_int (nomark _)) (pss_cons (ps_asg (pe_slice (sl_listK (K := K) rfl) (pv 4) (po_some pe_int) po_none) (pg_sub (pv 2) (pe_un un_neg pe_int) set_list))
      (pss_one (ps_ret (pe_make T.mk_Votes (ok_Votes___init__ T) (hr.mono (by decide)) (by rfl) T.g_Votes T.b_Votes___init__ .nil (passes_call (takes_of rfl rfl rfl rfl) (fun _ _ _ _ h => h)) (pa_cons (pe_ix (ix_seqK (K := K) rfl) (pv 4) pe_int (fun _ _ => rfl)) (pa_cons (pe_ix (ix_seqK (K := K) rfl) (pv 4) pe_int (fun _ _ => rfl)) (pa_cons (pe_ix (ix_seqK (K := K) rfl) (pv 2) (pe_un un_neg pe_int) (fun _ _ => rfl)) pa_nil))))))) pss_nil)
      (pss_cons (ps_if (pt_cmpR (op_eqK (K := K) rfl hr.units) (pv 3) pe_int (nomark _)) (pss_cons (ps_asg (pe_op op_addX (pe_lst (pa_cons pe_int pa_nil)) (pv 4)) (pg_sub (pv 2) (pe_un un_neg pe_int) set_list))
      (pss_one (ps_ret (pe_make T.mk_Plain (ok_Plain___init__ T) (hr.mono (by decide)) (by rfl) T.g_Plain T.b_Plain___init__ .nil (passes_call (takes_of rfl rfl rfl rfl) (fun _ _ _ _ h => h)) (pa_cons (pe_ix (ix_seqK (K := K) rfl) (pv 2) (pe_un un_neg pe_int) (fun _ _ => rfl)) pa_nil))))) pss_nil)
      (pss_one (ps_ret (pe_make T.mk_Rule (ok_Rule___init__ T) (hr.mono (by decide)) (by rfl) T.g_Rule T.b_Rule___init__ .nil (passes_call (takes_of rfl rfl rfl rfl) (fun _ _ _ _ h => h)) (pa_cons (pv 1) pa_nil)))))))))), ?_⟩
    walk_at "x"
    refine x_asgG ?_
    walk_at "x"
    refine x_gt (SqT.of (w.ex _ _ c.t)) rfl ?_
    walk_at "x"
    refine ⟨x_tyL (w.get 0 rfl), ?_⟩
    walk_at "x"
    refine x_list (w.seq hL) (fun l0 n0 => ?_)
    have w1 := w.new (o := .lst (r.ns.map V.int)) n0
    walk_at "x"
    refine x_append (w1.get 1 rfl) (by rw [List.length_map]; exact Nat.lt_of_lt_of_le (show hs.length < 1000 by omega) (by decide)) ?_
    rw [show hs.map V.ref ++ [.ref l0] = (hs ++ [l0]).map V.ref by rw [List.map_append] <;> rfl]
    have w2 : Own B ((b, .lst ((hs ++ [l0]).map V.ref)) :: (l0, .lst (r.ns.map V.int)) :: cs) _ := (w1.put (o' := .lst ((hs ++ [l0]).map V.ref)) 1 rfl).perm (.swap _ _ _)
    generalize upd _ b _ = H2 at w2 ⊢
    clear w1 n0
    walk_at "x"
    rcases kd5 with e | e | e | e | e
    · rw [show (r.kind : Int) = 0 by omega]
      refine iteF ?_
      walk_at "x"
      refine iteF ?_
      walk_at "x"
      refine iteF ?_
      walk_at "x"
      refine iteF ?_
      walk_at "x"
      intro x d a0 e0 ne
      refine u_rule upd_same T.cl_Rule T.n_Rule_many m1 m6 fun J sx cx => ⟨rfl, ?_⟩
      obtain ⟨B4, sB4, x4, bx4⟩ := own_made0 w2 a0 e0 ne sx cx
      exact k x l0 _ B4 J sB4 x4 (.kRule (.mk bx4 fun g _ => by unfold rowF; simp [e]))
    · rw [show (r.kind : Int) = 1 by omega]
      have hln : r.ns.length = m := by rcases ok with h | h | h | h | h <;> omega
      refine iteT ?_
      walk_at "x"
      refine x_ixXL (w2.sq 0 rfl) at_lastR ?_
      walk_at "x"
      intro x d a0 e0 ne0
      obtain ⟨hq0, nq0⟩ := own_keep w2 (o1 := .own x) (o2 := .ins A.Own d []) 1 rfl a0 e0
      have hq0 := SqL.of (K := K) hq0
      refine ⟨x, A.Own, d, l0, _, rfl, upd_same, T.cl_Own, T.n_Own_many, T.n_Own_numbers, hq0, nq0, fun y hy => ?_, fun ns' ens g1 g6 l1 J0 nl0 sx0 cx0 cl0 => ⟨rfl, ?_⟩, fun hn => ?_⟩
      · obtain ⟨z, _, rfl⟩ := List.mem_map.mp hy; exact ⟨.int _, fun h => nomatch h⟩
      · obtain rfl := map_int_inj ens
        obtain ⟨B0, sB0, x0, bx0, bl0⟩ := own_made w2 a0 e0 ne0 nl0 sx0 cx0 cl0
        exact k x l0 _ B0 J0 sB0 x0 (.kOwn (.mk (by rw [hln] at bx0; exact bx0) (SqL.of bl0) hln fun g _ => by unfold rowF; rw [if_pos e]))
      · exact absurd ⟨by rw [List.length_map]; omega, by rw [List.length_map]; omega, by rw [List.all_map]; exact List.all_eq_true.mpr fun _ _ => rfl⟩ hn
    · rw [show (r.kind : Int) = 2 by omega]
      have hok : pairsOk m r.ps ∧ r.ps.length ≤ 36 := by
        rcases ok with h | h | h | h | h
        · omega
        · omega
        · exact h.2.2
        · omega
        · omega
      refine iteF ?_
      walk_at "x"
      refine iteT ?_
      walk_at "x"
      refine x_list (w2.seq hQ) (fun l1 n1 => ?_)
      have w3 := w2.new (o := .lst (ts.map V.ref)) n1
      walk_at "x"
      refine x_setL (w3.get 1 rfl) ixN_lastR ?_
      rw [set_lastR]
      have w4 : Own B ((b, .lst ((hs ++ [l1]).map V.ref)) :: (l1, .lst (ts.map V.ref)) :: cs) _ := ((w3.put (o' := .lst ((hs ++ [l1]).map V.ref)) 1 rfl).perm (.swap _ _ _)).sub (.cons_cons _ (.cons_cons _ (.cons _ (List.Sublist.refl _))))
      walk_at "x"
      refine x_ixXL (w4.sq 0 rfl) at_lastR ?_
      walk_at "x"
      intro x d a0 e0 ne0
      obtain ⟨hq0, _⟩ := own_keep w4 (o1 := .own x) (o2 := .ins A.Pairs d []) 1 rfl a0 e0
      have tr0 := (c.p.same w4.ex).same ((same_upd (o := .own x) e0).trans (same_upd (o := .ins A.Pairs d []) (by rw [upd_ne (Ne.symm ne0)]; exact a0)))
      have htl := c.p.len
      refine ⟨x, A.Pairs, d, l1, _, ts, r.ps.map trV, rfl, upd_same, T.cl_Pairs, T.n_Pairs_many, T.n_Pairs_pairs, .int _, .inl hq0, by rw [List.length_map]; exact htl, by omega, fun i t ys ht hys => tr_thing tr0 ht hys, fun m' fs' em _ _ ef ok gs pm srt l0 us0 J0 nl0 nu0 sx0 cx0 cl0 tu0 => ⟨rfl, ?_⟩, fun hn => absurd hok.1 (hn m r.ps rfl m1 m6 rfl)⟩
      obtain rfl : m = m' := by injection em with em; omega
      have ef := trVs_inj ef
      obtain ⟨B0, sB0, x0, bx0, bl0, bt0⟩ := own_madeT w4 a0 e0 ne0 nl0 nu0 sx0 cx0 cl0 tu0
      exact k x l1 _ B0 J0 sB0 x0 (.kPairs (.mk bx0 (SqL.of bl0) bt0 (pairsOk_perm pm.symm ok).1 fun g _ => by
        unfold rowF
        rw [if_neg (by omega), if_pos e, ef]; exact pairsS_perm pm.symm g))
    · rw [show (r.kind : Int) = 3 by omega]
      have hln : r.ns.length = m + 2 := by rcases ok with h | h | h | h | h <;> omega
      have h1 : 1 ≤ gi r.ns 0 := by
        rcases ok with h | h | h | h | h
        · omega
        · omega
        · omega
        · exact h.2.2.1
        · omega
      refine iteF ?_
      walk_at "x"
      refine iteF ?_
      walk_at "x"
      refine iteT ?_
      walk_at "x"
      refine ⟨l, _, rfl, w2.seq hL, fun l1 n1 => ?_⟩
      rw [show (2 : Int) = ((2 : Nat) : Int) from rfl, cut_from, ← List.map_drop]
      have w3 := w2.new (o := .lst ((r.ns.drop 2).map V.int)) n1
      have hdl : (r.ns.drop 2).length = m := by rw [List.length_drop]; omega
      walk_at "x"
      refine x_setL (w3.get 1 rfl) ixN_lastR ?_
      rw [set_lastR]
      have w4 : Own B ((b, .lst ((hs ++ [l1]).map V.ref)) :: (l1, .lst ((r.ns.drop 2).map V.int)) :: cs) _ := ((w3.put (o' := .lst ((hs ++ [l1]).map V.ref)) 1 rfl).perm (.swap _ _ _)).sub (.cons_cons _ (.cons_cons _ (.cons _ (List.Sublist.refl _))))
      walk_at "x"
      refine x_ixXL (w4.seq hL) (at_int (ns := r.ns) (by decide) (by show (0 : Int) < _; omega)) ?_
      walk_at "x"
      refine x_ixXL (w4.seq hL) (at_int (ns := r.ns) (by decide) (by show (1 : Int) < _; omega)) ?_
      walk_at "x"
      refine x_ixXL (w4.sq 0 rfl) at_lastR ?_
      walk_at "x"
      intro x d a0 e0 ne0
      obtain ⟨hq2, _⟩ := own_keep w4 (o1 := .own x) (o2 := .ins A.Votes d []) 1 rfl a0 e0
      refine ⟨x, A.Votes, d, l1, _, _, _, rfl, upd_same, T.cl_Votes, T.n_Votes_many, T.n_Votes_quota, T.n_Votes_prize, T.n_Votes_weights, .int _, .int _, .inl hq2, things_int, fun qi ri ns' eqi eri _ ens _ _ l2 J2 nl2 sx2 cx2 cl2 => ⟨rfl, ?_⟩, fun hn => absurd ⟨by rw [List.length_map]; omega, by rw [List.length_map]; omega, by rw [List.all_map]; exact List.all_eq_true.mpr fun _ _ => rfl, rfl, _, rfl, h1⟩ hn⟩
      obtain rfl := map_int_inj ens
      have eqi := V.int.inj eqi
      have eri := V.int.inj eri
      obtain ⟨B2, sB2, x2, bx2, bl2⟩ := own_made w4 a0 e0 ne0 nl2 sx2 cx2 cl2
      exact k x l1 _ B2 J2 sB2 x2 (.kVotes (.mk (by rw [hdl] at bx2; exact bx2) (SqL.of bl2) hdl fun g _ => by
        unfold rowF
        rw [if_neg (by omega), if_neg (by omega), if_pos e, eqi, eri]))
    · rw [show (r.kind : Int) = 4 by omega]
      have hln : r.ns.length = 2 ^ m - 1 := by rcases ok with h | h | h | h | h <;> omega
      refine iteF ?_
      walk_at "x"
      refine iteF ?_
      walk_at "x"
      refine iteF ?_
      walk_at "x"
      refine iteT ?_
      walk_at "x"
      refine ⟨(by show 1 ≤ sizeLine; decide), fun l2 n2 => ?_⟩
      have w3 := w2.new (o := .lst ([0].map V.int)) n2
      walk_at "x"
      refine x_addL (.inl (w3.get 0 rfl)) (.inl (w3.ex _ _ c.l)) (Nat.le_trans (show ([0].map V.int).length + (r.ns.map V.int).length ≤ 100 by rw [List.length_map, List.length_map]; show 1 + _ ≤ 100; omega) (by decide)) (fun l1 n1 => ?_)
      rw [show [0].map V.int ++ r.ns.map V.int = (0 :: r.ns).map V.int from rfl]
      have w5 := w3.new (o := .lst ((0 :: r.ns).map V.int)) n1
      walk_at "x"
      refine x_setL (w5.get 2 rfl) ixN_lastR ?_
      rw [set_lastR]
      have w4 : Own B ((b, .lst ((hs ++ [l1]).map V.ref)) :: (l1, .lst ((0 :: r.ns).map V.int)) :: cs) _ := (((w5.put (o' := .lst ((hs ++ [l1]).map V.ref)) 2 rfl).sub (.cons_cons _ (.cons _ (.cons_cons _ (.cons _ (List.Sublist.refl _)))))).perm (.swap _ _ _))
      have tb := tab_cons m1 m6 hln
      walk_at "x"
      refine x_ixXL (w4.sq 0 rfl) at_lastR ?_
      walk_at "x"
      intro x d a0 e0 ne0
      obtain ⟨hq2, _⟩ := own_keep w4 (o1 := .own x) (o2 := .ins A.Plain d []) 1 rfl a0 e0
      refine ⟨x, A.Plain, d, l1, _, rfl, upd_same, T.cl_Plain, T.n_Plain_many, T.n_Plain_row, .inl hq2, things_int, fun ns' m' ens tb' l3 J2 nl2 sx2 cx2 cl2 => ⟨rfl, ?_⟩, fun hn => by rw [tb.look] at hn; cases hn⟩
      obtain rfl := map_int_inj ens
      obtain rfl := tb.same tb'
      obtain ⟨B2, sB2, x2, bx2, bl2⟩ := own_made w4 a0 e0 ne0 nl2 sx2 cx2 cl2
      exact k x l1 _ B2 J2 sB2 x2 (.kPlain (.mk bx2 (SqL.of bl2) tb.len fun g _ => by
        unfold rowF
        rw [if_neg (by omega), if_neg (by omega), if_neg (by omega), if_pos e]))

/-! ### _law_holds -/
def sp__law_holds (A : Ads) (K : PySem.W.Frag) : Sp := fun vs H Q _ => ∃ (a b : Addr) (m : Nat) (f : Nat → Int), vs = [.ref a, .ref b] ∧ CompAt A K H a m f ∧ SqL K H b (((List.range (2 ^ m)).map f).map V.int) ∧ RetV (.bl true) H Q
theorem at_rng {f : Nat → Int} {n g : Nat} (h : g < n) : atI (((List.range n).map f).map V.int) (g : Int) = some (.int (f g)) := atI_nat (by rw [List.getElem?_map, List.getElem?_map, List.getElem?_range h] <;> rfl)
theorem ok__law_holds (T : Txt K mg A) : FnOk P w K mg base (L2.CX P w) 8 A.a__law_holds A.d__law_holds ["_law_company", "_law_due"] (sp__law_holds A K) := by
  refine T.F__law_holds.okX sc__law_holds (fun vs H Q E h => ?_) (fun cdv A0 outer s H vs Q E hr h => ?_)
  · obtain ⟨a, b, m, f, rfl, _⟩ := h; rfl
  · obtain ⟨a, b, m, f, rfl, R, hS, k⟩ := h
    have R0 := R
    obtain ⟨dx, l, e, m1, m6⟩ : ∃ dx l, H a = some (.ins A.Company dx [("many", .int (m : Int)), ("rules", .ref l)]) ∧ 1 ≤ m ∧ m ≤ 6 := by
      cases R with
      | @mk dx l rs fs e h hr h1 h6 hl hf => exact ⟨dx, l, e, h1, h6⟩
    have hp := pow6 m6
    have hpp := Nat.two_pow_pos m
    have hlen : (((List.range (2 ^ m)).map f).map V.int).length = 2 ^ m := by rw [List.length_map, List.length_map, List.length_range]
    refine ⟨_, (pss_cons (ps_set (i := 2) sc__law_holds.nd rfl (.inl rfl) (pe_meth0 (pv 0) T.cl_Company T.m_Company_hands (ok_Company_hands T) (hr.mono (by decide)) T.b_Company_hands .nil (passes_call (takes_of rfl rfl rfl rfl) (fun _ _ _ _ h => h))))
      (pss_cons (ps_set (i := 3) sc__law_holds.nd rfl (.inl rfl) (pe_meth0 (pv 0) T.cl_Company T.m_Company_table (ok_Company_table T) (hr.mono (by decide)) T.b_Company_table .nil (passes_call (takes_of rfl rfl rfl rfl) (fun _ _ _ _ h => h))))
      (pss_cons (ps_if (PW.pt (pw_or (pt_not (pt_val (pe_call (ok__law_whole T) (hr.mono (by decide)) (by rfl) T.g__law_whole T.F__law_whole.kp T.b__law_whole .nil (passes_call (takes_of rfl rfl rfl rfl) (fun _ _ _ _ h => h)) (pa_cons (pv 2) pa_nil)))) (pw_or (pt_cmpR (op_neK (K := K) rfl hr.units) (pe_op op_shlX pe_int (pv 2)) (pe_callB (call_lenK (K := K) rfl) (by rfl) T.z_len (by decide +kernel) (pa_cons (pv 1) pa_nil)) (nomark _)) (pw_or (pt_not (pt_val (pe_callB (call_isiX (K := K) rfl) (by rfl) T.z_isinstance (by decide +kernel) (pa_cons (pv 3) (pa_cons (pe_bltn (v := .ty "list") (by rfl) T.z_list (by decide +kernel) rfl) pa_nil))))) (pw_or1 (pt_cmpR (op_neK (K := K) rfl hr.units) (pe_callB (call_lenK (K := K) rfl) (by rfl) T.z_len (by decide +kernel) (pa_cons (pv 3) pa_nil)) (pe_callB (call_lenK (K := K) rfl) (by rfl) T.z_len (by decide +kernel) (pa_cons (pv 1) pa_nil)) (nomark _))))))) (pss_one (ps_ret pe_bl)) pss_nil)
      (pss_cons (ps_for (passes_of rfl) rfl (pi_range1 (by rfl) T.z_range (pa_cons (pe_callB (call_lenK (K := K) rfl) (by rfl) T.z_len (by decide +kernel) (pa_cons (pv 1) pa_nil)) pa_nil)) (pg_name (i := 4) sc__law_holds.nd rfl (.inl rfl)) (pss_one (ps_if (PW.pt (pw_or (pt_not (pt_val (pe_call (ok__law_whole T) (hr.mono (by decide)) (by rfl) T.g__law_whole T.F__law_whole.kp T.b__law_whole .nil (passes_call (takes_of rfl rfl rfl rfl) (fun _ _ _ _ h => h)) (pa_cons (pe_ix (ix_seqK (K := K) rfl) (pv 3) (pv 4) (fun _ _ => rfl)) pa_nil)))) (pw_or1 (pt_cmpR (op_neK (K := K) rfl hr.units) (pe_ix (ix_seqK (K := K) rfl) (pv 3) (pv 4) (fun _ _ => rfl)) (pe_ix (ix_seqK (K := K) rfl) (pv 1) (pv 4) (fun _ _ => rfl)) (nomark _))))) (pss_one (ps_ret pe_bl)) pss_nil)))
      (pss_cons (ps_expr (pe_bm PySem.F.plainAttrs_list PySem.F.slot_list_append PySem.F.type_list_append mt_append (pv 3) (pa_cons pe_int pa_nil)))
      (pss_cons (ps_for (passes_of rfl) rfl (pi_listK (K := K) rfl (pe_lst (pa_cons pe_int (pa_cons (pe_op op_subX (pe_callB (call_lenK (K := K) rfl) (by rfl) T.z_len (by decide +kernel) (pa_cons (pv 1) pa_nil)) pe_int) (pa_cons (pe_op op_fdivX (pe_callB (call_lenK (K := K) rfl) (by rfl) T.z_len (by decide +kernel) (pa_cons (pv 1) pa_nil)) pe_int) (pa_cons (pe_op op_modX (pe_ix (ix_seqK (K := K) rfl) (pv 1) (pe_un un_neg pe_int) (fun _ _ => rfl)) (pe_callB (call_lenK (K := K) rfl) (by rfl) T.z_len (by decide +kernel) (pa_cons (pv 1) pa_nil))) pa_nil)))))) (pg_name (i := 4) sc__law_holds.nd rfl (.inl rfl)) (pss_cons (ps_set (i := 5) sc__law_holds.nd rfl (.inl rfl) (pe_meth (pv 0) T.cl_Company T.m_Company_earn (ok_Company_earn T) (hr.mono (by decide)) T.b_Company_earn .nil (passes_call (takes_of rfl rfl rfl rfl) (fun _ _ _ _ h => h)) (pa_cons (pv 4) pa_nil)))
      (pss_one (ps_if (PW.pt (pw_or (pt_not (pt_val (pe_call (ok__law_whole T) (hr.mono (by decide)) (by rfl) T.g__law_whole T.F__law_whole.kp T.b__law_whole .nil (passes_call (takes_of rfl rfl rfl rfl) (fun _ _ _ _ h => h)) (pa_cons (pv 5) pa_nil)))) (pw_or1 (pt_cmpR (op_neK (K := K) rfl hr.units) (pv 5) (pe_ix (ix_seqK (K := K) rfl) (pv 1) (pv 4) (fun _ _ => rfl)) (nomark _))))) (pss_one (ps_ret pe_bl)) pss_nil))))
      (pss_one (ps_ret pe_bl)))))))), ?_⟩
    walk_at "x"
    refine ⟨a, dx, _, rfl, e, rfl, ?_⟩
    walk_at "x"
    refine ⟨a, m, f, rfl, R0, fun H1 s1 => ?_⟩
    have w1 := (Own.start (H := H)).ext s1
    walk_at "x"
    refine ⟨a, dx, _, rfl, s1 _ _ e, rfl, ?_⟩
    walk_at "x"
    refine ⟨a, m, f, rfl, R0.same s1, fun p H2 n2 s2 c2 => ?_⟩
    have w2 := w1.newE n2 s2 c2
    walk_at "x"
    refine ⟨_, rfl, .int _, fun H3 s3 => ⟨true, rfl, iteF ?_⟩⟩
    have w3 := w2.ext s3
    walk_at "x"
    refine x_shl ⟨by omega, by omega, by decide⟩ ?_
    rw [shl_nat]
    walk_at "x"
    refine x_lenL (w3.seq hS) ?_
    rw [hlen]
    walk_at "x"
    rw [decide_eq_true rfl]
    refine iteF ?_
    walk_at "x"
    refine x_isiListL (.inl (w3.get 0 rfl)) ?_
    walk_at "x"
    refine iteF ?_
    walk_at "x"
    refine x_lenL (w3.sq 0 rfl) ?_
    walk_at "x"
    refine x_lenL (w3.seq hS) ?_
    walk_at "x"
    rw [decide_eq_true rfl]
    refine iteF ?_
    walk_at "x"
    refine x_lenL (w3.seq hS) ?_
    walk_at "x"
    rw [hlen]
    refine ⟨_, rfl, by omega, by omega, for_r0 (n := ((2 ^ m : Nat) : Int)) (fun i σ' H' => (∃ v4 v5, σ' = [some (.ref a), some (.ref b), some (.int (m : Int)), some (.ref p), v4, v5]) ∧ Own H [(p, .lst (((List.range (2 ^ m)).map f).map V.int))] H') ⟨⟨_, _, rfl⟩, w3⟩ ?_ ?_⟩
    · rintro i σ' H' hi ⟨⟨v4, v5, rfl⟩, w⟩
      have hi2 : i < 2 ^ m := by omega
      walk_at "x"
      refine x_ixXL (w.sq 0 rfl) (at_rng hi2) ?_
      walk_at "x"
      refine ⟨_, rfl, .int _, fun H3 s3 => ⟨true, rfl, iteF ?_⟩⟩
      have w4 := w.ext s3
      walk_at "x"
      refine x_ixXL (w4.sq 0 rfl) (at_rng hi2) ?_
      walk_at "x"
      refine x_ixXL (w4.seq hS) (at_rng hi2) ?_
      walk_at "x"
      rw [decide_eq_true rfl]
      refine iteF ?_
      exact ⟨⟨_, _, rfl⟩, w4⟩
    · rintro σ' H' ⟨⟨v4, v5, rfl⟩, w⟩
      walk_at "x"
      refine ⟨x_tyL (w.get 0 rfl), ?_⟩
      walk_at "x"
      refine x_append (w.get 0 rfl) (by rw [hlen]; exact Nat.lt_of_lt_of_le (show 2 ^ m < 1000 by omega) (by decide)) ?_
      have w5 := (w.put (o' := .lst (((List.range (2 ^ m)).map f).map V.int ++ [.int 1])) 0 rfl).sub (ds := []) (List.nil_sublist _)
      walk_at "x"
      refine x_lenL (w5.seq hS) ?_
      walk_at "x"
      refine x_lenL (w5.seq hS) ?_
      walk_at "x"
      refine x_divP (by decide) (by decide) ?_
      walk_at "x"
      rw [hlen]
      have hlast : atI (((List.range (2 ^ m)).map f).map V.int) (-1) = some (.int (gi ((List.range (2 ^ m)).map f) ((((List.range (2 ^ m)).map f).length : Int) - 1))) := at_last (by rw [List.length_map, List.length_range]; omega)
      refine x_ixXL (w5.seq hS) hlast ?_
      walk_at "x"
      refine x_lenL (w5.seq hS) ?_
      rw [hlen]
      refine x_modP (by omega) ?_
      generalize gi ((List.range (2 ^ m)).map f) _ = z
      have r0 := Int.emod_nonneg z (show ((2 ^ m : Nat) : Int) ≠ 0 by omega)
      have r1 := Int.emod_lt_of_pos z (show (0 : Int) < ((2 ^ m : Nat) : Int) by omega)
      generalize z % ((2 ^ m : Nat) : Int) = z at r0 r1 ⊢
      walk_at "x"
      refine ⟨(by show 4 ≤ sizeLine; decide), fun p2 n2' => ?_⟩
      have w6 := w5.new (o := .lst [.int 0, .int (((2 ^ m : Nat) : Int) - 1), .int (((2 ^ m : Nat) : Int) / 2), .int z]) n2'
      refine ⟨p2, rfl, ⟨_, w6.sq 0 rfl⟩, for_list (xs := [.int 0, .int (((2 ^ m : Nat) : Int) - 1), .int (((2 ^ m : Nat) : Int) / 2), .int z]) (fun i σ' H' => (∃ v4 v5, σ' = [some (.ref a), some (.ref b), some (.int (m : Int)), some (.ref p), v4, v5]) ∧ Own H [(p2, .lst [.int 0, .int (((2 ^ m : Nat) : Int) - 1), .int (((2 ^ m : Nat) : Int) / 2), .int z])] H') ⟨⟨_, _, rfl⟩, w6⟩ (fun i σ' H' _ h => h.2.sq 0 rfl) ?_ ?_⟩
      · rintro i x σ' H' hx ⟨⟨v4, v5, rfl⟩, w⟩
        obtain ⟨g, rfl, hg⟩ : ∃ g : Nat, x = .int (g : Int) ∧ g < 2 ^ m := by
          have hm := List.mem_of_getElem? hx
          simp only [List.mem_cons, List.not_mem_nil, or_false] at hm
          rcases hm with rfl | rfl | rfl | rfl
          · exact ⟨0, rfl, hpp⟩
          · exact ⟨2 ^ m - 1, by congr 1; omega, by omega⟩
          · exact ⟨2 ^ m / 2, by congr 1, by omega⟩
          · exact ⟨z.toNat, by congr 1; omega, by omega⟩
        walk_at "x"
        refine ⟨a, dx, _, rfl, w.ex _ _ e, rfl, ?_⟩
        walk_at "x"
        refine u_cearn (R0.same w.ex) hg fun H3 s3 => ?_
        have w7 := w.ext s3
        walk_at "x"
        refine ⟨_, rfl, .int _, fun H4 s4 => ⟨true, rfl, iteF ?_⟩⟩
        have w8 := w7.ext s4
        walk_at "x"
        refine x_ixXL (w8.seq hS) (at_rng hg) ?_
        walk_at "x"
        rw [decide_eq_true rfl]
        refine iteF ?_
        exact ⟨⟨_, _, rfl⟩, w8⟩
      · rintro σ' H' ⟨⟨v4, v5, rfl⟩, w⟩
        walk_at "x"
        exact k _ w.ex

/-! ### _law_no_group -/
def sp__law_no_group (A : Ads) (K : PySem.W.Frag) : Sp := fun vs H Q _ => ∃ (a : Addr) (m : Nat) (f : Nat → Int) (v : V), vs = [.ref a, v] ∧ CompAt A K H a m f ∧ Thing H v ∧ ¬ inR v 0 (((2 ^ m : Nat) : Int) - 1) ∧ RetV (.bl true) H Q
theorem ok__law_no_group (T : Txt K mg A) : FnOk P w K mg base (L2.CX P w) 7 A.a__law_no_group A.d__law_no_group ["_law_company", "_law_group"] (sp__law_no_group A K) := by
  refine T.F__law_no_group.okX sc__law_no_group (fun vs H Q E h => ?_) (fun cdv A0 outer s H vs Q E hr h => ?_)
  · obtain ⟨a, m, f, v, rfl, _⟩ := h; rfl
  · obtain ⟨a, m, f, v, rfl, R, hT, hn, k⟩ := h
    obtain ⟨dx, l, e⟩ : ∃ dx l, H a = some (.ins A.Company dx [("many", .int (m : Int)), ("rules", .ref l)]) := by
      cases R with
      | @mk dx l rs fs e h hr h1 h6 hl hf => exact ⟨dx, l, e⟩
    refine ⟨_, (pss_cons (ps_set (i := 2) sc__law_no_group.nd rfl (.inl rfl) pe_bl)
      (pss_cons (ps_set (i := 3) sc__law_no_group.nd rfl (.inl rfl) pe_bl)
      (pss_cons (ps_try_as (i := 4) (Wout := fun _ _ _ _ => False) rfl rfl sc__law_no_group.nd rfl rfl ⟨rfl, by decide, Or.inl T.g_ShareError⟩ takes0 (fun W pn xe tk _ => (pss_one (ps_expr (pe_methS (pv 0) T.cl_Company T.m_Company_earn (ok_Company_earn T) (hr.mono (by decide)) T.b_Company_earn (fun σ => passAt tk σ) (pa_cons (pv 1) pa_nil))))) (fun a oe cls d pn hz hf => (pss_cons (ps_set (i := 2) sc__law_no_group.nd rfl (.inl rfl) (pe_and (pe_callB (call_isEX (K := K) rfl hz hf) (by rfl) T.z_isinstance (by decide +kernel) (pa_cons (pv 4) (pa_cons (pe_glob (v := .ref A.NoGroup) (by rfl) T.g_NoGroup rfl) pa_nil))) (pe_one (pe_callB (call_isEX (K := K) rfl hz hf) (by rfl) T.z_isinstance (by decide +kernel) (pa_cons (pv 4) (pa_cons (pe_bltn (v := .ty "ValueError") (by rfl) T.z_ValueError (by decide +kernel) rfl) pa_nil))))))
      (pss_cons (ps_set (i := 3) sc__law_no_group.nd rfl (.inl rfl) (pe_callB (call_isETX (K := K) rfl hz hf) (by rfl) T.z_isinstance (by decide +kernel) (pa_cons (pv 4) (pa_cons (pe_tup (pa_cons (pe_glob (v := .ref A.NoNumber) (by rfl) T.g_NoNumber rfl) (pa_cons (pe_glob (v := .ref A.NoOrder) (by rfl) T.g_NoOrder rfl) (pa_cons (pe_glob (v := .ref A.NoRows) (by rfl) T.g_NoRows rfl) (pa_cons (pe_glob (v := .ref A.NoRule) (by rfl) T.g_NoRule rfl) (pa_cons (pe_glob (v := .ref A.NoShares) (by rfl) T.g_NoShares rfl) pa_nil)))))) pa_nil))))
      (pss_one (ps_set (i := 3) sc__law_no_group.nd rfl (.inl rfl) (pe_or (pv 3) (pe_one (pe_callB (call_isETX (K := K) rfl hz hf) (by rfl) T.z_isinstance (by decide +kernel) (pa_cons (pv 4) (pa_cons (pe_tup (pa_cons (pe_glob (v := .ref A.NoTable) (by rfl) T.g_NoTable rfl) (pa_cons (pe_glob (v := .ref A.NoText) (by rfl) T.g_NoText rfl) (pa_cons (pe_glob (v := .ref A.NoVotes) (by rfl) T.g_NoVotes rfl) (pa_cons (pe_glob (v := .ref A.TooMany) (by rfl) T.g_TooMany rfl) (pa_cons (pe_glob (v := .ref A.Unlike) (by rfl) T.g_Unlike rfl) pa_nil)))))) pa_nil)))))))))))
      (pss_one (ps_ret (pe_and (pv 2) (pe_one (pe_not (pv 3))))))))), ?_⟩
    walk_at "x"
    refine ⟨a, dx, _, rfl, e, rfl, ?_⟩
    walk_at "x"
    refine ⟨a, m, f, v, rfl, R, hT, fun g eg hg => absurd ⟨_, eg, by omega, by omega⟩ hn, fun _ H1 s1 => ⟨true, T.h_NoGroup_ShareError, fun _ a0 ha0 => ?_, fun q => nomatch q⟩⟩
    have w := Own.start.ext s1
    walk_at "x"
    refine x_isE T.X_NoGroup T.q_NoGroup T.u_NoGroup_NoGroup ?_
    refine ⟨true, rfl, iteT ?_⟩
    walk_at "x"
    refine x_isEV T.X_NoGroup T.v_NoGroup ?_
    walk_at "x"
    refine ⟨(by show 5 ≤ sizeLine; decide), fun p1 n1 => ?_⟩
    have w1 := w.new (o := .tup [.ref A.NoNumber, .ref A.NoOrder, .ref A.NoRows, .ref A.NoRule, .ref A.NoShares]) n1
    walk_at "x"
    refine x_isET (Cs := [A.NoNumber, A.NoOrder, A.NoRows, A.NoRule, A.NoShares]) T.X_NoGroup (w1.get 0 rfl) (kit_no (kit_own T.q_NoNumber T.u_NoGroup_NoNumber) (kit_no (kit_own T.q_NoOrder T.u_NoGroup_NoOrder) (kit_no (kit_own T.q_NoRows T.u_NoGroup_NoRows) (kit_no (kit_own T.q_NoRule T.u_NoGroup_NoRule) (kit_no (kit_own T.q_NoShares T.u_NoGroup_NoShares) rfl))))) ?_
    walk_at "x"
    refine iteF ?_
    walk_at "x"
    refine ⟨(by show 5 ≤ sizeLine; decide), fun p2 n2 => ?_⟩
    have w2 := w1.new (o := .tup [.ref A.NoTable, .ref A.NoText, .ref A.NoVotes, .ref A.TooMany, .ref A.Unlike]) n2
    walk_at "x"
    refine x_isET (Cs := [A.NoTable, A.NoText, A.NoVotes, A.TooMany, A.Unlike]) T.X_NoGroup (w2.get 0 rfl) (kit_no (kit_own T.q_NoTable T.u_NoGroup_NoTable) (kit_no (kit_own T.q_NoText T.u_NoGroup_NoText) (kit_no (kit_own T.q_NoVotes T.u_NoGroup_NoVotes) (kit_no (kit_own T.q_TooMany T.u_NoGroup_TooMany) (kit_no (kit_own T.q_Unlike T.u_NoGroup_Unlike) rfl))))) ?_
    walk_at "x"
    refine iteT ?_
    walk_at "x"
    exact k _ w2.ex

/-! ### _law_no_rule -/
def sp__law_no_rule (A : Ads) (K : PySem.W.Frag) : Sp := fun vs H Q _ => ∃ (b : Addr) (v : V) (rs : List Addr), vs = [v, .ref b] ∧ Thing H v ∧ Rd H b (.lst (rs.map V.ref)) ∧ rs.length ≤ 1000 ∧ (∀ r ∈ rs, ∃ m f, RuleAt A K H r m f) ∧ ((∀ m : Nat, ¬ compOk A K H v rs m) → RetV (.bl true) H Q) ∧ ((∃ m : Nat, compOk A K H v rs m) → RetV (.bl false) H Q)
theorem ok__law_no_rule (T : Txt K mg A) : FnOk P w K mg base (L2.CX P w) 4 A.a__law_no_rule A.d__law_no_rule ["_law_many", "_law_some"] (sp__law_no_rule A K) := by
  refine T.F__law_no_rule.okX sc__law_no_rule (fun vs H Q E h => ?_) (fun cdv A0 outer s H vs Q E hr h => ?_)
  · obtain ⟨b, v, rs, rfl, _⟩ := h; rfl
  · obtain ⟨b, v, rs, rfl, hT, hS, hl, hR, kT, kF⟩ := h
    refine ⟨_, (pss_cons (ps_set (i := 2) sc__law_no_rule.nd rfl (.inl rfl) pe_bl)
      (pss_cons (ps_set (i := 3) sc__law_no_rule.nd rfl (.inl rfl) pe_bl)
      (pss_cons (ps_try_as (i := 4) (Wout := fun _ _ _ _ => False) rfl rfl sc__law_no_rule.nd rfl rfl ⟨rfl, by decide, Or.inl T.g_ShareError⟩ takes0 (fun W pn xe tk _ => (pss_one (ps_expr (pe_makeS T.mk_Company (ok_Company___init__ T) (hr.mono (by decide)) (by rfl) T.g_Company T.b_Company___init__ (fun σ => passAt tk σ) (pa_cons (pv 0) (pa_cons (pv 1) pa_nil)))))) (fun a oe cls d pn hz hf => (pss_cons (ps_set (i := 2) sc__law_no_rule.nd rfl (.inl rfl) (pe_and (pe_callB (call_isEX (K := K) rfl hz hf) (by rfl) T.z_isinstance (by decide +kernel) (pa_cons (pv 4) (pa_cons (pe_glob (v := .ref A.NoRule) (by rfl) T.g_NoRule rfl) pa_nil))) (pe_one (pe_callB (call_isEX (K := K) rfl hz hf) (by rfl) T.z_isinstance (by decide +kernel) (pa_cons (pv 4) (pa_cons (pe_bltn (v := .ty "ValueError") (by rfl) T.z_ValueError (by decide +kernel) rfl) pa_nil))))))
      (pss_cons (ps_set (i := 3) sc__law_no_rule.nd rfl (.inl rfl) (pe_callB (call_isETX (K := K) rfl hz hf) (by rfl) T.z_isinstance (by decide +kernel) (pa_cons (pv 4) (pa_cons (pe_tup (pa_cons (pe_glob (v := .ref A.NoGroup) (by rfl) T.g_NoGroup rfl) (pa_cons (pe_glob (v := .ref A.NoNumber) (by rfl) T.g_NoNumber rfl) (pa_cons (pe_glob (v := .ref A.NoOrder) (by rfl) T.g_NoOrder rfl) (pa_cons (pe_glob (v := .ref A.NoRows) (by rfl) T.g_NoRows rfl) (pa_cons (pe_glob (v := .ref A.NoShares) (by rfl) T.g_NoShares rfl) pa_nil)))))) pa_nil))))
      (pss_one (ps_set (i := 3) sc__law_no_rule.nd rfl (.inl rfl) (pe_or (pv 3) (pe_one (pe_callB (call_isETX (K := K) rfl hz hf) (by rfl) T.z_isinstance (by decide +kernel) (pa_cons (pv 4) (pa_cons (pe_tup (pa_cons (pe_glob (v := .ref A.NoTable) (by rfl) T.g_NoTable rfl) (pa_cons (pe_glob (v := .ref A.NoText) (by rfl) T.g_NoText rfl) (pa_cons (pe_glob (v := .ref A.NoVotes) (by rfl) T.g_NoVotes rfl) (pa_cons (pe_glob (v := .ref A.TooMany) (by rfl) T.g_TooMany rfl) (pa_cons (pe_glob (v := .ref A.Unlike) (by rfl) T.g_Unlike rfl) pa_nil)))))) pa_nil)))))))))))
      (pss_one (ps_ret (pe_and (pv 2) (pe_one (pe_not (pv 3))))))))), ?_⟩
    walk_at "x"
    refine x_makeS ?_
    walk_at "x"
    intro x d e0 e1 ne
    have sM : Same H (upd (upd H d (.own x)) x (.ins A.Company d [])) := (same_upd e1).trans (same_upd (by rw [upd_ne (Ne.symm ne)]; exact e0))
    have hbx : b ≠ x := fun z => by
      subst z
      rcases hS with h | ⟨o, h⟩
      · rw [e0] at h; cases h
      · rw [e0] at h; cases h
    refine ⟨x, A.Company, d, b, v, rs, rfl, upd_same, T.cl_Company, T.n_Company_many, T.n_Company_rules, hT.same sM, sM.seq (.inl hS), hbx, hl, fun r hr => ?_, fun m ok l H' nl sx cx cl => ⟨rfl, ?_⟩, fun hn H1 s1 => ⟨true, T.h_NoRule_ShareError, fun _ a0 ha0 => ?_, fun q => nomatch q⟩⟩
    · obtain ⟨m, f, R⟩ := hR r hr
      exact ⟨m, f, R.same sM⟩
    · have s1 : Same H H' := fun y o hy => by
        have hyx : y ≠ x := fun z => by subst z; rw [e0] at hy; cases hy
        exact sx y o hyx (sM y o hy)
      walk_at "x"
      refine kF ?_ _ s1
      obtain ⟨c1, c2, c3, c4, c5⟩ := ok
      refine ⟨m, c1, c2, c3, c4, fun r hr => ?_⟩
      obtain ⟨m', f, R⟩ := hR r hr
      obtain ⟨f2, R2⟩ := c5 r hr
      have := (R.same sM).uniq T R2
      subst this
      exact ⟨f, R⟩
    have k := kT fun m ok => hn m (by
      obtain ⟨c1, c2, c3, c4, c5⟩ := ok
      exact ⟨c1, c2, c3, c4, fun r hr => by
        obtain ⟨f, R⟩ := c5 r hr
        exact ⟨f, R.same sM⟩⟩)
    have s1 : Same H H1 := fun y o hy => by
      have hyx : y ≠ x := fun z => by subst z; rw [e0] at hy; cases hy
      exact s1 y o hyx (sM y o hy)
    have w := Own.start.ext s1
    walk_at "x"
    refine x_isE T.X_NoRule T.q_NoRule T.u_NoRule_NoRule ?_
    refine ⟨true, rfl, iteT ?_⟩
    walk_at "x"
    refine x_isEV T.X_NoRule T.v_NoRule ?_
    walk_at "x"
    refine ⟨(by show 5 ≤ sizeLine; decide), fun p1 n1 => ?_⟩
    have w1 := w.new (o := .tup [.ref A.NoGroup, .ref A.NoNumber, .ref A.NoOrder, .ref A.NoRows, .ref A.NoShares]) n1
    walk_at "x"
    refine x_isET (Cs := [A.NoGroup, A.NoNumber, A.NoOrder, A.NoRows, A.NoShares]) T.X_NoRule (w1.get 0 rfl) (kit_no (kit_own T.q_NoGroup T.u_NoRule_NoGroup) (kit_no (kit_own T.q_NoNumber T.u_NoRule_NoNumber) (kit_no (kit_own T.q_NoOrder T.u_NoRule_NoOrder) (kit_no (kit_own T.q_NoRows T.u_NoRule_NoRows) (kit_no (kit_own T.q_NoShares T.u_NoRule_NoShares) rfl))))) ?_
    walk_at "x"
    refine iteF ?_
    walk_at "x"
    refine ⟨(by show 5 ≤ sizeLine; decide), fun p2 n2 => ?_⟩
    have w2 := w1.new (o := .tup [.ref A.NoTable, .ref A.NoText, .ref A.NoVotes, .ref A.TooMany, .ref A.Unlike]) n2
    walk_at "x"
    refine x_isET (Cs := [A.NoTable, A.NoText, A.NoVotes, A.TooMany, A.Unlike]) T.X_NoRule (w2.get 0 rfl) (kit_no (kit_own T.q_NoTable T.u_NoRule_NoTable) (kit_no (kit_own T.q_NoText T.u_NoRule_NoText) (kit_no (kit_own T.q_NoVotes T.u_NoRule_NoVotes) (kit_no (kit_own T.q_TooMany T.u_NoRule_TooMany) (kit_no (kit_own T.q_Unlike T.u_NoRule_Unlike) rfl))))) ?_
    walk_at "x"
    refine iteT ?_
    walk_at "x"
    exact k _ w2.ex

/-! ### _law_refusals -/
def sp__law_refusals (A : Ads) (K : PySem.W.Frag) : Sp := fun vs H Q _ => ∃ (a c b : Addr) (ns : List Int) (m : Nat) (f : Nat → Int) (rs : List Addr) (fs : List (Nat → Int)), vs = [.ref a, .ref c, .ref b, .int (m : Int)] ∧ SqL K H a (ns.map V.int) ∧ ns.length ≤ 63 ∧ CompAt A K H c m f ∧ Rd H b (.lst (rs.map V.ref)) ∧ RulesF A K H m rs fs ∧ rs.length ≤ 12 ∧ 1 ≤ m ∧ m ≤ 6 ∧ RetV (.bl true) H Q
theorem rep_ref (k : Nat) (x : Addr) : (List.replicate k [V.ref x]).flatten = (List.replicate k x).map V.ref := by
  induction k with
  | zero => rfl
  | succ k ih => rw [List.replicate_succ, List.replicate_succ, List.flatten_cons, ih, List.map_cons] <;> rfl
theorem ok__law_refusals (T : Txt K mg A) : FnOk P w K mg base (L2.CX P w) 8 A.a__law_refusals A.d__law_refusals ["_law_script", "_law_company", "_law_objects", "_law_many"] (sp__law_refusals A K) := by
  refine T.F__law_refusals.okX sc__law_refusals (fun vs H Q E h => ?_) (fun cdv A0 outer s H vs Q E hr h => ?_)
  · obtain ⟨a, c, b, ns, m, f, rs, fs, rfl, _⟩ := h; rfl
  · obtain ⟨a, c, b, ns, m, f, rs, fs, rfl, hS, hl, R, hB, hF, h12, m1, m6, k⟩ := h
    have hp := pow6 m6
    have hpp := Nat.two_pow_pos m
    have hmem := hF.mem
    refine ⟨_, (pss_cons (ps_set (i := 4) sc__law_refusals.nd rfl (.inl rfl) (pe_op op_modX (pe_op op_mulX (pe_op op_modX (pe_call (ok__law_cell T) (hr.mono (by decide)) (by rfl) T.g__law_cell T.F__law_cell.kp T.b__law_cell .nil (passes_call (takes_of rfl rfl rfl rfl) (fun _ _ _ _ h => h)) (pa_cons (pv 0) (pa_cons pe_int pa_nil))) pe_int) pe_int) pe_int))
      (pss_cons (ps_set (i := 5) sc__law_refusals.nd rfl (.inl rfl) (pe_lst (pa_cons (pe_un un_neg pe_int) (pa_cons (pe_op op_shlX pe_int (pv 3)) (pa_cons (pe_op op_addX (pe_op op_shlX pe_int (pv 3)) (pe_op op_modX (pv 4) pe_int)) (pa_cons pe_non (pa_cons pe_bl (pa_cons pe_str (pa_cons (pe_lst (pa_cons pe_int pa_nil)) pa_nil)))))))))
      (pss_cons (ps_if (pt_not (pt_val (pe_call (ok__law_no_group T) (hr.mono (by decide)) (by rfl) T.g__law_no_group T.F__law_no_group.kp T.b__law_no_group .nil (passes_call (takes_of rfl rfl rfl rfl) (fun _ _ _ _ h => h)) (pa_cons (pv 1) (pa_cons (pe_ix (ix_seqK (K := K) rfl) (pv 5) (pe_op op_modX (pe_op op_fdivX (pv 4) pe_int) pe_int) (fun _ _ => rfl)) pa_nil))))) (pss_one (ps_ret pe_bl)) pss_nil)
      (pss_cons (ps_if (pt_not (pt_val (pe_call (ok__law_no_rule T) (hr.mono (by decide)) (by rfl) T.g__law_no_rule T.F__law_no_rule.kp T.b__law_no_rule .nil (passes_call (takes_of rfl rfl rfl rfl) (fun _ _ _ _ h => h)) (pa_cons (pe_ix (ix_seqK (K := K) rfl) (pe_lst (pa_cons pe_int (pa_cons pe_int (pa_cons (pe_un un_neg pe_int) (pa_cons pe_non (pa_cons pe_bl (pa_cons pe_str (pa_cons (pe_op op_addX pe_int (pe_op op_modX (pv 4) pe_int)) pa_nil)))))))) (pe_op op_modX (pe_op op_fdivX (pv 4) pe_int) pe_int) (fun _ _ => rfl)) (pa_cons (pe_lst pa_nil) pa_nil))))) (pss_one (ps_ret pe_bl)) pss_nil)
      (pss_cons (ps_if (pt_not (pt_val (pe_call (ok__law_no_rule T) (hr.mono (by decide)) (by rfl) T.g__law_no_rule T.F__law_no_rule.kp T.b__law_no_rule .nil (passes_call (takes_of rfl rfl rfl rfl) (fun _ _ _ _ h => h)) (pa_cons (pv 3) (pa_cons (pe_op op_addX (pv 2) (pe_op op_mulX (pe_lst (pa_cons (pe_make T.mk_Rule (ok_Rule___init__ T) (hr.mono (by decide)) (by rfl) T.g_Rule T.b_Rule___init__ .nil (passes_call (takes_of rfl rfl rfl rfl) (fun _ _ _ _ h => h)) (pa_cons (pv 3) pa_nil)) pa_nil)) (pe_op op_subX pe_int (pe_callB (call_lenK (K := K) rfl) (by rfl) T.z_len (by decide +kernel) (pa_cons (pv 2) pa_nil))))) pa_nil))))) (pss_one (ps_ret pe_bl)) pss_nil)
      (pss_cons (ps_set (i := 6) sc__law_refusals.nd rfl (.inl rfl) (pe_op op_modX (pe_op op_fdivX (pv 4) pe_int) (pe_op op_addX (pe_callB (call_lenK (K := K) rfl) (by rfl) T.z_len (by decide +kernel) (pa_cons (pv 2) pa_nil)) pe_int)))
      (pss_cons (ps_set (i := 7) sc__law_refusals.nd rfl (.inl rfl) (pe_op op_addX (pe_op op_addX (pe_slice (sl_listK (K := K) rfl) (pv 2) po_none (po_some (pv 6))) (pe_lst (pa_cons (pe_make T.mk_Rule (ok_Rule___init__ T) (hr.mono (by decide)) (by rfl) T.g_Rule T.b_Rule___init__ .nil (passes_call (takes_of rfl rfl rfl rfl) (fun _ _ _ _ h => h)) (pa_cons (pe_op op_addX pe_int (pe_op op_modX (pe_op op_addX (pv 3) (pe_op op_modX (pe_op op_fdivX (pv 4) pe_int) pe_int)) pe_int)) pa_nil)) pa_nil))) (pe_slice (sl_listK (K := K) rfl) (pv 2) (po_some (pv 6)) po_none)))
      (pss_one (ps_ret (pe_or (pe_call (ok__law_no_rule T) (hr.mono (by decide)) (by rfl) T.g__law_no_rule T.F__law_no_rule.kp T.b__law_no_rule .nil (passes_call (takes_of rfl rfl rfl rfl) (fun _ _ _ _ h => h)) (pa_cons (pv 3) (pa_cons (pe_slice (sl_listK (K := K) rfl) (pv 7) po_none (po_some pe_int)) pa_nil))) (pe_one (pe_cmpR (op_eqK (K := K) rfl hr.units) (pv 6) pe_int (nomark _))))))))))))), ?_⟩
    walk_at "x"
    refine ⟨a, ns, 2, rfl, hS, hl, by decide, by decide, fun z H1 s1 => ?_⟩
    have w1 := (Own.start (H := H)).ext s1
    walk_at "x"
    refine x_modP (by decide) ?_
    walk_at "x"
    refine x_mulI (.of_right (by decide)) ?_
    walk_at "x"
    refine x_modP (by decide) ?_
    generalize z % 1000003 * 69621 % 2147483629 = y
    walk_at "x"
    refine x_shl ⟨by omega, by omega, by decide⟩ ?_
    rw [shl_nat]
    walk_at "x"
    refine x_shl ⟨by omega, by omega, by decide⟩ ?_
    rw [shl_nat]
    walk_at "x"
    refine x_modP (by decide) ?_
    walk_at "x"
    refine ⟨(by show 1 ≤ sizeLine; decide), fun p1 n1 => ?_⟩
    have w2 := w1.new (o := .lst [.int 0]) n1
    refine ⟨(by show 7 ≤ sizeLine; decide), fun p2 n2 => ?_⟩
    have hy := Int.emod_nonneg y (show (100 : Int) ≠ 0 by decide)
    have w3 := w2.new (o := .lst [.int (-1), .int ((2 ^ m : Nat) : Int), .int (((2 ^ m : Nat) : Int) + y % 100), .non, .bl true, .str "1", .ref p1]) n2
    walk_at "x"
    refine x_divP (by decide) (by decide) ?_
    walk_at "x"
    refine x_modP (by decide) ?_
    obtain ⟨v, ev, hv⟩ := at_mem (xs := [.int (-1), .int ((2 ^ m : Nat) : Int), .int (((2 ^ m : Nat) : Int) + y % 100), .non, .bl true, .str "1", .ref p1]) (i := y / 100 % 7) (by omega) (by show y / 100 % 7 < 7; omega)
    refine x_ixXL (w3.sq 0 rfl) ev ?_
    have hvT : Thing (upd (upd H1 p1 (.lst [.int 0])) p2 (.lst [.int (-1), .int ((2 ^ m : Nat) : Int), .int (((2 ^ m : Nat) : Int) + y % 100), .non, .bl true, .str "1", .ref p1])) v := by
      simp only [List.mem_cons, List.not_mem_nil, or_false] at hv
      rcases hv with rfl | rfl | rfl | rfl | rfl | rfl | rfl
      all_goals first | exact .int _ | exact .non | exact .bl _ | exact .str _ | exact .lst (.inl (w3.get 1 rfl))
    have hvN : ¬ inR v 0 (((2 ^ m : Nat) : Int) - 1) := by
      rintro ⟨x, ex, hx⟩
      subst ex
      simp only [List.mem_cons, List.not_mem_nil, or_false, V.int.injEq, reduceCtorEq, false_or] at hv
      omega
    walk_at "x"
    refine ⟨c, m, f, v, rfl, R.same w3.ex, hvT, hvN, fun H4 s4 => ⟨true, rfl, iteF ?_⟩⟩
    have w4 := (w3.ext s4).sub (ds := []) (List.nil_sublist _)
    clear w3 hvT
    walk_at "x"
    refine x_modP (by decide) ?_
    walk_at "x"
    refine ⟨(by show 7 ≤ sizeLine; decide), fun p3 n3 => ?_⟩
    have w5 := w4.new (o := .lst [.int 0, .int 7, .int (-1), .non, .bl true, .str "2", .int (7 + y % 100)]) n3
    walk_at "x"
    refine x_divP (by decide) (by decide) ?_
    walk_at "x"
    refine x_modP (by decide) ?_
    obtain ⟨v2, ev2, hv2⟩ := at_mem (xs := [.int 0, .int 7, .int (-1), .non, .bl true, .str "2", .int (7 + y % 100)]) (i := y / 700 % 7) (by omega) (by show y / 700 % 7 < 7; omega)
    refine x_ixXL (w5.sq 0 rfl) ev2 ?_
    walk_at "x"
    refine ⟨(by show 0 ≤ sizeLine; decide), fun p4 n4 => ?_⟩
    have w6 := w5.new (o := .lst ([].map V.ref)) n4
    have hvT2 : ∀ {H0 : Hp}, Thing H0 v2 := fun {H0} => by
      simp only [List.mem_cons, List.not_mem_nil, or_false] at hv2
      rcases hv2 with rfl | rfl | rfl | rfl | rfl | rfl | rfl
      all_goals first | exact .int _ | exact .non | exact .bl _ | exact .str _
    refine ⟨p4, v2, [], rfl, hvT2, .inl (w6.get 0 rfl), by decide, fun r hr => (nomatch hr), fun _ H7 s7 => ⟨true, rfl, iteF ?_⟩, fun ⟨m', ok, o1, o2, _⟩ => ?_⟩
    case refine_2 =>
      subst ok
      simp only [List.mem_cons, List.not_mem_nil, or_false, V.int.injEq, reduceCtorEq, false_or] at hv2
      omega
    have w7 := (w6.ext s7).sub (ds := []) (List.nil_sublist _)
    walk_at "x"
    intro r0 d0 a0 e0 ne0
    refine u_rule upd_same T.cl_Rule T.n_Rule_many m1 m6 fun J0 sx0 cx0 => ⟨rfl, ?_⟩
    obtain ⟨B1, sB1, x1, bx1⟩ := own_made0 w7 a0 e0 ne0 sx0 cx0
    have R0 : RuleAt A K B1 r0 m (fun _ => 0) := .kRule (.mk bx1 fun _ _ => rfl)
    walk_at "x"
    refine ⟨(by show 1 ≤ sizeLine; decide), fun p5 n5 => ?_⟩
    have x2 := x1.new (o := .lst [.ref r0]) n5
    walk_at "x"
    refine x_lenL (x2.seq (sB1.seq (.inl hB))) ?_
    rw [List.length_map]
    walk_at "x"
    refine x_mulL (x2.get 0 rfl) ⟨by omega, by omega, Nat.le_trans (show [V.ref r0].length * (13 - (rs.length : Int)).toNat ≤ 13 by show 1 * _ ≤ 13; omega) (by decide)⟩ (fun p6 n6 => ?_)
    rw [rep_ref]
    have x3 := x2.new (o := .lst ((List.replicate (13 - (rs.length : Int)).toNat r0).map V.ref)) n6
    have hk13 : (13 - (rs.length : Int)).toNat + rs.length = 13 := by omega
    generalize (13 - (rs.length : Int)).toNat = k13 at x3 hk13 ⊢
    have sB1' := sB1
    have hB3 := rd_same (sB1.trans x3.ex) hB
    refine x_addL hB3 (.inl (x3.get 0 rfl)) (Nat.le_trans (show (rs.map V.ref).length + ((List.replicate k13 r0).map V.ref).length ≤ 100 by rw [List.length_map, List.length_map, List.length_replicate]; omega) (by decide)) (fun p7 n7 => ?_)
    rw [← List.map_append]
    have x4 := x3.new (o := .lst ((rs ++ List.replicate k13 r0).map V.ref)) n7
    have all4 : ∀ {H0 : Hp}, Same B1 H0 → ∀ r ∈ rs ++ List.replicate k13 r0, ∃ m f, RuleAt A K H0 r m f := fun s r hr => by
      rcases List.mem_append.mp hr with h | h
      · obtain ⟨f, R⟩ := hmem r h
        exact ⟨m, f, R.same (sB1.trans s)⟩
      · obtain rfl := List.eq_of_mem_replicate h
        exact ⟨m, _, R0.same s⟩
    walk_at "x"
    refine ⟨p7, .int (m : Int), rs ++ List.replicate k13 r0, rfl, .int _, .inl (x4.get 0 rfl), by rw [List.length_append, List.length_replicate]; omega, all4 x4.ex, fun _ H7 s7 => ⟨true, rfl, iteF ?_⟩, fun ⟨m', _, _, _, h, _⟩ => absurd h (by rw [List.length_append, List.length_replicate]; omega)⟩
    have x5 := (x4.ext s7).sub (ds := []) (List.nil_sublist _)
    clear x4 x3 x2 x1
    have hB5 := rd_same (sB1.trans x5.ex) hB
    walk_at "x"
    refine x_divP (by decide) (by decide) ?_
    walk_at "x"
    refine x_lenL (.inl hB5) ?_
    rw [List.length_map]
    walk_at "x"
    refine x_modP (by omega) ?_
    obtain ⟨at_, hat⟩ := Int.eq_ofNat_of_zero_le (Int.emod_nonneg (y / 4900) (show (rs.length : Int) + 1 ≠ 0 by omega))
    have hatl : at_ ≤ rs.length := by have := Int.emod_lt_of_pos (y / 4900) (show (0 : Int) < (rs.length : Int) + 1 by omega); omega
    rw [hat]
    walk_at "x"
    refine ⟨b, _, rfl, .inl hB5, fun p8 n8 => ?_⟩
    rw [cut_to, ← List.map_take]
    have x6 := x5.new (o := .lst ((rs.take at_).map V.ref)) n8
    walk_at "x"
    refine x_divP (by decide) (by decide) ?_
    walk_at "x"
    refine x_modP (by decide) ?_
    walk_at "x"
    refine x_modP (by decide) ?_
    walk_at "x"
    obtain ⟨m2, hm2, hm21, hm26, hne⟩ : ∃ m2 : Nat, 1 + ((m : Int) + y / 7 % 5) % 6 = (m2 : Int) ∧ 1 ≤ m2 ∧ m2 ≤ 6 ∧ m2 ≠ m := ⟨(1 + ((m : Int) + y / 7 % 5) % 6).toNat, by omega, by omega, by omega, by omega⟩
    rw [hm2]
    intro r2 d2 a2 e2 ne2
    refine u_rule upd_same T.cl_Rule T.n_Rule_many hm21 hm26 fun J2 sx2 cx2 => ⟨rfl, ?_⟩
    obtain ⟨B2, sB2, x7, bx2⟩ := own_made0 x6 a2 e2 ne2 sx2 cx2
    have R2 : RuleAt A K B2 r2 m2 (fun _ => 0) := .kRule (.mk bx2 fun _ _ => rfl)
    walk_at "x"
    refine ⟨(by show 1 ≤ sizeLine; decide), fun p9 n9 => ?_⟩
    have x8 := x7.new (o := .lst ([r2].map V.ref)) n9
    refine x_addL (.inl (x8.get 1 rfl)) (.inl (x8.get 0 rfl)) (Nat.le_trans (show ((rs.take at_).map V.ref).length + ([r2].map V.ref).length ≤ 100 by rw [List.length_map, List.length_take]; show _ + 1 ≤ 100; omega) (by decide)) (fun p10 n10 => ?_)
    rw [← List.map_append]
    have x9 := x8.new (o := .lst ((rs.take at_ ++ [r2]).map V.ref)) n10
    walk_at "x"
    refine ⟨b, _, rfl, .inl (rd_same ((sB1.trans sB2).trans x9.ex) hB), fun p11 n11 => ?_⟩
    rw [cut_from, ← List.map_drop]
    have x10 := x9.new (o := .lst ((rs.drop at_).map V.ref)) n11
    refine x_addL (.inl (x10.get 1 rfl)) (.inl (x10.get 0 rfl)) (Nat.le_trans (show ((rs.take at_ ++ [r2]).map V.ref).length + ((rs.drop at_).map V.ref).length ≤ 100 by rw [List.length_map, List.length_map, List.length_append, List.length_take, List.length_drop]; show _ + 1 + _ ≤ 100; omega) (by decide)) (fun p12 n12 => ?_)
    rw [← List.map_append]
    have x11 := x10.new (o := .lst ((rs.take at_ ++ [r2] ++ rs.drop at_).map V.ref)) n12
    walk_at "x"
    refine ⟨p12, _, rfl, x11.sq 0 rfl, fun p13 n13 => ?_⟩
    rw [show (12 : Int) = ((12 : Nat) : Int) from rfl, cut_to, ← List.map_take]
    have x12 := x11.new (o := .lst (((rs.take at_ ++ [r2] ++ rs.drop at_).take 12).map V.ref)) n13
    have all12 : ∀ {H0 : Hp}, Same B2 H0 → ∀ r ∈ (rs.take at_ ++ [r2] ++ rs.drop at_).take 12, ∃ m f, RuleAt A K H0 r m f := fun s r hr => by
      have hr := List.mem_of_mem_take hr
      have inr : r ∈ rs → ∃ m f, RuleAt A K _ r m f := fun h => by
        obtain ⟨f, R⟩ := hmem r h
        exact ⟨m, f, R.same ((sB1.trans sB2).trans s)⟩
      rcases List.mem_append.mp hr with h | h
      · rcases List.mem_append.mp h with h | h
        · exact inr (List.mem_of_mem_take h)
        · obtain rfl := List.mem_singleton.mp h
          exact ⟨m2, _, R2.same s⟩
      · exact inr (List.mem_of_mem_drop h)
    walk_at "x"
    refine ⟨p13, .int (m : Int), _, rfl, .int _, .inl (x12.get 0 rfl), Nat.le_trans (List.length_take_le 12 _) (by decide), all12 x12.ex, fun _ H7 s8 => ⟨true, rfl, iteT (k _ ((sB1.trans sB2).trans (x12.ex.trans s8)))⟩, fun ⟨m', em, _, _, _, ok⟩ H7 s8 => ⟨false, rfl, iteF ?_⟩⟩
    walk_at "x"
    rw [decide_eq_true (show (at_ : Int) = ((12 : Nat) : Int) from ?_)]
    · exact k _ ((sB1.trans sB2).trans (x12.ex.trans s8))
    · by_cases h : at_ < 12
      · exfalso
        have hin : r2 ∈ (rs.take at_ ++ [r2] ++ rs.drop at_).take 12 := by
          rw [List.mem_take_iff_getElem]
          refine ⟨at_, by rw [List.length_append, List.length_append, List.length_take, List.length_drop]; show at_ < min 12 (min at_ rs.length + 1 + _); omega, ?_⟩
          rw [List.getElem_append_left (by rw [List.length_append, List.length_take]; show at_ < _ + 1; omega), List.getElem_append_right (by rw [List.length_take]; omega)]
          simp
        obtain ⟨f2, R3⟩ := ok r2 hin
        have e1 := (R2.same x12.ex).uniq T R3
        have e2 := V.int.inj em
        omega
      · omega

/-! ### law -/
def sp_law (K : PySem.W.Frag) : Sp := fun vs H Q _ => ∃ (a : Addr) (ns : List Int), vs = [.ref a] ∧ SqL K H a (ns.map V.int) ∧ ns.length ≤ 63 ∧ ∀ H', Q (.bl true) H'
theorem ok_law (T : Txt K mg A) : FnOk P w K mg base (L2.CX P w) 9 A.a_law A.d_law ["_law_script"] (sp_law K) := by
  refine T.F_law.okX sc_law (fun vs H Q E h => ?_) (fun cdv A0 outer s H vs Q E hr h => ?_)
  · obtain ⟨a, ns, rfl, _⟩ := h; rfl
  · obtain ⟨a, ns, rfl, hS, hl, k⟩ := h
    refine ⟨_, (pss_cons (ps_set (i := 1) sc_law.nd rfl (.inr rfl) (pe_op op_addX pe_int (pe_op op_modX (pe_call (ok__law_cell T) (hr.mono (by decide)) (by rfl) T.g__law_cell T.F__law_cell.kp T.b__law_cell .nil (passes_call (takes_of rfl rfl rfl rfl) (fun _ _ _ _ h => h)) (pa_cons (pv 0) (pa_cons pe_int pa_nil))) pe_int)))
      (pss_cons (ps_set (i := 2) sc_law.nd rfl (.inr rfl) (pe_call (ok__law_rules T) (hr.mono (by decide)) (by rfl) T.g__law_rules T.F__law_rules.kp T.b__law_rules .nil (passes_call (takes_of rfl rfl rfl rfl) (fun _ _ _ _ h => h)) (pa_cons (pv 0) (pa_cons (pv 1) pa_nil))))
      (pss_cons (ps_setLc (i := 4) (own := [("_law_group", 14)]) rfl sc_law.nd rfl rfl (sw_true rfl rfl rfl (by decide +kernel)) (pi_range1 (by rfl) T.z_range (pa_cons (pe_op op_shlX pe_int (pv 1)) pa_nil)) (blkOk_by (own := [("_law_group", 14)]) (N := N_law) (sc := defScope s_law) (by decide +kernel)) (fun _ _ _ _ _ => (pg_name (i := 14) sc_law.nd rfl (.inr rfl))) (fun _ _ _ _ _ => pts_nil) (fun _ _ _ _ _ => (pe_callB (cr_sumK (K := K) rfl rfl) (by rfl) T.z_sum (by decide +kernel) (pa_cons (pe_lc (own := [("_law_row", 3)]) rfl sc_law.nd (pi_listK (K := K) rfl (pv 2)) (blkOk_by (own := [("_law_row", 3)]) (N := N_law) (sc := ({ kind := .function, names := [(".0", .local), ("_law_group", .cell), ("sum", .globalImplicit), ("_law_some", .cell)], isGenerator := false, isCoroutine := false } : PySem.Scope)) (by decide +kernel)) (fun _ _ _ _ _ => (pg_name (i := 3) sc_law.nd rfl (.inl rfl))) (fun _ _ _ _ _ => pts_nil) (fun _ _ _ _ _ => (pe_call (ok__law_earned T) (hr.mono (by decide)) (by rfl) T.g__law_earned T.F__law_earned.kp T.b__law_earned .nil passL (pa_cons (pv 3) (pa_cons (pv 14) pa_nil))))) pa_nil))))
      (pss_cons (ps_set (i := 5) sc_law.nd rfl (.inr rfl) (pe_lst pa_nil))
      (pss_cons (ps_setLc (i := 6) (own := [("_law_row", 3)]) rfl sc_law.nd rfl rfl (sw_true rfl rfl rfl (by decide +kernel)) (pi_listK (K := K) rfl (pv 2)) (blkOk_by (own := [("_law_row", 3)]) (N := N_law) (sc := defScope s_law) (by decide +kernel)) (fun _ _ _ _ _ => (pg_name (i := 3) sc_law.nd rfl (.inl rfl))) (fun _ _ _ _ _ => pts_nil) (fun _ _ _ _ _ => (pe_call (ok__law_object T) (hr.mono (by decide)) (by rfl) T.g__law_object T.F__law_object.kp T.b__law_object .nil passL (pa_cons (pv 3) (pa_cons (pv 1) (pa_cons (pv 5) pa_nil))))))
      (pss_cons (ps_set (i := 7) sc_law.nd rfl (.inl rfl) (pe_callTy (call_listK (K := K) rfl) (by rfl) T.z_list (by decide +kernel) (pa_cons (pv 6) pa_nil)))
      (pss_cons (ps_set (i := 8) sc_law.nd rfl (.inl rfl) (pe_make T.mk_Company (ok_Company___init__ T) (hr.mono (by decide)) (by rfl) T.g_Company T.b_Company___init__ .nil (passes_call (takes_of rfl rfl rfl rfl) (fun _ _ _ _ h => h)) (pa_cons (pv 1) (pa_cons (pv 7) pa_nil))))
      (pss_cons (ps_set (i := 9) sc_law.nd rfl (.inr rfl) (pe_lc (own := [("_law_k", 15)]) rfl sc_law.nd (pi_range1 (by rfl) T.z_range (pa_cons (pv 1) pa_nil)) (blkOk_by (own := [("_law_k", 15)]) (N := N_law) (sc := defScope s_law) (by decide +kernel)) (fun _ _ _ _ _ => (pg_name (i := 15) sc_law.nd rfl (.inl rfl))) (fun _ _ _ _ _ => pts_nil) (fun _ _ _ _ _ => (pe_op op_modX (pe_call (ok__law_cell T) (hr.mono (by decide)) (by rfl) T.g__law_cell T.F__law_cell.kp T.b__law_cell .nil passL (pa_cons (pv 0) (pa_cons (pe_op op_addX pe_int (pv 15)) pa_nil))) pe_int))))
      (pss_cons (ps_set (i := 10) sc_law.nd rfl (.inl rfl) (pe_make T.mk_Company (ok_Company___init__ T) (hr.mono (by decide)) (by rfl) T.g_Company T.b_Company___init__ .nil (passes_call (takes_of rfl rfl rfl rfl) (fun _ _ _ _ h => h)) (pa_cons (pv 1) (pa_cons (pe_lst (pa_cons (pe_make T.mk_Own (ok_Own___init__ T) (hr.mono (by decide)) (by rfl) T.g_Own T.b_Own___init__ .nil (passes_call (takes_of rfl rfl rfl rfl) (fun _ _ _ _ h => h)) (pa_cons (pe_callTy (call_listK (K := K) rfl) (by rfl) T.z_list (by decide +kernel) (pa_cons (pv 9) pa_nil)) pa_nil)) (pa_cons (pe_make T.mk_Rule (ok_Rule___init__ T) (hr.mono (by decide)) (by rfl) T.g_Rule T.b_Rule___init__ .nil (passes_call (takes_of rfl rfl rfl rfl) (fun _ _ _ _ h => h)) (pa_cons (pv 1) pa_nil)) pa_nil))) pa_nil))))
      (pss_cons (ps_setLc (i := 11) (own := [("_law_group", 14)]) rfl sc_law.nd rfl rfl (sw_true rfl rfl rfl (by decide +kernel)) (pi_range1 (by rfl) T.z_range (pa_cons (pe_op op_shlX pe_int (pv 1)) pa_nil)) (blkOk_by (own := [("_law_group", 14)]) (N := N_law) (sc := defScope s_law) (by decide +kernel)) (fun _ _ _ _ _ => (pg_name (i := 14) sc_law.nd rfl (.inl rfl))) (fun _ _ _ _ _ => pts_nil) (fun _ _ _ _ _ => (pe_call (ok__law_earned T) (hr.mono (by decide)) (by rfl) T.g__law_earned T.F__law_earned.kp T.b__law_earned .nil passL (pa_cons (pe_tup (pa_cons pe_int (pa_cons (pv 9) (pa_cons (pe_lst pa_nil) pa_nil)))) (pa_cons (pv 14) pa_nil)))))
      (pss_cons (ps_if (PW.pt (pw_or (pt_val (pe_callB (call_isiX (K := K) rfl) (by rfl) T.z_isinstance (by decide +kernel) (pa_cons (pv 8) (pa_cons (pe_glob (v := .ref A.Rule) (by rfl) T.g_Rule rfl) pa_nil)))) (pw_or (pt_cmpR (op_neSK (K := K) rfl hr.units) (pv 7) (pv 6) (nomark _)) (pw_or (pt_not (pt_val (pe_call (ok__law_holds T) (hr.mono (by decide)) (by rfl) T.g__law_holds T.F__law_holds.kp T.b__law_holds .nil (passes_call (takes_of rfl rfl rfl rfl) (fun _ _ _ _ h => h)) (pa_cons (pv 8) (pa_cons (pv 4) pa_nil))))) (pw_or1 (pt_not (pt_val (pe_call (ok__law_holds T) (hr.mono (by decide)) (by rfl) T.g__law_holds T.F__law_holds.kp T.b__law_holds .nil (passes_call (takes_of rfl rfl rfl rfl) (fun _ _ _ _ h => h)) (pa_cons (pv 10) (pa_cons (pv 11) pa_nil)))))))))) (pss_one (ps_ret pe_bl)) pss_nil)
      (pss_cons (ps_set (i := 12) sc_law.nd rfl (.inl rfl) (pe_meth0 (pv 8) T.cl_Company T.m_Company_table (ok_Company_table T) (hr.mono (by decide)) T.b_Company_table .nil (passes_call (takes_of rfl rfl rfl rfl) (fun _ _ _ _ h => h))))
      (pss_cons (ps_expr (pe_bm PySem.F.plainAttrs_list PySem.F.slot_list_append PySem.F.type_list_append mt_append (pv 12) (pa_cons pe_int pa_nil)))
      (pss_cons (ps_expr (pe_bm0 PySem.F.plainAttrs_list PySem.F.slot_list_clear PySem.F.type_list_clear mt_clear (pv 7)))
      (pss_cons (ps_for (passes_of rfl) rfl (pi_listK (K := K) rfl (pv 5)) (pg_name (i := 3) sc_law.nd rfl (.inl rfl)) (pss_one (ps_expr (pe_bm0 PySem.F.plainAttrs_list PySem.F.slot_list_clear PySem.F.type_list_clear mt_clear (pv 3)))))
      (pss_cons (ps_if (pt_not (pt_val (pe_call (ok__law_refusals T) (hr.mono (by decide)) (by rfl) T.g__law_refusals T.F__law_refusals.kp T.b__law_refusals .nil (passes_call (takes_of rfl rfl rfl rfl) (fun _ _ _ _ h => h)) (pa_cons (pv 0) (pa_cons (pv 8) (pa_cons (pv 6) (pa_cons (pv 1) pa_nil))))))) (pss_one (ps_ret pe_bl)) pss_nil)
      (pss_cons (ps_set (i := 13) sc_law.nd rfl (.inl rfl) (pe_op op_addX (pv 6) (pe_op op_mulX (pe_lst (pa_cons (pe_make T.mk_Rule (ok_Rule___init__ T) (hr.mono (by decide)) (by rfl) T.g_Rule T.b_Rule___init__ .nil (passes_call (takes_of rfl rfl rfl rfl) (fun _ _ _ _ h => h)) (pa_cons (pv 1) pa_nil)) pa_nil)) (pe_op op_subX pe_int (pe_callB (call_lenK (K := K) rfl) (by rfl) T.z_len (by decide +kernel) (pa_cons (pv 6) pa_nil))))))
      (pss_cons (ps_if (PW.pt (pw_and (pt_cmpR op_ltX (pv 1) pe_int (nomark _)) (pw_and1 (pt_not (pt_val (pe_call (ok__law_holds T) (hr.mono (by decide)) (by rfl) T.g__law_holds T.F__law_holds.kp T.b__law_holds .nil (passes_call (takes_of rfl rfl rfl rfl) (fun _ _ _ _ h => h)) (pa_cons (pe_make T.mk_Company (ok_Company___init__ T) (hr.mono (by decide)) (by rfl) T.g_Company T.b_Company___init__ .nil (passes_call (takes_of rfl rfl rfl rfl) (fun _ _ _ _ h => h)) (pa_cons (pv 1) (pa_cons (pv 13) pa_nil))) (pa_cons (pv 4) pa_nil)))))))) (pss_one (ps_ret pe_bl)) pss_nil)
      (pss_one (ps_ret (pe_and (pe_call (ok__law_holds T) (hr.mono (by decide)) (by rfl) T.g__law_holds T.F__law_holds.kp T.b__law_holds .nil (passes_call (takes_of rfl rfl rfl rfl) (fun _ _ _ _ h => h)) (pa_cons (pv 8) (pa_cons (pv 4) pa_nil))) (pe_one (pe_cmpR (op_eqK (K := K) rfl hr.units) (pv 12) (pe_op op_addX (pv 4) (pe_lst (pa_cons pe_int pa_nil))) (nomark _)))))))))))))))))))))))), ?_⟩
    walk_at "x"
    refine ⟨a, ns, 0, rfl, hS, hl, by decide, by decide, fun z0 H1 s1 => ?_⟩
    walk_at "x"
    refine x_modP (by decide) ?_
    obtain ⟨m, hm⟩ : ∃ m : Nat, 1 + z0 % 6 = (m : Int) := ⟨(1 + z0 % 6).toNat, by omega⟩
    have m1 : 1 ≤ m := by omega
    have m6 : m ≤ 6 := by omega
    have hp := pow6 m6
    have hpp := Nat.two_pow_pos m
    walk_at "x"
    rw [hm]
    refine ⟨a, ns, m, rfl, s1.seq hS, hl, m1, m6, fun p ts rs H2 s2 c2 hA ok h12 h5 => ?_⟩
    have hS := (s1.trans s2).seq hS
    have hP : SqL K H2 p (ts.map V.ref) := SqL.of c2
    clear s2 s1
    have w0 := Own.start (H := H2)
    have htl := hA.len
    walk_at "x"
    refine x_shl ⟨by omega, by omega, by decide⟩ ?_
    rw [shl_nat]
    walk_at "x"
    refine ⟨_, rfl, by omega, by omega, cp_r0 (n := ((2 ^ m : Nat) : Int)) (fun i => ((List.range i).map (sumF (rs.map rowF))).map V.int) w0 rfl ?_ ?_⟩
    · intro D i H' hi p1
      have hi2 : i < 2 ^ m := by omega
      walk_at "x"
      refine ⟨rfl, ?_⟩
      walk_at "x"
      refine iteT ?_
      walk_at "x"
      refine ⟨p, rfl, ⟨_, Own.seq p1 hP⟩, cp_list (xs := ts.map V.ref) (fun j => (rs.take j).map fun r => V.int (rowF r i)) p1 hP rfl ?_ ?_⟩
      · intro D2 j x H3 hx p2
        obtain ⟨t, ht, rfl⟩ := map_at hx
        obtain ⟨r, hr, R⟩ := hA.at ht
        have hj := (List.getElem?_eq_some_iff.mp hr).1
        walk_at "x"
        refine ⟨rfl, ?_⟩
        walk_at "x"
        refine iteT ?_
        walk_at "x"
        refine ⟨t, r, m, i, rfl, R.same (Own.ex p2), ok r (List.mem_of_getElem? hr), m6, hi2, fun H4 s4 => ?_⟩
        refine cp_fin (F := fun j => (rs.take j).map fun r => V.int (rowF r i)) (Own.ext p2 s4) ?_ (by rw [List.length_map]; have := List.length_take_le j rs; omega)
        show (rs.take (j + 1)).map _ = _
        rw [List.take_add_one, hr, List.map_append] <;> rfl
      · intro D2 H3 w2
        rw [List.length_map, htl, List.take_length, show (rs.map fun r => V.int (rowF r i)) = (rs.map fun r => rowF r i).map V.int by rw [List.map_map] <;> rfl] at w2
        walk_at "x"
        refine x_sum (w2.sq 0 rfl) ?_
        have es : (rs.map fun r => rowF r i).sum = sumF (rs.map rowF) i := by unfold sumF; rw [List.map_map] <;> rfl
        rw [es]
        exact cp_fin (F := fun i => ((List.range i).map (sumF (rs.map rowF))).map V.int) w2.pop (by rw [range_map, List.map_append] <;> rfl) (by rw [List.length_map, List.length_map, List.length_range]; omega)
    intro pd H3 w3
    rw [Int.toNat_natCast] at w3
    have sF := same_upd (o := .lst (((List.range (2 ^ m)).map (sumF (rs.map rowF))).map V.int)) (w3.none 0 rfl)
    have w3 := w3.freeze
    have hD : upd H2 pd (.lst (((List.range (2 ^ m)).map (sumF (rs.map rowF))).map V.int)) pd = some (.lst (((List.range (2 ^ m)).map (sumF (rs.map rowF))).map V.int)) := upd_same
    have hS := sF.seq hS
    have hP := sF.seq hP
    have hA := hA.same sF
    generalize upd H2 pd _ = B1 at w3 hD hS hP hA
    generalize hf : sumF (rs.map rowF) = f at hD ⊢
    walk_at "x"
    refine ⟨(by show 0 ≤ sizeLine; decide), fun ph n4 => ?_⟩
    have w4 := w3.new (o := .lst []) n4
    walk_at "x"
    refine ⟨p, rfl, ⟨_, w4.seq hP⟩, fun D hDn => lc_list (xs := ts.map V.ref) (fun i H' => ∃ (B2 : Hp) (ls : List (Addr × List V)) (xs : List Addr), Same B1 B2 ∧ Own B2 ((ph, .lst ((ls.map (·.1)).map V.ref)) :: (D, .lst (xs.map V.ref)) :: ls.map (fun p => (p.1, HO.lst p.2))) H' ∧ RulesF A K B2 m xs ((rs.take i).map rowF) ∧ ls.length = i ∧ xs.length = i)
      ⟨B1, [], [], Same.refl _, (w4.new (o := .lst []) hDn).perm (.swap _ _ _), .nil, rfl, rfl⟩ (fun i H' _ h => ?_) ?_ ?_⟩
    · obtain ⟨B2, _, _, sB, w, _⟩ := h; exact w.seq (sB.seq hP)
    · rintro i x H' hx ⟨B2, ls, xs, sB, w, hF, hl1, hl2⟩
      obtain ⟨t, ht, rfl⟩ := map_at hx
      obtain ⟨r, hr, R⟩ := hA.at ht
      have hi := (List.getElem?_eq_some_iff.mp hr).1
      walk_at "x"
      refine ⟨rfl, ?_⟩
      walk_at "x"
      refine iteT ?_
      walk_at "x"
      refine ⟨t, ph, r, m, B2, _, ls.map (·.1), rfl, w, R.same sB, ok r (List.mem_of_getElem? hr), m1, m6, by rw [List.length_map]; omega, fun x (l : Addr) zs B3 H4 sB3 w4 R4 => ?_⟩
      have w5 := w4.perm (ds := (ph, .lst ((ls.map (·.1) ++ [l]).map V.ref)) :: (D, .lst (xs.map V.ref)) :: (ls.map (fun p => (p.1, HO.lst p.2)) ++ [(l, .lst zs)])) (.cons _ ((List.Perm.swap _ _ _).trans (.cons _ (List.perm_append_singleton _ _).symm)))
      refine ⟨xs.map V.ref, w5.get 1 rfl, Nat.lt_of_lt_of_le (show (xs.map V.ref).length < 1000 by rw [List.length_map]; omega) (by decide), B3, ls ++ [(l, zs)], xs ++ [x], sB.trans sB3, ?_, ?_, by rw [List.length_append, hl1] <;> rfl, by rw [List.length_append, hl2] <;> rfl⟩
      · have w6 := w5.put (o' := .lst (xs.map V.ref ++ [.ref x])) 1 rfl
        rw [List.map_append, List.map_append, List.map_append]
        rw [List.map_append] at w6
        rw [List.map_append]
        exact w6
      · rw [List.take_add_one, hr, List.map_append]
        exact RulesF.app (.cons R4 .nil) (hF.same sB3)
    rintro H5 ⟨B2, ls, xs, sB, w5, hF, hl1, hl2⟩
    rw [List.length_map, htl] at hF hl1 hl2
    rw [List.take_length] at hF
    have sF := same_upd (o := .lst (xs.map V.ref)) (w5.none 1 rfl)
    have w5 := (w5.perm (.swap _ _ _)).freeze
    have hB : upd B2 D (.lst (xs.map V.ref)) D = some (.lst (xs.map V.ref)) := upd_same
    have hS := (sB.trans sF).seq hS
    have hD := (sB.trans sF) _ _ hD
    have hF := hF.same sF
    clear sB
    generalize upd B2 D _ = B3 at w5 hB hS hD hF
    have hx12 : xs.length ≤ 12 := by omega
    walk_at "x"
    refine x_list (w5.seq (SqL.of hB)) (fun pg n6 => ?_)
    have w6 := w5.new (o := .lst (xs.map V.ref)) n6
    walk_at "x"
    intro x1 d1 a1 e1 ne1
    obtain ⟨hq1, nq1⟩ := own_keep w6 (o1 := .own x1) (o2 := .ins A.Company d1 []) 0 rfl a1 e1
    have sM1 : Same _ (upd (upd (upd H5 pg (.lst (xs.map V.ref))) d1 (.own x1)) x1 (.ins A.Company d1 [])) := (same_upd e1).trans (same_upd (by rw [upd_ne (Ne.symm ne1)]; exact a1))
    have hFc := hF.same (w6.ex.trans sM1)
    refine ⟨x1, A.Company, d1, pg, _, xs, rfl, upd_same, T.cl_Company, T.n_Company_many, T.n_Company_rules, .int _, SqL.of hq1, nq1, by omega, fun r hr => ?_, fun m' ok l1 J1 nl1 sx1 cx1 cl1 => ⟨rfl, ?_⟩, fun hn => absurd ⟨rfl, m1, m6, hx12, hFc.mem⟩ (hn m)⟩
    · obtain ⟨f, R⟩ := hFc.mem r hr; exact ⟨m, f, R⟩
    obtain rfl : m = m' := by have := V.int.inj ok.1; omega
    obtain ⟨B4, sB4, w7, bx1, bl1⟩ := own_made w6 a1 e1 ne1 nl1 sx1 cx1 cl1
    have R1 : CompAt A K B4 x1 m f := .mk bx1 (SqL.of bl1) (hF.same sB4) m1 m6 hx12 (fun g _ => by rw [hf])
    have hB := sB4 _ _ hB
    have hS := sB4.seq hS
    have hD := sB4 _ _ hD
    have hF := hF.same sB4
    clear hFc sM1 sx1 cx1 cl1 nl1 hq1 ok
    walk_at "x"
    refine ⟨_, rfl, by omega, by omega, cpE_range (lo := 0) (n := ((m : Int)).toNat) (G := fun B2 i acc => ∃ zs : List Int, acc = zs.map V.int ∧ zs.length = i) w7 ⟨[], rfl, rfl⟩ ?_ ?_⟩
    · rintro D i H' B2 acc hi sB ⟨zs, rfl, hz⟩ w
      rw [Int.toNat_natCast] at hi
      walk_at "x"
      refine ⟨rfl, ?_⟩
      walk_at "x"
      refine iteT ?_
      walk_at "x"
      rw [Int.zero_add]
      refine ⟨a, ns, _, rfl, w.seq (sB.seq hS), hl, by omega, by omega, fun y H4 s4 => ?_⟩
      refine x_modP (by decide) ?_
      exact cpE_fin (w.ext s4) sB ⟨zs ++ [_], by rw [List.map_append] <;> rfl, by rw [List.length_append, hz] <;> rfl⟩ (by rw [List.length_map]; omega)
    rintro po H8 B5 acc sB5 ⟨zs, rfl, hz⟩ w8
    rw [Int.toNat_natCast] at hz
    have sF := same_upd (o := .lst (zs.map V.int)) (w8.none 0 rfl)
    have w8 := w8.freeze
    have hO : upd B5 po (.lst (zs.map V.int)) po = some (.lst (zs.map V.int)) := upd_same
    have sB5 := sB5.trans sF
    have hB := sB5 _ _ hB
    have hS := sB5.seq hS
    have hD := sB5 _ _ hD
    have hF := hF.same sB5
    have R1 := R1.same sB5
    clear sF
    generalize upd B5 po _ = B6 at w8 hO hB hS hD hF R1 sB5
    walk_at "x"
    refine x_list (w8.seq (SqL.of hO)) (fun pz n9 => ?_)
    have w9 := w8.new (o := .lst (zs.map V.int)) n9
    walk_at "x"
    intro r2 d2 a2 e2 ne2
    obtain ⟨hq2, nq2⟩ := own_keep w9 (o1 := .own r2) (o2 := .ins A.Own d2 []) 0 rfl a2 e2
    have hq2 := SqL.of (K := K) hq2
    refine ⟨r2, A.Own, d2, pz, _, rfl, upd_same, T.cl_Own, T.n_Own_many, T.n_Own_numbers, hq2, nq2, fun y hy => ?_, fun ns' ens g1 g6 l2 J2 nl2 sx2 cx2 cl2 => ⟨rfl, ?_⟩, fun hn => ?_⟩
    · obtain ⟨z, _, rfl⟩ := List.mem_map.mp hy; exact ⟨.int _, fun h => nomatch h⟩
    case refine_3 => exact absurd ⟨by rw [List.length_map]; omega, by rw [List.length_map]; omega, by rw [List.all_map]; exact List.all_eq_true.mpr fun _ _ => rfl⟩ hn
    obtain rfl := map_int_inj ens
    obtain ⟨B7, sB7, w10, bx2, bl2⟩ := own_made w9 a2 e2 ne2 nl2 sx2 cx2 cl2
    have w10 := w10.pop
    have R2 : RuleAt A K B7 r2 m (sumS zs) := .kOwn (.mk (by rw [hz] at bx2; exact bx2) (SqL.of bl2) hz fun _ _ => rfl)
    clear sx2 cx2 cl2 nl2 hq2
    walk_at "x"
    intro r3 d3 a3 e3 ne3
    refine u_rule upd_same T.cl_Rule T.n_Rule_many m1 m6 fun J3 sx3 cx3 => ⟨rfl, ?_⟩
    obtain ⟨B8, sB8, w11, bx3⟩ := own_made0 w10 a3 e3 ne3 sx3 cx3
    have R3 : RuleAt A K B8 r3 m (fun _ => 0) := .kRule (.mk bx3 fun _ _ => rfl)
    have R2 := R2.same sB8
    walk_at "x"
    refine ⟨(by show 2 ≤ sizeLine; decide), fun p3 n12 => ?_⟩
    have w12 := w11.new (o := .lst ([r2, r3].map V.ref)) n12
    walk_at "x"
    intro x4 d4 a4 e4 ne4
    obtain ⟨hq4, nq4⟩ := own_keep w12 (o1 := .own x4) (o2 := .ins A.Company d4 []) 0 rfl a4 e4
    have sM4 : Same _ (upd (upd (upd J3 p3 (.lst ([r2, r3].map V.ref))) d4 (.own x4)) x4 (.ins A.Company d4 [])) := (same_upd e4).trans (same_upd (by rw [upd_ne (Ne.symm ne4)]; exact a4))
    have hF2 : RulesF A K B8 m [r2, r3] [sumS zs, fun _ => 0] := .cons R2 (.cons R3 .nil)
    have hFc := hF2.same (w12.ex.trans sM4)
    refine ⟨x4, A.Company, d4, p3, _, [r2, r3], rfl, upd_same, T.cl_Company, T.n_Company_many, T.n_Company_rules, .int _, SqL.of hq4, nq4, (by show 2 ≤ 1000; decide), fun r hr => ?_, fun m' ok l4 J4 nl4 sx4 cx4 cl4 => ⟨rfl, ?_⟩, fun hn => absurd ⟨rfl, m1, m6, (by show 2 ≤ 12; decide), hFc.mem⟩ (hn m)⟩
    · obtain ⟨f, R⟩ := hFc.mem r hr; exact ⟨m, f, R⟩
    obtain rfl : m = m' := by have := V.int.inj ok.1; omega
    obtain ⟨B9, sB9, w13, bx4, bl4⟩ := own_made w12 a4 e4 ne4 nl4 sx4 cx4 cl4
    have R4 : CompAt A K B9 x4 m (sumS zs) := .mk bx4 (SqL.of bl4) (hF2.same sB9) m1 m6 (by show 2 ≤ 12; decide) (fun g _ => by unfold sumF; simp)
    have w13 := w13.pop
    have sBB := (sB7.trans sB8).trans sB9
    have hO := sBB _ _ hO
    have hB := sBB _ _ hB
    have hS := sBB.seq hS
    have hD := sBB _ _ hD
    have hF := hF.same sBB
    have R1 := R1.same sBB
    clear hFc sM4 sx4 cx4 cl4 nl4 hq4 ok
    walk_at "x"
    refine x_shl ⟨by omega, by omega, by decide⟩ ?_
    rw [shl_nat]
    walk_at "x"
    refine ⟨_, rfl, by omega, by omega, cp_r0 (n := ((2 ^ m : Nat) : Int)) (fun i => ((List.range i).map (sumS zs)).map V.int) w13 rfl ?_ ?_⟩
    · intro D i H' hi p1
      have hi2 : i < 2 ^ m := by omega
      walk_at "x"
      refine ⟨rfl, ?_⟩
      walk_at "x"
      refine iteT ?_
      walk_at "x"
      refine ⟨(by show 0 ≤ sizeLine; decide), fun q1 k1 => ?_⟩
      have p2 := Own.new (o := .lst []) p1 k1
      refine ⟨(by show 3 ≤ sizeLine; decide), fun q2 k2 => ?_⟩
      have p3 := Own.new (o := .tup [.int 1, .ref po, .ref q1]) p2 k2
      walk_at "x"
      refine ⟨q2, ⟨1, zs, []⟩, m, i, rfl, ⟨po, q1, [], ⟨p3.get 0 rfl, p3.ex _ _ hO, p3.get 1 rfl, .nil⟩⟩, .inr (.inl ⟨rfl, hz, rfl⟩), m6, hi2, fun H4 s4 => ?_⟩
      exact cp_fin (F := fun i => ((List.range i).map (sumS zs)).map V.int) (p3.ext s4).pop.pop (by rw [range_map, List.map_append] <;> rfl) (by rw [List.length_map, List.length_map, List.length_range]; omega)
    intro pm H14 w14
    rw [Int.toNat_natCast] at w14
    have sF := same_upd (o := .lst (((List.range (2 ^ m)).map (sumS zs)).map V.int)) (w14.none 0 rfl)
    have w14 := w14.freeze
    have hM : SqL K (upd B9 pm (.lst (((List.range (2 ^ m)).map (sumS zs)).map V.int))) pm (((List.range (2 ^ m)).map (sumS zs)).map V.int) := SqL.of upd_same
    have hB := sF _ _ hB
    have hS := sF.seq hS
    have hD := sF _ _ hD
    have hF := hF.same sF
    have R1 := R1.same sF
    have R4 := R4.same sF
    generalize upd B9 pm _ = B10 at w14 hM hB hS hD hF R1 R4
    walk_at "x"
    obtain ⟨dy, ly, ey⟩ : ∃ dx l, B10 x1 = some (.ins A.Company dx [("many", .int (m : Int)), ("rules", .ref l)]) := by
      cases R1 with
      | @mk dx l rs fs e h hr h1 h6 hl hf => exact ⟨dx, l, e⟩
    refine x_isiC (w14.ex _ _ ey) T.i_Company T.q_Rule T.u_Company_Rule ?_
    refine ⟨false, rfl, iteF ?_⟩
    walk_at "x"
    refine ⟨pg, D, xs, rfl, rfl, w14.sq 0 rfl, SqL.of (w14.ex _ _ hB), ?_⟩
    refine ⟨false, rfl, iteF ?_⟩
    walk_at "x"
    refine ⟨x1, pd, m, f, rfl, R1.same w14.ex, w14.seq (SqL.of hD), fun H15 s15 => ⟨true, rfl, iteF ?_⟩⟩
    have w15 := w14.ext s15
    walk_at "x"
    refine ⟨x4, pm, m, sumS zs, rfl, R4.same w15.ex, w15.seq hM, fun H16 s16 => ⟨true, rfl, iteF ?_⟩⟩
    have w16 := w15.ext s16
    clear R4 w15 w14 hM
    walk_at "x"
    refine ⟨x1, dy, _, rfl, w16.ex _ _ ey, rfl, ?_⟩
    walk_at "x"
    refine ⟨x1, m, f, rfl, R1.same w16.ex, fun pf H17 n17 s17 c17 => ?_⟩
    have w17 := w16.newE n17 s17 c17
    walk_at "x"
    refine ⟨x_tyL (w17.get 0 rfl), ?_⟩
    walk_at "x"
    refine x_append (w17.get 0 rfl) (by rw [List.length_map, List.length_map, List.length_range]; exact Nat.lt_of_lt_of_le (show 2 ^ m < 1000 by omega) (by decide)) ?_
    rw [map_app_int]
    generalize hgs : ((List.range (2 ^ m)).map f) ++ [1] = gs
    have w18 := w17.put (o' := .lst (gs.map V.int)) 0 rfl
    walk_at "x"
    refine ⟨x_tyL (w18.get 1 rfl), pg, _, rfl, rfl, w18.get 1 rfl, ?_⟩
    have w19 : Own B10 ((pf, .lst (gs.map V.int)) :: (pg, .lst []) :: (ph, .lst ((ls.map (fun q : Addr × List V => q.1)).map V.ref)) :: ls.map (fun q : Addr × List V => (q.1, HO.lst q.2))) _ := w18.put (o' := .lst []) 1 rfl
    walk_at "x"
    refine ⟨ph, rfl, ⟨_, w19.sq 2 rfl⟩, for_list (xs := (ls.map (fun q : Addr × List V => q.1)).map V.ref) (fun i σ' H' => ∃ ls2 : List (Addr × List V), (∃ v3 v13 v14 v15, σ' = [some (.ref a), some (.int (m : Int)), some (.ref p), v3, some (.ref pd), some (.ref ph), some (.ref D), some (.ref pg), some (.ref x1), some (.ref po), some (.ref x4), some (.ref pm), some (.ref pf), v13, v14, v15]) ∧ ls2.map (fun q : Addr × List V => q.1) = ls.map (fun q : Addr × List V => q.1) ∧
      Own B10 ((pf, .lst (gs.map V.int)) :: (pg, .lst []) :: (ph, .lst ((ls.map (fun q : Addr × List V => q.1)).map V.ref)) :: ls2.map (fun q : Addr × List V => (q.1, HO.lst q.2))) H')
      ⟨ls, ⟨_, _, _, _, rfl⟩, rfl, w19⟩ (fun i σ' H' _ h => ?_) ?_ ?_⟩
    · obtain ⟨_, _, _, w⟩ := h; exact w.sq 2 rfl
    · rintro i x σ' H' hx ⟨ls2, ⟨v3, v13, v14, v15, rfl⟩, hls, w⟩
      obtain ⟨u, hu, rfl⟩ := map_at hx
      rw [← hls, List.getElem?_map] at hu
      obtain ⟨q, hq, rfl⟩ := Option.map_eq_some_iff.mp hu
      have hi : (((pf, HO.lst (gs.map V.int)) :: (pg, .lst []) :: (ph, .lst ((ls.map (fun q : Addr × List V => q.1)).map V.ref)) :: ls2.map (fun q : Addr × List V => (q.1, HO.lst q.2))) : Cells)[i + 3]? = some (q.1, .lst q.2) := by
        rw [List.getElem?_cons_succ, List.getElem?_cons_succ, List.getElem?_cons_succ, List.getElem?_map, hq] <;> rfl
      walk_at "x"
      refine ⟨x_tyL (w.get (i + 3) hi), q.1, _, rfl, rfl, w.get (i + 3) hi, ?_⟩
      have w2 := w.put (o' := .lst []) (i + 3) hi
      rw [List.set_cons_succ, List.set_cons_succ, List.set_cons_succ] at w2
      refine ⟨ls2.set i (q.1, []), ⟨_, _, _, _, rfl⟩, ?_, ?_⟩
      · rw [← hls, List.map_set]
        refine List.ext_getElem? fun j => ?_
        by_cases z : i = j
        · subst z
          rw [List.getElem?_set_self (by rw [List.length_map]; exact (List.getElem?_eq_some_iff.mp hq).1), List.getElem?_map, hq] <;> rfl
        · rw [List.getElem?_set_ne z]
      · rw [List.map_set]; exact w2
    rintro σ' H' ⟨ls2, ⟨v3, v13, v14, v15, rfl⟩, hls, w20⟩
    have w20 := w20.sub (ds := [(pf, .lst (gs.map V.int))]) (.cons_cons _ (List.nil_sublist _))
    clear w19 w18 w17 w16
    walk_at "x"
    refine ⟨a, x1, D, ns, m, f, xs, _, rfl, w20.seq hS, hl, R1.same w20.ex, .inl (w20.ex _ _ hB), hF.same w20.ex, hx12, m1, m6, fun H21 s21 => ⟨true, rfl, iteF ?_⟩⟩
    have w21 := w20.ext s21
    walk_at "x"
    intro r5 d5 a5 e5 ne5
    refine u_rule upd_same T.cl_Rule T.n_Rule_many m1 m6 fun J5 sx5 cx5 => ⟨rfl, ?_⟩
    obtain ⟨B11, sB11, w22, bx5⟩ := own_made0 w21 a5 e5 ne5 sx5 cx5
    have R5 : RuleAt A K B11 r5 m (fun _ => 0) := .kRule (.mk bx5 fun _ _ => rfl)
    have hB := sB11 _ _ hB
    have hD := sB11 _ _ hD
    have hF := hF.same sB11
    have R1 := R1.same sB11
    have ey := sB11 _ _ ey
    walk_at "x"
    refine ⟨(by show 1 ≤ sizeLine; decide), fun p5 n23 => ?_⟩
    have w23 := w22.new (o := .lst [.ref r5]) n23
    walk_at "x"
    refine x_lenL (SqL.of (w23.ex _ _ hB)) ?_
    rw [List.length_map]
    walk_at "x"
    refine x_mulL (w23.get 0 rfl) ⟨by omega, by omega, Nat.le_trans (show [V.ref r5].length * (12 - (xs.length : Int)).toNat ≤ 12 by show 1 * _ ≤ 12; omega) (by decide)⟩ (fun p6 n24 => ?_)
    rw [rep_ref]
    have w24 := w23.new (o := .lst ((List.replicate (12 - (xs.length : Int)).toNat r5).map V.ref)) n24
    have hk12 : (12 - (xs.length : Int)).toNat + xs.length = 12 := by omega
    generalize (12 - (xs.length : Int)).toNat = k12 at w24 hk12 ⊢
    refine x_addL (.inl (w24.ex _ _ hB)) (.inl (w24.get 0 rfl)) (Nat.le_trans (show (xs.map V.ref).length + ((List.replicate k12 r5).map V.ref).length ≤ 100 by rw [List.length_map, List.length_map, List.length_replicate]; omega) (by decide)) (fun p7 n25 => ?_)
    rw [← List.map_append]
    have w25 := (w24.new (o := .lst ((xs ++ List.replicate k12 r5).map V.ref)) n25).sub (ds := [(p7, .lst ((xs ++ List.replicate k12 r5).map V.ref)), (pf, .lst (gs.map V.int))]) (.cons_cons _ (.cons _ (.cons _ (.cons_cons _ .slnil))))
    have fin : ∀ (B : Hp) (cs : Cells) (H' : Hp), Same B11 B → Own B ((pf, .lst (gs.map V.int)) :: cs) H' → tRet (tAndV (tCall (sp__law_holds A K) [] E (tCons (tVar 8) (tCons (tVar 4) tNil))) (tOp (rEqX K) (tVar 12) (tOp rAddX (tVar 4) (tLst (tCons (tC (.int 1)) tNil))))) { nx := fun _ H' => Q .non H', rt := Q }
        [some (.ref a), some (.int (m : Int)), some (.ref p), v3, some (.ref pd), some (.ref ph), some (.ref D), some (.ref pg), some (.ref x1), some (.ref po), some (.ref x4), some (.ref pm), some (.ref pf), some (.ref p7), v14, v15] H' := fun B cs H' s w => by
      walk_at "x"
      refine ⟨x1, pd, m, f, rfl, R1.same (s.trans w.ex), SqL.of (w.ex _ _ (s _ _ hD)), fun H3 s3 => ⟨true, rfl, iteT ?_⟩⟩
      have w3 := w.ext s3
      walk_at "x"
      refine ⟨(by show 1 ≤ sizeLine; decide), fun pq nq => ?_⟩
      have w4 := w3.new (o := .lst ([1].map V.int)) nq
      refine x_addL (.inl (w4.ex _ _ (s _ _ hD))) (.inl (w4.get 0 rfl)) (Nat.le_trans (show (((List.range (2 ^ m)).map f).map V.int).length + ([1].map V.int).length ≤ 100 by rw [List.length_map, List.length_map, List.length_range]; show _ + 1 ≤ 100; omega) (by decide)) (fun pr nr => ?_)
      rw [← List.map_append, hgs]
      have w5 := w4.new (o := .lst (gs.map V.int)) nr
      refine x_eqLI (w5.sq 2 rfl) (w5.sq 0 rfl) ?_
      rw [decide_eq_true rfl]
      exact k _
    walk_at "x"
    refine ite2 (fun c5 => ?_) (fun c5 => ?_)
    · walk_at "x"
      intro x6 d6 a6 e6 ne6
      obtain ⟨hq6, nq6⟩ := own_keep w25 (o1 := .own x6) (o2 := .ins A.Company d6 []) 0 rfl a6 e6
      have sM6 := (same_upd (o := .own x6) e6).trans (same_upd (o := .ins A.Company d6 []) (by rw [upd_ne (Ne.symm ne6)]; exact a6))
      have rep : ∀ n, RulesF A K B11 m (List.replicate n r5) (List.replicate n fun _ => 0) := fun n => by
        induction n with
        | zero => exact .nil
        | succ n ih => exact .cons R5 ih
      have hF6 : RulesF A K B11 m (xs ++ List.replicate k12 r5) (rs.map rowF ++ List.replicate k12 fun _ => 0) := RulesF.app (rep k12) hF
      have hl6 : (xs ++ List.replicate k12 r5).length ≤ 12 := by rw [List.length_append, List.length_replicate]; omega
      have hFc := hF6.same (w25.ex.trans sM6)
      refine ⟨x6, A.Company, d6, p7, _, _, rfl, upd_same, T.cl_Company, T.n_Company_many, T.n_Company_rules, .int _, SqL.of hq6, nq6, by omega, fun r hr => ?_, fun m' ok l6 J6 nl6 sx6 cx6 cl6 => ⟨rfl, ?_⟩, fun hn => absurd ⟨rfl, m1, m6, hl6, hFc.mem⟩ (hn m)⟩
      · obtain ⟨f, R⟩ := hFc.mem r hr; exact ⟨m, f, R⟩
      obtain rfl : m = m' := by have := V.int.inj ok.1; omega
      obtain ⟨B12, sB12, w26, bx6, bl6⟩ := own_made w25 a6 e6 ne6 nl6 sx6 cx6 cl6
      have R6 : CompAt A K B12 x6 m f := .mk bx6 (SqL.of bl6) (hF6.same sB12) m1 m6 hl6 (fun g _ => by
        rw [← hf]
        unfold sumF
        rw [List.map_append, List.sum_append, List.map_replicate]
        have : ∀ n, (List.replicate n (0 : Int)).sum = 0 := fun n => by
          induction n with
          | zero => rfl
          | succ n ih => rw [List.replicate_succ, List.sum_cons, ih]; rfl
        rw [this]; omega)
      walk_at "x"
      refine ⟨x6, pd, m, f, rfl, R6.same w26.ex, SqL.of (w26.ex _ _ (sB12 _ _ hD)), fun H27 s27 => ⟨true, rfl, iteF ?_⟩⟩
      exact fin B12 _ _ sB12 ((w26.ext s27).pop)
    · exact iteF (fin B11 _ _ (Same.refl _) w25.pop)

end
theorem all_mk {l : PySem.W.OpenLaw} {w : World} {K : PySem.W.Frag} {h : Heap} {mg : Str → Option Value} {fa f_is_whole f_look_group f_whole_of f_hands_of f_Company___init__ f_Company_hands f_Company_earn f_Company_table f_look f_look_numbers f_one_pair f_pairs_of f_Rule___init__ f_Rule_hands f_Rule_earn f_Rule_reckoned f_Own___init__ f_Own_reckoned f_Pairs___init__ f_Pairs_reckoned f_Votes___init__ f_Votes_reckoned f_Plain___init__ f_Plain_reckoned f__law_whole f__law_cell f__law_number f__law_rule f__law_rules f__law_earned f__law_object f__law_holds f__law_no_group f__law_no_rule f__law_refusals f_law C_ShareError C_NoNumber C_NoGroup C_NoRule C_NoText C_NoTable C_Unlike C_TooMany C_NoOrder C_NoRows C_NoShares C_NoVotes C_Company C_Rule C_Own C_Pairs C_Votes C_Plain : Addr} (X : K.In h) (G : h.Ns mainGlobals mg) (hfa : mg "law" = some (.ref fa))
    {t_MOST t_FULL : Tok} {od_is_whole an_is_whole od_look_group an_look_group od_whole_of an_whole_of od_hands_of an_hands_of od_Company___init__ an_Company___init__ od_Company_hands an_Company_hands od_Company_earn an_Company_earn od_Company_table an_Company_table od_look an_look od_look_numbers an_look_numbers od_one_pair an_one_pair od_pairs_of an_pairs_of od_Rule___init__ an_Rule___init__ od_Rule_hands an_Rule_hands od_Rule_earn an_Rule_earn od_Rule_reckoned an_Rule_reckoned od_Own___init__ an_Own___init__ od_Own_reckoned an_Own_reckoned od_Pairs___init__ an_Pairs___init__ od_Pairs_reckoned an_Pairs_reckoned od_Votes___init__ an_Votes___init__ od_Votes_reckoned an_Votes_reckoned od_Plain___init__ an_Plain___init__ od_Plain_reckoned an_Plain_reckoned od__law_whole an__law_whole od__law_cell an__law_cell od__law_number an__law_number od__law_rule an__law_rule od__law_rules an__law_rules od__law_earned an__law_earned od__law_object an__law_object od__law_holds an__law_holds od__law_no_group an__law_no_group od__law_no_rule an__law_no_rule od__law_refusals an__law_refusals od_law an_law : Option Addr} {sl_is_whole sl_look_group sl_whole_of sl_hands_of sl_Company___init__ sl_Company_hands sl_Company_earn sl_Company_table sl_look sl_look_numbers sl_one_pair sl_pairs_of sl_Rule___init__ sl_Rule_hands sl_Rule_earn sl_Rule_reckoned sl_Own___init__ sl_Own_reckoned sl_Pairs___init__ sl_Pairs_reckoned sl_Votes___init__ sl_Votes_reckoned sl_Plain___init__ sl_Plain_reckoned sl__law_whole sl__law_cell sl__law_number sl__law_rule sl__law_rules sl__law_earned sl__law_object sl__law_holds sl__law_no_group sl__law_no_rule sl__law_refusals sl_law : Array (Option Value)} {oc_is_whole kV_is_whole dc_is_whole pm_is_whole cd_is_whole ct_is_whole oc_look_group kV_look_group dc_look_group pm_look_group cd_look_group ct_look_group oc_whole_of kV_whole_of dc_whole_of pm_whole_of cd_whole_of ct_whole_of oc_hands_of kV_hands_of dc_hands_of pm_hands_of cd_hands_of ct_hands_of oc_Company___init__ kV_Company___init__ dc_Company___init__ pm_Company___init__ cd_Company___init__ ct_Company___init__ oc_Company_hands kV_Company_hands dc_Company_hands pm_Company_hands cd_Company_hands ct_Company_hands oc_Company_earn kV_Company_earn dc_Company_earn pm_Company_earn cd_Company_earn ct_Company_earn oc_Company_table kV_Company_table dc_Company_table pm_Company_table cd_Company_table ct_Company_table oc_look kV_look dc_look pm_look cd_look ct_look oc_look_numbers kV_look_numbers dc_look_numbers pm_look_numbers cd_look_numbers ct_look_numbers oc_one_pair kV_one_pair dc_one_pair pm_one_pair cd_one_pair ct_one_pair oc_pairs_of kV_pairs_of dc_pairs_of pm_pairs_of cd_pairs_of ct_pairs_of oc_Rule___init__ kV_Rule___init__ dc_Rule___init__ pm_Rule___init__ cd_Rule___init__ ct_Rule___init__ oc_Rule_hands kV_Rule_hands dc_Rule_hands pm_Rule_hands cd_Rule_hands ct_Rule_hands oc_Rule_earn kV_Rule_earn dc_Rule_earn pm_Rule_earn cd_Rule_earn ct_Rule_earn oc_Rule_reckoned kV_Rule_reckoned dc_Rule_reckoned pm_Rule_reckoned cd_Rule_reckoned ct_Rule_reckoned oc_Own___init__ kV_Own___init__ dc_Own___init__ pm_Own___init__ cd_Own___init__ ct_Own___init__ oc_Own_reckoned kV_Own_reckoned dc_Own_reckoned pm_Own_reckoned cd_Own_reckoned ct_Own_reckoned oc_Pairs___init__ kV_Pairs___init__ dc_Pairs___init__ pm_Pairs___init__ cd_Pairs___init__ ct_Pairs___init__ oc_Pairs_reckoned kV_Pairs_reckoned dc_Pairs_reckoned pm_Pairs_reckoned cd_Pairs_reckoned ct_Pairs_reckoned oc_Votes___init__ kV_Votes___init__ dc_Votes___init__ pm_Votes___init__ cd_Votes___init__ ct_Votes___init__ oc_Votes_reckoned kV_Votes_reckoned dc_Votes_reckoned pm_Votes_reckoned cd_Votes_reckoned ct_Votes_reckoned oc_Plain___init__ kV_Plain___init__ dc_Plain___init__ pm_Plain___init__ cd_Plain___init__ ct_Plain___init__ oc_Plain_reckoned kV_Plain_reckoned dc_Plain_reckoned pm_Plain_reckoned cd_Plain_reckoned ct_Plain_reckoned oc__law_whole kV__law_whole dc__law_whole pm__law_whole cd__law_whole ct__law_whole oc__law_cell kV__law_cell dc__law_cell pm__law_cell cd__law_cell ct__law_cell oc__law_number kV__law_number dc__law_number pm__law_number cd__law_number ct__law_number oc__law_rule kV__law_rule dc__law_rule pm__law_rule cd__law_rule ct__law_rule oc__law_rules kV__law_rules dc__law_rules pm__law_rules cd__law_rules ct__law_rules oc__law_earned kV__law_earned dc__law_earned pm__law_earned cd__law_earned ct__law_earned oc__law_object kV__law_object dc__law_object pm__law_object cd__law_object ct__law_object oc__law_holds kV__law_holds dc__law_holds pm__law_holds cd__law_holds ct__law_holds oc__law_no_group kV__law_no_group dc__law_no_group pm__law_no_group cd__law_no_group ct__law_no_group oc__law_no_rule kV__law_no_rule dc__law_no_rule pm__law_no_rule cd__law_no_rule ct__law_no_rule oc__law_refusals kV__law_refusals dc__law_refusals pm__law_refusals cd__law_refusals ct__law_refusals oc_law kV_law dc_law pm_law cd_law ct_law : Value}
    (a_is_whole : PySem.W.nsIn K mainGlobals "is_whole" = some (some (.ref f_is_whole)))
    (l_is_whole : K.lookup f_is_whole = some ⟨oc_is_whole, od_is_whole, .func (PySem.W.fnOf "is_whole" "is_whole" (defArgs s_is_whole) (defBody s_is_whole) (defScope s_is_whole) .none kV_is_whole dc_is_whole pm_is_whole an_is_whole cd_is_whole ct_is_whole), sl_is_whole⟩)
    (c_is_whole : PySem.W.codeIn K cd_is_whole "is_whole" = true)
    (k_is_whole : PySem.W.keepIn K (.ref f_is_whole) = true)
    (a_look_group : PySem.W.nsIn K mainGlobals "look_group" = some (some (.ref f_look_group)))
    (l_look_group : K.lookup f_look_group = some ⟨oc_look_group, od_look_group, .func (PySem.W.fnOf "look_group" "look_group" (defArgs s_look_group) (defBody s_look_group) (defScope s_look_group) .none kV_look_group dc_look_group pm_look_group an_look_group cd_look_group ct_look_group), sl_look_group⟩)
    (c_look_group : PySem.W.codeIn K cd_look_group "look_group" = true)
    (k_look_group : PySem.W.keepIn K (.ref f_look_group) = true)
    (a_whole_of : PySem.W.nsIn K mainGlobals "whole_of" = some (some (.ref f_whole_of)))
    (l_whole_of : K.lookup f_whole_of = some ⟨oc_whole_of, od_whole_of, .func (PySem.W.fnOf "whole_of" "whole_of" (defArgs s_whole_of) (defBody s_whole_of) (defScope s_whole_of) .none kV_whole_of dc_whole_of pm_whole_of an_whole_of cd_whole_of ct_whole_of), sl_whole_of⟩)
    (c_whole_of : PySem.W.codeIn K cd_whole_of "whole_of" = true)
    (k_whole_of : PySem.W.keepIn K (.ref f_whole_of) = true)
    (a_hands_of : PySem.W.nsIn K mainGlobals "hands_of" = some (some (.ref f_hands_of)))
    (l_hands_of : K.lookup f_hands_of = some ⟨oc_hands_of, od_hands_of, .func (PySem.W.fnOf "hands_of" "hands_of" (defArgs s_hands_of) (defBody s_hands_of) (defScope s_hands_of) .none kV_hands_of dc_hands_of pm_hands_of an_hands_of cd_hands_of ct_hands_of), sl_hands_of⟩)
    (c_hands_of : PySem.W.codeIn K cd_hands_of "hands_of" = true)
    (k_hands_of : PySem.W.keepIn K (.ref f_hands_of) = true)
    (a_Company___init__ : PySem.W.findIn K (.ref C_Company) "__init__" = some (some (.ref f_Company___init__)))
    (i_Company___init__ : PySem.W.isFn K (.ref f_Company___init__) = true)
    (l_Company___init__ : K.lookup f_Company___init__ = some ⟨oc_Company___init__, od_Company___init__, .func (PySem.W.fnOf "__init__" "Company.__init__" (defArgs s_Company___init__) (defBody s_Company___init__) (defScope s_Company___init__) .none kV_Company___init__ dc_Company___init__ pm_Company___init__ an_Company___init__ cd_Company___init__ ct_Company___init__), sl_Company___init__⟩)
    (c_Company___init__ : PySem.W.codeIn K cd_Company___init__ "Company.__init__" = true)
    (k_Company___init__ : PySem.W.keepIn K (.ref f_Company___init__) = true)
    (a_Company_hands : PySem.W.findIn K (.ref C_Company) "hands" = some (some (.ref f_Company_hands)))
    (i_Company_hands : PySem.W.isFn K (.ref f_Company_hands) = true)
    (l_Company_hands : K.lookup f_Company_hands = some ⟨oc_Company_hands, od_Company_hands, .func (PySem.W.fnOf "hands" "Company.hands" (defArgs s_Company_hands) (defBody s_Company_hands) (defScope s_Company_hands) .none kV_Company_hands dc_Company_hands pm_Company_hands an_Company_hands cd_Company_hands ct_Company_hands), sl_Company_hands⟩)
    (c_Company_hands : PySem.W.codeIn K cd_Company_hands "Company.hands" = true)
    (k_Company_hands : PySem.W.keepIn K (.ref f_Company_hands) = true)
    (a_Company_earn : PySem.W.findIn K (.ref C_Company) "earn" = some (some (.ref f_Company_earn)))
    (i_Company_earn : PySem.W.isFn K (.ref f_Company_earn) = true)
    (l_Company_earn : K.lookup f_Company_earn = some ⟨oc_Company_earn, od_Company_earn, .func (PySem.W.fnOf "earn" "Company.earn" (defArgs s_Company_earn) (defBody s_Company_earn) (defScope s_Company_earn) .none kV_Company_earn dc_Company_earn pm_Company_earn an_Company_earn cd_Company_earn ct_Company_earn), sl_Company_earn⟩)
    (c_Company_earn : PySem.W.codeIn K cd_Company_earn "Company.earn" = true)
    (k_Company_earn : PySem.W.keepIn K (.ref f_Company_earn) = true)
    (a_Company_table : PySem.W.findIn K (.ref C_Company) "table" = some (some (.ref f_Company_table)))
    (i_Company_table : PySem.W.isFn K (.ref f_Company_table) = true)
    (l_Company_table : K.lookup f_Company_table = some ⟨oc_Company_table, od_Company_table, .func (PySem.W.fnOf "table" "Company.table" (defArgs s_Company_table) (defBody s_Company_table) (defScope s_Company_table) .none kV_Company_table dc_Company_table pm_Company_table an_Company_table cd_Company_table ct_Company_table), sl_Company_table⟩)
    (c_Company_table : PySem.W.codeIn K cd_Company_table "Company.table" = true)
    (k_Company_table : PySem.W.keepIn K (.ref f_Company_table) = true)
    (a_look : PySem.W.nsIn K mainGlobals "look" = some (some (.ref f_look)))
    (l_look : K.lookup f_look = some ⟨oc_look, od_look, .func (PySem.W.fnOf "look" "look" (defArgs s_look) (defBody s_look) (defScope s_look) .none kV_look dc_look pm_look an_look cd_look ct_look), sl_look⟩)
    (c_look : PySem.W.codeIn K cd_look "look" = true)
    (k_look : PySem.W.keepIn K (.ref f_look) = true)
    (a_look_numbers : PySem.W.nsIn K mainGlobals "look_numbers" = some (some (.ref f_look_numbers)))
    (l_look_numbers : K.lookup f_look_numbers = some ⟨oc_look_numbers, od_look_numbers, .func (PySem.W.fnOf "look_numbers" "look_numbers" (defArgs s_look_numbers) (defBody s_look_numbers) (defScope s_look_numbers) .none kV_look_numbers dc_look_numbers pm_look_numbers an_look_numbers cd_look_numbers ct_look_numbers), sl_look_numbers⟩)
    (c_look_numbers : PySem.W.codeIn K cd_look_numbers "look_numbers" = true)
    (k_look_numbers : PySem.W.keepIn K (.ref f_look_numbers) = true)
    (a_one_pair : PySem.W.nsIn K mainGlobals "one_pair" = some (some (.ref f_one_pair)))
    (l_one_pair : K.lookup f_one_pair = some ⟨oc_one_pair, od_one_pair, .func (PySem.W.fnOf "one_pair" "one_pair" (defArgs s_one_pair) (defBody s_one_pair) (defScope s_one_pair) .none kV_one_pair dc_one_pair pm_one_pair an_one_pair cd_one_pair ct_one_pair), sl_one_pair⟩)
    (c_one_pair : PySem.W.codeIn K cd_one_pair "one_pair" = true)
    (k_one_pair : PySem.W.keepIn K (.ref f_one_pair) = true)
    (a_pairs_of : PySem.W.nsIn K mainGlobals "pairs_of" = some (some (.ref f_pairs_of)))
    (l_pairs_of : K.lookup f_pairs_of = some ⟨oc_pairs_of, od_pairs_of, .func (PySem.W.fnOf "pairs_of" "pairs_of" (defArgs s_pairs_of) (defBody s_pairs_of) (defScope s_pairs_of) .none kV_pairs_of dc_pairs_of pm_pairs_of an_pairs_of cd_pairs_of ct_pairs_of), sl_pairs_of⟩)
    (c_pairs_of : PySem.W.codeIn K cd_pairs_of "pairs_of" = true)
    (k_pairs_of : PySem.W.keepIn K (.ref f_pairs_of) = true)
    (a_Rule___init__ : PySem.W.findIn K (.ref C_Rule) "__init__" = some (some (.ref f_Rule___init__)))
    (i_Rule___init__ : PySem.W.isFn K (.ref f_Rule___init__) = true)
    (l_Rule___init__ : K.lookup f_Rule___init__ = some ⟨oc_Rule___init__, od_Rule___init__, .func (PySem.W.fnOf "__init__" "Rule.__init__" (defArgs s_Rule___init__) (defBody s_Rule___init__) (defScope s_Rule___init__) .none kV_Rule___init__ dc_Rule___init__ pm_Rule___init__ an_Rule___init__ cd_Rule___init__ ct_Rule___init__), sl_Rule___init__⟩)
    (c_Rule___init__ : PySem.W.codeIn K cd_Rule___init__ "Rule.__init__" = true)
    (k_Rule___init__ : PySem.W.keepIn K (.ref f_Rule___init__) = true)
    (a_Rule_hands : PySem.W.findIn K (.ref C_Rule) "hands" = some (some (.ref f_Rule_hands)))
    (i_Rule_hands : PySem.W.isFn K (.ref f_Rule_hands) = true)
    (l_Rule_hands : K.lookup f_Rule_hands = some ⟨oc_Rule_hands, od_Rule_hands, .func (PySem.W.fnOf "hands" "Rule.hands" (defArgs s_Rule_hands) (defBody s_Rule_hands) (defScope s_Rule_hands) .none kV_Rule_hands dc_Rule_hands pm_Rule_hands an_Rule_hands cd_Rule_hands ct_Rule_hands), sl_Rule_hands⟩)
    (c_Rule_hands : PySem.W.codeIn K cd_Rule_hands "Rule.hands" = true)
    (k_Rule_hands : PySem.W.keepIn K (.ref f_Rule_hands) = true)
    (a_Rule_earn : PySem.W.findIn K (.ref C_Rule) "earn" = some (some (.ref f_Rule_earn)))
    (i_Rule_earn : PySem.W.isFn K (.ref f_Rule_earn) = true)
    (l_Rule_earn : K.lookup f_Rule_earn = some ⟨oc_Rule_earn, od_Rule_earn, .func (PySem.W.fnOf "earn" "Rule.earn" (defArgs s_Rule_earn) (defBody s_Rule_earn) (defScope s_Rule_earn) .none kV_Rule_earn dc_Rule_earn pm_Rule_earn an_Rule_earn cd_Rule_earn ct_Rule_earn), sl_Rule_earn⟩)
    (c_Rule_earn : PySem.W.codeIn K cd_Rule_earn "Rule.earn" = true)
    (k_Rule_earn : PySem.W.keepIn K (.ref f_Rule_earn) = true)
    (a_Rule_reckoned : PySem.W.findIn K (.ref C_Rule) "reckoned" = some (some (.ref f_Rule_reckoned)))
    (i_Rule_reckoned : PySem.W.isFn K (.ref f_Rule_reckoned) = true)
    (l_Rule_reckoned : K.lookup f_Rule_reckoned = some ⟨oc_Rule_reckoned, od_Rule_reckoned, .func (PySem.W.fnOf "reckoned" "Rule.reckoned" (defArgs s_Rule_reckoned) (defBody s_Rule_reckoned) (defScope s_Rule_reckoned) .none kV_Rule_reckoned dc_Rule_reckoned pm_Rule_reckoned an_Rule_reckoned cd_Rule_reckoned ct_Rule_reckoned), sl_Rule_reckoned⟩)
    (c_Rule_reckoned : PySem.W.codeIn K cd_Rule_reckoned "Rule.reckoned" = true)
    (k_Rule_reckoned : PySem.W.keepIn K (.ref f_Rule_reckoned) = true)
    (a_Own___init__ : PySem.W.findIn K (.ref C_Own) "__init__" = some (some (.ref f_Own___init__)))
    (i_Own___init__ : PySem.W.isFn K (.ref f_Own___init__) = true)
    (l_Own___init__ : K.lookup f_Own___init__ = some ⟨oc_Own___init__, od_Own___init__, .func (PySem.W.fnOf "__init__" "Own.__init__" (defArgs s_Own___init__) (defBody s_Own___init__) (defScope s_Own___init__) .none kV_Own___init__ dc_Own___init__ pm_Own___init__ an_Own___init__ cd_Own___init__ ct_Own___init__), sl_Own___init__⟩)
    (c_Own___init__ : PySem.W.codeIn K cd_Own___init__ "Own.__init__" = true)
    (k_Own___init__ : PySem.W.keepIn K (.ref f_Own___init__) = true)
    (a_Own_reckoned : PySem.W.findIn K (.ref C_Own) "reckoned" = some (some (.ref f_Own_reckoned)))
    (i_Own_reckoned : PySem.W.isFn K (.ref f_Own_reckoned) = true)
    (l_Own_reckoned : K.lookup f_Own_reckoned = some ⟨oc_Own_reckoned, od_Own_reckoned, .func (PySem.W.fnOf "reckoned" "Own.reckoned" (defArgs s_Own_reckoned) (defBody s_Own_reckoned) (defScope s_Own_reckoned) .none kV_Own_reckoned dc_Own_reckoned pm_Own_reckoned an_Own_reckoned cd_Own_reckoned ct_Own_reckoned), sl_Own_reckoned⟩)
    (c_Own_reckoned : PySem.W.codeIn K cd_Own_reckoned "Own.reckoned" = true)
    (k_Own_reckoned : PySem.W.keepIn K (.ref f_Own_reckoned) = true)
    (a_Pairs___init__ : PySem.W.findIn K (.ref C_Pairs) "__init__" = some (some (.ref f_Pairs___init__)))
    (i_Pairs___init__ : PySem.W.isFn K (.ref f_Pairs___init__) = true)
    (l_Pairs___init__ : K.lookup f_Pairs___init__ = some ⟨oc_Pairs___init__, od_Pairs___init__, .func (PySem.W.fnOf "__init__" "Pairs.__init__" (defArgs s_Pairs___init__) (defBody s_Pairs___init__) (defScope s_Pairs___init__) .none kV_Pairs___init__ dc_Pairs___init__ pm_Pairs___init__ an_Pairs___init__ cd_Pairs___init__ ct_Pairs___init__), sl_Pairs___init__⟩)
    (c_Pairs___init__ : PySem.W.codeIn K cd_Pairs___init__ "Pairs.__init__" = true)
    (k_Pairs___init__ : PySem.W.keepIn K (.ref f_Pairs___init__) = true)
    (a_Pairs_reckoned : PySem.W.findIn K (.ref C_Pairs) "reckoned" = some (some (.ref f_Pairs_reckoned)))
    (i_Pairs_reckoned : PySem.W.isFn K (.ref f_Pairs_reckoned) = true)
    (l_Pairs_reckoned : K.lookup f_Pairs_reckoned = some ⟨oc_Pairs_reckoned, od_Pairs_reckoned, .func (PySem.W.fnOf "reckoned" "Pairs.reckoned" (defArgs s_Pairs_reckoned) (defBody s_Pairs_reckoned) (defScope s_Pairs_reckoned) .none kV_Pairs_reckoned dc_Pairs_reckoned pm_Pairs_reckoned an_Pairs_reckoned cd_Pairs_reckoned ct_Pairs_reckoned), sl_Pairs_reckoned⟩)
    (c_Pairs_reckoned : PySem.W.codeIn K cd_Pairs_reckoned "Pairs.reckoned" = true)
    (k_Pairs_reckoned : PySem.W.keepIn K (.ref f_Pairs_reckoned) = true)
    (a_Votes___init__ : PySem.W.findIn K (.ref C_Votes) "__init__" = some (some (.ref f_Votes___init__)))
    (i_Votes___init__ : PySem.W.isFn K (.ref f_Votes___init__) = true)
    (l_Votes___init__ : K.lookup f_Votes___init__ = some ⟨oc_Votes___init__, od_Votes___init__, .func (PySem.W.fnOf "__init__" "Votes.__init__" (defArgs s_Votes___init__) (defBody s_Votes___init__) (defScope s_Votes___init__) .none kV_Votes___init__ dc_Votes___init__ pm_Votes___init__ an_Votes___init__ cd_Votes___init__ ct_Votes___init__), sl_Votes___init__⟩)
    (c_Votes___init__ : PySem.W.codeIn K cd_Votes___init__ "Votes.__init__" = true)
    (k_Votes___init__ : PySem.W.keepIn K (.ref f_Votes___init__) = true)
    (a_Votes_reckoned : PySem.W.findIn K (.ref C_Votes) "reckoned" = some (some (.ref f_Votes_reckoned)))
    (i_Votes_reckoned : PySem.W.isFn K (.ref f_Votes_reckoned) = true)
    (l_Votes_reckoned : K.lookup f_Votes_reckoned = some ⟨oc_Votes_reckoned, od_Votes_reckoned, .func (PySem.W.fnOf "reckoned" "Votes.reckoned" (defArgs s_Votes_reckoned) (defBody s_Votes_reckoned) (defScope s_Votes_reckoned) .none kV_Votes_reckoned dc_Votes_reckoned pm_Votes_reckoned an_Votes_reckoned cd_Votes_reckoned ct_Votes_reckoned), sl_Votes_reckoned⟩)
    (c_Votes_reckoned : PySem.W.codeIn K cd_Votes_reckoned "Votes.reckoned" = true)
    (k_Votes_reckoned : PySem.W.keepIn K (.ref f_Votes_reckoned) = true)
    (a_Plain___init__ : PySem.W.findIn K (.ref C_Plain) "__init__" = some (some (.ref f_Plain___init__)))
    (i_Plain___init__ : PySem.W.isFn K (.ref f_Plain___init__) = true)
    (l_Plain___init__ : K.lookup f_Plain___init__ = some ⟨oc_Plain___init__, od_Plain___init__, .func (PySem.W.fnOf "__init__" "Plain.__init__" (defArgs s_Plain___init__) (defBody s_Plain___init__) (defScope s_Plain___init__) .none kV_Plain___init__ dc_Plain___init__ pm_Plain___init__ an_Plain___init__ cd_Plain___init__ ct_Plain___init__), sl_Plain___init__⟩)
    (c_Plain___init__ : PySem.W.codeIn K cd_Plain___init__ "Plain.__init__" = true)
    (k_Plain___init__ : PySem.W.keepIn K (.ref f_Plain___init__) = true)
    (a_Plain_reckoned : PySem.W.findIn K (.ref C_Plain) "reckoned" = some (some (.ref f_Plain_reckoned)))
    (i_Plain_reckoned : PySem.W.isFn K (.ref f_Plain_reckoned) = true)
    (l_Plain_reckoned : K.lookup f_Plain_reckoned = some ⟨oc_Plain_reckoned, od_Plain_reckoned, .func (PySem.W.fnOf "reckoned" "Plain.reckoned" (defArgs s_Plain_reckoned) (defBody s_Plain_reckoned) (defScope s_Plain_reckoned) .none kV_Plain_reckoned dc_Plain_reckoned pm_Plain_reckoned an_Plain_reckoned cd_Plain_reckoned ct_Plain_reckoned), sl_Plain_reckoned⟩)
    (c_Plain_reckoned : PySem.W.codeIn K cd_Plain_reckoned "Plain.reckoned" = true)
    (k_Plain_reckoned : PySem.W.keepIn K (.ref f_Plain_reckoned) = true)
    (a__law_whole : PySem.W.nsIn K mainGlobals "_law_whole" = some (some (.ref f__law_whole)))
    (l__law_whole : K.lookup f__law_whole = some ⟨oc__law_whole, od__law_whole, .func (PySem.W.fnOf "_law_whole" "_law_whole" (defArgs s__law_whole) (defBody s__law_whole) (defScope s__law_whole) .none kV__law_whole dc__law_whole pm__law_whole an__law_whole cd__law_whole ct__law_whole), sl__law_whole⟩)
    (c__law_whole : PySem.W.codeIn K cd__law_whole "_law_whole" = true)
    (k__law_whole : PySem.W.keepIn K (.ref f__law_whole) = true)
    (a__law_cell : PySem.W.nsIn K mainGlobals "_law_cell" = some (some (.ref f__law_cell)))
    (l__law_cell : K.lookup f__law_cell = some ⟨oc__law_cell, od__law_cell, .func (PySem.W.fnOf "_law_cell" "_law_cell" (defArgs s__law_cell) (defBody s__law_cell) (defScope s__law_cell) .none kV__law_cell dc__law_cell pm__law_cell an__law_cell cd__law_cell ct__law_cell), sl__law_cell⟩)
    (c__law_cell : PySem.W.codeIn K cd__law_cell "_law_cell" = true)
    (k__law_cell : PySem.W.keepIn K (.ref f__law_cell) = true)
    (a__law_number : PySem.W.nsIn K mainGlobals "_law_number" = some (some (.ref f__law_number)))
    (l__law_number : K.lookup f__law_number = some ⟨oc__law_number, od__law_number, .func (PySem.W.fnOf "_law_number" "_law_number" (defArgs s__law_number) (defBody s__law_number) (defScope s__law_number) .none kV__law_number dc__law_number pm__law_number an__law_number cd__law_number ct__law_number), sl__law_number⟩)
    (c__law_number : PySem.W.codeIn K cd__law_number "_law_number" = true)
    (k__law_number : PySem.W.keepIn K (.ref f__law_number) = true)
    (a__law_rule : PySem.W.nsIn K mainGlobals "_law_rule" = some (some (.ref f__law_rule)))
    (l__law_rule : K.lookup f__law_rule = some ⟨oc__law_rule, od__law_rule, .func (PySem.W.fnOf "_law_rule" "_law_rule" (defArgs s__law_rule) (defBody s__law_rule) (defScope s__law_rule) .none kV__law_rule dc__law_rule pm__law_rule an__law_rule cd__law_rule ct__law_rule), sl__law_rule⟩)
    (c__law_rule : PySem.W.codeIn K cd__law_rule "_law_rule" = true)
    (k__law_rule : PySem.W.keepIn K (.ref f__law_rule) = true)
    (a__law_rules : PySem.W.nsIn K mainGlobals "_law_rules" = some (some (.ref f__law_rules)))
    (l__law_rules : K.lookup f__law_rules = some ⟨oc__law_rules, od__law_rules, .func (PySem.W.fnOf "_law_rules" "_law_rules" (defArgs s__law_rules) (defBody s__law_rules) (defScope s__law_rules) .none kV__law_rules dc__law_rules pm__law_rules an__law_rules cd__law_rules ct__law_rules), sl__law_rules⟩)
    (c__law_rules : PySem.W.codeIn K cd__law_rules "_law_rules" = true)
    (k__law_rules : PySem.W.keepIn K (.ref f__law_rules) = true)
    (a__law_earned : PySem.W.nsIn K mainGlobals "_law_earned" = some (some (.ref f__law_earned)))
    (l__law_earned : K.lookup f__law_earned = some ⟨oc__law_earned, od__law_earned, .func (PySem.W.fnOf "_law_earned" "_law_earned" (defArgs s__law_earned) (defBody s__law_earned) (defScope s__law_earned) .none kV__law_earned dc__law_earned pm__law_earned an__law_earned cd__law_earned ct__law_earned), sl__law_earned⟩)
    (c__law_earned : PySem.W.codeIn K cd__law_earned "_law_earned" = true)
    (k__law_earned : PySem.W.keepIn K (.ref f__law_earned) = true)
    (a__law_object : PySem.W.nsIn K mainGlobals "_law_object" = some (some (.ref f__law_object)))
    (l__law_object : K.lookup f__law_object = some ⟨oc__law_object, od__law_object, .func (PySem.W.fnOf "_law_object" "_law_object" (defArgs s__law_object) (defBody s__law_object) (defScope s__law_object) .none kV__law_object dc__law_object pm__law_object an__law_object cd__law_object ct__law_object), sl__law_object⟩)
    (c__law_object : PySem.W.codeIn K cd__law_object "_law_object" = true)
    (k__law_object : PySem.W.keepIn K (.ref f__law_object) = true)
    (a__law_holds : PySem.W.nsIn K mainGlobals "_law_holds" = some (some (.ref f__law_holds)))
    (l__law_holds : K.lookup f__law_holds = some ⟨oc__law_holds, od__law_holds, .func (PySem.W.fnOf "_law_holds" "_law_holds" (defArgs s__law_holds) (defBody s__law_holds) (defScope s__law_holds) .none kV__law_holds dc__law_holds pm__law_holds an__law_holds cd__law_holds ct__law_holds), sl__law_holds⟩)
    (c__law_holds : PySem.W.codeIn K cd__law_holds "_law_holds" = true)
    (k__law_holds : PySem.W.keepIn K (.ref f__law_holds) = true)
    (a__law_no_group : PySem.W.nsIn K mainGlobals "_law_no_group" = some (some (.ref f__law_no_group)))
    (l__law_no_group : K.lookup f__law_no_group = some ⟨oc__law_no_group, od__law_no_group, .func (PySem.W.fnOf "_law_no_group" "_law_no_group" (defArgs s__law_no_group) (defBody s__law_no_group) (defScope s__law_no_group) .none kV__law_no_group dc__law_no_group pm__law_no_group an__law_no_group cd__law_no_group ct__law_no_group), sl__law_no_group⟩)
    (c__law_no_group : PySem.W.codeIn K cd__law_no_group "_law_no_group" = true)
    (k__law_no_group : PySem.W.keepIn K (.ref f__law_no_group) = true)
    (a__law_no_rule : PySem.W.nsIn K mainGlobals "_law_no_rule" = some (some (.ref f__law_no_rule)))
    (l__law_no_rule : K.lookup f__law_no_rule = some ⟨oc__law_no_rule, od__law_no_rule, .func (PySem.W.fnOf "_law_no_rule" "_law_no_rule" (defArgs s__law_no_rule) (defBody s__law_no_rule) (defScope s__law_no_rule) .none kV__law_no_rule dc__law_no_rule pm__law_no_rule an__law_no_rule cd__law_no_rule ct__law_no_rule), sl__law_no_rule⟩)
    (c__law_no_rule : PySem.W.codeIn K cd__law_no_rule "_law_no_rule" = true)
    (k__law_no_rule : PySem.W.keepIn K (.ref f__law_no_rule) = true)
    (a__law_refusals : PySem.W.nsIn K mainGlobals "_law_refusals" = some (some (.ref f__law_refusals)))
    (l__law_refusals : K.lookup f__law_refusals = some ⟨oc__law_refusals, od__law_refusals, .func (PySem.W.fnOf "_law_refusals" "_law_refusals" (defArgs s__law_refusals) (defBody s__law_refusals) (defScope s__law_refusals) .none kV__law_refusals dc__law_refusals pm__law_refusals an__law_refusals cd__law_refusals ct__law_refusals), sl__law_refusals⟩)
    (c__law_refusals : PySem.W.codeIn K cd__law_refusals "_law_refusals" = true)
    (k__law_refusals : PySem.W.keepIn K (.ref f__law_refusals) = true)
    (a_law : PySem.W.nsIn K mainGlobals "law" = some (some (.ref f_law)))
    (l_law : K.lookup f_law = some ⟨oc_law, od_law, .func (PySem.W.fnOf "law" "law" (defArgs s_law) (defBody s_law) (defScope s_law) .none kV_law dc_law pm_law an_law cd_law ct_law), sl_law⟩)
    (c_law : PySem.W.codeIn K cd_law "law" = true)
    (k_law : PySem.W.keepIn K (.ref f_law) = true)
    (ac_ShareError : PySem.W.nsIn K mainGlobals "ShareError" = some (some (.ref C_ShareError)))
    (tc_ShareError : PySem.W.typeIn K (.ref C_ShareError) = some (.type "type"))
    (ec_ShareError : PySem.W.subIn K (.ref C_ShareError) (.type "BaseException") = some true)
    (ac_NoNumber : PySem.W.nsIn K mainGlobals "NoNumber" = some (some (.ref C_NoNumber)))
    (tc_NoNumber : PySem.W.typeIn K (.ref C_NoNumber) = some (.type "type"))
    (ec_NoNumber : PySem.W.subIn K (.ref C_NoNumber) (.type "BaseException") = some true)
    (ac_NoGroup : PySem.W.nsIn K mainGlobals "NoGroup" = some (some (.ref C_NoGroup)))
    (kc_NoGroup : PySem.W.keepIn K (.ref C_NoGroup) = true)
    (ec_NoGroup : PySem.W.subIn K (.ref C_NoGroup) (.type "BaseException") = some true)
    (tc_NoGroup : PySem.W.typeIn K (.ref C_NoGroup) = some (.type "type"))
    (xc_NoGroup : PySem.W.excIn K C_NoGroup [.type "ValueError", .type "Exception", .type "BaseException", .type "object"] "ValueError.__new__" = true)
    (ac_NoRule : PySem.W.nsIn K mainGlobals "NoRule" = some (some (.ref C_NoRule)))
    (kc_NoRule : PySem.W.keepIn K (.ref C_NoRule) = true)
    (ec_NoRule : PySem.W.subIn K (.ref C_NoRule) (.type "BaseException") = some true)
    (tc_NoRule : PySem.W.typeIn K (.ref C_NoRule) = some (.type "type"))
    (xc_NoRule : PySem.W.excIn K C_NoRule [.type "ValueError", .type "Exception", .type "BaseException", .type "object"] "ValueError.__new__" = true)
    (ac_NoText : PySem.W.nsIn K mainGlobals "NoText" = some (some (.ref C_NoText)))
    (tc_NoText : PySem.W.typeIn K (.ref C_NoText) = some (.type "type"))
    (ec_NoText : PySem.W.subIn K (.ref C_NoText) (.type "BaseException") = some true)
    (ac_NoTable : PySem.W.nsIn K mainGlobals "NoTable" = some (some (.ref C_NoTable)))
    (kc_NoTable : PySem.W.keepIn K (.ref C_NoTable) = true)
    (ec_NoTable : PySem.W.subIn K (.ref C_NoTable) (.type "BaseException") = some true)
    (tc_NoTable : PySem.W.typeIn K (.ref C_NoTable) = some (.type "type"))
    (xc_NoTable : PySem.W.excIn K C_NoTable [.type "ValueError", .type "Exception", .type "BaseException", .type "object"] "ValueError.__new__" = true)
    (ac_Unlike : PySem.W.nsIn K mainGlobals "Unlike" = some (some (.ref C_Unlike)))
    (tc_Unlike : PySem.W.typeIn K (.ref C_Unlike) = some (.type "type"))
    (ec_Unlike : PySem.W.subIn K (.ref C_Unlike) (.type "BaseException") = some true)
    (ac_TooMany : PySem.W.nsIn K mainGlobals "TooMany" = some (some (.ref C_TooMany)))
    (tc_TooMany : PySem.W.typeIn K (.ref C_TooMany) = some (.type "type"))
    (ec_TooMany : PySem.W.subIn K (.ref C_TooMany) (.type "BaseException") = some true)
    (ac_NoOrder : PySem.W.nsIn K mainGlobals "NoOrder" = some (some (.ref C_NoOrder)))
    (tc_NoOrder : PySem.W.typeIn K (.ref C_NoOrder) = some (.type "type"))
    (ec_NoOrder : PySem.W.subIn K (.ref C_NoOrder) (.type "BaseException") = some true)
    (ac_NoRows : PySem.W.nsIn K mainGlobals "NoRows" = some (some (.ref C_NoRows)))
    (tc_NoRows : PySem.W.typeIn K (.ref C_NoRows) = some (.type "type"))
    (ec_NoRows : PySem.W.subIn K (.ref C_NoRows) (.type "BaseException") = some true)
    (ac_NoShares : PySem.W.nsIn K mainGlobals "NoShares" = some (some (.ref C_NoShares)))
    (tc_NoShares : PySem.W.typeIn K (.ref C_NoShares) = some (.type "type"))
    (ec_NoShares : PySem.W.subIn K (.ref C_NoShares) (.type "BaseException") = some true)
    (ac_NoVotes : PySem.W.nsIn K mainGlobals "NoVotes" = some (some (.ref C_NoVotes)))
    (tc_NoVotes : PySem.W.typeIn K (.ref C_NoVotes) = some (.type "type"))
    (ec_NoVotes : PySem.W.subIn K (.ref C_NoVotes) (.type "BaseException") = some true)
    (ac_Company : PySem.W.nsIn K mainGlobals "Company" = some (some (.ref C_Company)))
    (kc_Company : PySem.W.keepIn K (.ref C_Company) = true)
    (pg_Company : PySem.W.plainGet K C_Company Str.empty = true)
    (hd_Company : PySem.W.hasDictIn K C_Company = true)
    (po_Company : PySem.W.plainOver K C_Company = true)
    (sa_Company : PySem.W.findIn K (.ref C_Company) "__setattr__" = some (some (.builtin "object.__setattr__")))
    (mk_Company : PySem.W.makesIn K C_Company = true)
    (yn : PySem.W.specialIn K (.builtin "object.__class__") "__get__" = some (some (.builtin "getset_descriptor.__get__")))
    (yt : PySem.W.takesIn K (.builtin "object.__class__") = some true)
    (ya_Company : PySem.W.findIn K (.ref C_Company) "__class__" = some (some (.builtin "object.__class__")))
    (ym_Company : PySem.W.mroIn K C_Company (.type "object") = some true)
    (us_Company_Rule : PySem.W.subIn K (.ref C_Company) (.ref C_Rule) = some false)
    (na_Company_many : PySem.W.findIn K (.ref C_Company) "many" = some none)
    (na_Company_rules : PySem.W.findIn K (.ref C_Company) "rules" = some none)
    (ac_Rule : PySem.W.nsIn K mainGlobals "Rule" = some (some (.ref C_Rule)))
    (ic_Rule : PySem.W.isClsIn K C_Rule = true)
    (tc_Rule : PySem.W.typeIn K (.ref C_Rule) = some (.type "type"))
    (sc_Rule : PySem.W.subIn K (.ref C_Rule) (.ref C_Rule) = some true)
    (ba_Rule : PySem.W.specialIn K (.ref C_Rule) "__getattribute__" = some (some (.builtin "type.__getattribute__")))
    (br_Rule : PySem.W.readsIn K C_Rule (.type "type") = true)
    (bf_Rule : PySem.W.findCls K (.ref C_Rule) (.type "type") "__init__" = some (.val (.ref f_Rule___init__)))
    (kc_Rule : PySem.W.keepIn K (.ref C_Rule) = true)
    (pg_Rule : PySem.W.plainGet K C_Rule Str.empty = true)
    (hd_Rule : PySem.W.hasDictIn K C_Rule = true)
    (po_Rule : PySem.W.plainOver K C_Rule = true)
    (sa_Rule : PySem.W.findIn K (.ref C_Rule) "__setattr__" = some (some (.builtin "object.__setattr__")))
    (mk_Rule : PySem.W.makesIn K C_Rule = true)
    (ya_Rule : PySem.W.findIn K (.ref C_Rule) "__class__" = some (some (.builtin "object.__class__")))
    (ym_Rule : PySem.W.mroIn K C_Rule (.type "object") = some true)
    (us_Rule_Rule : PySem.W.subIn K (.ref C_Rule) (.ref C_Rule) = some true)
    (na_Rule_many : PySem.W.findIn K (.ref C_Rule) "many" = some none)
    (ac_Own : PySem.W.nsIn K mainGlobals "Own" = some (some (.ref C_Own)))
    (kc_Own : PySem.W.keepIn K (.ref C_Own) = true)
    (pg_Own : PySem.W.plainGet K C_Own Str.empty = true)
    (hd_Own : PySem.W.hasDictIn K C_Own = true)
    (po_Own : PySem.W.plainOver K C_Own = true)
    (sa_Own : PySem.W.findIn K (.ref C_Own) "__setattr__" = some (some (.builtin "object.__setattr__")))
    (mk_Own : PySem.W.makesIn K C_Own = true)
    (ya_Own : PySem.W.findIn K (.ref C_Own) "__class__" = some (some (.builtin "object.__class__")))
    (ym_Own : PySem.W.mroIn K C_Own (.type "object") = some true)
    (us_Own_Rule : PySem.W.subIn K (.ref C_Own) (.ref C_Rule) = some true)
    (in_Own_hands : PySem.W.findIn K (.ref C_Own) "hands" = some (some (.ref f_Rule_hands)))
    (in_Own_earn : PySem.W.findIn K (.ref C_Own) "earn" = some (some (.ref f_Rule_earn)))
    (na_Own_numbers : PySem.W.findIn K (.ref C_Own) "numbers" = some none)
    (na_Own_many : PySem.W.findIn K (.ref C_Own) "many" = some none)
    (ac_Pairs : PySem.W.nsIn K mainGlobals "Pairs" = some (some (.ref C_Pairs)))
    (kc_Pairs : PySem.W.keepIn K (.ref C_Pairs) = true)
    (pg_Pairs : PySem.W.plainGet K C_Pairs Str.empty = true)
    (hd_Pairs : PySem.W.hasDictIn K C_Pairs = true)
    (po_Pairs : PySem.W.plainOver K C_Pairs = true)
    (sa_Pairs : PySem.W.findIn K (.ref C_Pairs) "__setattr__" = some (some (.builtin "object.__setattr__")))
    (mk_Pairs : PySem.W.makesIn K C_Pairs = true)
    (ya_Pairs : PySem.W.findIn K (.ref C_Pairs) "__class__" = some (some (.builtin "object.__class__")))
    (ym_Pairs : PySem.W.mroIn K C_Pairs (.type "object") = some true)
    (us_Pairs_Rule : PySem.W.subIn K (.ref C_Pairs) (.ref C_Rule) = some true)
    (in_Pairs_hands : PySem.W.findIn K (.ref C_Pairs) "hands" = some (some (.ref f_Rule_hands)))
    (in_Pairs_earn : PySem.W.findIn K (.ref C_Pairs) "earn" = some (some (.ref f_Rule_earn)))
    (na_Pairs_pairs : PySem.W.findIn K (.ref C_Pairs) "pairs" = some none)
    (na_Pairs_many : PySem.W.findIn K (.ref C_Pairs) "many" = some none)
    (ac_Votes : PySem.W.nsIn K mainGlobals "Votes" = some (some (.ref C_Votes)))
    (kc_Votes : PySem.W.keepIn K (.ref C_Votes) = true)
    (pg_Votes : PySem.W.plainGet K C_Votes Str.empty = true)
    (hd_Votes : PySem.W.hasDictIn K C_Votes = true)
    (po_Votes : PySem.W.plainOver K C_Votes = true)
    (sa_Votes : PySem.W.findIn K (.ref C_Votes) "__setattr__" = some (some (.builtin "object.__setattr__")))
    (mk_Votes : PySem.W.makesIn K C_Votes = true)
    (ya_Votes : PySem.W.findIn K (.ref C_Votes) "__class__" = some (some (.builtin "object.__class__")))
    (ym_Votes : PySem.W.mroIn K C_Votes (.type "object") = some true)
    (us_Votes_Rule : PySem.W.subIn K (.ref C_Votes) (.ref C_Rule) = some true)
    (in_Votes_hands : PySem.W.findIn K (.ref C_Votes) "hands" = some (some (.ref f_Rule_hands)))
    (in_Votes_earn : PySem.W.findIn K (.ref C_Votes) "earn" = some (some (.ref f_Rule_earn)))
    (na_Votes_quota : PySem.W.findIn K (.ref C_Votes) "quota" = some none)
    (na_Votes_prize : PySem.W.findIn K (.ref C_Votes) "prize" = some none)
    (na_Votes_weights : PySem.W.findIn K (.ref C_Votes) "weights" = some none)
    (na_Votes_many : PySem.W.findIn K (.ref C_Votes) "many" = some none)
    (ac_Plain : PySem.W.nsIn K mainGlobals "Plain" = some (some (.ref C_Plain)))
    (kc_Plain : PySem.W.keepIn K (.ref C_Plain) = true)
    (pg_Plain : PySem.W.plainGet K C_Plain Str.empty = true)
    (hd_Plain : PySem.W.hasDictIn K C_Plain = true)
    (po_Plain : PySem.W.plainOver K C_Plain = true)
    (sa_Plain : PySem.W.findIn K (.ref C_Plain) "__setattr__" = some (some (.builtin "object.__setattr__")))
    (mk_Plain : PySem.W.makesIn K C_Plain = true)
    (ya_Plain : PySem.W.findIn K (.ref C_Plain) "__class__" = some (some (.builtin "object.__class__")))
    (ym_Plain : PySem.W.mroIn K C_Plain (.type "object") = some true)
    (us_Plain_Rule : PySem.W.subIn K (.ref C_Plain) (.ref C_Rule) = some true)
    (in_Plain_hands : PySem.W.findIn K (.ref C_Plain) "hands" = some (some (.ref f_Rule_hands)))
    (in_Plain_earn : PySem.W.findIn K (.ref C_Plain) "earn" = some (some (.ref f_Rule_earn)))
    (na_Plain_row : PySem.W.findIn K (.ref C_Plain) "row" = some none)
    (na_Plain_many : PySem.W.findIn K (.ref C_Plain) "many" = some none)
    (ic_NoGroup : PySem.W.isClsIn K C_NoGroup = true)
    (sc_NoGroup : PySem.W.subIn K (.ref C_NoGroup) (.ref C_NoGroup) = some true)
    (ic_NoNumber : PySem.W.isClsIn K C_NoNumber = true)
    (sc_NoNumber : PySem.W.subIn K (.ref C_NoNumber) (.ref C_NoNumber) = some true)
    (ic_NoOrder : PySem.W.isClsIn K C_NoOrder = true)
    (sc_NoOrder : PySem.W.subIn K (.ref C_NoOrder) (.ref C_NoOrder) = some true)
    (ic_NoRows : PySem.W.isClsIn K C_NoRows = true)
    (sc_NoRows : PySem.W.subIn K (.ref C_NoRows) (.ref C_NoRows) = some true)
    (ic_NoRule : PySem.W.isClsIn K C_NoRule = true)
    (sc_NoRule : PySem.W.subIn K (.ref C_NoRule) (.ref C_NoRule) = some true)
    (ic_NoShares : PySem.W.isClsIn K C_NoShares = true)
    (sc_NoShares : PySem.W.subIn K (.ref C_NoShares) (.ref C_NoShares) = some true)
    (ic_NoTable : PySem.W.isClsIn K C_NoTable = true)
    (sc_NoTable : PySem.W.subIn K (.ref C_NoTable) (.ref C_NoTable) = some true)
    (ic_NoText : PySem.W.isClsIn K C_NoText = true)
    (sc_NoText : PySem.W.subIn K (.ref C_NoText) (.ref C_NoText) = some true)
    (ic_NoVotes : PySem.W.isClsIn K C_NoVotes = true)
    (sc_NoVotes : PySem.W.subIn K (.ref C_NoVotes) (.ref C_NoVotes) = some true)
    (ic_ShareError : PySem.W.isClsIn K C_ShareError = true)
    (sc_ShareError : PySem.W.subIn K (.ref C_ShareError) (.ref C_ShareError) = some true)
    (ic_TooMany : PySem.W.isClsIn K C_TooMany = true)
    (sc_TooMany : PySem.W.subIn K (.ref C_TooMany) (.ref C_TooMany) = some true)
    (ic_Unlike : PySem.W.isClsIn K C_Unlike = true)
    (sc_Unlike : PySem.W.subIn K (.ref C_Unlike) (.ref C_Unlike) = some true)
    (xg_NoGroup : PySem.W.findIn K (.ref C_NoGroup) "__getattribute__" = some (some (.builtin "BaseException.__getattribute__")))
    (xk_NoGroup : PySem.W.findIn K (.ref C_NoGroup) "__getattr__" = some none)
    (xh_NoGroup : PySem.W.hasDictIn K C_NoGroup = true)
    (xa_NoGroup : PySem.W.findIn K (.ref C_NoGroup) "__class__" = some (some (.builtin "object.__class__")))
    (xm_NoGroup : PySem.W.mroIn K C_NoGroup (.type "object") = some true)
    (xn : PySem.W.specialIn K (.builtin "object.__class__") "__get__" = some (some (.builtin "getset_descriptor.__get__")))
    (xt : PySem.W.takesIn K (.builtin "object.__class__") = some true)
    (us_NoGroup_NoGroup : PySem.W.subIn K (.ref C_NoGroup) (.ref C_NoGroup) = some true)
    (us_NoGroup_NoNumber : PySem.W.subIn K (.ref C_NoGroup) (.ref C_NoNumber) = some false)
    (us_NoGroup_NoOrder : PySem.W.subIn K (.ref C_NoGroup) (.ref C_NoOrder) = some false)
    (us_NoGroup_NoRows : PySem.W.subIn K (.ref C_NoGroup) (.ref C_NoRows) = some false)
    (us_NoGroup_NoRule : PySem.W.subIn K (.ref C_NoGroup) (.ref C_NoRule) = some false)
    (us_NoGroup_NoShares : PySem.W.subIn K (.ref C_NoGroup) (.ref C_NoShares) = some false)
    (us_NoGroup_NoTable : PySem.W.subIn K (.ref C_NoGroup) (.ref C_NoTable) = some false)
    (us_NoGroup_NoText : PySem.W.subIn K (.ref C_NoGroup) (.ref C_NoText) = some false)
    (us_NoGroup_NoVotes : PySem.W.subIn K (.ref C_NoGroup) (.ref C_NoVotes) = some false)
    (us_NoGroup_ShareError : PySem.W.subIn K (.ref C_NoGroup) (.ref C_ShareError) = some true)
    (us_NoGroup_TooMany : PySem.W.subIn K (.ref C_NoGroup) (.ref C_TooMany) = some false)
    (us_NoGroup_Unlike : PySem.W.subIn K (.ref C_NoGroup) (.ref C_Unlike) = some false)
    (uv_NoGroup : PySem.W.subIn K (.ref C_NoGroup) (.type "ValueError") = some true)
    (hh_NoGroup_ShareError : PySem.W.hasDictIn K C_ShareError = true)
    (xg_NoRule : PySem.W.findIn K (.ref C_NoRule) "__getattribute__" = some (some (.builtin "BaseException.__getattribute__")))
    (xk_NoRule : PySem.W.findIn K (.ref C_NoRule) "__getattr__" = some none)
    (xh_NoRule : PySem.W.hasDictIn K C_NoRule = true)
    (xa_NoRule : PySem.W.findIn K (.ref C_NoRule) "__class__" = some (some (.builtin "object.__class__")))
    (xm_NoRule : PySem.W.mroIn K C_NoRule (.type "object") = some true)
    (us_NoRule_NoGroup : PySem.W.subIn K (.ref C_NoRule) (.ref C_NoGroup) = some false)
    (us_NoRule_NoNumber : PySem.W.subIn K (.ref C_NoRule) (.ref C_NoNumber) = some false)
    (us_NoRule_NoOrder : PySem.W.subIn K (.ref C_NoRule) (.ref C_NoOrder) = some false)
    (us_NoRule_NoRows : PySem.W.subIn K (.ref C_NoRule) (.ref C_NoRows) = some false)
    (us_NoRule_NoRule : PySem.W.subIn K (.ref C_NoRule) (.ref C_NoRule) = some true)
    (us_NoRule_NoShares : PySem.W.subIn K (.ref C_NoRule) (.ref C_NoShares) = some false)
    (us_NoRule_NoTable : PySem.W.subIn K (.ref C_NoRule) (.ref C_NoTable) = some false)
    (us_NoRule_NoText : PySem.W.subIn K (.ref C_NoRule) (.ref C_NoText) = some false)
    (us_NoRule_NoVotes : PySem.W.subIn K (.ref C_NoRule) (.ref C_NoVotes) = some false)
    (us_NoRule_ShareError : PySem.W.subIn K (.ref C_NoRule) (.ref C_ShareError) = some true)
    (us_NoRule_TooMany : PySem.W.subIn K (.ref C_NoRule) (.ref C_TooMany) = some false)
    (us_NoRule_Unlike : PySem.W.subIn K (.ref C_NoRule) (.ref C_Unlike) = some false)
    (uv_NoRule : PySem.W.subIn K (.ref C_NoRule) (.type "ValueError") = some true)
    (hh_NoRule_ShareError : PySem.W.hasDictIn K C_ShareError = true)
    (xg_NoTable : PySem.W.findIn K (.ref C_NoTable) "__getattribute__" = some (some (.builtin "BaseException.__getattribute__")))
    (xk_NoTable : PySem.W.findIn K (.ref C_NoTable) "__getattr__" = some none)
    (xh_NoTable : PySem.W.hasDictIn K C_NoTable = true)
    (xa_NoTable : PySem.W.findIn K (.ref C_NoTable) "__class__" = some (some (.builtin "object.__class__")))
    (xm_NoTable : PySem.W.mroIn K C_NoTable (.type "object") = some true)
    (us_NoTable_NoGroup : PySem.W.subIn K (.ref C_NoTable) (.ref C_NoGroup) = some false)
    (us_NoTable_NoNumber : PySem.W.subIn K (.ref C_NoTable) (.ref C_NoNumber) = some false)
    (us_NoTable_NoOrder : PySem.W.subIn K (.ref C_NoTable) (.ref C_NoOrder) = some false)
    (us_NoTable_NoRows : PySem.W.subIn K (.ref C_NoTable) (.ref C_NoRows) = some false)
    (us_NoTable_NoRule : PySem.W.subIn K (.ref C_NoTable) (.ref C_NoRule) = some false)
    (us_NoTable_NoShares : PySem.W.subIn K (.ref C_NoTable) (.ref C_NoShares) = some false)
    (us_NoTable_NoTable : PySem.W.subIn K (.ref C_NoTable) (.ref C_NoTable) = some true)
    (us_NoTable_NoText : PySem.W.subIn K (.ref C_NoTable) (.ref C_NoText) = some false)
    (us_NoTable_NoVotes : PySem.W.subIn K (.ref C_NoTable) (.ref C_NoVotes) = some false)
    (us_NoTable_ShareError : PySem.W.subIn K (.ref C_NoTable) (.ref C_ShareError) = some true)
    (us_NoTable_TooMany : PySem.W.subIn K (.ref C_NoTable) (.ref C_TooMany) = some false)
    (us_NoTable_Unlike : PySem.W.subIn K (.ref C_NoTable) (.ref C_Unlike) = some false)
    (uv_NoTable : PySem.W.subIn K (.ref C_NoTable) (.type "ValueError") = some true)
    (hh_NoTable_ShareError : PySem.W.hasDictIn K C_ShareError = true)
    (cn_MOST : PySem.W.nsIn K mainGlobals "MOST" = some (some (.int 6 t_MOST)))
    (cn_FULL : PySem.W.nsIn K mainGlobals "FULL" = some (some (.int 12 t_FULL)))
    (z_ValueError : PySem.W.nsIn K mainGlobals "ValueError" = some none)
    (z_abs : PySem.W.nsIn K mainGlobals "abs" = some none)
    (z_bool : PySem.W.nsIn K mainGlobals "bool" = some none)
    (z_enumerate : PySem.W.nsIn K mainGlobals "enumerate" = some none)
    (z_int : PySem.W.nsIn K mainGlobals "int" = some none)
    (z_isinstance : PySem.W.nsIn K mainGlobals "isinstance" = some none)
    (z_len : PySem.W.nsIn K mainGlobals "len" = some none)
    (z_list : PySem.W.nsIn K mainGlobals "list" = some none)
    (z_max : PySem.W.nsIn K mainGlobals "max" = some none)
    (z_min : PySem.W.nsIn K mainGlobals "min" = some none)
    (z_range : PySem.W.nsIn K mainGlobals "range" = some none)
    (z_sorted : PySem.W.nsIn K mainGlobals "sorted" = some none)
    (z_sum : PySem.W.nsIn K mainGlobals "sum" = some none)
    : ∃ fd : FuncData, (∀ (s : Shared) (v : Value), BindsTo s fd ⟨[v], []⟩ [("_law_script", v)]) ∧ ∀ base : Heap, K.In base → base.Ns mainGlobals mg → FnOk l.prog w K mg base (L2.CX l.prog w) 9 fa fd ["_law_script"] (sp_law K) := by
  have e := hfa.symm.trans (PySem.W.mg_of X G a_law)
  cases e
  have T : Txt K mg ⟨f_is_whole, PySem.W.fnOf "is_whole" "is_whole" (defArgs s_is_whole) (defBody s_is_whole) (defScope s_is_whole) .none kV_is_whole dc_is_whole pm_is_whole an_is_whole cd_is_whole ct_is_whole, f_look_group, PySem.W.fnOf "look_group" "look_group" (defArgs s_look_group) (defBody s_look_group) (defScope s_look_group) .none kV_look_group dc_look_group pm_look_group an_look_group cd_look_group ct_look_group, f_whole_of, PySem.W.fnOf "whole_of" "whole_of" (defArgs s_whole_of) (defBody s_whole_of) (defScope s_whole_of) .none kV_whole_of dc_whole_of pm_whole_of an_whole_of cd_whole_of ct_whole_of, f_hands_of, PySem.W.fnOf "hands_of" "hands_of" (defArgs s_hands_of) (defBody s_hands_of) (defScope s_hands_of) .none kV_hands_of dc_hands_of pm_hands_of an_hands_of cd_hands_of ct_hands_of, f_Company___init__, PySem.W.fnOf "__init__" "Company.__init__" (defArgs s_Company___init__) (defBody s_Company___init__) (defScope s_Company___init__) .none kV_Company___init__ dc_Company___init__ pm_Company___init__ an_Company___init__ cd_Company___init__ ct_Company___init__, f_Company_hands, PySem.W.fnOf "hands" "Company.hands" (defArgs s_Company_hands) (defBody s_Company_hands) (defScope s_Company_hands) .none kV_Company_hands dc_Company_hands pm_Company_hands an_Company_hands cd_Company_hands ct_Company_hands, f_Company_earn, PySem.W.fnOf "earn" "Company.earn" (defArgs s_Company_earn) (defBody s_Company_earn) (defScope s_Company_earn) .none kV_Company_earn dc_Company_earn pm_Company_earn an_Company_earn cd_Company_earn ct_Company_earn, f_Company_table, PySem.W.fnOf "table" "Company.table" (defArgs s_Company_table) (defBody s_Company_table) (defScope s_Company_table) .none kV_Company_table dc_Company_table pm_Company_table an_Company_table cd_Company_table ct_Company_table, f_look, PySem.W.fnOf "look" "look" (defArgs s_look) (defBody s_look) (defScope s_look) .none kV_look dc_look pm_look an_look cd_look ct_look, f_look_numbers, PySem.W.fnOf "look_numbers" "look_numbers" (defArgs s_look_numbers) (defBody s_look_numbers) (defScope s_look_numbers) .none kV_look_numbers dc_look_numbers pm_look_numbers an_look_numbers cd_look_numbers ct_look_numbers, f_one_pair, PySem.W.fnOf "one_pair" "one_pair" (defArgs s_one_pair) (defBody s_one_pair) (defScope s_one_pair) .none kV_one_pair dc_one_pair pm_one_pair an_one_pair cd_one_pair ct_one_pair, f_pairs_of, PySem.W.fnOf "pairs_of" "pairs_of" (defArgs s_pairs_of) (defBody s_pairs_of) (defScope s_pairs_of) .none kV_pairs_of dc_pairs_of pm_pairs_of an_pairs_of cd_pairs_of ct_pairs_of, f_Rule___init__, PySem.W.fnOf "__init__" "Rule.__init__" (defArgs s_Rule___init__) (defBody s_Rule___init__) (defScope s_Rule___init__) .none kV_Rule___init__ dc_Rule___init__ pm_Rule___init__ an_Rule___init__ cd_Rule___init__ ct_Rule___init__, f_Rule_hands, PySem.W.fnOf "hands" "Rule.hands" (defArgs s_Rule_hands) (defBody s_Rule_hands) (defScope s_Rule_hands) .none kV_Rule_hands dc_Rule_hands pm_Rule_hands an_Rule_hands cd_Rule_hands ct_Rule_hands, f_Rule_earn, PySem.W.fnOf "earn" "Rule.earn" (defArgs s_Rule_earn) (defBody s_Rule_earn) (defScope s_Rule_earn) .none kV_Rule_earn dc_Rule_earn pm_Rule_earn an_Rule_earn cd_Rule_earn ct_Rule_earn, f_Rule_reckoned, PySem.W.fnOf "reckoned" "Rule.reckoned" (defArgs s_Rule_reckoned) (defBody s_Rule_reckoned) (defScope s_Rule_reckoned) .none kV_Rule_reckoned dc_Rule_reckoned pm_Rule_reckoned an_Rule_reckoned cd_Rule_reckoned ct_Rule_reckoned, f_Own___init__, PySem.W.fnOf "__init__" "Own.__init__" (defArgs s_Own___init__) (defBody s_Own___init__) (defScope s_Own___init__) .none kV_Own___init__ dc_Own___init__ pm_Own___init__ an_Own___init__ cd_Own___init__ ct_Own___init__, f_Own_reckoned, PySem.W.fnOf "reckoned" "Own.reckoned" (defArgs s_Own_reckoned) (defBody s_Own_reckoned) (defScope s_Own_reckoned) .none kV_Own_reckoned dc_Own_reckoned pm_Own_reckoned an_Own_reckoned cd_Own_reckoned ct_Own_reckoned, f_Pairs___init__, PySem.W.fnOf "__init__" "Pairs.__init__" (defArgs s_Pairs___init__) (defBody s_Pairs___init__) (defScope s_Pairs___init__) .none kV_Pairs___init__ dc_Pairs___init__ pm_Pairs___init__ an_Pairs___init__ cd_Pairs___init__ ct_Pairs___init__, f_Pairs_reckoned, PySem.W.fnOf "reckoned" "Pairs.reckoned" (defArgs s_Pairs_reckoned) (defBody s_Pairs_reckoned) (defScope s_Pairs_reckoned) .none kV_Pairs_reckoned dc_Pairs_reckoned pm_Pairs_reckoned an_Pairs_reckoned cd_Pairs_reckoned ct_Pairs_reckoned, f_Votes___init__, PySem.W.fnOf "__init__" "Votes.__init__" (defArgs s_Votes___init__) (defBody s_Votes___init__) (defScope s_Votes___init__) .none kV_Votes___init__ dc_Votes___init__ pm_Votes___init__ an_Votes___init__ cd_Votes___init__ ct_Votes___init__, f_Votes_reckoned, PySem.W.fnOf "reckoned" "Votes.reckoned" (defArgs s_Votes_reckoned) (defBody s_Votes_reckoned) (defScope s_Votes_reckoned) .none kV_Votes_reckoned dc_Votes_reckoned pm_Votes_reckoned an_Votes_reckoned cd_Votes_reckoned ct_Votes_reckoned, f_Plain___init__, PySem.W.fnOf "__init__" "Plain.__init__" (defArgs s_Plain___init__) (defBody s_Plain___init__) (defScope s_Plain___init__) .none kV_Plain___init__ dc_Plain___init__ pm_Plain___init__ an_Plain___init__ cd_Plain___init__ ct_Plain___init__, f_Plain_reckoned, PySem.W.fnOf "reckoned" "Plain.reckoned" (defArgs s_Plain_reckoned) (defBody s_Plain_reckoned) (defScope s_Plain_reckoned) .none kV_Plain_reckoned dc_Plain_reckoned pm_Plain_reckoned an_Plain_reckoned cd_Plain_reckoned ct_Plain_reckoned, f__law_whole, PySem.W.fnOf "_law_whole" "_law_whole" (defArgs s__law_whole) (defBody s__law_whole) (defScope s__law_whole) .none kV__law_whole dc__law_whole pm__law_whole an__law_whole cd__law_whole ct__law_whole, f__law_cell, PySem.W.fnOf "_law_cell" "_law_cell" (defArgs s__law_cell) (defBody s__law_cell) (defScope s__law_cell) .none kV__law_cell dc__law_cell pm__law_cell an__law_cell cd__law_cell ct__law_cell, f__law_number, PySem.W.fnOf "_law_number" "_law_number" (defArgs s__law_number) (defBody s__law_number) (defScope s__law_number) .none kV__law_number dc__law_number pm__law_number an__law_number cd__law_number ct__law_number, f__law_rule, PySem.W.fnOf "_law_rule" "_law_rule" (defArgs s__law_rule) (defBody s__law_rule) (defScope s__law_rule) .none kV__law_rule dc__law_rule pm__law_rule an__law_rule cd__law_rule ct__law_rule, f__law_rules, PySem.W.fnOf "_law_rules" "_law_rules" (defArgs s__law_rules) (defBody s__law_rules) (defScope s__law_rules) .none kV__law_rules dc__law_rules pm__law_rules an__law_rules cd__law_rules ct__law_rules, f__law_earned, PySem.W.fnOf "_law_earned" "_law_earned" (defArgs s__law_earned) (defBody s__law_earned) (defScope s__law_earned) .none kV__law_earned dc__law_earned pm__law_earned an__law_earned cd__law_earned ct__law_earned, f__law_object, PySem.W.fnOf "_law_object" "_law_object" (defArgs s__law_object) (defBody s__law_object) (defScope s__law_object) .none kV__law_object dc__law_object pm__law_object an__law_object cd__law_object ct__law_object, f__law_holds, PySem.W.fnOf "_law_holds" "_law_holds" (defArgs s__law_holds) (defBody s__law_holds) (defScope s__law_holds) .none kV__law_holds dc__law_holds pm__law_holds an__law_holds cd__law_holds ct__law_holds, f__law_no_group, PySem.W.fnOf "_law_no_group" "_law_no_group" (defArgs s__law_no_group) (defBody s__law_no_group) (defScope s__law_no_group) .none kV__law_no_group dc__law_no_group pm__law_no_group an__law_no_group cd__law_no_group ct__law_no_group, f__law_no_rule, PySem.W.fnOf "_law_no_rule" "_law_no_rule" (defArgs s__law_no_rule) (defBody s__law_no_rule) (defScope s__law_no_rule) .none kV__law_no_rule dc__law_no_rule pm__law_no_rule an__law_no_rule cd__law_no_rule ct__law_no_rule, f__law_refusals, PySem.W.fnOf "_law_refusals" "_law_refusals" (defArgs s__law_refusals) (defBody s__law_refusals) (defScope s__law_refusals) .none kV__law_refusals dc__law_refusals pm__law_refusals an__law_refusals cd__law_refusals ct__law_refusals, fa, PySem.W.fnOf "law" "law" (defArgs s_law) (defBody s_law) (defScope s_law) .none kV_law dc_law pm_law an_law cd_law ct_law, C_ShareError, C_NoNumber, C_NoGroup, C_NoRule, C_NoText, C_NoTable, C_Unlike, C_TooMany, C_NoOrder, C_NoRows, C_NoShares, C_NoVotes, C_Company, C_Rule, C_Own, C_Pairs, C_Votes, C_Plain, t_MOST, t_FULL⟩ := {
    F_is_whole := fun_mk (st := s_is_whole) l_is_whole c_is_whole k_is_whole
    b_is_whole := (fun_mk (st := s_is_whole) l_is_whole c_is_whole k_is_whole).binds (ps := ["thing"]) fun _ _ _ _ _ _ us hl => match us, hl with | [_], _ => rfl
    g_is_whole := PySem.W.mg_of X G a_is_whole
    F_look_group := fun_mk (st := s_look_group) l_look_group c_look_group k_look_group
    b_look_group := (fun_mk (st := s_look_group) l_look_group c_look_group k_look_group).binds (ps := ["group", "least", "greatest"]) fun _ _ _ _ _ _ us hl => match us, hl with | [_, _, _], _ => rfl
    g_look_group := PySem.W.mg_of X G a_look_group
    F_whole_of := fun_mk (st := s_whole_of) l_whole_of c_whole_of k_whole_of
    b_whole_of := (fun_mk (st := s_whole_of) l_whole_of c_whole_of k_whole_of).binds (ps := ["many"]) fun _ _ _ _ _ _ us hl => match us, hl with | [_], _ => rfl
    g_whole_of := PySem.W.mg_of X G a_whole_of
    F_hands_of := fun_mk (st := s_hands_of) l_hands_of c_hands_of k_hands_of
    b_hands_of := (fun_mk (st := s_hands_of) l_hands_of c_hands_of k_hands_of).binds (ps := ["group"]) fun _ _ _ _ _ _ us hl => match us, hl with | [_], _ => rfl
    g_hands_of := PySem.W.mg_of X G a_hands_of
    F_Company___init__ := fun_mk (st := s_Company___init__) l_Company___init__ c_Company___init__ k_Company___init__
    b_Company___init__ := (fun_mk (st := s_Company___init__) l_Company___init__ c_Company___init__ k_Company___init__).binds (ps := ["self", "many", "rules"]) fun _ _ _ _ _ _ us hl => match us, hl with | [_, _, _], _ => rfl
    F_Company_hands := fun_mk (st := s_Company_hands) l_Company_hands c_Company_hands k_Company_hands
    b_Company_hands := (fun_mk (st := s_Company_hands) l_Company_hands c_Company_hands k_Company_hands).binds (ps := ["self"]) fun _ _ _ _ _ _ us hl => match us, hl with | [_], _ => rfl
    F_Company_earn := fun_mk (st := s_Company_earn) l_Company_earn c_Company_earn k_Company_earn
    b_Company_earn := (fun_mk (st := s_Company_earn) l_Company_earn c_Company_earn k_Company_earn).binds (ps := ["self", "group"]) fun _ _ _ _ _ _ us hl => match us, hl with | [_, _], _ => rfl
    F_Company_table := fun_mk (st := s_Company_table) l_Company_table c_Company_table k_Company_table
    b_Company_table := (fun_mk (st := s_Company_table) l_Company_table c_Company_table k_Company_table).binds (ps := ["self"]) fun _ _ _ _ _ _ us hl => match us, hl with | [_], _ => rfl
    F_look := fun_mk (st := s_look) l_look c_look k_look
    b_look := (fun_mk (st := s_look) l_look c_look k_look).binds (ps := ["table"]) fun _ _ _ _ _ _ us hl => match us, hl with | [_], _ => rfl
    g_look := PySem.W.mg_of X G a_look
    F_look_numbers := fun_mk (st := s_look_numbers) l_look_numbers c_look_numbers k_look_numbers
    b_look_numbers := (fun_mk (st := s_look_numbers) l_look_numbers c_look_numbers k_look_numbers).binds (ps := ["numbers"]) fun _ _ _ _ _ _ us hl => match us, hl with | [_], _ => rfl
    g_look_numbers := PySem.W.mg_of X G a_look_numbers
    F_one_pair := fun_mk (st := s_one_pair) l_one_pair c_one_pair k_one_pair
    b_one_pair := (fun_mk (st := s_one_pair) l_one_pair c_one_pair k_one_pair).binds (ps := ["many", "pair"]) fun _ _ _ _ _ _ us hl => match us, hl with | [_, _], _ => rfl
    g_one_pair := PySem.W.mg_of X G a_one_pair
    F_pairs_of := fun_mk (st := s_pairs_of) l_pairs_of c_pairs_of k_pairs_of
    b_pairs_of := (fun_mk (st := s_pairs_of) l_pairs_of c_pairs_of k_pairs_of).binds (ps := ["many", "pairs"]) fun _ _ _ _ _ _ us hl => match us, hl with | [_, _], _ => rfl
    g_pairs_of := PySem.W.mg_of X G a_pairs_of
    F_Rule___init__ := fun_mk (st := s_Rule___init__) l_Rule___init__ c_Rule___init__ k_Rule___init__
    b_Rule___init__ := (fun_mk (st := s_Rule___init__) l_Rule___init__ c_Rule___init__ k_Rule___init__).binds (ps := ["self", "many"]) fun _ _ _ _ _ _ us hl => match us, hl with | [_, _], _ => rfl
    F_Rule_hands := fun_mk (st := s_Rule_hands) l_Rule_hands c_Rule_hands k_Rule_hands
    b_Rule_hands := (fun_mk (st := s_Rule_hands) l_Rule_hands c_Rule_hands k_Rule_hands).binds (ps := ["self"]) fun _ _ _ _ _ _ us hl => match us, hl with | [_], _ => rfl
    F_Rule_earn := fun_mk (st := s_Rule_earn) l_Rule_earn c_Rule_earn k_Rule_earn
    b_Rule_earn := (fun_mk (st := s_Rule_earn) l_Rule_earn c_Rule_earn k_Rule_earn).binds (ps := ["self", "group"]) fun _ _ _ _ _ _ us hl => match us, hl with | [_, _], _ => rfl
    F_Rule_reckoned := fun_mk (st := s_Rule_reckoned) l_Rule_reckoned c_Rule_reckoned k_Rule_reckoned
    b_Rule_reckoned := (fun_mk (st := s_Rule_reckoned) l_Rule_reckoned c_Rule_reckoned k_Rule_reckoned).binds (ps := ["self", "group"]) fun _ _ _ _ _ _ us hl => match us, hl with | [_, _], _ => rfl
    F_Own___init__ := fun_mk (st := s_Own___init__) l_Own___init__ c_Own___init__ k_Own___init__
    b_Own___init__ := (fun_mk (st := s_Own___init__) l_Own___init__ c_Own___init__ k_Own___init__).binds (ps := ["self", "numbers"]) fun _ _ _ _ _ _ us hl => match us, hl with | [_, _], _ => rfl
    F_Own_reckoned := fun_mk (st := s_Own_reckoned) l_Own_reckoned c_Own_reckoned k_Own_reckoned
    b_Own_reckoned := (fun_mk (st := s_Own_reckoned) l_Own_reckoned c_Own_reckoned k_Own_reckoned).binds (ps := ["self", "group"]) fun _ _ _ _ _ _ us hl => match us, hl with | [_, _], _ => rfl
    F_Pairs___init__ := fun_mk (st := s_Pairs___init__) l_Pairs___init__ c_Pairs___init__ k_Pairs___init__
    b_Pairs___init__ := (fun_mk (st := s_Pairs___init__) l_Pairs___init__ c_Pairs___init__ k_Pairs___init__).binds (ps := ["self", "many", "pairs"]) fun _ _ _ _ _ _ us hl => match us, hl with | [_, _, _], _ => rfl
    F_Pairs_reckoned := fun_mk (st := s_Pairs_reckoned) l_Pairs_reckoned c_Pairs_reckoned k_Pairs_reckoned
    b_Pairs_reckoned := (fun_mk (st := s_Pairs_reckoned) l_Pairs_reckoned c_Pairs_reckoned k_Pairs_reckoned).binds (ps := ["self", "group"]) fun _ _ _ _ _ _ us hl => match us, hl with | [_, _], _ => rfl
    F_Votes___init__ := fun_mk (st := s_Votes___init__) l_Votes___init__ c_Votes___init__ k_Votes___init__
    b_Votes___init__ := (fun_mk (st := s_Votes___init__) l_Votes___init__ c_Votes___init__ k_Votes___init__).binds (ps := ["self", "quota", "prize", "weights"]) fun _ _ _ _ _ _ us hl => match us, hl with | [_, _, _, _], _ => rfl
    F_Votes_reckoned := fun_mk (st := s_Votes_reckoned) l_Votes_reckoned c_Votes_reckoned k_Votes_reckoned
    b_Votes_reckoned := (fun_mk (st := s_Votes_reckoned) l_Votes_reckoned c_Votes_reckoned k_Votes_reckoned).binds (ps := ["self", "group"]) fun _ _ _ _ _ _ us hl => match us, hl with | [_, _], _ => rfl
    F_Plain___init__ := fun_mk (st := s_Plain___init__) l_Plain___init__ c_Plain___init__ k_Plain___init__
    b_Plain___init__ := (fun_mk (st := s_Plain___init__) l_Plain___init__ c_Plain___init__ k_Plain___init__).binds (ps := ["self", "table"]) fun _ _ _ _ _ _ us hl => match us, hl with | [_, _], _ => rfl
    F_Plain_reckoned := fun_mk (st := s_Plain_reckoned) l_Plain_reckoned c_Plain_reckoned k_Plain_reckoned
    b_Plain_reckoned := (fun_mk (st := s_Plain_reckoned) l_Plain_reckoned c_Plain_reckoned k_Plain_reckoned).binds (ps := ["self", "group"]) fun _ _ _ _ _ _ us hl => match us, hl with | [_, _], _ => rfl
    F__law_whole := fun_mk (st := s__law_whole) l__law_whole c__law_whole k__law_whole
    b__law_whole := (fun_mk (st := s__law_whole) l__law_whole c__law_whole k__law_whole).binds (ps := ["_law_found"]) fun _ _ _ _ _ _ us hl => match us, hl with | [_], _ => rfl
    g__law_whole := PySem.W.mg_of X G a__law_whole
    F__law_cell := fun_mk (st := s__law_cell) l__law_cell c__law_cell k__law_cell
    b__law_cell := (fun_mk (st := s__law_cell) l__law_cell c__law_cell k__law_cell).binds (ps := ["_law_script", "_law_k"]) fun _ _ _ _ _ _ us hl => match us, hl with | [_, _], _ => rfl
    g__law_cell := PySem.W.mg_of X G a__law_cell
    F__law_number := fun_mk (st := s__law_number) l__law_number c__law_number k__law_number
    b__law_number := (fun_mk (st := s__law_number) l__law_number c__law_number k__law_number).binds (ps := ["_law_cell_here"]) fun _ _ _ _ _ _ us hl => match us, hl with | [_], _ => rfl
    g__law_number := PySem.W.mg_of X G a__law_number
    F__law_rule := fun_mk (st := s__law_rule) l__law_rule c__law_rule k__law_rule
    b__law_rule := (fun_mk (st := s__law_rule) l__law_rule c__law_rule k__law_rule).binds (ps := ["_law_script", "_law_at", "_law_many"]) fun _ _ _ _ _ _ us hl => match us, hl with | [_, _, _], _ => rfl
    g__law_rule := PySem.W.mg_of X G a__law_rule
    F__law_rules := fun_mk (st := s__law_rules) l__law_rules c__law_rules k__law_rules
    b__law_rules := (fun_mk (st := s__law_rules) l__law_rules c__law_rules k__law_rules).binds (ps := ["_law_script", "_law_many"]) fun _ _ _ _ _ _ us hl => match us, hl with | [_, _], _ => rfl
    g__law_rules := PySem.W.mg_of X G a__law_rules
    F__law_earned := fun_mk (st := s__law_earned) l__law_earned c__law_earned k__law_earned
    b__law_earned := (fun_mk (st := s__law_earned) l__law_earned c__law_earned k__law_earned).binds (ps := ["_law_row", "_law_group"]) fun _ _ _ _ _ _ us hl => match us, hl with | [_, _], _ => rfl
    g__law_earned := PySem.W.mg_of X G a__law_earned
    F__law_object := fun_mk (st := s__law_object) l__law_object c__law_object k__law_object
    b__law_object := (fun_mk (st := s__law_object) l__law_object c__law_object k__law_object).binds (ps := ["_law_row", "_law_many", "_law_handed"]) fun _ _ _ _ _ _ us hl => match us, hl with | [_, _, _], _ => rfl
    g__law_object := PySem.W.mg_of X G a__law_object
    F__law_holds := fun_mk (st := s__law_holds) l__law_holds c__law_holds k__law_holds
    b__law_holds := (fun_mk (st := s__law_holds) l__law_holds c__law_holds k__law_holds).binds (ps := ["_law_company", "_law_due"]) fun _ _ _ _ _ _ us hl => match us, hl with | [_, _], _ => rfl
    g__law_holds := PySem.W.mg_of X G a__law_holds
    F__law_no_group := fun_mk (st := s__law_no_group) l__law_no_group c__law_no_group k__law_no_group
    b__law_no_group := (fun_mk (st := s__law_no_group) l__law_no_group c__law_no_group k__law_no_group).binds (ps := ["_law_company", "_law_group"]) fun _ _ _ _ _ _ us hl => match us, hl with | [_, _], _ => rfl
    g__law_no_group := PySem.W.mg_of X G a__law_no_group
    F__law_no_rule := fun_mk (st := s__law_no_rule) l__law_no_rule c__law_no_rule k__law_no_rule
    b__law_no_rule := (fun_mk (st := s__law_no_rule) l__law_no_rule c__law_no_rule k__law_no_rule).binds (ps := ["_law_many", "_law_some"]) fun _ _ _ _ _ _ us hl => match us, hl with | [_, _], _ => rfl
    g__law_no_rule := PySem.W.mg_of X G a__law_no_rule
    F__law_refusals := fun_mk (st := s__law_refusals) l__law_refusals c__law_refusals k__law_refusals
    b__law_refusals := (fun_mk (st := s__law_refusals) l__law_refusals c__law_refusals k__law_refusals).binds (ps := ["_law_script", "_law_company", "_law_objects", "_law_many"]) fun _ _ _ _ _ _ us hl => match us, hl with | [_, _, _, _], _ => rfl
    g__law_refusals := PySem.W.mg_of X G a__law_refusals
    F_law := fun_mk (st := s_law) l_law c_law k_law
    b_law := (fun_mk (st := s_law) l_law c_law k_law).binds (ps := ["_law_script"]) fun _ _ _ _ _ _ us hl => match us, hl with | [_], _ => rfl
    g_law := PySem.W.mg_of X G a_law
    g_ShareError := PySem.W.mg_of X G ac_ShareError
    g_NoNumber := PySem.W.mg_of X G ac_NoNumber
    g_NoGroup := PySem.W.mg_of X G ac_NoGroup
    k_NoGroup := kc_NoGroup
    e_NoGroup := ec_NoGroup
    t_NoGroup := tc_NoGroup
    x_NoGroup := xc_NoGroup
    g_NoRule := PySem.W.mg_of X G ac_NoRule
    k_NoRule := kc_NoRule
    e_NoRule := ec_NoRule
    t_NoRule := tc_NoRule
    x_NoRule := xc_NoRule
    g_NoText := PySem.W.mg_of X G ac_NoText
    g_NoTable := PySem.W.mg_of X G ac_NoTable
    k_NoTable := kc_NoTable
    e_NoTable := ec_NoTable
    t_NoTable := tc_NoTable
    x_NoTable := xc_NoTable
    g_Unlike := PySem.W.mg_of X G ac_Unlike
    g_TooMany := PySem.W.mg_of X G ac_TooMany
    g_NoOrder := PySem.W.mg_of X G ac_NoOrder
    g_NoRows := PySem.W.mg_of X G ac_NoRows
    g_NoShares := PySem.W.mg_of X G ac_NoShares
    g_NoVotes := PySem.W.mg_of X G ac_NoVotes
    g_Company := PySem.W.mg_of X G ac_Company
    cl_Company := ⟨pg_Company, hd_Company, po_Company, sa_Company⟩
    mk_Company := ⟨mk_Company, a_Company___init__, i_Company___init__, kc_Company⟩
    i_Company := ⟨⟨pg_Company, hd_Company, po_Company, sa_Company⟩, ya_Company, yn, yt, ym_Company⟩
    u_Company_Rule := us_Company_Rule
    m_Company_hands := ⟨a_Company_hands, i_Company_hands, k_Company_hands⟩
    m_Company_earn := ⟨a_Company_earn, i_Company_earn, k_Company_earn⟩
    m_Company_table := ⟨a_Company_table, i_Company_table, k_Company_table⟩
    n_Company_many := na_Company_many
    n_Company_rules := na_Company_rules
    g_Rule := PySem.W.mg_of X G ac_Rule
    q_Rule := ⟨ic_Rule, tc_Rule, sc_Rule⟩
    bs_Rule := ⟨ba_Rule, br_Rule, bf_Rule, k_Rule___init__⟩
    cl_Rule := ⟨pg_Rule, hd_Rule, po_Rule, sa_Rule⟩
    mk_Rule := ⟨mk_Rule, a_Rule___init__, i_Rule___init__, kc_Rule⟩
    i_Rule := ⟨⟨pg_Rule, hd_Rule, po_Rule, sa_Rule⟩, ya_Rule, yn, yt, ym_Rule⟩
    u_Rule_Rule := us_Rule_Rule
    m_Rule_hands := ⟨a_Rule_hands, i_Rule_hands, k_Rule_hands⟩
    m_Rule_earn := ⟨a_Rule_earn, i_Rule_earn, k_Rule_earn⟩
    m_Rule_reckoned := ⟨a_Rule_reckoned, i_Rule_reckoned, k_Rule_reckoned⟩
    n_Rule_many := na_Rule_many
    g_Own := PySem.W.mg_of X G ac_Own
    cl_Own := ⟨pg_Own, hd_Own, po_Own, sa_Own⟩
    mk_Own := ⟨mk_Own, a_Own___init__, i_Own___init__, kc_Own⟩
    i_Own := ⟨⟨pg_Own, hd_Own, po_Own, sa_Own⟩, ya_Own, yn, yt, ym_Own⟩
    u_Own_Rule := us_Own_Rule
    m_Own_reckoned := ⟨a_Own_reckoned, i_Own_reckoned, k_Own_reckoned⟩
    m_Own_hands := ⟨in_Own_hands, i_Rule_hands, k_Rule_hands⟩
    m_Own_earn := ⟨in_Own_earn, i_Rule_earn, k_Rule_earn⟩
    n_Own_numbers := na_Own_numbers
    n_Own_many := na_Own_many
    g_Pairs := PySem.W.mg_of X G ac_Pairs
    cl_Pairs := ⟨pg_Pairs, hd_Pairs, po_Pairs, sa_Pairs⟩
    mk_Pairs := ⟨mk_Pairs, a_Pairs___init__, i_Pairs___init__, kc_Pairs⟩
    i_Pairs := ⟨⟨pg_Pairs, hd_Pairs, po_Pairs, sa_Pairs⟩, ya_Pairs, yn, yt, ym_Pairs⟩
    u_Pairs_Rule := us_Pairs_Rule
    m_Pairs_reckoned := ⟨a_Pairs_reckoned, i_Pairs_reckoned, k_Pairs_reckoned⟩
    m_Pairs_hands := ⟨in_Pairs_hands, i_Rule_hands, k_Rule_hands⟩
    m_Pairs_earn := ⟨in_Pairs_earn, i_Rule_earn, k_Rule_earn⟩
    n_Pairs_pairs := na_Pairs_pairs
    n_Pairs_many := na_Pairs_many
    g_Votes := PySem.W.mg_of X G ac_Votes
    cl_Votes := ⟨pg_Votes, hd_Votes, po_Votes, sa_Votes⟩
    mk_Votes := ⟨mk_Votes, a_Votes___init__, i_Votes___init__, kc_Votes⟩
    i_Votes := ⟨⟨pg_Votes, hd_Votes, po_Votes, sa_Votes⟩, ya_Votes, yn, yt, ym_Votes⟩
    u_Votes_Rule := us_Votes_Rule
    m_Votes_reckoned := ⟨a_Votes_reckoned, i_Votes_reckoned, k_Votes_reckoned⟩
    m_Votes_hands := ⟨in_Votes_hands, i_Rule_hands, k_Rule_hands⟩
    m_Votes_earn := ⟨in_Votes_earn, i_Rule_earn, k_Rule_earn⟩
    n_Votes_quota := na_Votes_quota
    n_Votes_prize := na_Votes_prize
    n_Votes_weights := na_Votes_weights
    n_Votes_many := na_Votes_many
    g_Plain := PySem.W.mg_of X G ac_Plain
    cl_Plain := ⟨pg_Plain, hd_Plain, po_Plain, sa_Plain⟩
    mk_Plain := ⟨mk_Plain, a_Plain___init__, i_Plain___init__, kc_Plain⟩
    i_Plain := ⟨⟨pg_Plain, hd_Plain, po_Plain, sa_Plain⟩, ya_Plain, yn, yt, ym_Plain⟩
    u_Plain_Rule := us_Plain_Rule
    m_Plain_reckoned := ⟨a_Plain_reckoned, i_Plain_reckoned, k_Plain_reckoned⟩
    m_Plain_hands := ⟨in_Plain_hands, i_Rule_hands, k_Rule_hands⟩
    m_Plain_earn := ⟨in_Plain_earn, i_Rule_earn, k_Rule_earn⟩
    n_Plain_row := na_Plain_row
    n_Plain_many := na_Plain_many
    q_NoGroup := ⟨ic_NoGroup, tc_NoGroup, sc_NoGroup⟩
    q_NoNumber := ⟨ic_NoNumber, tc_NoNumber, sc_NoNumber⟩
    q_NoOrder := ⟨ic_NoOrder, tc_NoOrder, sc_NoOrder⟩
    q_NoRows := ⟨ic_NoRows, tc_NoRows, sc_NoRows⟩
    q_NoRule := ⟨ic_NoRule, tc_NoRule, sc_NoRule⟩
    q_NoShares := ⟨ic_NoShares, tc_NoShares, sc_NoShares⟩
    q_NoTable := ⟨ic_NoTable, tc_NoTable, sc_NoTable⟩
    q_NoText := ⟨ic_NoText, tc_NoText, sc_NoText⟩
    q_NoVotes := ⟨ic_NoVotes, tc_NoVotes, sc_NoVotes⟩
    q_ShareError := ⟨ic_ShareError, tc_ShareError, sc_ShareError⟩
    q_TooMany := ⟨ic_TooMany, tc_TooMany, sc_TooMany⟩
    q_Unlike := ⟨ic_Unlike, tc_Unlike, sc_Unlike⟩
    X_NoGroup := ⟨xg_NoGroup, xk_NoGroup, ec_NoGroup, xh_NoGroup, xa_NoGroup, xn, xt, xm_NoGroup⟩
    u_NoGroup_NoGroup := us_NoGroup_NoGroup
    u_NoGroup_NoNumber := us_NoGroup_NoNumber
    u_NoGroup_NoOrder := us_NoGroup_NoOrder
    u_NoGroup_NoRows := us_NoGroup_NoRows
    u_NoGroup_NoRule := us_NoGroup_NoRule
    u_NoGroup_NoShares := us_NoGroup_NoShares
    u_NoGroup_NoTable := us_NoGroup_NoTable
    u_NoGroup_NoText := us_NoGroup_NoText
    u_NoGroup_NoVotes := us_NoGroup_NoVotes
    u_NoGroup_ShareError := us_NoGroup_ShareError
    u_NoGroup_TooMany := us_NoGroup_TooMany
    u_NoGroup_Unlike := us_NoGroup_Unlike
    v_NoGroup := uv_NoGroup
    h_NoGroup_ShareError := PySem.W.exm_ref ec_ShareError hh_NoGroup_ShareError tc_ShareError us_NoGroup_ShareError
    X_NoRule := ⟨xg_NoRule, xk_NoRule, ec_NoRule, xh_NoRule, xa_NoRule, xn, xt, xm_NoRule⟩
    u_NoRule_NoGroup := us_NoRule_NoGroup
    u_NoRule_NoNumber := us_NoRule_NoNumber
    u_NoRule_NoOrder := us_NoRule_NoOrder
    u_NoRule_NoRows := us_NoRule_NoRows
    u_NoRule_NoRule := us_NoRule_NoRule
    u_NoRule_NoShares := us_NoRule_NoShares
    u_NoRule_NoTable := us_NoRule_NoTable
    u_NoRule_NoText := us_NoRule_NoText
    u_NoRule_NoVotes := us_NoRule_NoVotes
    u_NoRule_ShareError := us_NoRule_ShareError
    u_NoRule_TooMany := us_NoRule_TooMany
    u_NoRule_Unlike := us_NoRule_Unlike
    v_NoRule := uv_NoRule
    h_NoRule_ShareError := PySem.W.exm_ref ec_ShareError hh_NoRule_ShareError tc_ShareError us_NoRule_ShareError
    X_NoTable := ⟨xg_NoTable, xk_NoTable, ec_NoTable, xh_NoTable, xa_NoTable, xn, xt, xm_NoTable⟩
    u_NoTable_NoGroup := us_NoTable_NoGroup
    u_NoTable_NoNumber := us_NoTable_NoNumber
    u_NoTable_NoOrder := us_NoTable_NoOrder
    u_NoTable_NoRows := us_NoTable_NoRows
    u_NoTable_NoRule := us_NoTable_NoRule
    u_NoTable_NoShares := us_NoTable_NoShares
    u_NoTable_NoTable := us_NoTable_NoTable
    u_NoTable_NoText := us_NoTable_NoText
    u_NoTable_NoVotes := us_NoTable_NoVotes
    u_NoTable_ShareError := us_NoTable_ShareError
    u_NoTable_TooMany := us_NoTable_TooMany
    u_NoTable_Unlike := us_NoTable_Unlike
    v_NoTable := uv_NoTable
    h_NoTable_ShareError := PySem.W.exm_ref ec_ShareError hh_NoTable_ShareError tc_ShareError us_NoTable_ShareError
    c_MOST := PySem.W.mg_of X G cn_MOST
    c_FULL := PySem.W.mg_of X G cn_FULL
    z_ValueError := PySem.W.mg_none_of X G z_ValueError
    z_abs := PySem.W.mg_none_of X G z_abs
    z_bool := PySem.W.mg_none_of X G z_bool
    z_enumerate := PySem.W.mg_none_of X G z_enumerate
    z_int := PySem.W.mg_none_of X G z_int
    z_isinstance := PySem.W.mg_none_of X G z_isinstance
    z_len := PySem.W.mg_none_of X G z_len
    z_list := PySem.W.mg_none_of X G z_list
    z_max := PySem.W.mg_none_of X G z_max
    z_min := PySem.W.mg_none_of X G z_min
    z_range := PySem.W.mg_none_of X G z_range
    z_sorted := PySem.W.mg_none_of X G z_sorted
    z_sum := PySem.W.mg_none_of X G z_sum
  }
  exact ⟨_, fun s v => .of_eq rfl, fun base _ _ => ok_law T⟩
end Lw
open PySem PySem.W PyProof.Rows
set_option maxHeartbeats 0 in
theorem PySem.Challenge.cw_shareparley_k12_a_company_holds : PySem.Challenge.rw_shareparley_k12_a_company.Holds := by
  w_on; o_law; k_head; (case hw => w_witness2)
  k_fill
  refine L2.walk_of (l := PySem.Challenge.rw_shareparley_k12_a_company) (n := 63) (k := 9) (x := "_law_script") (CX := fun w => L2.CX (PySem.Challenge.rw_shareparley_k12_a_company).prog w) (sp := fun w => Lw.sp_law _) rfl (by decide) rfl ⟨rfl, by decide, by decide⟩ (fun w h Y => PySem.W.kIn_of Y) ?F (fun _ _ a ns hl _ hS => ⟨a, ns, rfl, hS, hl, fun _ => rfl⟩) (fun _ _ _ _ _ h => Sp.cx_none h)
  case F =>
    intro w mg fa h KX G hmg
    refine' Lw.all_mk KX G hmg ?a_is_whole ?l_is_whole ?c_is_whole ?k_is_whole ?a_look_group ?l_look_group ?c_look_group ?k_look_group ?a_whole_of ?l_whole_of ?c_whole_of ?k_whole_of ?a_hands_of ?l_hands_of ?c_hands_of ?k_hands_of ?a_Company___init__ ?i_Company___init__ ?l_Company___init__ ?c_Company___init__ ?k_Company___init__ ?a_Company_hands ?i_Company_hands ?l_Company_hands ?c_Company_hands ?k_Company_hands ?a_Company_earn ?i_Company_earn ?l_Company_earn ?c_Company_earn ?k_Company_earn ?a_Company_table ?i_Company_table ?l_Company_table ?c_Company_table ?k_Company_table ?a_look ?l_look ?c_look ?k_look ?a_look_numbers ?l_look_numbers ?c_look_numbers ?k_look_numbers ?a_one_pair ?l_one_pair ?c_one_pair ?k_one_pair ?a_pairs_of ?l_pairs_of ?c_pairs_of ?k_pairs_of ?a_Rule___init__ ?i_Rule___init__ ?l_Rule___init__ ?c_Rule___init__ ?k_Rule___init__ ?a_Rule_hands ?i_Rule_hands ?l_Rule_hands ?c_Rule_hands ?k_Rule_hands ?a_Rule_earn ?i_Rule_earn ?l_Rule_earn ?c_Rule_earn ?k_Rule_earn ?a_Rule_reckoned ?i_Rule_reckoned ?l_Rule_reckoned ?c_Rule_reckoned ?k_Rule_reckoned ?a_Own___init__ ?i_Own___init__ ?l_Own___init__ ?c_Own___init__ ?k_Own___init__ ?a_Own_reckoned ?i_Own_reckoned ?l_Own_reckoned ?c_Own_reckoned ?k_Own_reckoned ?a_Pairs___init__ ?i_Pairs___init__ ?l_Pairs___init__ ?c_Pairs___init__ ?k_Pairs___init__ ?a_Pairs_reckoned ?i_Pairs_reckoned ?l_Pairs_reckoned ?c_Pairs_reckoned ?k_Pairs_reckoned ?a_Votes___init__ ?i_Votes___init__ ?l_Votes___init__ ?c_Votes___init__ ?k_Votes___init__ ?a_Votes_reckoned ?i_Votes_reckoned ?l_Votes_reckoned ?c_Votes_reckoned ?k_Votes_reckoned ?a_Plain___init__ ?i_Plain___init__ ?l_Plain___init__ ?c_Plain___init__ ?k_Plain___init__ ?a_Plain_reckoned ?i_Plain_reckoned ?l_Plain_reckoned ?c_Plain_reckoned ?k_Plain_reckoned ?a__law_whole ?l__law_whole ?c__law_whole ?k__law_whole ?a__law_cell ?l__law_cell ?c__law_cell ?k__law_cell ?a__law_number ?l__law_number ?c__law_number ?k__law_number ?a__law_rule ?l__law_rule ?c__law_rule ?k__law_rule ?a__law_rules ?l__law_rules ?c__law_rules ?k__law_rules ?a__law_earned ?l__law_earned ?c__law_earned ?k__law_earned ?a__law_object ?l__law_object ?c__law_object ?k__law_object ?a__law_holds ?l__law_holds ?c__law_holds ?k__law_holds ?a__law_no_group ?l__law_no_group ?c__law_no_group ?k__law_no_group ?a__law_no_rule ?l__law_no_rule ?c__law_no_rule ?k__law_no_rule ?a__law_refusals ?l__law_refusals ?c__law_refusals ?k__law_refusals ?a_law ?l_law ?c_law ?k_law ?ac_ShareError ?tc_ShareError ?ec_ShareError ?ac_NoNumber ?tc_NoNumber ?ec_NoNumber ?ac_NoGroup ?kc_NoGroup ?ec_NoGroup ?tc_NoGroup ?xc_NoGroup ?ac_NoRule ?kc_NoRule ?ec_NoRule ?tc_NoRule ?xc_NoRule ?ac_NoText ?tc_NoText ?ec_NoText ?ac_NoTable ?kc_NoTable ?ec_NoTable ?tc_NoTable ?xc_NoTable ?ac_Unlike ?tc_Unlike ?ec_Unlike ?ac_TooMany ?tc_TooMany ?ec_TooMany ?ac_NoOrder ?tc_NoOrder ?ec_NoOrder ?ac_NoRows ?tc_NoRows ?ec_NoRows ?ac_NoShares ?tc_NoShares ?ec_NoShares ?ac_NoVotes ?tc_NoVotes ?ec_NoVotes ?ac_Company ?kc_Company ?pg_Company ?hd_Company ?po_Company ?sa_Company ?mk_Company ?yn ?yt ?ya_Company ?ym_Company ?us_Company_Rule ?na_Company_many ?na_Company_rules ?ac_Rule ?ic_Rule ?tc_Rule ?sc_Rule ?ba_Rule ?br_Rule ?bf_Rule ?kc_Rule ?pg_Rule ?hd_Rule ?po_Rule ?sa_Rule ?mk_Rule ?ya_Rule ?ym_Rule ?us_Rule_Rule ?na_Rule_many ?ac_Own ?kc_Own ?pg_Own ?hd_Own ?po_Own ?sa_Own ?mk_Own ?ya_Own ?ym_Own ?us_Own_Rule ?in_Own_hands ?in_Own_earn ?na_Own_numbers ?na_Own_many ?ac_Pairs ?kc_Pairs ?pg_Pairs ?hd_Pairs ?po_Pairs ?sa_Pairs ?mk_Pairs ?ya_Pairs ?ym_Pairs ?us_Pairs_Rule ?in_Pairs_hands ?in_Pairs_earn ?na_Pairs_pairs ?na_Pairs_many ?ac_Votes ?kc_Votes ?pg_Votes ?hd_Votes ?po_Votes ?sa_Votes ?mk_Votes ?ya_Votes ?ym_Votes ?us_Votes_Rule ?in_Votes_hands ?in_Votes_earn ?na_Votes_quota ?na_Votes_prize ?na_Votes_weights ?na_Votes_many ?ac_Plain ?kc_Plain ?pg_Plain ?hd_Plain ?po_Plain ?sa_Plain ?mk_Plain ?ya_Plain ?ym_Plain ?us_Plain_Rule ?in_Plain_hands ?in_Plain_earn ?na_Plain_row ?na_Plain_many ?ic_NoGroup ?sc_NoGroup ?ic_NoNumber ?sc_NoNumber ?ic_NoOrder ?sc_NoOrder ?ic_NoRows ?sc_NoRows ?ic_NoRule ?sc_NoRule ?ic_NoShares ?sc_NoShares ?ic_NoTable ?sc_NoTable ?ic_NoText ?sc_NoText ?ic_NoVotes ?sc_NoVotes ?ic_ShareError ?sc_ShareError ?ic_TooMany ?sc_TooMany ?ic_Unlike ?sc_Unlike ?xg_NoGroup ?xk_NoGroup ?xh_NoGroup ?xa_NoGroup ?xm_NoGroup ?xn ?xt ?us_NoGroup_NoGroup ?us_NoGroup_NoNumber ?us_NoGroup_NoOrder ?us_NoGroup_NoRows ?us_NoGroup_NoRule ?us_NoGroup_NoShares ?us_NoGroup_NoTable ?us_NoGroup_NoText ?us_NoGroup_NoVotes ?us_NoGroup_ShareError ?us_NoGroup_TooMany ?us_NoGroup_Unlike ?uv_NoGroup ?hh_NoGroup_ShareError ?xg_NoRule ?xk_NoRule ?xh_NoRule ?xa_NoRule ?xm_NoRule ?us_NoRule_NoGroup ?us_NoRule_NoNumber ?us_NoRule_NoOrder ?us_NoRule_NoRows ?us_NoRule_NoRule ?us_NoRule_NoShares ?us_NoRule_NoTable ?us_NoRule_NoText ?us_NoRule_NoVotes ?us_NoRule_ShareError ?us_NoRule_TooMany ?us_NoRule_Unlike ?uv_NoRule ?hh_NoRule_ShareError ?xg_NoTable ?xk_NoTable ?xh_NoTable ?xa_NoTable ?xm_NoTable ?us_NoTable_NoGroup ?us_NoTable_NoNumber ?us_NoTable_NoOrder ?us_NoTable_NoRows ?us_NoTable_NoRule ?us_NoTable_NoShares ?us_NoTable_NoTable ?us_NoTable_NoText ?us_NoTable_NoVotes ?us_NoTable_ShareError ?us_NoTable_TooMany ?us_NoTable_Unlike ?uv_NoTable ?hh_NoTable_ShareError ?cn_MOST ?cn_FULL ?z_ValueError ?z_abs ?z_bool ?z_enumerate ?z_int ?z_isinstance ?z_len ?z_list ?z_max ?z_min ?z_range ?z_sorted ?z_sum
    (case ac_ShareError => k_is)
    (case ac_NoNumber => k_is)
    (case ac_NoGroup => k_is)
    (case ac_NoRule => k_is)
    (case ac_NoText => k_is)
    (case ac_NoTable => k_is)
    (case ac_Unlike => k_is)
    (case ac_TooMany => k_is)
    (case ac_NoOrder => k_is)
    (case ac_NoRows => k_is)
    (case ac_NoShares => k_is)
    (case ac_NoVotes => k_is)
    (case ac_Company => k_is)
    (case ac_Rule => k_is)
    (case ac_Own => k_is)
    (case ac_Pairs => k_is)
    (case ac_Votes => k_is)
    (case ac_Plain => k_is)
    (case a_is_whole => k_is)
    (case l_is_whole => k_is)
    (case c_is_whole => k_is)
    (case k_is_whole => k_is)
    (case a_look_group => k_is)
    (case l_look_group => k_is)
    (case c_look_group => k_is)
    (case k_look_group => k_is)
    (case a_whole_of => k_is)
    (case l_whole_of => k_is)
    (case c_whole_of => k_is)
    (case k_whole_of => k_is)
    (case a_hands_of => k_is)
    (case l_hands_of => k_is)
    (case c_hands_of => k_is)
    (case k_hands_of => k_is)
    (case a_Company___init__ => k_is)
    (case i_Company___init__ => k_is)
    (case l_Company___init__ => k_is)
    (case c_Company___init__ => k_is)
    (case k_Company___init__ => k_is)
    (case a_Company_hands => k_is)
    (case i_Company_hands => k_is)
    (case l_Company_hands => k_is)
    (case c_Company_hands => k_is)
    (case k_Company_hands => k_is)
    (case a_Company_earn => k_is)
    (case i_Company_earn => k_is)
    (case l_Company_earn => k_is)
    (case c_Company_earn => k_is)
    (case k_Company_earn => k_is)
    (case a_Company_table => k_is)
    (case i_Company_table => k_is)
    (case l_Company_table => k_is)
    (case c_Company_table => k_is)
    (case k_Company_table => k_is)
    (case a_look => k_is)
    (case l_look => k_is)
    (case c_look => k_is)
    (case k_look => k_is)
    (case a_look_numbers => k_is)
    (case l_look_numbers => k_is)
    (case c_look_numbers => k_is)
    (case k_look_numbers => k_is)
    (case a_one_pair => k_is)
    (case l_one_pair => k_is)
    (case c_one_pair => k_is)
    (case k_one_pair => k_is)
    (case a_pairs_of => k_is)
    (case l_pairs_of => k_is)
    (case c_pairs_of => k_is)
    (case k_pairs_of => k_is)
    (case a_Rule___init__ => k_is)
    (case i_Rule___init__ => k_is)
    (case l_Rule___init__ => k_is)
    (case c_Rule___init__ => k_is)
    (case k_Rule___init__ => k_is)
    (case a_Rule_hands => k_is)
    (case i_Rule_hands => k_is)
    (case l_Rule_hands => k_is)
    (case c_Rule_hands => k_is)
    (case k_Rule_hands => k_is)
    (case a_Rule_earn => k_is)
    (case i_Rule_earn => k_is)
    (case l_Rule_earn => k_is)
    (case c_Rule_earn => k_is)
    (case k_Rule_earn => k_is)
    (case a_Rule_reckoned => k_is)
    (case i_Rule_reckoned => k_is)
    (case l_Rule_reckoned => k_is)
    (case c_Rule_reckoned => k_is)
    (case k_Rule_reckoned => k_is)
    (case a_Own___init__ => k_is)
    (case i_Own___init__ => k_is)
    (case l_Own___init__ => k_is)
    (case c_Own___init__ => k_is)
    (case k_Own___init__ => k_is)
    (case a_Own_reckoned => k_is)
    (case i_Own_reckoned => k_is)
    (case l_Own_reckoned => k_is)
    (case c_Own_reckoned => k_is)
    (case k_Own_reckoned => k_is)
    (case a_Pairs___init__ => k_is)
    (case i_Pairs___init__ => k_is)
    (case l_Pairs___init__ => k_is)
    (case c_Pairs___init__ => k_is)
    (case k_Pairs___init__ => k_is)
    (case a_Pairs_reckoned => k_is)
    (case i_Pairs_reckoned => k_is)
    (case l_Pairs_reckoned => k_is)
    (case c_Pairs_reckoned => k_is)
    (case k_Pairs_reckoned => k_is)
    (case a_Votes___init__ => k_is)
    (case i_Votes___init__ => k_is)
    (case l_Votes___init__ => k_is)
    (case c_Votes___init__ => k_is)
    (case k_Votes___init__ => k_is)
    (case a_Votes_reckoned => k_is)
    (case i_Votes_reckoned => k_is)
    (case l_Votes_reckoned => k_is)
    (case c_Votes_reckoned => k_is)
    (case k_Votes_reckoned => k_is)
    (case a_Plain___init__ => k_is)
    (case i_Plain___init__ => k_is)
    (case l_Plain___init__ => k_is)
    (case c_Plain___init__ => k_is)
    (case k_Plain___init__ => k_is)
    (case a_Plain_reckoned => k_is)
    (case i_Plain_reckoned => k_is)
    (case l_Plain_reckoned => k_is)
    (case c_Plain_reckoned => k_is)
    (case k_Plain_reckoned => k_is)
    (case a__law_whole => k_is)
    (case l__law_whole => k_is)
    (case c__law_whole => k_is)
    (case k__law_whole => k_is)
    (case a__law_cell => k_is)
    (case l__law_cell => k_is)
    (case c__law_cell => k_is)
    (case k__law_cell => k_is)
    (case a__law_number => k_is)
    (case l__law_number => k_is)
    (case c__law_number => k_is)
    (case k__law_number => k_is)
    (case a__law_rule => k_is)
    (case l__law_rule => k_is)
    (case c__law_rule => k_is)
    (case k__law_rule => k_is)
    (case a__law_rules => k_is)
    (case l__law_rules => k_is)
    (case c__law_rules => k_is)
    (case k__law_rules => k_is)
    (case a__law_earned => k_is)
    (case l__law_earned => k_is)
    (case c__law_earned => k_is)
    (case k__law_earned => k_is)
    (case a__law_object => k_is)
    (case l__law_object => k_is)
    (case c__law_object => k_is)
    (case k__law_object => k_is)
    (case a__law_holds => k_is)
    (case l__law_holds => k_is)
    (case c__law_holds => k_is)
    (case k__law_holds => k_is)
    (case a__law_no_group => k_is)
    (case l__law_no_group => k_is)
    (case c__law_no_group => k_is)
    (case k__law_no_group => k_is)
    (case a__law_no_rule => k_is)
    (case l__law_no_rule => k_is)
    (case c__law_no_rule => k_is)
    (case k__law_no_rule => k_is)
    (case a__law_refusals => k_is)
    (case l__law_refusals => k_is)
    (case c__law_refusals => k_is)
    (case k__law_refusals => k_is)
    (case a_law => k_is)
    (case l_law => k_is)
    (case c_law => k_is)
    (case k_law => k_is)
    (case tc_ShareError => k_is)
    (case ec_ShareError => k_is)
    (case tc_NoNumber => k_is)
    (case ec_NoNumber => k_is)
    (case kc_NoGroup => k_is)
    (case ec_NoGroup => k_is)
    (case tc_NoGroup => k_is)
    (case xc_NoGroup => k_exc)
    (case kc_NoRule => k_is)
    (case ec_NoRule => k_is)
    (case tc_NoRule => k_is)
    (case xc_NoRule => k_exc)
    (case tc_NoText => k_is)
    (case ec_NoText => k_is)
    (case kc_NoTable => k_is)
    (case ec_NoTable => k_is)
    (case tc_NoTable => k_is)
    (case xc_NoTable => k_exc)
    (case tc_Unlike => k_is)
    (case ec_Unlike => k_is)
    (case tc_TooMany => k_is)
    (case ec_TooMany => k_is)
    (case tc_NoOrder => k_is)
    (case ec_NoOrder => k_is)
    (case tc_NoRows => k_is)
    (case ec_NoRows => k_is)
    (case tc_NoShares => k_is)
    (case ec_NoShares => k_is)
    (case tc_NoVotes => k_is)
    (case ec_NoVotes => k_is)
    (case kc_Company => k_is)
    (case pg_Company => k_is)
    (case hd_Company => k_is)
    (case po_Company => k_is)
    (case sa_Company => k_is)
    (case mk_Company => k_is)
    (case yn => k_is)
    (case yt => k_is)
    (case ya_Company => k_is)
    (case ym_Company => k_is)
    (case us_Company_Rule => k_is)
    (case na_Company_many => k_is)
    (case na_Company_rules => k_is)
    (case ic_Rule => k_is)
    (case tc_Rule => k_is)
    (case sc_Rule => k_is)
    (case ba_Rule => k_is)
    (case br_Rule => k_is)
    (case bf_Rule => k_is)
    (case kc_Rule => k_is)
    (case pg_Rule => k_is)
    (case hd_Rule => k_is)
    (case po_Rule => k_is)
    (case sa_Rule => k_is)
    (case mk_Rule => k_is)
    (case ya_Rule => k_is)
    (case ym_Rule => k_is)
    (case us_Rule_Rule => k_is)
    (case na_Rule_many => k_is)
    (case kc_Own => k_is)
    (case pg_Own => k_is)
    (case hd_Own => k_is)
    (case po_Own => k_is)
    (case sa_Own => k_is)
    (case mk_Own => k_is)
    (case ya_Own => k_is)
    (case ym_Own => k_is)
    (case us_Own_Rule => k_is)
    (case in_Own_hands => k_is)
    (case in_Own_earn => k_is)
    (case na_Own_numbers => k_is)
    (case na_Own_many => k_is)
    (case kc_Pairs => k_is)
    (case pg_Pairs => k_is)
    (case hd_Pairs => k_is)
    (case po_Pairs => k_is)
    (case sa_Pairs => k_is)
    (case mk_Pairs => k_is)
    (case ya_Pairs => k_is)
    (case ym_Pairs => k_is)
    (case us_Pairs_Rule => k_is)
    (case in_Pairs_hands => k_is)
    (case in_Pairs_earn => k_is)
    (case na_Pairs_pairs => k_is)
    (case na_Pairs_many => k_is)
    (case kc_Votes => k_is)
    (case pg_Votes => k_is)
    (case hd_Votes => k_is)
    (case po_Votes => k_is)
    (case sa_Votes => k_is)
    (case mk_Votes => k_is)
    (case ya_Votes => k_is)
    (case ym_Votes => k_is)
    (case us_Votes_Rule => k_is)
    (case in_Votes_hands => k_is)
    (case in_Votes_earn => k_is)
    (case na_Votes_quota => k_is)
    (case na_Votes_prize => k_is)
    (case na_Votes_weights => k_is)
    (case na_Votes_many => k_is)
    (case kc_Plain => k_is)
    (case pg_Plain => k_is)
    (case hd_Plain => k_is)
    (case po_Plain => k_is)
    (case sa_Plain => k_is)
    (case mk_Plain => k_is)
    (case ya_Plain => k_is)
    (case ym_Plain => k_is)
    (case us_Plain_Rule => k_is)
    (case in_Plain_hands => k_is)
    (case in_Plain_earn => k_is)
    (case na_Plain_row => k_is)
    (case na_Plain_many => k_is)
    (case ic_NoGroup => k_is)
    (case sc_NoGroup => k_is)
    (case ic_NoNumber => k_is)
    (case sc_NoNumber => k_is)
    (case ic_NoOrder => k_is)
    (case sc_NoOrder => k_is)
    (case ic_NoRows => k_is)
    (case sc_NoRows => k_is)
    (case ic_NoRule => k_is)
    (case sc_NoRule => k_is)
    (case ic_NoShares => k_is)
    (case sc_NoShares => k_is)
    (case ic_NoTable => k_is)
    (case sc_NoTable => k_is)
    (case ic_NoText => k_is)
    (case sc_NoText => k_is)
    (case ic_NoVotes => k_is)
    (case sc_NoVotes => k_is)
    (case ic_ShareError => k_is)
    (case sc_ShareError => k_is)
    (case ic_TooMany => k_is)
    (case sc_TooMany => k_is)
    (case ic_Unlike => k_is)
    (case sc_Unlike => k_is)
    (case xg_NoGroup => k_is)
    (case xk_NoGroup => k_is)
    (case xh_NoGroup => k_is)
    (case xa_NoGroup => k_is)
    (case xm_NoGroup => k_is)
    (case xn => k_is)
    (case xt => k_is)
    (case us_NoGroup_NoGroup => k_is)
    (case us_NoGroup_NoNumber => k_is)
    (case us_NoGroup_NoOrder => k_is)
    (case us_NoGroup_NoRows => k_is)
    (case us_NoGroup_NoRule => k_is)
    (case us_NoGroup_NoShares => k_is)
    (case us_NoGroup_NoTable => k_is)
    (case us_NoGroup_NoText => k_is)
    (case us_NoGroup_NoVotes => k_is)
    (case us_NoGroup_ShareError => k_is)
    (case us_NoGroup_TooMany => k_is)
    (case us_NoGroup_Unlike => k_is)
    (case uv_NoGroup => k_is)
    (case hh_NoGroup_ShareError => k_is)
    (case xg_NoRule => k_is)
    (case xk_NoRule => k_is)
    (case xh_NoRule => k_is)
    (case xa_NoRule => k_is)
    (case xm_NoRule => k_is)
    (case us_NoRule_NoGroup => k_is)
    (case us_NoRule_NoNumber => k_is)
    (case us_NoRule_NoOrder => k_is)
    (case us_NoRule_NoRows => k_is)
    (case us_NoRule_NoRule => k_is)
    (case us_NoRule_NoShares => k_is)
    (case us_NoRule_NoTable => k_is)
    (case us_NoRule_NoText => k_is)
    (case us_NoRule_NoVotes => k_is)
    (case us_NoRule_ShareError => k_is)
    (case us_NoRule_TooMany => k_is)
    (case us_NoRule_Unlike => k_is)
    (case uv_NoRule => k_is)
    (case hh_NoRule_ShareError => k_is)
    (case xg_NoTable => k_is)
    (case xk_NoTable => k_is)
    (case xh_NoTable => k_is)
    (case xa_NoTable => k_is)
    (case xm_NoTable => k_is)
    (case us_NoTable_NoGroup => k_is)
    (case us_NoTable_NoNumber => k_is)
    (case us_NoTable_NoOrder => k_is)
    (case us_NoTable_NoRows => k_is)
    (case us_NoTable_NoRule => k_is)
    (case us_NoTable_NoShares => k_is)
    (case us_NoTable_NoTable => k_is)
    (case us_NoTable_NoText => k_is)
    (case us_NoTable_NoVotes => k_is)
    (case us_NoTable_ShareError => k_is)
    (case us_NoTable_TooMany => k_is)
    (case us_NoTable_Unlike => k_is)
    (case uv_NoTable => k_is)
    (case hh_NoTable_ShareError => k_is)
    (case cn_MOST => k_is)
    (case cn_FULL => k_is)
    (case z_ValueError => k_is)
    (case z_abs => k_is)
    (case z_bool => k_is)
    (case z_enumerate => k_is)
    (case z_int => k_is)
    (case z_isinstance => k_is)
    (case z_len => k_is)
    (case z_list => k_is)
    (case z_max => k_is)
    (case z_min => k_is)
    (case z_range => k_is)
    (case z_sorted => k_is)
    (case z_sum => k_is)
