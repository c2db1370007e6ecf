import PyProof.Rows.All
import Wide.All
import OpenK.AllK
import Wide.FinOn
import HandS.ForMost
import HandS.Exc
import HandS.TryOnly
import HandS.ExcOwn
import HandS.WordsExc
import HandS.IsInst
import HandS.Style
import HandS.Zip
import HandS.Conv
import HandS.WordsDict
import HandS.ExcIs
import PySem.Challenge.RW_shareparley_k61_whole_smaller_companies
set_option Elab.async false
set_option linter.all false
set_option maxRecDepth 100000
set_option maxHeartbeats 4000000
/-! Cm: what every text of ours leans on: the carried heap (Own), the readings walked step by step (x_..), own rules. -/
namespace Sp
open PySem L2 PyProof.Rows

/-! ### the carried heap: B is what stands and stays, cs the cells of our own that may still change -/
abbrev Cells := List (Addr × HO)
structure Own (B : Hp) (cs : Cells) (H : Hp) : Prop where
  ex : Same B H
  cell : ∀ p ∈ cs, H p.1 = some p.2 ∧ B p.1 = none
  nd : (cs.map (·.1)).Nodup
theorem same_upd {H : Hp} {p : Addr} {o : HO} (h : H p = none) : Same H (upd H p o) := fun b x e => by
  rw [upd_ne (ne_of_none e h)]
  exact e
theorem Own.start {H : Hp} : Own H [] H := ⟨Same.refl H, fun _ h => (nomatch h), List.nodup_nil⟩
section
variable {B H H' : Hp} {cs : Cells} {p : Addr} {o o' : HO} {K : PySem.W.Frag} {xs : List V}
theorem Own.ext (w : Own B cs H) (e : Same H H') : Own B cs H' := ⟨w.ex.trans e, fun q h => ⟨e _ _ (w.cell q h).1, (w.cell q h).2⟩, w.nd⟩
theorem Own.fresh (w : Own B cs H) (hp : H p = none) : B p = none := w.ex.free hp
theorem Own.off (w : Own B cs H) (hp : H p = none) : p ∉ cs.map (·.1) := fun m => by
  obtain ⟨q, hq, e⟩ := List.mem_map.mp m
  have := (w.cell q hq).1
  rw [e, hp] at this
  cases this
theorem Own.newE (w : Own B cs H) (hp : H p = none) (e : Same H H') (h : H' p = some o) : Own B ((p, o) :: cs) H' :=
  ⟨w.ex.trans e, fun q hq => by
    rcases List.mem_cons.mp hq with r | r
    · rw [r]; exact ⟨h, w.fresh hp⟩
    · exact ⟨e _ _ (w.cell q r).1, (w.cell q r).2⟩, List.nodup_cons.mpr ⟨w.off hp, w.nd⟩⟩
theorem Own.new (w : Own B cs H) (hp : H p = none) : Own B ((p, o) :: cs) (upd H p o) := w.newE hp (same_upd hp) upd_same
theorem Own.get (w : Own B cs H) (i : Nat) (h : cs[i]? = some (p, o)) : H p = some o := (w.cell _ (List.mem_of_getElem? h)).1
theorem Own.none (w : Own B cs H) (i : Nat) (h : cs[i]? = some (p, o)) : B p = none := (w.cell _ (List.mem_of_getElem? h)).2
theorem Own.put (w : Own B cs H) (i : Nat) (h : cs[i]? = some (p, o)) : Own B (cs.set i (p, o')) (upd H p o') := by
  have hi : i < cs.length := (List.getElem?_eq_some_iff.mp h).1
  have hm : (cs.set i (p, o')).map (·.1) = cs.map (·.1) := by
    rw [List.map_set]
    apply List.ext_getElem?
    intro j
    by_cases e : i = j
    · subst e
      rw [List.getElem?_set_self (by rw [List.length_map]; exact hi), List.getElem?_map, h] <;> rfl
    · rw [List.getElem?_set_ne e]
  refine ⟨fun b x e => ?_, fun q hq => ?_, by rw [hm]; exact w.nd⟩
  · rw [upd_ne (ne_of_none e (w.none i h))]
    exact w.ex b x e
  · obtain ⟨j, hj⟩ := List.mem_iff_getElem?.mp hq
    by_cases e : i = j
    · subst e
      rw [List.getElem?_set_self hi] at hj
      cases hj
      exact ⟨upd_same, w.none i h⟩
    · rw [List.getElem?_set_ne e] at hj
      have hq' := w.cell q (List.mem_of_getElem? hj)
      have hne : q.1 ≠ p := fun z => by
        have a1 : (cs.map (·.1))[i]? = some p := by rw [List.getElem?_map, h] <;> rfl
        have a2 : (cs.map (·.1))[j]? = some p := by rw [List.getElem?_map, hj, ← z] <;> rfl
        obtain ⟨l1, e1⟩ := List.getElem?_eq_some_iff.mp a1
        obtain ⟨l2, e2⟩ := List.getElem?_eq_some_iff.mp a2
        exact e ((List.getElem_inj w.nd).mp (e1.trans e2.symm))
      exact ⟨by rw [upd_ne hne]; exact hq'.1, hq'.2⟩
theorem Own.sub {ds : Cells} (w : Own B cs H) (h : ds.Sublist cs) : Own B ds H := ⟨w.ex, fun q hq => w.cell q (h.mem hq), (h.map (·.1)).nodup w.nd⟩
theorem Own.pop (w : Own B ((p, o) :: cs) H) : Own B cs H := w.sub (List.sublist_cons_self _ _)
theorem Own.freeze (w : Own B ((p, o) :: cs) H) : Own (upd B p o) cs H :=
  ⟨fun b x e => by
    by_cases z : b = p
    · subst z; rw [upd_same] at e; rw [← e]; exact w.get 0 rfl
    · rw [upd_ne z] at e; exact w.ex b x e,
   fun q hq => ⟨(w.cell q (List.mem_cons_of_mem _ hq)).1, by
    rw [upd_ne (fun z => ?_)]
    · exact (w.cell q (List.mem_cons_of_mem _ hq)).2
    · have := (List.nodup_cons.mp w.nd).1
      exact this (List.mem_map.mpr ⟨q, hq, z⟩)⟩, (List.nodup_cons.mp w.nd).2⟩
theorem Own.sq (w : Own B cs H) (i : Nat) (h : cs[i]? = some (p, .lst xs)) : SqL K H p xs := SqL.of (w.get i h)
theorem Own.sqT (w : Own B cs H) (i : Nat) (h : cs[i]? = some (p, .tup xs)) : SqT K H p xs := SqT.of (w.get i h)
theorem same_sqT (e : Same H H') (h : SqT K H p xs) : SqT K H' p xs := by
  rcases h with (h | ⟨u, h⟩) | h
  · exact .inl (.inl (e _ _ h))
  · exact .inl (.inr ⟨u, e _ _ h⟩)
  · exact .inr h
theorem Own.seq (w : Own B cs H) (h : SqL K B p xs) : SqL K H p xs := w.ex.seq h
theorem Own.seqT (w : Own B cs H) (h : SqT K B p xs) : SqT K H p xs := same_sqT w.ex h
end

/-! ### own rules -/
section
variable {X : Cx}
/-- a list that is read: ours, or frozen -/
abbrev RdL (H : Hp) (a : Addr) (xs : List V) : Prop := Rd H a (.lst xs)
theorem rd_list {pins : List (Addr × Obj)} {σ : L2.St} {H : Hp} {s : Shared} {p : Addr} {xs : List V} (I : Inv X pins σ H s) (h : RdL H p xs) :
    xs.length ≤ sizeLine ∧ ∃ (its : List Value) (n : Nat), Vals xs its ∧ xs.length = its.length ∧ s.heap.get? p = some { cls := .type "list", data := .seq its.toArray n } := by
  obtain ⟨z, its, n, r, e⟩ := h.ok I.hok
  exact ⟨z, its, n, r, r.length, e⟩
/-- + of lists (ours or frozen) -/
def rCatS : R2 := fun x y H Q => ∃ l b xs zs, x = .ref l ∧ y = .ref b ∧ RdL H l xs ∧ RdL H b zs ∧ xs.length + zs.length ≤ sizeLine ∧ ∀ p, H p = none → Q (.ref p) (upd H p (.lst (xs ++ zs)))
theorem op_catS : OpR X (binaryOp .Add) rCatS := by
  intro pins s σ H x y v u Q I rx ry h
  obtain ⟨l, b, xs, zs, rfl, rfl, hH, hB, hz, q⟩ := h
  cases rx
  cases ry
  obtain ⟨z, its, n, r, hl, e⟩ := rd_list I hH
  obtain ⟨z2, its2, n2, r2, hl2, e2⟩ := rd_list I hB
  refine PySem.P.add_list e e2 ?_ (by rw [List.size_toArray, List.size_toArray]; omega)
  have ea : its.toArray ++ its2.toArray = (its ++ its2).toArray := by simp
  rw [ea]
  exact ⟨.ref _, _, I.lnew (t' := s.toks) (r.append r2) (by rw [List.length_append]; omega), rfl, q _ I.fresh⟩
/-- + of ints, of lists, of texts: which one, the reading says -/
def rAddX : R2 := fun x y H Q => (rI0 (fun i j => .int (i + j))) x y H Q ∨ rCatS x y H Q ∨ (∃ i j, x = .str i ∧ y = .str j ∧ i.length + j.length ≤ sizeLine ∧ Q (.str (i ++ j)) H)
theorem op_addX : OpR X (binaryOp .Add) rAddX := op_add.or (op_catS.or op_add_str)
/-- * of ints (any that the machine multiplies); of a list and an int -/
def rMulI : R2 := rI IntMulOk fun i j => .int (i * j)
theorem op_mulI : OpR X (binaryOp .Mult) rMulI := opI fun _ _ _ _ _ _ _ hc q => mul_int q hc
def rMulX : R2 := fun x y H Q => rMulI x y H Q ∨ rRep x y H Q
theorem op_mulX : OpR X (binaryOp .Mult) rMulX := op_mulI.or op_rep
/-- // by a divisor that is not nought, below 2 ^ 9000 -/
def CDivX (_ j : Int) : Prop := j ≠ 0 ∧ j.natAbs.log2 < 9000
def rDivX : R2 := rI CDivX fun i j => .int (i.fdiv j)
theorem op_fdivX : OpR X (binaryOp .FloorDiv) rDivX := opI fun _ _ _ _ _ _ _ hc q => floordiv_int hc.1 q (.inl (PyProof.noPylong_of_log2 hc.2))
def rModX : R2 := rI (fun _ j => j ≠ 0) fun i j => .int (i.fmod j)
theorem op_modX : OpR X (binaryOp .Mod) rModX := op_modN
/-- ** and << of a small base; >> -/
def rPow : R2 := rI CPow fun i j => .int (i ^ j.toNat)
theorem op_powX : OpR X (binaryOp .Pow) rPow := op_pow
def rShl : R2 := rI CPow fun i j => .int (i * 2 ^ j.toNat)
theorem op_shlX : OpR X (binaryOp .LShift) rShl := op_shl
def rShr : R2 := rI (fun _ j => 0 ≤ j) fun i j => .int (i / 2 ^ j.toNat)
theorem op_shrX : OpR X (binaryOp .RShift) rShr := op_shr
def rSubI : R2 := rI0 fun i j => .int (i - j)
theorem op_subX : OpR X (binaryOp .Sub) rSubI := op_sub
def rAndI : R2 := rI0 fun i j => .int (Builtin.bitAnd i j)
theorem op_andX : OpR X (binaryOp .BitAnd) rAndI := op_and
def rOrI : R2 := rI0 fun i j => .int (Builtin.bitOr i j)
theorem op_orX : OpR X (binaryOp .BitOr) rOrI := op_or
def rXorI : R2 := rI0 fun i j => .int (Builtin.bitXor i j)
theorem op_xorX : OpR X (binaryOp .BitXor) rXorI := op_xor
def rLtI : R2 := rI0 fun i j => .bl (decide (i < j))
theorem op_ltX : OpR X (compareOp .Lt) rLtI := op_lt
def rLeI : R2 := rI0 fun i j => .bl (decide (i ≤ j))
theorem op_leX : OpR X (compareOp .LtE) rLeI := op_le
def rGtI : R2 := rI0 fun i j => .bl (decide (j < i))
theorem op_gtX : OpR X (compareOp .Gt) rGtI := op_gt
def rGeI : R2 := rI0 fun i j => .bl (decide (j ≤ i))
theorem op_geX : OpR X (compareOp .GtE) rGeI := op_ge
/-- == and != of plain values, of data -/
def rEqX (K : PySem.W.Frag) : R2 := fun x y H Q => rEq x y H Q ∨ rEqD K x y H Q
def rNeX (K : PySem.W.Frag) : R2 := fun x y H Q => rNe x y H Q ∨ rNeD K x y H Q
theorem op_eqX (hu : X.A.units + 64 < cLine) : OpR X (compareOp .Eq) (rEqX X.K) := op_eq.or (op_eqD hu)
theorem op_neX (hu : X.A.units + 64 < cLine) : OpR X (compareOp .NotEq) (rNeX X.K) := op_ne.or (op_neD hu)
/-- is, is not, of anything and a truth -/
def rIsX : R2 := fun x y H Q => ∃ b : Bool, y = .bl b ∧ Q (.bl (decide (x = .bl b))) H
/-- is None -/
def rIsNX : R2 := fun x y H Q => y = .non ∧ Q (.bl (decide (x = .non))) H
def rNotNX : R2 := fun x y H Q => y = .non ∧ Q (.bl (!decide (x = .non))) H
theorem op_isNX : OpR X (compareOp .Is) rIsNX := op_isN
theorem op_notNX : OpR X (compareOp .IsNot) rNotNX := op_notN
theorem op_isX : OpR X (compareOp .Is) rIsX := by
  intro pins s σ H x y v u Q I rx ry h
  obtain ⟨b, rfl, q⟩ := h
  cases (show u = Value.bool b from ry)
  cases x with
  | bl a =>
    cases (show v = Value.bool a from rx)
    by_cases e : a = b
    · subst e
      exact wpAny_is_self rfl ⟨.bl true, H, I, rfl, by simpa using q⟩
    · exact wpAny_is_other rfl (fun z => e (Value.bool.inj z)) ⟨.bl false, H, I, rfl, by simpa [e] using q⟩
  | non => cases (show v = Value.none from rx); exact wpAny_is_other rfl (fun z => nomatch z) ⟨.bl false, H, I, rfl, by simpa using q⟩
  | int i => obtain ⟨t, rfl⟩ := rx; exact wpAny_is_other rfl (fun z => nomatch z) ⟨.bl false, H, I, rfl, by simpa using q⟩
  | str i => obtain ⟨t, rfl⟩ := rx; exact wpAny_is_other rfl (fun z => nomatch z) ⟨.bl false, H, I, rfl, by simpa using q⟩
  | byt i => obtain ⟨t, rfl⟩ := rx; exact wpAny_is_other rfl (fun z => nomatch z) ⟨.bl false, H, I, rfl, by simpa using q⟩
  | flt i => obtain ⟨t, rfl⟩ := rx; exact wpAny_is_other rfl (fun z => nomatch z) ⟨.bl false, H, I, rfl, by simpa using q⟩
  | ref a => cases (show v = Value.ref a from rx); exact wpAny_is_other rfl (fun z => nomatch z) ⟨.bl false, H, I, rfl, by simpa using q⟩
  | ty a => cases (show v = Value.type a from rx); exact wpAny_is_other rfl (fun z => nomatch z) ⟨.bl false, H, I, rfl, by simpa using q⟩
/-- the place of a list's item is read, as a store by an operator reads it -/
theorem get_list : PGet X (rIxL X.K) := by
  intro pins s σ H x y v u Q I rx ry h
  obtain ⟨p, xs, i, z, rfl, rfl, hq, he, q⟩ := h
  cases rx
  obtain ⟨t, rfl⟩ := ry
  obtain ⟨its, r, pl, hz⟩ := I.list hq
  obtain ⟨j, h1, h2, h3, h4, h5⟩ := atI_get he
  obtain ⟨w, ew, rw'⟩ := r.get h2
  have hl := r.length
  have hn := line63
  have fin : EP X pins σ Q w s := ⟨z, H, I, rw', q⟩
  by_cases h0 : 0 ≤ i
  · have hj : i.toNat = j := by
      rw [seqIndex_of h0 h5] at h1
      exact Option.some.inj h1
    exact wpAny_getItem_list pl.isList h0 (by omega) (by rw [hj]; simpa using ew) fin
  · have hj : (i + (its.toArray.size : Int)).toNat = j := by
      rw [seqIndex_neg (by omega) h4] at h1
      rw [List.size_toArray, ← hl]
      exact Option.some.inj h1
    exact wpAny_getItem_list_neg pl.isList (by omega) (by rw [List.size_toArray] <;> omega) (by omega) (by rw [hj]; simpa using ew) fin
/-- len, list, sum, .. by names of ours -/
def rLen (K : PySem.W.Frag) : List V → Hp → VK → Prop := fun xs H Q => ∃ x n, xs = [x] ∧ LenV K x H n ∧ Q (.int n) H
theorem call_lenX : CallR X (.builtin "len") (rLen X.K) := call_len
def rList (K : PySem.W.Frag) : List V → Hp → VK → Prop := fun xs H Q => ∃ p ys, xs = [.ref p] ∧ (SqL K H p ys ∨ SqT K H p ys) ∧ ∀ l, H l = none → Q (.ref l) (upd H l (.lst ys))
theorem call_listX : CallR X (.type "list") (rList X.K) := call_list_of
def rAbs : List V → Hp → VK → Prop := fun xs H Q => ∃ i, xs = [.int i] ∧ Q (.int (if i < 0 then -i else i)) H
theorem call_absX : CallR X (.builtin "abs") rAbs := call_abs
def rMax2 : List V → Hp → VK → Prop := fun xs H Q => ∃ i j, xs = [.int i, .int j] ∧ Q (.int (if j > i then j else i)) H
theorem call_max2X (hc : X.calm = true) : CallR X (.builtin "max") rMax2 := call_max2 hc
def rMin2 : List V → Hp → VK → Prop := fun xs H Q => ∃ i j, xs = [.int i, .int j] ∧ Q (.int (if j < i then j else i)) H
theorem call_min2X (hc : X.calm = true) : CallR X (.builtin "min") rMin2 := call_min2 hc
def rInt1 : List V → Hp → VK → Prop := fun xs H Q => (∃ i, xs = [.int i] ∧ Q (.int i) H) ∨ ∃ k, xs = [.bl k] ∧ Q (.int (if k then 1 else 0)) H
theorem call_int1X : CallR X (.type "int") rInt1 := call_int1
end

/-! ### readings, step by step: each of these takes the head of a reading away -/
section
variable {K : PySem.W.Frag} {σ : L2.St} {H : Hp} {D : Ends} {Q : VK} {te ta tb tl th : TE} {t u : TS} {c c2 : TT} {g : TG} {i : Nat} {v x y : V} {r : R2} {QT : Bool → Hp → Prop} {QA : List V → Hp → Prop} {sp : Sp} {dvs vs : List V} {E : XK}
theorem x_seq (h : t { D with nx := u D } σ H) : tSeq t u D σ H := h
theorem x_next (h : D.nx σ H) : tNext D σ H := h
theorem x_asg (h : te σ H fun x H1 => D.nx (σ.set i (some x)) H1) : tAsg te (gName i) D σ H := h
theorem x_asgS {to ti : TE} {s : TSet} (h : te σ H fun x H1 => to σ H1 fun o H2 => ti σ H2 fun k H3 => s o k x H3 fun H4 => D.nx σ H4) : tAsg te (gSub to ti s) D σ H := h
theorem x_augS {to ti : TE} {tg : V → V → Hp → VK → Prop} {tip : TIp} {ts : TSet} (h : to σ H fun o H1 => ti σ H1 fun k H2 => tg o k H2 fun x H3 => te σ H3 fun y H4 => tip x y H4 fun z H5 => ts o k z H5 fun H6 => D.nx σ H6) : tAugS to ti te tg tip ts D σ H := h
theorem x_aug {tip : TIp} (e : σ[i]? = some (some x)) (h : te σ H fun y H1 => tip x y H1 fun z H2 => D.nx (σ.set i (some z)) H2) : tAug i te tip D σ H := ⟨x, e, h⟩
theorem x_gn {QS : L2.St → Hp → Prop} (h : QS (σ.set i (some v)) H) : gName i v σ H QS := h
theorem x_gt {n : Nat} {gs : TGs} {a : Addr} {xs : List V} {QS : L2.St → Hp → Prop} (h : SqT K H a xs) (hn : xs.length = n) (q : gs xs σ H QS) : gTup K n gs (.ref a) σ H QS := ⟨a, xs, rfl, h, hn, q⟩
theorem x_gc {gs : TGs} {r : List V} {QS : L2.St → Hp → Prop} (q : g v σ H fun σ' H' => gs r σ' H' QS) : gCons g gs (v :: r) σ H QS := ⟨v, r, rfl, q⟩
theorem x_g0 {QS : L2.St → Hp → Prop} (q : QS σ H) : gNil [] σ H QS := ⟨rfl, q⟩
theorem x_ret (h : te σ H D.rt) : tRet te D σ H := h
theorem x_retN (h : D.rt .non H) : tRetN D σ H := h
theorem x_drop (h : te σ H fun _ H1 => D.nx σ H1) : tDrop te D σ H := h
theorem x_if (h : c σ H fun b H1 => if b = true then t D σ H1 else u D σ H1) : tIfS c t u D σ H := h
theorem x_brk (h : D.bk σ H) : tBreak D σ H := h
theorem x_ct (h : D.ct σ H) : tCont D σ H := h
theorem x_var (e : σ[i]? = some (some v)) (q : Q v H) : tVar i σ H Q := ⟨v, e, q⟩
theorem x_c (q : Q v H) : tC v σ H Q := q
theorem x_op (h : ta σ H fun x H1 => tb σ H1 fun y H2 => r x y H2 Q) : tOp r ta tb σ H Q := h
theorem x_un {r : V → Hp → VK → Prop} (h : ta σ H fun x H1 => r x H1 Q) : tUn r ta σ H Q := h
theorem x_test (h : te σ H fun x H1 => ∃ k, x = .bl k ∧ QT k H1) : tTest te σ H QT := h
theorem x_B (h : te σ H fun x H1 => ∃ k, x = .bl k ∧ QT k H1) : tB te σ H QT := h
theorem x_ex {b : Bool} {P : Bool → Prop} (q : P b) : ∃ k, V.bl b = .bl k ∧ P k := ⟨b, rfl, q⟩
theorem x_and (h : c σ H fun b H1 => if b = true then c2 σ H1 QT else QT false H1) : tAnd c c2 σ H QT := h
theorem x_or (h : c σ H fun b H1 => if b = true then QT true H1 else c2 σ H1 QT) : tOr c c2 σ H QT := h
theorem x_not (h : c σ H fun b H1 => QT (!b) H1) : tNot c σ H QT := h
theorem x_andV (h : ta σ H fun x H1 => ∃ b, x = .bl b ∧ if b = true then tb σ H1 Q else Q (.bl false) H1) : tAndV ta tb σ H Q := h
theorem x_orV (h : ta σ H fun x H1 => ∃ b, x = .bl b ∧ if b = true then Q (.bl true) H1 else tb σ H1 Q) : tOrV ta tb σ H Q := h
theorem x_notV (h : ta σ H fun x H1 => ∃ b, x = .bl b ∧ Q (.bl (!b)) H1) : tNotV ta σ H Q := h
theorem x_ifE (h : c σ H fun b H1 => if b = true then ta σ H1 Q else tb σ H1 Q) : tIf c ta tb σ H Q := h
theorem x_nil (q : QA [] H) : tNil σ H QA := q
theorem x_cons {tr : TA} (h : te σ H fun v H1 => tr σ H1 fun vs H2 => QA (v :: vs) H2) : tCons te tr σ H QA := h
theorem x_call {tr : TA} (h : tr σ H fun vs H1 => sp (vs ++ dvs) H1 Q E) : tCall sp dvs E tr σ H Q := h
theorem x_cb {tr : TA} {rc : List V → Hp → VK → Prop} (h : tr σ H fun vs H1 => rc vs H1 Q) : tCB rc tr σ H Q := h
theorem x_tup {tr : TA} (h : tr σ H fun xs H1 => xs.length ≤ sizeLine ∧ ∀ p, H1 p = none → Q (.ref p) (upd H1 p (.tup xs))) : tTup tr σ H Q := h
theorem x_lst {tr : TA} (h : tr σ H fun xs H1 => xs.length ≤ sizeLine ∧ ∀ p, H1 p = none → Q (.ref p) (upd H1 p (.lst xs))) : tLst tr σ H Q := h
theorem x_for {wi : TI} (h : wi σ H fun J H1 => ∃ W : Nat → Nat → L2.St → Hp → Prop, (∃ m, W 0 m σ H1) ∧ ∀ i m σ H, W i m σ H →
  (J.stop i H ∧ D.nx σ H) ∨ (J.go i H ∧ ∃ N : L2.St → Hp → Prop, (∀ σ' H', N σ' H' → ∃ m', m' < m ∧ W (i + 1) m' σ' H') ∧ ∀ x H', J.yld i H x H' → g x σ H' fun σ2 H2 => t { D with nx := N, ct := N, bk := D.nx } σ2 H2)) : tFor wi g t D σ H := h
theorem x_iList {R : It → Hp → Prop} (h : tl σ H fun x H1 => ∃ a, x = .ref a ∧ (∃ xs, SqL K H1 a xs) ∧ R (Itl K a) H1) : iList K tl σ H R := h
theorem x_iTup {R : It → Hp → Prop} (h : tl σ H fun x H1 => ∃ a, x = .ref a ∧ (∃ xs, SqT K H1 a xs) ∧ R (Itt K a) H1) : iTup K tl σ H R := h
theorem x_iR1 {R : It → Hp → Prop} {tr : TA} (h : tr σ H fun vs H1 => ∃ j : Int, vs = [.int j] ∧ -(2 ^ 62) ≤ j ∧ j < 2 ^ 62 ∧ R (Itr 0 j.toNat) H1) : iRng1 tr σ H R := h
theorem x_iR2 {R : It → Hp → Prop} {tr : TA} (h : tr σ H fun vs H1 => ∃ i j : Int, vs = [.int i, .int j] ∧ (-(2 ^ 62) ≤ i ∧ i < 2 ^ 62 ∧ -(2 ^ 62) ≤ j ∧ j < 2 ^ 62) ∧ R (Itr i (j - i).toNat) H1) : iRng2 tr σ H R := h
theorem x_iZip {R : It → Hp → Prop} {tr : TA} (h : tr σ H fun vs H1 => ∃ a b xs ys, vs = [.ref a, .ref b] ∧ SqL K H1 a xs ∧ SqL K H1 b ys ∧ R (Itz K a b) H1) : iZip K tr σ H R := h
theorem x_iEnum {R : It → Hp → Prop} {tr : TA} (h : tr σ H fun vs H1 => ∃ a xs, vs = [.ref a] ∧ SqL K H1 a xs ∧ R (Ite K a) H1) : iEnum K tr σ H R := h
theorem x_lc {wi : TI} {tt : TT} {ws : List Nat} (h : wi σ H fun J H1 => ∀ D, H1 D = none → ∃ W : Nat → Nat → Hp → Prop, (∃ m, W 0 m (upd H1 D (.lst []))) ∧ ∀ i m H, W i m H →
  (J.stop i H ∧ Q (.ref D) H) ∨ (J.go i H ∧ ∃ Nx : Hp → Prop, (∀ H', Nx H' → ∃ m', m' < m ∧ W (i + 1) m' H') ∧ ∀ x H', J.yld i H x H' → g x (wipe σ ws) H' fun σ2 H2 => wipe σ2 ws = wipe σ ws ∧ tt σ2 H2 fun b H3 =>
    if b = true then te σ2 H3 fun y H4 => ∃ acc, H4 D = some (.lst acc) ∧ acc.length < sizeLine ∧ Nx (upd H4 D (.lst (acc ++ [y]))) else Nx H3)) : tLc wi g tt te ws σ H Q := h
theorem x_yes (h : QT true H) : tYes σ H QT := h
theorem x_sl {rs : V → Option Int → Option Int → Hp → VK → Prop} {tlo thi : TO} (h : te σ H fun x H1 => tlo σ H1 fun l H2 => thi σ H2 fun u H3 => rs x l u H3 Q) : tSl rs te tlo thi σ H Q := h
theorem x_noPart {QO : Option Int → Hp → Prop} (h : QO none H) : tNoPart σ H QO := h
theorem x_part {QO : Option Int → Hp → Prop} (h : te σ H fun x H1 => ∃ i, x = .int i ∧ QO (some i) H1) : tPart te σ H QO := h
theorem x_exI {j : Int} {P : Int → Prop} (q : P j) : ∃ k, V.int j = .int k ∧ P k := ⟨j, rfl, q⟩
theorem x_bm {T : String} {rm : V → List V → Hp → VK → Prop} {tr : TA} (h : te σ H fun x H1 => tyV K T x H1 ∧ tr σ H1 fun xs H2 => rm x xs H2 Q) : tBM K T rm te tr σ H Q := h
theorem x_bm0 {T : String} {rm : V → List V → Hp → VK → Prop} (h : te σ H fun x H1 => tyV K T x H1 ∧ rm x [] H1 Q) : tBM0 K T rm te σ H Q := h
/- operators by values -/
theorem x_I0 {G : Int → Int → V} {a b : Int} (q : Q (G a b) H) : rI0 G (.int a) (.int b) H Q := ⟨a, b, rfl, rfl, q⟩
theorem x_I {C : Int → Int → Prop} {G : Int → Int → V} {a b : Int} (hc : C a b) (q : Q (G a b) H) : rI C G (.int a) (.int b) H Q := ⟨a, b, rfl, rfl, hc, q⟩
theorem x_U {G : Int → V} {a : Int} (q : Q (G a) H) : rU G (.int a) H Q := ⟨a, rfl, q⟩
theorem x_addI {a b : Int} (q : Q (.int (a + b)) H) : rAddX (.int a) (.int b) H Q := .inl ⟨a, b, rfl, rfl, q⟩
theorem x_addL {l b : Addr} {xs zs : List V} (h1 : RdL H l xs) (h2 : RdL H b zs) (hz : xs.length + zs.length ≤ sizeLine) (q : ∀ p, H p = none → Q (.ref p) (upd H p (.lst (xs ++ zs)))) : rAddX (.ref l) (.ref b) H Q := .inr (.inl ⟨l, b, xs, zs, rfl, rfl, h1, h2, hz, q⟩)
theorem x_addS {a b : Str} (h : a.length + b.length ≤ sizeLine) (q : Q (.str (a ++ b)) H) : rAddX (.str a) (.str b) H Q := .inr (.inr ⟨a, b, rfl, rfl, h, q⟩)
theorem x_subI {a b : Int} (q : Q (.int (a - b)) H) : rSubI (.int a) (.int b) H Q := ⟨a, b, rfl, rfl, q⟩
theorem x_mulI {a b : Int} (h : IntMulOk a b) (q : Q (.int (a * b)) H) : rMulX (.int a) (.int b) H Q := .inl ⟨a, b, rfl, rfl, h, q⟩
theorem x_mulL {l : Addr} {k : Int} {xs : List V} (h1 : H l = some (.lst xs)) (h2 : -(2 ^ 63) ≤ k ∧ k < 2 ^ 63 ∧ xs.length * k.toNat ≤ sizeLine) (q : ∀ p, H p = none → Q (.ref p) (upd H p (.lst (List.replicate k.toNat xs).flatten))) : rMulX (.ref l) (.int k) H Q :=
  .inr ⟨l, k, xs, rfl, rfl, h1, h2.1, h2.2.1, h2.2.2, q⟩
theorem x_divI {a b : Int} (h : b ≠ 0 ∧ b.natAbs.log2 < 9000) (q : Q (.int (a.fdiv b)) H) : rDivX (.int a) (.int b) H Q := ⟨a, b, rfl, rfl, h, q⟩
theorem x_divP {a b : Int} (h0 : 0 < b) (h : b.natAbs.log2 < 9000) (q : Q (.int (a / b)) H) : rDivX (.int a) (.int b) H Q := ⟨a, b, rfl, rfl, ⟨by omega, h⟩, by show Q (.int (a.fdiv b)) H; rw [Int.fdiv_eq_ediv_of_nonneg a (by omega)]; exact q⟩
theorem x_modP {a b : Int} (h0 : 0 < b) (q : Q (.int (a % b)) H) : rModX (.int a) (.int b) H Q := ⟨a, b, rfl, rfl, by omega, by show Q (.int (a.fmod b)) H; rw [Int.fmod_eq_emod_of_nonneg a (by omega)]; exact q⟩
theorem x_powN {a b : Int} (h : CPow a b) (q : Q (.int (a ^ b.toNat)) H) : rPow (.int a) (.int b) H Q := ⟨a, b, rfl, rfl, h, q⟩
theorem x_shl {a b : Int} (h : CPow a b) (q : Q (.int (a * 2 ^ b.toNat)) H) : rShl (.int a) (.int b) H Q := ⟨a, b, rfl, rfl, h, q⟩
theorem x_shr {a b : Int} (h : 0 ≤ b) (q : Q (.int (a / 2 ^ b.toNat)) H) : rShr (.int a) (.int b) H Q := ⟨a, b, rfl, rfl, h, q⟩
theorem x_andI {a b : Int} (q : Q (.int (Builtin.bitAnd a b)) H) : rAndI (.int a) (.int b) H Q := ⟨a, b, rfl, rfl, q⟩
theorem x_orI {a b : Int} (q : Q (.int (Builtin.bitOr a b)) H) : rOrI (.int a) (.int b) H Q := ⟨a, b, rfl, rfl, q⟩
theorem x_xorI {a b : Int} (q : Q (.int (Builtin.bitXor a b)) H) : rXorI (.int a) (.int b) H Q := ⟨a, b, rfl, rfl, q⟩
theorem x_ltI {a b : Int} (q : Q (.bl (decide (a < b))) H) : rLtI (.int a) (.int b) H Q := ⟨a, b, rfl, rfl, q⟩
theorem x_leI {a b : Int} (q : Q (.bl (decide (a ≤ b))) H) : rLeI (.int a) (.int b) H Q := ⟨a, b, rfl, rfl, q⟩
theorem x_gtI {a b : Int} (q : Q (.bl (decide (b < a))) H) : rGtI (.int a) (.int b) H Q := ⟨a, b, rfl, rfl, q⟩
theorem x_geI {a b : Int} (q : Q (.bl (decide (b ≤ a))) H) : rGeI (.int a) (.int b) H Q := ⟨a, b, rfl, rfl, q⟩
theorem dec_int' {a b : Int} : decide (V.int a = V.int b) = decide (a = b) := by
  by_cases e : a = b
  · subst e; simp
  · rw [decide_eq_false e, decide_eq_false (fun z => e (V.int.inj z))]
theorem x_eqI {a b : Int} (q : Q (.bl (decide (a = b))) H) : rEqX K (.int a) (.int b) H Q := .inl ⟨rfl, by rw [dec_int']; exact q⟩
theorem x_neI {a b : Int} (q : Q (.bl (!decide (a = b))) H) : rNeX K (.int a) (.int b) H Q := .inl ⟨rfl, by rw [dec_int']; exact q⟩
theorem x_eqS {a b : Str} (q : Q (.bl (decide (a = b))) H) : rEqX K (.str a) (.str b) H Q := .inl ⟨rfl, by
  have e : decide (V.str a = V.str b) = decide (a = b) := by
    by_cases e : a = b
    · subst e; simp
    · rw [decide_eq_false e, decide_eq_false (fun z => e (V.str.inj z))]
  rw [e]; exact q⟩
theorem x_eqB {a b : Bool} (q : Q (.bl (decide (a = b))) H) : rEqX K (.bl a) (.bl b) H Q := .inl ⟨rfl, by
  have e : decide (V.bl a = V.bl b) = decide (a = b) := by cases a <;> cases b <;> rfl
  rw [e]; exact q⟩
theorem x_isX {b : Bool} (q : Q (.bl (decide (x = .bl b))) H) : rIsX x (.bl b) H Q := ⟨b, rfl, q⟩
theorem x_isN (q : Q (.bl (decide (x = .non))) H) : rIsNX x .non H Q := ⟨rfl, q⟩
theorem x_notN (q : Q (.bl (!decide (x = .non))) H) : rNotNX x .non H Q := ⟨rfl, q⟩
theorem x_ipI {f : Int → Int → Int} {a b : Int} (q : Q (.int (f a b)) H) : ipI f (.int a) (.int b) H Q := ⟨a, b, rfl, rfl, q⟩
/- lists by values -/
theorem x_ixL {p : Addr} {xs : List V} {i : Int} (h : SqL K H p xs) (ha : atI xs i = some v) (q : Q v H) : rIxL K (.ref p) (.int i) H Q := ⟨p, xs, i, v, rfl, rfl, h, ha, q⟩
theorem x_ixT {p : Addr} {xs : List V} {i : Int} (h : SqT K H p xs) (ha : atI xs i = some v) (q : Q v H) : rIxT K (.ref p) (.int i) H Q := ⟨p, xs, i, v, rfl, rfl, h, ha, q⟩
theorem x_ixXL {p : Addr} {xs : List V} {i : Int} (h : SqL K H p xs) (ha : atI xs i = some v) (q : Q v H) : rIx K (.ref p) (.int i) H Q := .inl ⟨p, xs, i, v, rfl, rfl, h, ha, q⟩
theorem x_ixXT {p : Addr} {xs : List V} {i : Int} (h : SqT K H p xs) (ha : atI xs i = some v) (q : Q v H) : rIx K (.ref p) (.int i) H Q := .inr (.inl ⟨p, xs, i, v, rfl, rfl, h, ha, q⟩)
theorem x_lenL {p : Addr} {xs : List V} (h : SqL K H p xs) (q : Q (.int (xs.length : Int)) H) : rLen K [.ref p] H Q := ⟨_, _, rfl, .inl ⟨xs, h, rfl⟩, q⟩
theorem x_lenT {p : Addr} {xs : List V} (h : SqT K H p xs) (q : Q (.int (xs.length : Int)) H) : rLen K [.ref p] H Q := ⟨_, _, rfl, .inr ⟨xs, h, rfl⟩, q⟩
theorem x_lenS {z : Str} (h : z.length ≤ sizeLine) (q : Q (.int (z.length : Int)) H) : rLen K [.str z] H Q := ⟨_, _, rfl, ⟨h, rfl⟩, q⟩
theorem x_list {p : Addr} {xs : List V} (h : SqL K H p xs) (q : ∀ l, H l = none → Q (.ref l) (upd H l (.lst xs))) : rList K [.ref p] H Q := ⟨p, xs, rfl, .inl h, q⟩
theorem x_append {l : Addr} {xs : List V} (h : H l = some (.lst xs)) (hz : xs.length < sizeLine) (q : Q .non (upd H l (.lst (xs ++ [y])))) : rAppend (.ref l) [y] H Q := ⟨l, xs, y, rfl, rfl, h, hz, q⟩
theorem x_setL {p : Addr} {xs : List V} {k : Int} {j : Nat} {QH : Hp → Prop} (h : H p = some (.lst xs)) (hj : ixN xs.length k = some j) (q : QH (upd H p (.lst (xs.set j v)))) : rSetL (.ref p) (.int k) v H QH := ⟨p, xs, k, j, rfl, rfl, h, hj, q⟩
theorem x_tyL {p : Addr} {xs : List V} (h : H p = some (.lst xs)) : tyV K "list" (.ref p) H := .inl ⟨rfl, _, SqL.of h⟩
theorem x_abs {j : Int} (q : Q (.int (if j < 0 then -j else j)) H) : rAbs [.int j] H Q := ⟨j, rfl, q⟩
theorem x_max2 {a b : Int} (q : Q (.int (if b > a then b else a)) H) : rMax2 [.int a, .int b] H Q := ⟨a, b, rfl, q⟩
theorem x_min2 {a b : Int} (q : Q (.int (if b < a then b else a)) H) : rMin2 [.int a, .int b] H Q := ⟨a, b, rfl, q⟩
theorem x_sum {p : Addr} {ns : List Int} (h : SqL K H p (ns.map V.int)) (q : Q (.int ns.sum) H) : rSum K [.ref p] H Q := ⟨p, ns, rfl, h, q⟩
/-- while: W falls; the turn's test is read as it stands -/
theorem x_while (W : Nat → L2.St → Hp → Prop) (m0 : Nat) (h0 : W m0 σ H) (hs : ∀ m σ H, W m σ H → c σ H fun b H1 => if b = true then ∃ N : L2.St → Hp → Prop, (∀ σ' H', N σ' H' → ∃ m', m' < m ∧ W m' σ' H') ∧ t { D with nx := N, ct := N, bk := D.nx } σ H1 else D.nx σ H1) : tWhile c t D σ H := ⟨W, ⟨m0, h0⟩, hs⟩
theorem x_N {m : Nat} {W : Nat → L2.St → Hp → Prop} {B : L2.St → Hp → Prop} (h : t { D with nx := fun σ' H' => ∃ m', m' < m ∧ W m' σ' H', ct := fun σ' H' => ∃ m', m' < m ∧ W m' σ' H', bk := B } σ H) :
    ∃ N : L2.St → Hp → Prop, (∀ σ' H', N σ' H' → ∃ m', m' < m ∧ W m' σ' H') ∧ t { D with nx := N, ct := N, bk := B } σ H := ⟨_, fun _ _ z => z, h⟩
end
/-! ### places in lists of ints -/
def gi (ns : List Int) (i : Int) : Int := ns.getD i.toNat 0
theorem at_int {ns : List Int} {i : Int} (h0 : 0 ≤ i) (h1 : i < ns.length) : atI (ns.map V.int) i = some (.int (gi ns i)) := by
  obtain ⟨n, rfl⟩ := Int.eq_ofNat_of_zero_le h0
  have hn : n < ns.length := by omega
  refine atI_nat ?_
  rw [List.getElem?_map, List.getElem?_eq_getElem hn]
  show some (V.int ns[n]) = some (V.int (ns.getD n 0))
  rw [List.getD_eq_getElem?_getD, List.getElem?_eq_getElem hn] <;> rfl
theorem ixN_int {n : Nat} {i : Int} (h0 : 0 ≤ i) (h1 : i < n) : ixN n i = some i.toNat := by
  unfold ixN
  rw [if_pos h0, if_pos h1]
theorem map_set_int {ns : List Int} {j : Nat} {z : Int} : (ns.map V.int).set j (.int z) = (ns.set j z).map V.int := (List.map_set).symm
theorem map_app_int {ns : List Int} {z : Int} : ns.map V.int ++ [.int z] = (ns ++ [z]).map V.int := by rw [List.map_append] <;> rfl
theorem mulok {a b : Int} {n m : Nat} (ha : a.natAbs < 2 ^ n) (hb : b.natAbs < 2 ^ m) (h0 : 0 < n) (h1 : 0 < m) (h : n + m ≤ 100000000) : IntMulOk a b := by
  have bb : ∀ x : Int, ∀ k, 0 < k → x.natAbs < 2 ^ k → Builtin.Int.intBits x ≤ k := fun x k hk hx => by
    have := PySem.Flt.log2_lt_of hk hx
    unfold Builtin.Int.intBits
    split <;> omega
  have h2 := bb a n h0 ha
  have h3 := bb b m h1 hb
  have e : bitsLine = 134217728 := by decide
  unfold IntMulOk
  intro z
  rw [Bool.and_eq_true] at z
  have z2 := z.2
  unfold Builtin.Int.intTooBig at z2
  have z3 := of_decide_eq_true z2
  rw [e] at z3
  omega

/-! ### things of any kind, as a caller hands them in -/
inductive Thing (H : Hp) : V → Prop
  | non : Thing H .non
  | bl (b : Bool) : Thing H (.bl b)
  | int (i : Int) : Thing H (.int i)
  | str (x : Str) : Thing H (.str x)
  | lst {a : Addr} {xs : List V} (e : Rd H a (.lst xs)) : Thing H (.ref a)
  | tup {a : Addr} {xs : List V} (e : Rd H a (.tup xs)) : Thing H (.ref a)
  | dic {a : Addr} {kvs : List (Key × V)} (e : H a = some (.dK kvs)) : Thing H (.ref a)
/-- v is a whole number from l to g -/
def inR (v : V) (l g : Int) : Prop := ∃ z, v = .int z ∧ l ≤ z ∧ z ≤ g
def isI : V → Bool
  | .int _ => true
  | _ => false
def isB : V → Bool
  | .bl _ => true
  | _ => false
theorem rd_same {H H' : Hp} {a : Addr} {u : HO} (e : Same H H') (h : Rd H a u) : Rd H' a u := by
  rcases h with h | ⟨o, h⟩
  · exact .inl (e _ _ h)
  · exact .inr ⟨o, e _ _ h⟩
theorem Thing.same {H H' : Hp} {v : V} (e : Same H H') (h : Thing H v) : Thing H' v := by
  cases h with
  | non => exact .non
  | bl b => exact .bl b
  | int i => exact .int i
  | str x => exact .str x
  | lst q => exact .lst (rd_same e q)
  | tup q => exact .tup (rd_same e q)
  | dic q => exact .dic (e _ _ q)
theorem Thing.ty {K : PySem.W.Frag} {H : Hp} {v : V} (h : Thing H v) : ∃ t : String, TyX K H v (.type t) ∧ kitB t "int" = some (isI v || isB v) ∧ kitB t "bool" = some (isB v) := by
  cases h with
  | non => exact ⟨"NoneType", .base .non, by decide +kernel, by decide +kernel⟩
  | bl b => exact ⟨"bool", .base (.bl b), by cases b <;> decide +kernel, by cases b <;> decide +kernel⟩
  | int i => exact ⟨"int", .base (.int i), by show kitB "int" "int" = some true; decide +kernel, by show kitB "int" "bool" = some false; decide +kernel⟩
  | str x => exact ⟨"str", .base (.str x), by show kitB "str" "int" = some false; decide +kernel, by show kitB "str" "bool" = some false; decide +kernel⟩
  | lst q =>
    rcases q with q | ⟨o, q⟩
    · exact ⟨"list", .base (.lst q), by show kitB "list" "int" = some false; decide +kernel, by show kitB "list" "bool" = some false; decide +kernel⟩
    · exact ⟨"list", .base (.frz q), by show kitB "list" "int" = some false; decide +kernel, by show kitB "list" "bool" = some false; decide +kernel⟩
  | tup q =>
    rcases q with q | ⟨o, q⟩
    · exact ⟨"tuple", .base (.tup q), by show kitB "tuple" "int" = some false; decide +kernel, by show kitB "tuple" "bool" = some false; decide +kernel⟩
    · exact ⟨"tuple", .fTuple q, by show kitB "tuple" "int" = some false; decide +kernel, by show kitB "tuple" "bool" = some false; decide +kernel⟩
  | dic q => exact ⟨"dict", .base (.dK q), by show kitB "dict" "int" = some false; decide +kernel, by show kitB "dict" "bool" = some false; decide +kernel⟩
section
variable {K : PySem.W.Frag} {H : Hp} {Q : VK} {v : V}
theorem x_isiInt (h : Thing H v) (q : Q (.bl (isI v || isB v)) H) : rIsi K [v, .ty "int"] H Q := by
  obtain ⟨t, h1, h2, _⟩ := h.ty (K := K)
  exact ⟨v, .ty "int", _, _, _, rfl, .ty _, h1, kit_ty h2, q⟩
theorem x_isiBool (h : Thing H v) (q : Q (.bl (isB v)) H) : rIsi K [v, .ty "bool"] H Q := by
  obtain ⟨t, h1, _, h2⟩ := h.ty (K := K)
  exact ⟨v, .ty "bool", _, _, _, rfl, .ty _, h1, kit_ty h2, q⟩
theorem x_isiListL {a : Addr} {xs : List V} (h : Rd H a (.lst xs)) (q : Q (.bl true) H) : rIsi K [.ref a, .ty "list"] H Q := by
  rcases h with h | ⟨o, h⟩
  · exact ⟨_, .ty "list", _, _, _, rfl, .ty _, .base (.lst h), kit_ty (by decide +kernel), q⟩
  · exact ⟨_, .ty "list", _, _, _, rfl, .ty _, .base (.frz h), kit_ty (by decide +kernel), q⟩
theorem x_isiTupT {a : Addr} {xs : List V} (h : Rd H a (.tup xs)) (q : Q (.bl true) H) : rIsi K [.ref a, .ty "tuple"] H Q := by
  rcases h with h | ⟨o, h⟩
  · exact ⟨_, .ty "tuple", _, _, _, rfl, .ty _, .base (.tup h), kit_ty (by decide +kernel), q⟩
  · exact ⟨_, .ty "tuple", _, _, _, rfl, .ty _, .fTuple h, kit_ty (by decide +kernel), q⟩
end
/-- what a def tells and leaves: a value; a new list -/
def RetV (v : V) (H : Hp) (Q : VK) : Prop := ∀ H', Same H H' → Q v H'
def RetL (xs : List V) (H : Hp) (Q : VK) : Prop := ∀ p H', H p = none → Same H H' → H' p = some (.lst xs) → Q (.ref p) H'
def RetT (xs : List V) (H : Hp) (Q : VK) : Prop := ∀ p H', H p = none → Same H H' → H' p = some (.tup xs) → Q (.ref p) H'
theorem RetV.go {v : V} {H H' : Hp} {Q : VK} (h : RetV v H Q) (e : Same H H') : Q v H' := h H' e
theorem RetL.go {xs : List V} {H H' : Hp} {Q : VK} (h : RetL xs H Q) {p : Addr} (w : Own H ((p, .lst xs) :: []) H') : Q (.ref p) H' := h p H' (w.none 0 rfl) w.ex (w.get 0 rfl)
theorem RetT.go {xs : List V} {H H' : Hp} {Q : VK} (h : RetT xs H Q) {p : Addr} (w : Own H ((p, .tup xs) :: []) H') : Q (.ref p) H' := h p H' (w.none 0 rfl) w.ex (w.get 0 rfl)

/-! ### comprehensions: what the list at D holds behind i turns: F i -/
def PvC (B : Hp) (cs : Cells) (D : Addr) (F : Nat → List V) (i : Nat) (H : Hp) : Prop := Own B ((D, .lst (F i)) :: cs) H
section
variable {K : PySem.W.Frag} {σ : L2.St} {B H : Hp} {cs : Cells} {Q : VK} {te : TE} {g : TG} {tt : TT} {vs : List Nat}
/-- a turn's end: the item goes behind what is there -/
theorem cp_fin {D : Addr} {F : Nat → List V} {i : Nat} {H4 : Hp} {y : V} (w : PvC B cs D F i H4) (e : F (i + 1) = F i ++ [y]) (hl : (F i).length < 1000000) :
    ∃ acc, H4 D = some (.lst acc) ∧ acc.length < sizeLine ∧ PvC B cs D F (i + 1) (upd H4 D (.lst (acc ++ [y]))) := by
  refine ⟨F i, Own.get w 0 rfl, Nat.lt_of_lt_of_le hl (by decide), ?_⟩
  have := Own.put (o' := .lst (F i ++ [y])) w 0 rfl
  rw [← e] at this
  rw [← e]
  exact this
/-- the same where the test says no -/
theorem cp_no {D : Addr} {F : Nat → List V} {i : Nat} {H4 : Hp} (w : PvC B cs D F i H4) (e : F (i + 1) = F i) : PvC B cs D F (i + 1) H4 := by
  unfold PvC at *
  rw [e]
  exact w
theorem cp_range {QD : Addr → Hp → Prop} {lo : Int} {n : Nat} (F : Nat → List V) (w : Own B cs H) (h0 : F 0 = [])
    (hs : ∀ D i H', i < n → PvC B cs D F i H' → g (.int (lo + i)) (wipe σ vs) H' fun σ2 H2 => wipe σ2 vs = wipe σ vs ∧ tt σ2 H2 fun b H3 =>
      if b = true then te σ2 H3 fun y H4 => ∃ acc, H4 D = some (.lst acc) ∧ acc.length < sizeLine ∧ PvC B cs D F (i + 1) (upd H4 D (.lst (acc ++ [y]))) else PvC B cs D F (i + 1) H3)
    (hq : ∀ D H', Own B ((D, .lst (F n)) :: cs) H' → QD D H') : ∀ D, H D = none → ∃ W : Nat → Nat → Hp → Prop, (∃ m, W 0 m (upd H D (.lst []))) ∧ ∀ i m H, W i m H →
      ((Itr lo n).stop i H ∧ QD D H) ∨ ((Itr lo n).go i H ∧ ∃ Nx : Hp → Prop, (∀ H', Nx H' → ∃ m', m' < m ∧ W (i + 1) m' H') ∧ ∀ x H', (Itr lo n).yld i H x H' → g x (wipe σ vs) H' fun σ2 H2 => wipe σ2 vs = wipe σ vs ∧ tt σ2 H2 fun b H3 =>
        if b = true then te σ2 H3 fun y H4 => ∃ acc, H4 D = some (.lst acc) ∧ acc.length < sizeLine ∧ Nx (upd H4 D (.lst (acc ++ [y]))) else Nx H3) := fun D hD =>
  lc_range (PvC B cs D F) (by unfold PvC; rw [h0]; exact w.new hD) (fun i H' hi p => hs D i H' hi p) (fun H' p => hq D H' p)
theorem cp_list {QD : Addr → Hp → Prop} {a : Addr} {xs : List V} (F : Nat → List V) (w : Own B cs H) (hx : SqL K B a xs) (h0 : F 0 = [])
    (hs : ∀ D i x H', xs[i]? = some x → PvC B cs D F i H' → g x (wipe σ vs) H' fun σ2 H2 => wipe σ2 vs = wipe σ vs ∧ tt σ2 H2 fun b H3 =>
      if b = true then te σ2 H3 fun y H4 => ∃ acc, H4 D = some (.lst acc) ∧ acc.length < sizeLine ∧ PvC B cs D F (i + 1) (upd H4 D (.lst (acc ++ [y]))) else PvC B cs D F (i + 1) H3)
    (hq : ∀ D H', Own B ((D, .lst (F xs.length)) :: cs) H' → QD D H') : ∀ D, H D = none → ∃ W : Nat → Nat → Hp → Prop, (∃ m, W 0 m (upd H D (.lst []))) ∧ ∀ i m H, W i m H →
      ((Itl K a).stop i H ∧ QD D H) ∨ ((Itl K a).go i H ∧ ∃ Nx : Hp → Prop, (∀ H', Nx H' → ∃ m', m' < m ∧ W (i + 1) m' H') ∧ ∀ x H', (Itl K a).yld i H x H' → g x (wipe σ vs) H' fun σ2 H2 => wipe σ2 vs = wipe σ vs ∧ tt σ2 H2 fun b H3 =>
        if b = true then te σ2 H3 fun y H4 => ∃ acc, H4 D = some (.lst acc) ∧ acc.length < sizeLine ∧ Nx (upd H4 D (.lst (acc ++ [y]))) else Nx H3) := fun D hD =>
  lc_list (PvC B cs D F) (by unfold PvC; rw [h0]; exact w.new hD) (fun i H' hi p => Own.seq p hx) (fun i x H' hi p => hs D i x H' hi p) (fun H' p => hq D H' p)
/-- behind the first i items of a range: their images -/
theorem range_map {α : Type} (f : Nat → α) (i : Nat) : (List.range (i + 1)).map f = (List.range i).map f ++ [f i] := by rw [List.range_succ, List.map_append] <;> rfl
end

/-! ### the rules with the written part told (a comprehension's block has its own context) -/
section
variable {X : Cx} {K : PySem.W.Frag}
theorem ix_seqK (h : X.K = K) : IxR X (rIx K) := h ▸ ix_seq
theorem get_listK (h : X.K = K) : PGet X (rIxL K) := h ▸ get_list
theorem op_eqK (h : X.K = K) (hu : X.A.units + 64 < cLine) : OpR X (compareOp .Eq) (rEqX K) := h ▸ op_eqX hu
theorem op_neK (h : X.K = K) (hu : X.A.units + 64 < cLine) : OpR X (compareOp .NotEq) (rNeX K) := h ▸ op_neX hu
theorem call_lenK (h : X.K = K) : CallR X (.builtin "len") (rLen K) := h ▸ call_lenX
theorem call_listK (h : X.K = K) : CallR X (.type "list") (rList K) := h ▸ call_listX
theorem cr_sumK (h : X.K = K) (hc : X.calm = true) : CallR X (.builtin "sum") (rSum K) := h ▸ cr_sum hc
theorem cr_anyK (h : X.K = K) (hc : X.calm = true) : CallR X (.builtin "any") (rAny K) := h ▸ cr_any hc
theorem cr_maxK (h : X.K = K) (hc : X.calm = true) : CallR X (.builtin "max") (rMax K) := h ▸ cr_max hc
theorem cr_minK (h : X.K = K) (hc : X.calm = true) : CallR X (.builtin "min") (rMin K) := h ▸ cr_min hc
theorem cr_sortedK (h : X.K = K) : CallR X (.builtin "sorted") (rSorted K) := h ▸ cr_sorted
theorem call_isiX (h : X.K = K) : CallR X (.builtin "isinstance") (rIsi K) := h ▸ call_isi
theorem call_isiTX (h : X.K = K) : CallR X (.builtin "isinstance") (rIsiT K) := h ▸ call_isiT
theorem op_in_seqK (h : X.K = K) : OpR X (compareOp .In) (rIn K false) := h ▸ op_in_seq
theorem op_notIn_seqK (h : X.K = K) : OpR X (compareOp .NotIn) (rIn K true) := h ▸ op_notIn_seq
theorem sl_listK (h : X.K = K) : SlR X (rSlL K) := h ▸ sl_list
theorem sl_tupK (h : X.K = K) : SlR X (rSlT K) := h ▸ sl_tup
theorem pi_listK (h : X.K = K) {tg l : Expr} {tl : TE} (hl : PE X l tl) : PI X tg l (iList K tl) := h ▸ pi_list hl
theorem pi_tupK (h : X.K = K) {tg l : Expr} {tl : TE} (hl : PE X l tl) : PI X tg l (iTup K tl) := h ▸ pi_tup hl
theorem pi_zipK (h : X.K = K) {e e2 : Expr} {ta : TA} {p pos tpos : Pos} {elts : List Expr} {kk : Nat} (hg : Gl X "zip") (hm : X.mg "zip" = none) (ha : PA X [e, e2] ta)
    (hs : starEach [e, e2] X.env = (false, eval e X.env) :: starEach [e2] X.env := by rfl) (hpl : (backTo pos (starEach [e2] X.env)).any (·.1) = false := by rfl) :
    PI X (.Tuple elts kk tpos) (.Call (.Name "zip" p) [e, e2] [] pos) (iZip K ta) := h ▸ pi_zip hg hm ha hs hpl
theorem pi_enumK (h : X.K = K) {e : Expr} {ta : TA} {p pos tpos : Pos} {elts : List Expr} {kk : Nat} (hg : Gl X "enumerate") (hm : X.mg "enumerate" = none) (ha : PA X [e] ta) (hs : starEach [e] X.env = [(false, eval e X.env)] := by rfl) :
    PI X (.Tuple elts kk tpos) (.Call (.Name "enumerate" p) [e] [] pos) (iEnum K ta) := h ▸ pi_enum hg hm ha hs
theorem pi_reversedK (h : X.K = K) {tg e : Expr} {ta : TA} {p pos : Pos} (hg : Gl X "reversed") (hm : X.mg "reversed" = none) (ha : PA X [e] ta) (hs : starEach [e] X.env = [(false, eval e X.env)] := by rfl) :
    PI X tg (.Call (.Name "reversed" p) [e] [] pos) (iRev K ta) := h ▸ pi_reversed hg hm ha hs
theorem pg_tupK (h : X.K = K) {pos : Pos} {es : List Expr} {k : Nat} {t : TGs} {n : Nat} (hc : X.calm = true) (hg : PGs X es t)
    (hn : (assignEach es X.env).length = n := by rfl) (hst : (assignEach es X.env).findIdx? (·.1) = none := by rfl) : PG X (.Tuple es k pos) (gTup K n t) := h ▸ pg_tup hc hg hn hst
theorem pe_bmK (h : X.K = K) {T : String} {name : Str} {id : String} {r : V → List V → Hp → VK → Prop} {o e : Expr} {es : List Expr} {to : TE} {t : TA} {apos cpos : Pos}
    (pa : PlainAttrs T) (slot : Slot T name id) (hty : typeOf (.builtin id) = pure (.type "method_descriptor")) (hm : MtR X id r) (ho : PE X o to) (ha : PA X (e :: es) t)
    (f : PE X (.Call (.Attribute o name apos) (e :: es) [] cpos) (tBM X.K T r to t)) : PE X (.Call (.Attribute o name apos) (e :: es) [] cpos) (tBM K T r to t) := h ▸ f
theorem pe_fldK (h : X.K = K) {e : Expr} {f : Str} {ta : TE} {pos : Pos} (he : PE X e ta) (hb : attributeBase e f X.env (eval e X.env) = eval e X.env) : PE X (.Attribute e f pos) (tFld K ta f) := h ▸ pe_fld he hb
end

/-! ### == of lists of ints -/
theorem dpAll_ints {K : PySem.W.Frag} {H : Hp} : ∀ ns : List Int, DpAll K H (ns.map V.int) (ns.map PyData.int)
  | [] => .nil
  | n :: r => .cons (.int n) (dpAll_ints r)
theorem dp_ints {K : PySem.W.Frag} {H : Hp} {p : Addr} {ns : List Int} (h : SqL K H p (ns.map V.int)) : Dp K H (.ref p) (.list (ns.map PyData.int)) := .lst h (dpAll_ints ns)
theorem canLay_ints : ∀ ns : List Int, PyData.canLayAll0 (ns.map PyData.int) = true
  | [] => by simp [PyData.canLayAll0]
  | n :: r => by simp [PyData.canLayAll0, PyData.canLay0, canLay_ints r]
theorem depth_ints : ∀ ns : List Int, PyData.depthAll (ns.map PyData.int) ≤ 1
  | [] => by simp [PyData.depthAll]
  | n :: r => by
    have := depth_ints r
    simp only [List.map_cons, PyData.depthAll, PyData.depth]
    omega
theorem shaped_ints (ns : List Int) : SeqAt.shaped (.list (ns.map PyData.int)) = true := by
  have := depth_ints ns
  unfold SeqAt.shaped
  rw [Bool.and_eq_true]
  refine ⟨by simp [PyData.canLay0, canLay_ints ns], decide_eq_true ?_⟩
  simp only [PyData.depth]
  omega
theorem eqvAll_ints : ∀ ns ms : List Int, PyData.eqvAll (ns.map PyData.int) (ms.map PyData.int) = decide (ns = ms)
  | [], [] => by simp [PyData.eqvAll]
  | [], m :: r => by simp [PyData.eqvAll]
  | n :: r, [] => by simp [PyData.eqvAll]
  | n :: r, m :: q => by
    simp only [List.map_cons, PyData.eqvAll, PyData.eqv, eqvAll_ints r q, List.cons.injEq]
    by_cases e : n = m
    · subst e; simp
    · simp [e]
theorem eqv_ints (ns ms : List Int) : PyData.eqv (.list (ns.map PyData.int)) (.list (ms.map PyData.int)) = decide (ns = ms) := by
  rw [PyData.eqv, eqvAll_ints]
section
variable {K : PySem.W.Frag} {H : Hp} {Q : VK} {p q : Addr} {ns ms : List Int}
theorem x_eqLI (h1 : SqL K H p (ns.map V.int)) (h2 : SqL K H q (ms.map V.int)) (k : Q (.bl (decide (ns = ms))) H) : rEqX K (.ref p) (.ref q) H Q :=
  .inr ⟨_, _, dp_ints h1, dp_ints h2, shaped_ints ns, shaped_ints ms, by rw [eqv_ints]; exact k⟩
theorem x_neLI (h1 : SqL K H p (ns.map V.int)) (h2 : SqL K H q (ms.map V.int)) (k : Q (.bl (!decide (ns = ms))) H) : rNeX K (.ref p) (.ref q) H Q :=
  .inr ⟨_, _, dp_ints h1, dp_ints h2, shaped_ints ns, shaped_ints ms, by rw [eqv_ints]; exact k⟩
end

theorem cx_none {P : Program} {w : World} {H : Hp} {s : Shared} {e : Value} {s' : Shared} (h : L2.CX P w [] H s (fun _ _ _ => False) e s') : False := by
  obtain ⟨_, _, _, _, _, _, _, _, _, _, _, _, z⟩ := h
  exact z.elim

/-! ### for over range(n), the number told plainly -/
theorem for_r0 {n : Int} {g : TG} {tb : TS} {D : Ends} {σ : L2.St} {H : Hp} (Pv : Nat → L2.St → Hp → Prop) (h0 : Pv 0 σ H)
    (hs : ∀ (i : Nat) σ H, (i : Int) < n → Pv i σ H → g (.int (i : Int)) σ H fun σ2 H2 => tb { D with nx := Pv (i + 1), ct := Pv (i + 1), bk := D.nx } σ2 H2) (hd : ∀ σ H, Pv n.toNat σ H → D.nx σ H) :
    ∃ W : Nat → Nat → L2.St → Hp → Prop, (∃ m, W 0 m σ H) ∧ ∀ i m σ H, W i m σ H →
      ((Itr 0 n.toNat).stop i H ∧ D.nx σ H) ∨ ((Itr 0 n.toNat).go i H ∧ ∃ N : L2.St → Hp → Prop, (∀ σ' H', N σ' H' → ∃ m', m' < m ∧ W (i + 1) m' σ' H') ∧ ∀ x H', (Itr 0 n.toNat).yld i H x H' → g x σ H' fun σ2 H2 => tb { D with nx := N, ct := N, bk := D.nx } σ2 H2) :=
  for_range (lo := 0) (n := n.toNat) Pv h0 (fun i σ H hi p => by rw [Int.zero_add]; exact hs i σ H (by omega) p) hd
theorem cp_r0 {QD : Addr → Hp → Prop} {B : Hp} {cs : Cells} {n : Int} {σ : L2.St} {H : Hp} {te : TE} {g : TG} {tt : TT} {vs : List Nat} (F : Nat → List V) (w : Own B cs H) (h0 : F 0 = [])
    (hs : ∀ D (i : Nat) H', (i : Int) < n → PvC B cs D F i H' → g (.int (i : Int)) (wipe σ vs) H' fun σ2 H2 => wipe σ2 vs = wipe σ vs ∧ tt σ2 H2 fun b H3 =>
      if b = true then te σ2 H3 fun y H4 => ∃ acc, H4 D = some (.lst acc) ∧ acc.length < sizeLine ∧ PvC B cs D F (i + 1) (upd H4 D (.lst (acc ++ [y]))) else PvC B cs D F (i + 1) H3)
    (hq : ∀ D H', Own B ((D, .lst (F n.toNat)) :: cs) H' → QD D H') : ∀ D, H D = none → ∃ W : Nat → Nat → Hp → Prop, (∃ m, W 0 m (upd H D (.lst []))) ∧ ∀ i m H, W i m H →
      ((Itr 0 n.toNat).stop i H ∧ QD D H) ∨ ((Itr 0 n.toNat).go i H ∧ ∃ Nx : Hp → Prop, (∀ H', Nx H' → ∃ m', m' < m ∧ W (i + 1) m' H') ∧ ∀ x H', (Itr 0 n.toNat).yld i H x H' → g x (wipe σ vs) H' fun σ2 H2 => wipe σ2 vs = wipe σ vs ∧ tt σ2 H2 fun b H3 =>
        if b = true then te σ2 H3 fun y H4 => ∃ acc, H4 D = some (.lst acc) ∧ acc.length < sizeLine ∧ Nx (upd H4 D (.lst (acc ++ [y]))) else Nx H3) :=
  cp_range (lo := 0) F w h0 (fun D i H' hi p => by rw [Int.zero_add]; exact hs D i H' (by omega) p) hq

/-! ### enumerate, zip: loops and comprehensions -/
section
variable {K : PySem.W.Frag} {a b : Addr} {xs ys : List V} {g : TG} {tb : TS} {D : Ends} {σ : L2.St} {H B : Hp} {cs : Cells} {te : TE} {tt : TT} {vs : List Nat} {Q : VK}
theorem for_enumL (Pv : Nat → L2.St → Hp → Prop) (h0 : Pv 0 σ H) (hq : ∀ i σ H, Pv i σ H → SqL K H a xs)
    (hs : ∀ (i : Nat) (x : V) (T : Addr) (σ : L2.St) (H : Hp), xs[i]? = some x → Pv i σ H → H T = none → g (.ref T) σ (upd H T (.tup [.int (i : Int), x])) fun σ2 H2 => tb { D with nx := Pv (i + 1), ct := Pv (i + 1), bk := D.nx } σ2 H2) (hd : ∀ σ H, Pv xs.length σ H → D.nx σ H) :
    ∃ W : Nat → Nat → L2.St → Hp → Prop, (∃ m, W 0 m σ H) ∧ ∀ i m σ H, W i m σ H →
      ((Ite K a).stop i H ∧ D.nx σ H) ∨ ((Ite K a).go i H ∧ ∃ N : L2.St → Hp → Prop, (∀ σ' H', N σ' H' → ∃ m', m' < m ∧ W (i + 1) m' σ' H') ∧ ∀ v H', (Ite K a).yld i H v H' → g v σ H' fun σ2 H2 => tb { D with nx := N, ct := N, bk := D.nx } σ2 H2) := by
  refine ⟨fun i m σ H => m = xs.length - i ∧ i ≤ xs.length ∧ Pv i σ H, ⟨xs.length, rfl, Nat.zero_le _, h0⟩, ?_⟩
  rintro i m σ H ⟨rfl, hi, p⟩
  have qx := hq i σ H p
  by_cases hlt : i < xs.length
  · have hx : xs[i]? = some xs[i] := List.getElem?_eq_getElem hlt
    refine .inr ⟨⟨xs, _, qx, hx⟩, Pv (i + 1), fun σ' H' p' => ⟨xs.length - (i + 1), by omega, rfl, hlt, p'⟩, fun v H' y => ?_⟩
    obtain ⟨T, x', rfl, hT, rfl, f1⟩ := y
    exact hs i x' T σ H (f1 xs qx) p hT
  · have e : i = xs.length := by omega
    subst e
    exact .inl ⟨⟨xs, qx, Nat.le_refl _⟩, hd σ H p⟩
theorem cp_enum {QD : Addr → Hp → Prop} (F : Nat → List V) (w : Own B cs H) (hx : SqL K B a xs) (h0 : F 0 = [])
    (hs : ∀ D i x T H', xs[i]? = some x → PvC B cs D F i H' → H' T = none → g (.ref T) (wipe σ vs) (upd H' T (.tup [.int ((i : Nat) : Int), x])) fun σ2 H2 => wipe σ2 vs = wipe σ vs ∧ tt σ2 H2 fun b H3 =>
      if b = true then te σ2 H3 fun y H4 => ∃ acc, H4 D = some (.lst acc) ∧ acc.length < sizeLine ∧ PvC B cs D F (i + 1) (upd H4 D (.lst (acc ++ [y]))) else PvC B cs D F (i + 1) H3)
    (hq : ∀ D H', Own B ((D, .lst (F xs.length)) :: cs) H' → QD D H') : ∀ D, H D = none → ∃ W : Nat → Nat → Hp → Prop, (∃ m, W 0 m (upd H D (.lst []))) ∧ ∀ i m H, W i m H →
      ((Ite K a).stop i H ∧ QD D H) ∨ ((Ite K a).go i H ∧ ∃ Nx : Hp → Prop, (∀ H', Nx H' → ∃ m', m' < m ∧ W (i + 1) m' H') ∧ ∀ x H', (Ite K a).yld i H x H' → g x (wipe σ vs) H' fun σ2 H2 => wipe σ2 vs = wipe σ vs ∧ tt σ2 H2 fun b H3 =>
        if b = true then te σ2 H3 fun y H4 => ∃ acc, H4 D = some (.lst acc) ∧ acc.length < sizeLine ∧ Nx (upd H4 D (.lst (acc ++ [y]))) else Nx H3) := fun D hD => by
  refine ⟨fun i m H => m = xs.length - i ∧ i ≤ xs.length ∧ PvC B cs D F i H, ⟨xs.length, rfl, Nat.zero_le _, by unfold PvC; rw [h0]; exact w.new hD⟩, ?_⟩
  rintro i m H ⟨rfl, hi, p⟩
  have qx : SqL K H a xs := Own.seq p hx
  by_cases hlt : i < xs.length
  · have hxi : xs[i]? = some xs[i] := List.getElem?_eq_getElem hlt
    refine .inr ⟨⟨xs, _, qx, hxi⟩, PvC B cs D F (i + 1), fun H' p' => ⟨xs.length - (i + 1), by omega, rfl, hlt, p'⟩, fun v H' y => ?_⟩
    obtain ⟨T, x', rfl, hT, rfl, f1⟩ := y
    exact hs D i x' T H (f1 xs qx) p hT
  · have e : i = xs.length := by omega
    subst e
    exact .inl ⟨⟨xs, qx, Nat.le_refl _⟩, hq D H p⟩
theorem cp_zip {QD : Addr → Hp → Prop} (F : Nat → List V) (w : Own B cs H) (hl : xs.length = ys.length) (hx : SqL K B a xs) (hy : SqL K B b ys) (h0 : F 0 = [])
    (hs : ∀ D i x y T H', xs[i]? = some x → ys[i]? = some y → PvC B cs D F i H' → H' T = none → g (.ref T) (wipe σ vs) (upd H' T (.tup [x, y])) fun σ2 H2 => wipe σ2 vs = wipe σ vs ∧ tt σ2 H2 fun b H3 =>
      if b = true then te σ2 H3 fun y H4 => ∃ acc, H4 D = some (.lst acc) ∧ acc.length < sizeLine ∧ PvC B cs D F (i + 1) (upd H4 D (.lst (acc ++ [y]))) else PvC B cs D F (i + 1) H3)
    (hq : ∀ D H', Own B ((D, .lst (F xs.length)) :: cs) H' → QD D H') : ∀ D, H D = none → ∃ W : Nat → Nat → Hp → Prop, (∃ m, W 0 m (upd H D (.lst []))) ∧ ∀ i m H, W i m H →
      ((Itz K a b).stop i H ∧ QD D H) ∨ ((Itz K a b).go i H ∧ ∃ Nx : Hp → Prop, (∀ H', Nx H' → ∃ m', m' < m ∧ W (i + 1) m' H') ∧ ∀ x H', (Itz K a b).yld i H x H' → g x (wipe σ vs) H' fun σ2 H2 => wipe σ2 vs = wipe σ vs ∧ tt σ2 H2 fun b H3 =>
        if b = true then te σ2 H3 fun y H4 => ∃ acc, H4 D = some (.lst acc) ∧ acc.length < sizeLine ∧ Nx (upd H4 D (.lst (acc ++ [y]))) else Nx H3) := fun D hD => by
  refine ⟨fun i m H => m = xs.length - i ∧ i ≤ xs.length ∧ PvC B cs D F i H, ⟨xs.length, rfl, Nat.zero_le _, by unfold PvC; rw [h0]; exact w.new hD⟩, ?_⟩
  rintro i m H ⟨rfl, hi, p⟩
  have qx : SqL K H a xs := Own.seq p hx
  have qy : SqL K H b ys := Own.seq p hy
  by_cases hlt : i < xs.length
  · have hxi : xs[i]? = some xs[i] := List.getElem?_eq_getElem hlt
    have hlt2 : i < ys.length := by omega
    have hyi : ys[i]? = some ys[i] := List.getElem?_eq_getElem hlt2
    refine .inr ⟨⟨xs, ys, _, _, qx, qy, hxi, hyi⟩, PvC B cs D F (i + 1), fun H' p' => ⟨xs.length - (i + 1), by omega, rfl, hlt, p'⟩, fun v H' y => ?_⟩
    obtain ⟨T, x', y', rfl, hT, rfl, f1, f2⟩ := y
    exact hs D i x' y' T H (f1 xs qx) (f2 ys qy) p hT
  · have e : i = xs.length := by omega
    subst e
    exact .inl ⟨⟨xs, ys, qx, qy, .inl (Nat.le_refl _)⟩, hq D H p⟩
end

def rStr : List V → Hp → VK → Prop := fun xs H Q => ∃ i, xs = [.int i] ∧ i.natAbs.log2 < 1920 ∧ Q (.str (toString i)) H
theorem call_strX {X : Cx} : CallR X (.type "str") rStr := call_str_int
theorem x_str {H : Hp} {Q : VK} {i : Int} (h : i.natAbs.log2 < 1920) (q : Q (.str (toString i)) H) : rStr [.int i] H Q := ⟨i, rfl, h, q⟩
theorem log2_small {n : Nat} {k : Nat} (h0 : 0 < k) (h : n < 2 ^ k) (hk : k ≤ 1920) : n.log2 < 1920 := Nat.lt_of_lt_of_le (PySem.Flt.log2_lt_of h0 h) hk
end Sp

/-! Jn: a join: what follows a statement is shown once. -/
namespace Sp
open PySem PySem.Spec L2 PyProof.Rows
theorem x_seqJ {t u : TS} {D : Ends} {σ : L2.St} {H : Hp} (P : L2.St → Hp → Prop) (hP : ∀ σ H, P σ H → u D σ H) (h : (∀ σ H, P σ H → u D σ H) → t { D with nx := u D } σ H) : tSeq t u D σ H := h hP
section
variable {X : Cx} {K : PySem.W.Frag} {T : String} {name : Str} {id : String} {r : V → List V → Hp → VK → Prop} {o e : Expr} {es : List Expr} {to : TE} {t : TA} {apos cpos : Pos}
theorem pe_bm0KK (h : X.K = K) (pa : PlainAttrs T) (slot : Slot T name id) (hty : typeOf (.builtin id) = pure (.type "method_descriptor")) (hm : MtR X id r) (ho : PE X o to)
    (hbase : attributeBase o name X.env (eval o X.env) = eval o X.env := by rfl) (hline : (apos.endLine == cpos.line) = true := by rfl) : PE X (.Call (.Attribute o name apos) [] [] cpos) (tBM0 K T r to) := h ▸ pe_bm0 pa slot hty hm ho hbase hline
theorem pe_bmKK (h : X.K = K) (pa : PlainAttrs T) (slot : Slot T name id) (hty : typeOf (.builtin id) = pure (.type "method_descriptor")) (hm : MtR X id r) (ho : PE X o to) (ha : PA X (e :: es) t)
    (hbase : attributeBase o name X.env (eval o X.env) = eval o X.env := by rfl)
    (hfew : ((backTo cpos (starEach (e :: es) X.env)).all (fun x => !x.1) && (backToKw cpos (keywordEach [] X.env)).all (fun x => x.1.isSome)
      && decide ((e :: es).length + ([] : List Keyword).length + (if ([] : List Keyword).isEmpty then 0 else 1) < 30)) = true := by rfl)
    (hline : (apos.endLine == cpos.line) = true := by rfl) (hs : starEach (e :: es) X.env = (false, eval e X.env) :: starEach es X.env := by rfl) (hplain : (backTo cpos (starEach es X.env)).any (·.1) = false := by rfl) :
    PE X (.Call (.Attribute o name apos) (e :: es) [] cpos) (tBM K T r to t) := h ▸ pe_bm pa slot hty hm ho ha hbase hfew hline hs hplain
end
end Sp

/-! Ml: tables, bounds: plain words about lists of ints. -/
namespace Sp
open PySem L2 PyProof.Rows
def manyOf (n : Nat) : Nat := if n ≤ 2 then 1 else if n ≤ 4 then 2 else if n ≤ 8 then 3 else if n ≤ 16 then 4 else if n ≤ 32 then 5 else 6
theorem manyOf_lo (n : Nat) : 1 ≤ manyOf n ∧ manyOf n ≤ 6 := by
  unfold manyOf
  repeat' split
  all_goals omega
theorem manyOf_is {n k : Nat} (h1 : 1 ≤ k) (h6 : k ≤ 6) (hlo : k = 1 ∨ 2 ^ (k - 1) < n) (hhi : k = 6 ∨ n ≤ 2 ^ k) : manyOf n = k := by
  unfold manyOf
  have h : k = 1 ∨ k = 2 ∨ k = 3 ∨ k = 4 ∨ k = 5 ∨ k = 6 := by omega
  rcases h with rfl | rfl | rfl | rfl | rfl | rfl <;> simp only [Nat.reducePow, Nat.reduceSub] at hlo hhi <;> repeat' split
  all_goals omega
def lookM (xs : List V) : Option Int := if xs.length = 2 ^ manyOf xs.length ∧ xs.all isI = true ∧ xs[0]? = some (.int 0) then some (manyOf xs.length : Nat) else none
/-- a table of k hands -/
structure Tab (ns : List Int) (k : Nat) : Prop where
  len : ns.length = 2 ^ k
  lo : 1 ≤ k
  hi : k ≤ 6
  zero : ns[0]? = some 0
theorem Tab.look {ns : List Int} {k : Nat} (h : Tab ns k) : lookM (ns.map V.int) = some (k : Int) := by
  have e : manyOf (ns.map V.int).length = k := by
    rw [List.length_map, h.len]
    exact manyOf_is h.lo h.hi (by
      have := h.lo
      by_cases e : k = 1
      · exact .inl e
      · refine .inr (Nat.pow_lt_pow_right (by decide) (by omega))) (.inr (Nat.le_refl _))
  unfold lookM
  rw [e, if_pos]
  refine ⟨by rw [List.length_map]; exact h.len, ?_, ?_⟩
  · rw [List.all_map]; exact List.all_eq_true.mpr fun _ _ => rfl
  · rw [List.getElem?_map, h.zero] <;> rfl
theorem things_int {H : Hp} {ns : List Int} : ∀ v ∈ ns.map V.int, Thing H v := fun v hv => by
  obtain ⟨z, _, rfl⟩ := List.mem_map.mp hv
  exact .int z
theorem look_tab {xs : List V} {n : Int} (h : lookM xs = some n) : ∃ ns k, Tab ns k ∧ xs = ns.map V.int ∧ n = (k : Nat) := by
  unfold lookM at h
  by_cases c : xs.length = 2 ^ manyOf xs.length ∧ xs.all isI = true ∧ xs[0]? = some (.int 0)
  · rw [if_pos c] at h
    obtain ⟨c1, c2, c3⟩ := c
    have hm := manyOf_lo xs.length
    have all : ∀ ys : List V, ys.all isI = true → ∃ ns : List Int, ys = ns.map V.int := by
      intro ys
      induction ys with
      | nil => intro _; exact ⟨[], rfl⟩
      | cons y r ih =>
        intro e
        rw [List.all_cons, Bool.and_eq_true] at e
        obtain ⟨ns, rfl⟩ := ih e.2
        cases y with
        | int z => exact ⟨z :: ns, rfl⟩
        | _ => exact absurd e.1 Bool.false_ne_true
    obtain ⟨ns, rfl⟩ := all xs c2
    refine ⟨ns, manyOf (ns.map V.int).length, ⟨by rw [List.length_map] at c1; rw [List.length_map]; exact c1, hm.1, hm.2, ?_⟩, rfl, (Option.some.inj h).symm⟩
    rw [List.getElem?_map] at c3
    cases e : ns[0]? with
    | none => rw [e] at c3; cases c3
    | some z => rw [e] at c3; exact congrArg some (V.int.inj (Option.some.inj c3))
  · rw [if_neg c] at h; cases h
/-- a number of these laws' tables -/
def Small (z : Int) : Prop := -1000000000000000000 ≤ z ∧ z ≤ 1000000000000000000
/-- bounds of a table's numbers -/
def Bnd (b : Int) (ns : List Int) : Prop := ∀ z ∈ ns, -b ≤ z ∧ z ≤ b
theorem Bnd.app {b : Int} {ns : List Int} {z : Int} (h : Bnd b ns) (h1 : -b ≤ z) (h2 : z ≤ b) : Bnd b (ns ++ [z]) := fun y hy => by
  rcases List.mem_append.mp hy with m | m
  · exact h y m
  · rw [List.mem_singleton.mp m]; exact ⟨h1, h2⟩
theorem Bnd.set {b : Int} {ns : List Int} {j : Nat} {z : Int} (h : Bnd b ns) (h1 : -b ≤ z) (h2 : z ≤ b) : Bnd b (ns.set j z) := fun y hy => by
  rcases List.mem_or_eq_of_mem_set hy with m | rfl
  · exact h y m
  · exact ⟨h1, h2⟩
theorem Bnd.mono {b c : Int} {ns : List Int} (h : Bnd b ns) (hbc : b ≤ c) : Bnd c ns := fun y hy => by
  have := h y hy
  exact ⟨by omega, by omega⟩
theorem Bnd.at {b : Int} {ns : List Int} (hb : 0 ≤ b) (h : Bnd b ns) (i : Int) : -b ≤ gi ns i ∧ gi ns i ≤ b := by
  unfold gi
  rw [List.getD_eq_getElem?_getD]
  cases e : ns[i.toNat]? with
  | none => exact ⟨by show -b ≤ 0; omega, by show (0 : Int) ≤ b; omega⟩
  | some z => exact h z (List.mem_of_getElem? e)
theorem pow_toNat {k : Nat} {i : Int} (h : i = (k : Int)) : (1 : Int) * 2 ^ i.toNat = ((2 ^ k : Nat) : Int) := by
  rw [h, Int.one_mul, Int.toNat_natCast, Int.natCast_pow] <;> rfl
/-- the table turned about -/
def turnM (ns : List Int) : List Int := (List.range ns.length).map fun g : Nat => gi ns ((ns.length : Int) - 1) - gi ns ((ns.length : Int) - 1 - (g : Int))
theorem turnM_len (ns : List Int) : (turnM ns).length = ns.length := by unfold turnM; rw [List.length_map, List.length_range]
theorem gi_map_range {n : Nat} {f : Nat → Int} {i : Int} (h0 : 0 ≤ i) (h : i < n) : gi ((List.range n).map f) i = f i.toNat := by
  unfold gi
  rw [List.getD_eq_getElem?_getD, List.getElem?_map, List.getElem?_range (by omega)] <;> rfl
theorem turnM_at {ns : List Int} {i : Int} (h0 : 0 ≤ i) (h : i < ns.length) : gi (turnM ns) i = gi ns ((ns.length : Int) - 1) - gi ns ((ns.length : Int) - 1 - i) := by
  unfold turnM
  rw [gi_map_range h0 h, Int.toNat_of_nonneg h0]
theorem gi_ext {ns ms : List Int} (hl : ns.length = ms.length) (h : ∀ i : Int, 0 ≤ i → i < ns.length → gi ns i = gi ms i) : ns = ms := by
  apply List.ext_getElem hl
  intro i h1 h2
  have := h (i : Int) (by omega) (by omega)
  unfold gi at this
  rw [Int.toNat_natCast, List.getD_eq_getElem?_getD, List.getD_eq_getElem?_getD, List.getElem?_eq_getElem h1, List.getElem?_eq_getElem h2] at this
  exact this
theorem Tab.pos {ns : List Int} {k : Nat} (h : Tab ns k) : 2 ≤ ns.length ∧ ns.length ≤ 64 := by
  rw [h.len]
  exact ⟨Nat.pow_le_pow_right (n := 2) (by decide) h.lo, Nat.pow_le_pow_right (n := 2) (by decide) h.hi⟩
theorem Tab.gi0 {ns : List Int} {k : Nat} (h : Tab ns k) : gi ns 0 = 0 := by
  unfold gi
  rw [List.getD_eq_getElem?_getD, show (0 : Int).toNat = 0 from rfl, h.zero] <;> rfl
theorem gi_zero {ns : List Int} (h : 0 < ns.length) (e : gi ns 0 = 0) : ns[0]? = some 0 := by
  unfold gi at e
  rw [List.getD_eq_getElem?_getD, show (0 : Int).toNat = 0 from rfl, List.getElem?_eq_getElem h] at e
  rw [List.getElem?_eq_getElem h]
  exact congrArg some e
theorem Tab.turn {ns : List Int} {k : Nat} (h : Tab ns k) : Tab (turnM ns) k := by
  have hp := h.pos
  refine ⟨by rw [turnM_len]; exact h.len, h.lo, h.hi, gi_zero (by rw [turnM_len]; omega) ?_⟩
  rw [turnM_at (by decide) (by omega)]
  simp
theorem turnM_turnM {ns : List Int} {k : Nat} (h : Tab ns k) : turnM (turnM ns) = ns := by
  have hp := h.pos
  refine gi_ext (by rw [turnM_len, turnM_len]) fun i h0 h1 => ?_
  rw [turnM_len, turnM_len] at h1
  rw [turnM_at h0 (by rw [turnM_len]; exact h1), turnM_len, turnM_at (by omega) (by omega), turnM_at (by omega) (by omega)]
  have e1 : (ns.length : Int) - 1 - ((ns.length : Int) - 1) = 0 := by omega
  have e2 : (ns.length : Int) - 1 - ((ns.length : Int) - 1 - i) = i := by omega
  rw [e1, e2, h.gi0]
  omega
theorem Tab.set {ns : List Int} {k : Nat} (h : Tab ns k) {j : Nat} {z : Int} (hj : 0 < j) : Tab (ns.set j z) k :=
  ⟨by rw [List.length_set]; exact h.len, h.lo, h.hi, by rw [List.getElem?_set_ne (by omega)]; exact h.zero⟩
theorem map_int_inj {ns ms : List Int} (h : ns.map V.int = ms.map V.int) : ns = ms := (List.map_inj_right (f := V.int) fun _ _ => V.int.inj).mp h
theorem Tab.same {ns : List Int} {j k : Nat} (h : Tab ns j) (h' : Tab ns k) : j = k := by
  have e : 2 ^ j = 2 ^ k := h.len.symm.trans h'.len
  rcases Nat.lt_trichotomy j k with l | l | l
  · have := Nat.pow_lt_pow_right (a := 2) (by decide) l; omega
  · exact l
  · have := Nat.pow_lt_pow_right (a := 2) (by decide) l; omega
end Sp

/-! Drw: what a law's draws are: sixty-four or more digits. -/
namespace Sp
open PySem PySem.Spec L2 PyProof.Rows
def baseN : Int := 100000000000000000039
def DrawnL (ds : List Int) : Prop := 64 ≤ ds.length ∧ ds.length ≤ 127 ∧ ∀ d ∈ ds, 0 ≤ d ∧ d < baseN
theorem drawn_app {ds : List Int} {x : Int} (h : ∀ d ∈ ds, 0 ≤ d ∧ d < baseN) (h0 : 0 ≤ x) (h1 : x < baseN) : ∀ d ∈ ds ++ [x], 0 ≤ d ∧ d < baseN := fun d hd => by
  rcases List.mem_append.mp hd with z | z
  · exact h d z
  · rw [List.mem_singleton] at z; subst z; exact ⟨h0, h1⟩
end Sp

/-! Sub: groups as numbers below 64, their parts, sums over parts, dividends. -/
namespace Sp
open PySem L2 PyProof.Rows
/-- hand h stands in group g -/
def bitOn (h g : Nat) : Bool := (g &&& 2 ^ h) != 0
theorem bit_facts : ∀ h, h < 6 → ∀ g, g < 64 → (bitOn h g = true → g ^^^ 2 ^ h < g ∧ bitOn h (g ^^^ 2 ^ h) = false) ∧ (∀ j, j < 6 → j ≠ h → bitOn j (g ^^^ 2 ^ h) = bitOn j g) := by decide +kernel
def stepD (h : Nat) (f : Nat → Int) : Nat → Int := fun g => if bitOn h g = true then f g - f (g ^^^ 2 ^ h) else f g
def stepE (h : Nat) (f : Nat → Int) : Nat → Int := fun g => if bitOn h g = true then f g + f (g ^^^ 2 ^ h) else f g
def allD : Nat → (Nat → Int) → Nat → Int
  | 0, f => f
  | k + 1, f => stepD k (allD k f)
def allE : Nat → (Nat → Int) → Nat → Int
  | 0, f => f
  | k + 1, f => stepE k (allE k f)
def On64 (f f' : Nat → Int) : Prop := ∀ g, g < 64 → f g = f' g
theorem On64.trans {f f' f'' : Nat → Int} (a : On64 f f') (b : On64 f' f'') : On64 f f'' := fun g h => (a g h).trans (b g h)
theorem On64.symm {f f' : Nat → Int} (a : On64 f f') : On64 f' f := fun g h => (a g h).symm
theorem stepD_on {h : Nat} (hh : h < 6) {f f' : Nat → Int} (e : On64 f f') : On64 (stepD h f) (stepD h f') := fun g hg => by
  unfold stepD
  by_cases c : bitOn h g = true
  · have := ((bit_facts h hh g hg).1 c).1
    rw [if_pos c, if_pos c, e g hg, e _ (by omega)]
  · rw [if_neg c, if_neg c, e g hg]
theorem stepE_on {h : Nat} (hh : h < 6) {f f' : Nat → Int} (e : On64 f f') : On64 (stepE h f) (stepE h f') := fun g hg => by
  unfold stepE
  by_cases c : bitOn h g = true
  · have := ((bit_facts h hh g hg).1 c).1
    rw [if_pos c, if_pos c, e g hg, e _ (by omega)]
  · rw [if_neg c, if_neg c, e g hg]
theorem stepED {h : Nat} (hh : h < 6) (f : Nat → Int) : On64 (stepE h (stepD h f)) f := fun g hg => by
  unfold stepE
  by_cases c : bitOn h g = true
  · have b := (bit_facts h hh g hg).1 c
    rw [if_pos c]
    unfold stepD
    rw [if_pos c, if_neg (by rw [b.2]; exact Bool.false_ne_true)]
    omega
  · rw [if_neg c]; unfold stepD; rw [if_neg c]
theorem stepDE {h : Nat} (hh : h < 6) (f : Nat → Int) : On64 (stepD h (stepE h f)) f := fun g hg => by
  unfold stepD
  by_cases c : bitOn h g = true
  · have b := (bit_facts h hh g hg).1 c
    rw [if_pos c]
    unfold stepE
    rw [if_pos c, if_neg (by rw [b.2]; exact Bool.false_ne_true)]
    omega
  · rw [if_neg c]; unfold stepE; rw [if_neg c]
theorem xor_swap (g a b : Nat) : (g ^^^ a) ^^^ b = (g ^^^ b) ^^^ a := by rw [Nat.xor_assoc, Nat.xor_comm a b, ← Nat.xor_assoc]
theorem step_comm {h j : Nat} (hh : h < 6) (hj : j < 6) (hne : j ≠ h) (f : Nat → Int) : On64 (stepE h (stepD j f)) (stepD j (stepE h f)) := fun g hg => by
  have bh := bit_facts h hh g hg
  have bj := bit_facts j hj g hg
  have e1 : bitOn j (g ^^^ 2 ^ h) = bitOn j g := bh.2 j hj hne
  have e2 : bitOn h (g ^^^ 2 ^ j) = bitOn h g := bj.2 h hh (Ne.symm hne)
  unfold stepE stepD
  simp only [e1, e2, xor_swap g (2 ^ j) (2 ^ h)]
  by_cases c : bitOn h g = true <;> by_cases d : bitOn j g = true <;> simp [c, d] <;> omega
theorem allE_comm {j : Nat} (hj : j < 6) (f : Nat → Int) : ∀ k, k ≤ j → On64 (allE k (stepD j f)) (stepD j (allE k f))
  | 0, _ => fun _ _ => rfl
  | k + 1, hk => by
    have ih := allE_comm hj f k (by omega)
    exact (stepE_on (by omega) ih).trans (step_comm (by omega) hj (by omega) (allE k f))
theorem allED (f : Nat → Int) : ∀ k, k ≤ 6 → On64 (allE k (allD k f)) f
  | 0, _ => fun _ _ => rfl
  | k + 1, hk => by
    have ih := allED f k (by omega)
    have c := allE_comm (j := k) (by omega) (allD k f) k (Nat.le_refl k)
    have a : On64 (allE (k + 1) (allD (k + 1) f)) (stepE k (stepD k (allE k (allD k f)))) := stepE_on (by omega) c
    exact (a.trans (stepED (by omega) _)).trans ih
theorem allD_comm {j : Nat} (hj : j < 6) (f : Nat → Int) : ∀ k, k ≤ j → On64 (allD k (stepE j f)) (stepE j (allD k f))
  | 0, _ => fun _ _ => rfl
  | k + 1, hk => by
    have ih := allD_comm hj f k (by omega)
    exact (stepD_on (by omega) ih).trans (step_comm hj (by omega) (by omega) (allD k f)).symm
theorem allDE (f : Nat → Int) : ∀ k, k ≤ 6 → On64 (allD k (allE k f)) f
  | 0, _ => fun _ _ => rfl
  | k + 1, hk => by
    have ih := allDE f k (by omega)
    have c := allD_comm (j := k) (by omega) (allE k f) k (Nat.le_refl k)
    have a : On64 (allD (k + 1) (allE (k + 1) f)) (stepD k (stepE k (allD k (allE k f)))) := stepD_on (by omega) c
    exact (a.trans (stepDE (by omega) _)).trans ih
/-! ### parts of a group, rising -/
def subs (g : Nat) : List Nat := (List.range 64).filter fun q => (q &&& g) == q
def partSum (f : Nat → Int) (g : Nat) : Int := ((subs g).map f).sum
def el : Nat → Nat → List Nat
  | 0, g => [g]
  | k + 1, g => if bitOn k g = true then el k (g ^^^ 2 ^ k) ++ el k g else el k g
theorem el_subs : ∀ k, k < 7 → ∀ g, g < 2 ^ k → el k g = subs g := by decide +kernel
theorem sum_app (a b : List Int) : (a ++ b).sum = a.sum + b.sum := List.sum_append
theorem allE_el (f : Nat → Int) : ∀ k g, allE k f g = ((el k g).map f).sum
  | 0, g => by show f g = ([g].map f).sum; simp
  | k + 1, g => by
    show stepE k (allE k f) g = _
    unfold stepE el
    by_cases c : bitOn k g = true
    · rw [if_pos c, if_pos c, List.map_append, sum_app, allE_el f k g, allE_el f k _]
      omega
    · rw [if_neg c, if_neg c, allE_el f k g]
theorem allE_sum (f : Nat → Int) {k g : Nat} (hk : k ≤ 6) (hg : g < 2 ^ k) : allE k f g = partSum f g := by
  rw [allE_el, el_subs k (by omega) g hg]
  rfl
/-- the parts but nobody, up to p -/
def someSubs (g p : Nat) : List Nat := (List.range (p + 1)).filter fun q => (q &&& g) == q && decide (0 < q)
theorem someSubs_step : ∀ g, g < 64 → ∀ p, p < 64 → (0 < p ∧ p &&& g = p) → someSubs g p = someSubs g ((p - 1) &&& g) ++ [p] ∧ (p - 1) &&& g < p ∧ ((p - 1) &&& g) &&& g = (p - 1) &&& g := by decide +kernel
theorem someSubs_all : ∀ g, g < 64 → subs g = 0 :: someSubs g g := by decide +kernel
theorem someSubs_zero (g : Nat) : someSubs g 0 = [] := by
  unfold someSubs
  rw [show List.range (0 + 1) = [0] from rfl]
  simp
def someSum (f : Nat → Int) (g p : Nat) : Int := ((someSubs g p).map f).sum
theorem someSum_step (f : Nat → Int) {g p : Nat} (hg : g < 64) (hp : p < 64) (h0 : 0 < p) (hs : p &&& g = p) : someSum f g p = someSum f g ((p - 1) &&& g) + f p := by
  unfold someSum
  rw [(someSubs_step g hg p hp ⟨h0, hs⟩).1, List.map_append, sum_app]
  simp
theorem partSum_some (f : Nat → Int) {g : Nat} (hg : g < 64) : partSum f g = f 0 + someSum f g g := by
  unfold partSum someSum
  rw [someSubs_all g hg, List.map_cons, List.sum_cons]
/-! ### lists by their places -/
/-- the list of f's values at 0 .. n - 1 -/
def tl (n : Nat) (f : Nat → Int) : List Int := (List.range n).map f
def fn (ns : List Int) : Nat → Int := fun g => gi ns (g : Int)
def divM (ns : List Int) (k : Nat) : List Int := tl ns.length (allD k (fn ns))
theorem tl_len (n : Nat) (f : Nat → Int) : (tl n f).length = n := by unfold tl; rw [List.length_map, List.length_range]
theorem gi_tl {n : Nat} {f : Nat → Int} {i : Int} (h0 : 0 ≤ i) (h : i < n) : gi (tl n f) i = f i.toNat := gi_map_range h0 h
theorem gi_tln {n : Nat} {f : Nat → Int} {i : Nat} (h : i < n) : gi (tl n f) (i : Int) = f i := by rw [gi_tl (by omega) (by omega), Int.toNat_natCast]
theorem tl_fn (ns : List Int) : tl ns.length (fn ns) = ns := by
  refine gi_ext (tl_len _ _) fun i h0 h1 => ?_
  rw [tl_len] at h1
  rw [gi_tl h0 h1]
  unfold fn
  rw [Int.toNat_of_nonneg h0]
theorem tl_congr {n : Nat} {f f' : Nat → Int} (h : ∀ i, i < n → f i = f' i) : tl n f = tl n f' := by
  unfold tl
  exact List.map_congr_left fun i hi => h i (List.mem_range.mp hi)
theorem tl_set {n : Nat} {f : Nat → Int} {j : Nat} {z : Int} (hj : j < n) : (tl n f).set j z = tl n fun i => if i = j then z else f i := by
  apply List.ext_getElem?
  intro i
  unfold tl
  by_cases e : j = i
  · subst e
    rw [List.getElem?_set_self (by rw [List.length_map, List.length_range]; exact hj), List.getElem?_map, List.getElem?_range hj]
    simp
  · rw [List.getElem?_set_ne e, List.getElem?_map, List.getElem?_map]
    cases h : (List.range n)[i]? with
    | none => rfl
    | some x =>
      have : x = i := by
        have hi := (List.getElem?_eq_some_iff.mp h).1
        rw [List.length_range] at hi
        rw [List.getElem?_range hi] at h
        exact (Option.some.inj h).symm
      subst this
      simp [Ne.symm e]
/-! ### bits of Python's ints -/
theorem and_nat (a b : Nat) : Builtin.bitAnd (a : Int) (b : Int) = ((a &&& b : Nat) : Int) := by rw [bitAnd_pp (by omega) (by omega), Int.toNat_natCast, Int.toNat_natCast]
theorem or_nat (a b : Nat) : Builtin.bitOr (a : Int) (b : Int) = ((a ||| b : Nat) : Int) := by rw [Bits.bitOr_pp (by omega) (by omega), Int.toNat_natCast, Int.toNat_natCast]
theorem xor_nat (a b : Nat) : Builtin.bitXor (a : Int) (b : Int) = ((a ^^^ b : Nat) : Int) := by rw [Bits.bitXor_pp (by omega) (by omega), Int.toNat_natCast, Int.toNat_natCast]
theorem shl_nat (h : Nat) : (1 : Int) * 2 ^ ((h : Int)).toNat = ((2 ^ h : Nat) : Int) := pow_toNat rfl
theorem bitOn_iff {h g : Nat} : (!decide (((g &&& 2 ^ h : Nat) : Int) = 0)) = bitOn h g := by
  unfold bitOn
  by_cases e : g &&& 2 ^ h = 0
  · rw [e]; rfl
  · rw [decide_eq_false (by omega), bne_iff_ne.mpr e] <;> rfl
/-- below 2 ^ k only the values below 2 ^ k are asked -/
theorem bit_cut : ∀ k, k < 7 → ∀ h, h < k → ∀ g, g < 2 ^ k → bitOn h g = true → g ^^^ 2 ^ h < 2 ^ k := by decide +kernel
theorem allE_cut' {k : Nat} (hk : k ≤ 6) {f f' : Nat → Int} (e : ∀ i, i < 2 ^ k → f i = f' i) : ∀ j, j ≤ k → ∀ g, g < 2 ^ k → allE j f g = allE j f' g
  | 0, _, g, hg => e g hg
  | j + 1, hj, g, hg => by
    show stepE j (allE j f) g = stepE j (allE j f') g
    unfold stepE
    by_cases c : bitOn j g = true
    · rw [if_pos c, if_pos c, allE_cut' hk e j (by omega) g hg, allE_cut' hk e j (by omega) _ (bit_cut k (by omega) j (by omega) g hg c)]
    · rw [if_neg c, if_neg c, allE_cut' hk e j (by omega) g hg]
theorem allE_cut {k : Nat} (hk : k ≤ 6) {f f' : Nat → Int} (e : ∀ i, i < 2 ^ k → f i = f' i) {g : Nat} (hg : g < 2 ^ k) : allE k f g = allE k f' g := allE_cut' hk e k (Nat.le_refl k) g hg
theorem allD_cut' {k : Nat} (hk : k ≤ 6) {f f' : Nat → Int} (e : ∀ i, i < 2 ^ k → f i = f' i) : ∀ j, j ≤ k → ∀ g, g < 2 ^ k → allD j f g = allD j f' g
  | 0, _, g, hg => e g hg
  | j + 1, hj, g, hg => by
    show stepD j (allD j f) g = stepD j (allD j f') g
    unfold stepD
    by_cases c : bitOn j g = true
    · rw [if_pos c, if_pos c, allD_cut' hk e j (by omega) g hg, allD_cut' hk e j (by omega) _ (bit_cut k (by omega) j (by omega) g hg c)]
    · rw [if_neg c, if_neg c, allD_cut' hk e j (by omega) g hg]
theorem allD_cut {k : Nat} (hk : k ≤ 6) {f f' : Nat → Int} (e : ∀ i, i < 2 ^ k → f i = f' i) {g : Nat} (hg : g < 2 ^ k) : allD k f g = allD k f' g := allD_cut' hk e k (Nat.le_refl k) g hg
/-! ### hands of a group -/
theorem bitOn_div : ∀ h, h < 6 → ∀ g, g < 64 → bitOn h g = decide (g / 2 ^ h % 2 = 1) := by decide +kernel
theorem bit_int {h g : Nat} (hh : h < 6) (hg : g < 64) : decide (Builtin.bitAnd ((g : Int) / 2 ^ ((h : Int)).toNat) 1 = 1) = bitOn h g := by
  rw [bitOn_div h hh g hg, bitAnd_m1, Int.toNat_natCast]
  have e : (g : Int) / 2 ^ h % 2 = ((g / 2 ^ h % 2 : Nat) : Int) := by
    rw [Int.natCast_emod, Int.natCast_ediv, Int.natCast_pow] <;> rfl
  rw [e]
  by_cases c : g / 2 ^ h % 2 = 1
  · rw [c]; rfl
  · rw [decide_eq_false c, decide_eq_false (by omega)]
def handsM (g : Nat) : List Nat := (List.range 6).filter fun h => bitOn h g
theorem filter_yes {p : Nat → Bool} {n : Nat} (h : p n = true) {α : Type} (f : Nat → α) : ((List.range (n + 1)).filter p).map f = ((List.range n).filter p).map f ++ [f n] := by
  rw [List.range_succ, List.filter_append, List.map_append, List.filter_cons, if_pos h] <;> rfl
theorem filter_no {p : Nat → Bool} {n : Nat} (h : p n = false) {α : Type} (f : Nat → α) : ((List.range (n + 1)).filter p).map f = ((List.range n).filter p).map f := by
  rw [List.range_succ, List.filter_append, List.map_append, List.filter_cons, if_neg (by rw [h]; exact Bool.false_ne_true)]
  show _ ++ [] = _
  rw [List.append_nil]
theorem filter_len (p : Nat → Bool) (n : Nat) : ((List.range n).filter p).length ≤ n := by
  have := List.length_filter_le p (List.range n)
  rw [List.length_range] at this
  exact this
/-- a list of naturals as Python's ints -/
abbrev vnat : Nat → V := fun n => .int (n : Int)
theorem vnat_map (l : List Nat) : l.map vnat = (l.map fun n : Nat => (n : Int)).map V.int := by rw [List.map_map] <;> rfl
theorem handsM_lt {g h : Nat} (hm : h ∈ handsM g) : h < 6 := by
  unfold handsM at hm
  exact List.mem_range.mp (List.mem_filter.mp hm).1
/-! ### spread: the hands of a group of blocks -/
def spreadTo (g : Nat) (bs : List Nat) : Nat → Nat
  | 0 => 0
  | i + 1 => if bitOn i g = true then spreadTo g bs i ||| bs.getD i 0 else spreadTo g bs i
def spreadM (g : Nat) (bs : List Nat) : Nat := spreadTo g bs bs.length
theorem spreadTo_step {g : Nat} {bs : List Nat} {i z : Nat} (h : bs[i]? = some z) : spreadTo g bs (i + 1) = if bitOn i g = true then spreadTo g bs i ||| z else spreadTo g bs i := by
  show (if bitOn i g = true then spreadTo g bs i ||| bs.getD i 0 else spreadTo g bs i) = _
  rw [List.getD_eq_getElem?_getD, h] <;> rfl
theorem map_at {α : Type} {f : α → V} {l : List α} {i : Nat} {x : V} (h : (l.map f)[i]? = some x) : ∃ z, l[i]? = some z ∧ x = f z := by
  rw [List.getElem?_map] at h
  cases e : l[i]? with
  | none => rw [e] at h; cases h
  | some z => rw [e] at h; exact ⟨z, rfl, (Option.some.inj h).symm⟩
theorem take_map {α β : Type} {l : List α} {i : Nat} {z : α} (h : l[i]? = some z) (f : α → β) : (l.take (i + 1)).map f = (l.take i).map f ++ [f z] := by
  rw [List.take_add_one, h, List.map_append] <;> rfl
theorem handsM_len (g : Nat) : (handsM g).length ≤ 6 := filter_len _ 6
theorem pow6 {n : Nat} (h : n ≤ 6) : 2 ^ n ≤ 64 := Nat.pow_le_pow_right (n := 2) (by decide) h
/-- the table cut to g -/
def cutM (ns : List Int) (g : Nat) : List Int := (List.range (2 ^ (handsM g).length)).map fun q => gi ns ((spreadM q ((handsM g).map (2 ^ ·)) : Nat) : Int)
theorem spread_le : ∀ {g : Nat}, g < 64 → ∀ q, q < 2 ^ (handsM g).length → spreadM q ((handsM g).map (2 ^ ·)) ≤ g := by decide +kernel
theorem at_mem {xs : List V} {i : Int} (h0 : 0 ≤ i) (h1 : i < xs.length) : ∃ v, atI xs i = some v ∧ v ∈ xs := by
  obtain ⟨n, rfl⟩ := Int.eq_ofNat_of_zero_le h0
  have hn : n < xs.length := by omega
  exact ⟨xs[n], atI_nat (List.getElem?_eq_getElem hn), List.getElem_mem hn⟩
theorem ixN_last {n : Nat} (h : 0 < n) : ixN n (-1) = some (n - 1) := by
  unfold ixN
  rw [if_neg (by decide), if_pos (by omega)]
  congr 1
  omega
theorem at_last {ns : List Int} (h : 0 < ns.length) : atI (ns.map V.int) (-1) = some (.int (gi ns ((ns.length : Int) - 1))) := by
  unfold atI
  rw [List.length_map, ixN_last h, Option.bind_some, List.getElem?_map, List.getElem?_eq_getElem (by omega)]
  unfold gi
  rw [List.getD_eq_getElem?_getD, show ((ns.length : Int) - 1).toNat = ns.length - 1 by omega, List.getElem?_eq_getElem (by omega)]
  rfl
theorem handsM_whole : ∀ k, k < 7 → (handsM (2 ^ k - 1)).length = k := by decide +kernel
theorem handsM_pos : ∀ g, g < 64 → 0 < g → 1 ≤ (handsM g).length := by decide +kernel
theorem spread_whole : ∀ k, k < 7 → ∀ q, q < 2 ^ k → spreadM q ((handsM (2 ^ k - 1)).map (2 ^ ·)) = q := by decide +kernel
theorem spread_nought : ∀ g, g < 64 → spreadM 0 ((handsM g).map (2 ^ ·)) = 0 := by decide +kernel
theorem cutM_len (ns : List Int) (g : Nat) : (cutM ns g).length = 2 ^ (handsM g).length := by unfold cutM; rw [List.length_map, List.length_range]
theorem cutM_tab {ns : List Int} {k g : Nat} (tb : Tab ns k) (h0 : 0 < g) (hg : g < ns.length) : Tab (cutM ns g) (handsM g).length := by
  have hp := tb.pos
  have h64 : g < 64 := by omega
  refine ⟨cutM_len _ _, handsM_pos g h64 h0, handsM_len g, gi_zero (by rw [cutM_len]; exact Nat.two_pow_pos _) ?_⟩
  unfold cutM
  rw [gi_map_range (by decide) (by have := Nat.two_pow_pos (handsM g).length; omega), show (0 : Int).toNat = 0 from rfl, spread_nought g h64]
  exact tb.gi0
theorem cutM_whole {ns : List Int} {k : Nat} (tb : Tab ns k) : cutM ns (ns.length - 1) = ns := by
  have e : (handsM (ns.length - 1)).length = k := by rw [tb.len]; exact handsM_whole k (by have := tb.hi; omega)
  refine gi_ext (by rw [cutM_len, e, tb.len]) fun i h0 h1 => ?_
  rw [cutM_len, e] at h1
  unfold cutM
  rw [gi_map_range h0 (by rw [e]; exact h1), tb.len, spread_whole k (by have := tb.hi; omega) i.toNat (by omega), Int.toNat_of_nonneg h0]
def sumSpread (q : Nat) (bs : List Nat) : Nat := (((List.range bs.length).filter fun j => bitOn j q).map fun j => bs.getD j 0).sum
theorem sumSpread_is : ∀ g, g < 64 → ∀ q, q < 2 ^ (handsM g).length → sumSpread q ((handsM g).map (2 ^ ·)) = spreadM q ((handsM g).map (2 ^ ·)) := by decide +kernel
theorem sum_cast (l : List Nat) : (l.map fun n : Nat => (n : Int)).sum = ((l.sum : Nat) : Int) := by
  induction l with
  | nil => rfl
  | cons x r ih => rw [List.map_cons, List.sum_cons, List.sum_cons, ih, Int.natCast_add]
end Sp

/-! Mg: a table with the hands of a group merged into one. -/
namespace Sp
open PySem PySem.Spec L2 PyProof.Rows
def leastM (g : Nat) : Nat := (handsM g).headD 0
def keepP (g h : Nat) : Bool := h == leastM g || !bitOn h g
def keptM (g k : Nat) : List Nat := (List.range k).filter (keepP g)
def blockOf (g h : Nat) : Nat := if h = leastM g then g else 2 ^ h
def blocksM (g k : Nat) : List Nat := (keptM g k).map (blockOf g)
def mergedM (ns : List Int) (g k : Nat) : List Int := (List.range (2 ^ (keptM g k).length)).map fun q => gi ns ((spreadM q (blocksM g k) : Nat) : Int)
def leftP (g k h : Nat) : Bool := decide (2 ^ h < 2 ^ k) && (h == leastM g || !decide (h ∈ handsM g))
def lawW (g q : Nat) (ls : List Nat) : Nat := if bitOn (leastM g) (sumSpread q (ls.map (2 ^ ·))) = true then sumSpread q (ls.map (2 ^ ·)) - 2 ^ leastM g + g else sumSpread q (ls.map (2 ^ ·))
def mgOne (g k q : Nat) : Bool := decide (spreadM q (blocksM g k) < 2 ^ k) && (lawW g q (keptM g k) == spreadM q (blocksM g k)) && (!bitOn (leastM g) (sumSpread q ((keptM g k).map (2 ^ ·))) || decide (2 ^ leastM g ≤ sumSpread q ((keptM g k).map (2 ^ ·)))) && decide (sumSpread q ((keptM g k).map (2 ^ ·)) < 64)
def mgOk (g k : Nat) : Bool := decide (1 ≤ (keptM g k).length) && ((List.range 6).filter (leftP g k) == keptM g k) && (spreadM 0 (blocksM g k) == 0) && (List.range (2 ^ (keptM g k).length)).all (mgOne g k)
theorem mgOk_all : ∀ k, k < 7 → ∀ g, g < 2 ^ k → 0 < g → mgOk g k = true := by decide +kernel
theorem mgF (k : Nat) (hk : k < 7) (g : Nat) (hg : g < 2 ^ k) (h0 : 0 < g) : 1 ≤ (keptM g k).length ∧ (List.range 6).filter (leftP g k) = keptM g k ∧ spreadM 0 (blocksM g k) = 0 ∧
    ∀ q, q < 2 ^ (keptM g k).length → spreadM q (blocksM g k) < 2 ^ k ∧ lawW g q (keptM g k) = spreadM q (blocksM g k) ∧ (bitOn (leastM g) (sumSpread q ((keptM g k).map (2 ^ ·))) = true → 2 ^ leastM g ≤ sumSpread q ((keptM g k).map (2 ^ ·))) ∧ sumSpread q ((keptM g k).map (2 ^ ·)) < 64 := by
  have h := mgOk_all k hk g hg h0
  unfold mgOk at h
  simp only [Bool.and_eq_true, decide_eq_true_eq, beq_iff_eq, List.all_eq_true] at h
  obtain ⟨⟨⟨a, b⟩, c⟩, d⟩ := h
  refine ⟨a, b, c, fun q hq => ?_⟩
  have h2 := d q (List.mem_range.mpr hq)
  unfold mgOne at h2
  simp only [Bool.and_eq_true, decide_eq_true_eq, beq_iff_eq, Bool.or_eq_true, Bool.not_eq_true'] at h2
  obtain ⟨⟨⟨a2, b2⟩, c2⟩, d2⟩ := h2
  refine ⟨a2, b2, fun e => ?_, d2⟩
  rcases c2 with c2 | c2
  · rw [e] at c2; cases c2
  · exact c2
theorem leastF : ∀ g, g < 64 → 0 < g → (handsM g)[0]? = some (leastM g) ∧ leastM g < 6 := by decide +kernel
theorem mgWhole : ∀ k, k < 7 → 1 ≤ k → keptM (2 ^ k - 1) k = [0] ∧ spreadM 0 (blocksM (2 ^ k - 1) k) = 0 ∧ spreadM 1 (blocksM (2 ^ k - 1) k) = 2 ^ k - 1 := by decide +kernel
theorem handsM_all : ∀ k, k < 7 → handsM (2 ^ k - 1) = List.range k := by decide +kernel
theorem keptM_len (g k : Nat) : (keptM g k).length ≤ k := filter_len _ k
theorem blocksM_len (g k : Nat) : (blocksM g k).length = (keptM g k).length := by unfold blocksM; rw [List.length_map]
theorem mergedM_len (ns : List Int) (g k : Nat) : (mergedM ns g k).length = 2 ^ (keptM g k).length := by unfold mergedM; rw [List.length_map, List.length_range]
theorem mergedM_tab {ns : List Int} {k g : Nat} (tb : Tab ns k) (h0 : 0 < g) (hg : g < ns.length) : Tab (mergedM ns g k) (keptM g k).length := by
  have hp := tb.pos
  obtain ⟨f1, _, f3, _⟩ := mgF k (by have := tb.hi; omega) g (by rw [← tb.len]; exact hg) h0
  refine ⟨mergedM_len _ _ _, f1, Nat.le_trans (keptM_len g k) tb.hi, gi_zero (by rw [mergedM_len]; exact Nat.two_pow_pos _) ?_⟩
  unfold mergedM
  rw [gi_map_range (by decide) (by have := Nat.two_pow_pos (keptM g k).length; omega), show (0 : Int).toNat = 0 from rfl, f3]
  exact tb.gi0
theorem mergedM_whole {ns : List Int} {k : Nat} (tb : Tab ns k) : mergedM ns (ns.length - 1) k = [0, gi ns ((ns.length : Int) - 1)] := by
  have hp := tb.pos
  obtain ⟨f1, f2, f3⟩ := mgWhole k (by have := tb.hi; omega) tb.lo
  unfold mergedM
  rw [tb.len, f1, show List.range (2 ^ [0].length) = [0, 1] from rfl]
  show [gi ns _, gi ns _] = _
  rw [f2, f3, show gi ns ((0 : Nat) : Int) = 0 from tb.gi0]
  have h2 : 1 ≤ 2 ^ k := Nat.two_pow_pos k
  congr 3
  omega
theorem bit_int0 {h g : Nat} (hh : h < 6) (hg : g < 64) : decide (Builtin.bitAnd ((g : Int) / 2 ^ ((h : Int)).toNat) 1 = 0) = !bitOn h g := by
  have e := bit_int hh hg
  rw [← e, bitAnd_m1]
  by_cases c : (g : Int) / 2 ^ ((h : Int)).toNat % 2 = 1
  · rw [c]; rfl
  · rw [decide_eq_false c, decide_eq_true (by omega)] <;> rfl
theorem range_at {n i z : Nat} (h : (List.range n)[i]? = some z) : z = i ∧ i < n := by
  obtain ⟨h1, h2⟩ := List.getElem?_eq_some_iff.mp h
  rw [List.length_range] at h1
  rw [List.getElem_range] at h2
  exact ⟨h2.symm, h1⟩
theorem keep_yes {g i : Nat} (h : keepP g i = true) : (((List.range (i + 1)).filter (keepP g)).map (blockOf g)).map vnat = (((List.range i).filter (keepP g)).map (blockOf g)).map vnat ++ [vnat (blockOf g i)] := by
  rw [List.range_succ, List.filter_append, List.map_append, List.map_append, List.filter_cons, if_pos h] <;> rfl
theorem keep_no {g i : Nat} (h : keepP g i = false) : (((List.range (i + 1)).filter (keepP g)).map (blockOf g)).map vnat = (((List.range i).filter (keepP g)).map (blockOf g)).map vnat := by
  rw [List.range_succ, List.filter_append, List.map_append, List.map_append, List.filter_cons, if_neg (by rw [h]; exact Bool.false_ne_true)]
  show _ ++ [] = _
  rw [List.append_nil]
def offOk (m h g : Nat) : Bool := bitOn h g || (decide (g ||| 2 ^ h = g + 2 ^ h) && decide (g + 2 ^ h < 2 ^ m))
theorem off_all : ∀ m, m < 7 → ∀ h, h < m → ∀ g, g < 2 ^ m → offOk m h g = true := by decide +kernel
theorem off_bit {m h g : Nat} (hm : m < 7) (hh : h < m) (hg : g < 2 ^ m) (hb : bitOn h g = false) : g ||| 2 ^ h = g + 2 ^ h ∧ g + 2 ^ h < 2 ^ m := by
  have e := off_all m hm h hh g hg
  unfold offOk at e
  rw [hb, Bool.false_or, Bool.and_eq_true, decide_eq_true_eq, decide_eq_true_eq] at e
  exact e
theorem bits_len : ∀ m, m < 7 → (List.range 6).filter (fun k => decide (2 ^ k < 2 ^ m)) = List.range m := by decide +kernel
theorem rep_flat (m : Nat) : (List.replicate m [V.int 0]).flatten = (List.replicate m (0 : Int)).map V.int := by
  induction m with
  | zero => rfl
  | succ m ih => rw [List.replicate_succ, List.replicate_succ, List.flatten_cons, List.map_cons, ih] <;> rfl
theorem rep_tl {m : Nat} {f : Nat → Int} (h : ∀ i, i < m → f i = 0) : List.replicate m (0 : Int) = tl m f := by
  unfold tl
  apply List.ext_getElem?
  intro i
  rw [List.getElem?_map, List.getElem?_replicate]
  by_cases hi : i < m
  · rw [if_pos hi, List.getElem?_range hi, Option.map_some, h i hi]
  · rw [if_neg hi, List.getElem?_eq_none (by rw [List.length_range]; omega)] <;> rfl
/-- the comprehension over a list of our own -/
theorem cp_listO {K : PySem.W.Frag} {B : Hp} {cs : Cells} {H : Hp} {σ : L2.St} {te : TE} {g : TG} {tt : TT} {vs : List Nat} {QD : Addr → Hp → Prop} {a : Addr} {xs : List V} (F : Nat → List V) (w : Own B cs H) (j : Nat) (hx : cs[j]? = some (a, .lst xs)) (h0 : F 0 = [])
    (hs : ∀ D i x H', xs[i]? = some x → PvC B cs D F i H' → g x (wipe σ vs) H' fun σ2 H2 => wipe σ2 vs = wipe σ vs ∧ tt σ2 H2 fun b H3 =>
      if b = true then te σ2 H3 fun y H4 => ∃ acc, H4 D = some (.lst acc) ∧ acc.length < sizeLine ∧ PvC B cs D F (i + 1) (upd H4 D (.lst (acc ++ [y]))) else PvC B cs D F (i + 1) H3)
    (hq : ∀ D H', Own B ((D, .lst (F xs.length)) :: cs) H' → QD D H') : ∀ D, H D = none → ∃ W : Nat → Nat → Hp → Prop, (∃ m, W 0 m (upd H D (.lst []))) ∧ ∀ i m H, W i m H →
      ((Itl K a).stop i H ∧ QD D H) ∨ ((Itl K a).go i H ∧ ∃ Nx : Hp → Prop, (∀ H', Nx H' → ∃ m', m' < m ∧ W (i + 1) m' H') ∧ ∀ x H', (Itl K a).yld i H x H' → g x (wipe σ vs) H' fun σ2 H2 => wipe σ2 vs = wipe σ vs ∧ tt σ2 H2 fun b H3 =>
        if b = true then te σ2 H3 fun y H4 => ∃ acc, H4 D = some (.lst acc) ∧ acc.length < sizeLine ∧ Nx (upd H4 D (.lst (acc ++ [y]))) else Nx H3) := fun D hD =>
  lc_list (PvC B cs D F) (by unfold PvC; rw [h0]; exact w.new hD) (fun i H' hi p => Own.sq p (j + 1) hx) (fun i x H' hi p => hs D i x H' hi p) (fun H' p => hq D H' p)
theorem cut_to {xs : List V} {i : Nat} : cutV xs none (some (i : Int)) = xs.take i := by
  unfold cutV
  rw [HT.sIx_none, HT.sIx_nat, List.drop_zero, Nat.sub_zero]
  by_cases h : i ≤ xs.length
  · rw [Nat.min_eq_left h]
  · rw [Nat.min_eq_right (by omega), List.take_of_length_le (Nat.le_refl _), List.take_of_length_le (by omega)]
theorem cut_from {xs : List V} {i : Nat} : cutV xs (some (i : Int)) none = xs.drop i := by
  unfold cutV
  rw [HT.sIx_none, HT.sIx_nat, List.take_of_length_le (by rw [List.length_drop]; omega)]
  by_cases h : i ≤ xs.length
  · rw [Nat.min_eq_left h]
  · rw [Nat.min_eq_right (by omega), List.drop_eq_nil_of_le (Nat.le_refl _), List.drop_eq_nil_of_le (by omega)]
/-- x not in a list of whole numbers -/
theorem inV_nat {h : Nat} : ∀ {ns : List Nat}, inV (.int (h : Int)) (ns.map vnat) = decide (h ∈ ns)
  | [] => rfl
  | n :: ns => by
    have ih := inV_nat (h := h) (ns := ns)
    unfold inV at ih ⊢
    rw [List.map_cons, List.any_cons, ih]
    show (((n : Int) == (h : Int)) || decide (h ∈ ns)) = _
    rw [Bool.eq_iff_iff]
    simp only [Bool.or_eq_true, beq_iff_eq, decide_eq_true_eq, List.mem_cons]
    constructor
    · rintro (e | e)
      · exact .inl (by omega)
      · exact .inr e
    · rintro (e | e)
      · exact .inl (by omega)
      · exact .inr e
theorem all_flat_nat : ∀ ns : List Nat, (ns.map vnat).all flatV = true
  | [] => rfl
  | n :: ns => by rw [List.map_cons, List.all_cons, all_flat_nat ns] <;> rfl
theorem x_notInN {K : PySem.W.Frag} {H : Hp} {Q : VK} {p : Addr} {h : Nat} {ns : List Nat} (hS : SqL K H p (ns.map vnat)) (q : Q (.bl (!decide (h ∈ ns))) H) : rIn K true (.int (h : Int)) (.ref p) H Q :=
  ⟨p, _, rfl, .inl hS, rfl, all_flat_nat ns, by rw [inV_nat]; exact q⟩
end Sp

/-! LinA: sums that are linear in a table's numbers, told by their coefficients. -/
namespace Sp
open PySem PySem.Spec L2 PyProof.Rows
abbrev LinF := List (Int × Nat)
def ev (T : Nat → Int) (L : LinF) : Int := (L.map fun p => p.1 * T p.2).sum
def co (L : LinF) (i : Nat) : Int := (L.map fun p => if p.2 = i then p.1 else 0).sum
theorem ev_cons (T : Nat → Int) (p : Int × Nat) (L : LinF) : ev T (p :: L) = p.1 * T p.2 + ev T L := by unfold ev; rw [List.map_cons, List.sum_cons]
theorem co_cons (p : Int × Nat) (L : LinF) (i : Nat) : co (p :: L) i = (if p.2 = i then p.1 else 0) + co L i := by unfold co; rw [List.map_cons, List.sum_cons]
theorem sum_app2 (a b : List Int) : (a ++ b).sum = a.sum + b.sum := by
  induction a with
  | nil => simp
  | cons x r ih => rw [List.cons_append, List.sum_cons, List.sum_cons, ih, Int.add_assoc]
theorem ev_app (T : Nat → Int) (L L' : LinF) : ev T (L ++ L') = ev T L + ev T L' := by unfold ev; rw [List.map_append, sum_app2]
theorem sum_add (f g : Nat → Int) : ∀ l : List Nat, (l.map fun i => f i + g i).sum = (l.map f).sum + (l.map g).sum
  | [] => rfl
  | x :: l => by rw [List.map_cons, List.map_cons, List.map_cons, List.sum_cons, List.sum_cons, List.sum_cons, sum_add f g l]; omega
theorem sum_zero : ∀ l : List Nat, (l.map fun _ => (0 : Int)).sum = 0
  | [] => rfl
  | x :: l => by rw [List.map_cons, List.sum_cons, sum_zero l] <;> rfl
theorem sum_one (c : Int) (T : Nat → Int) (j : Nat) : ∀ n, ((List.range n).map fun i => (if j = i then c else 0) * T i).sum = if j < n then c * T j else 0
  | 0 => by rw [if_neg (Nat.not_lt_zero j)] <;> rfl
  | n + 1 => by
    rw [List.range_succ, List.map_append, sum_app2, sum_one c T j n, List.map_cons, List.map_nil, List.sum_cons, List.sum_nil]
    by_cases h : j = n
    · subst h; rw [if_neg (Nat.lt_irrefl j), if_pos rfl, if_pos (Nat.lt_succ_self j)]; omega
    · rw [if_neg h]
      by_cases h2 : j < n
      · rw [if_pos h2, if_pos (by omega)]; omega
      · rw [if_neg h2, if_neg (by omega)]; omega
theorem ev_co (T : Nat → Int) (n : Nat) : ∀ L : LinF, (∀ p ∈ L, p.2 < n) → ev T L = ((List.range n).map fun i => co L i * T i).sum
  | [], _ => by
    show (0 : Int) = _
    rw [show ((List.range n).map fun i => co [] i * T i) = (List.range n).map fun _ => (0 : Int) from List.map_congr_left fun i _ => Int.zero_mul _, sum_zero]
  | p :: L, h => by
    rw [ev_cons, ev_co T n L fun q hq => h q (.tail _ hq)]
    rw [show ((List.range n).map fun i => co (p :: L) i * T i) = (List.range n).map fun i => (if p.2 = i then p.1 else 0) * T i + co L i * T i from List.map_congr_left fun i _ => by rw [co_cons, Int.add_mul]]
    rw [sum_add, sum_one, if_pos (h p (.head _))]
def sameL (n : Nat) (L L' : LinF) : Bool := L.all (fun p => decide (p.2 < n)) && L'.all (fun p => decide (p.2 < n)) && (List.range n).all fun i => decide (co L i = co L' i)
theorem ev_same {n : Nat} {L L' : LinF} (h : sameL n L L' = true) (T : Nat → Int) : ev T L = ev T L' := by
  unfold sameL at h
  simp only [Bool.and_eq_true, List.all_eq_true, decide_eq_true_eq] at h
  obtain ⟨⟨h1, h2⟩, h3⟩ := h
  rw [ev_co T n L h1, ev_co T n L' h2]
  congr 1
  exact List.map_congr_left fun i hi => by rw [h3 i hi]
theorem ev_congr {T T' : Nat → Int} {L : LinF} (h : ∀ p ∈ L, T p.2 = T' p.2) : ev T L = ev T' L := by
  unfold ev
  congr 1
  exact List.map_congr_left fun p hp => by rw [h p hp]
theorem ev_bump (T : Nat → Int) (j : Nat) : ∀ L : LinF, ev (fun i => if i = j then T i + 1 else T i) L = ev T L + co L j
  | [] => rfl
  | p :: L => by
    rw [ev_cons, ev_cons, co_cons, ev_bump T j L]
    by_cases h : p.2 = j
    · rw [if_pos h, if_pos h, Int.mul_add]; omega
    · rw [if_neg h, if_neg h]; omega
/-- L, read through s -/
def thr (s : Nat → Nat) (L : LinF) : LinF := L.map fun p => (p.1, s p.2)
theorem ev_thr (T : Nat → Int) (s : Nat → Nat) (L : LinF) : ev T (thr s L) = ev (fun i => T (s i)) L := by unfold ev thr; rw [List.map_map] <;> rfl
def offs (h n : Nat) : List Nat := (List.range n).filter fun g => !bitOn h g
def addsM (ms : List Int) (h : Nat) : List Int := (offs h ms.length).map fun g => fn ms (g + 2 ^ h) - fn ms g
end Sp

/-! Dp: == of nested data. -/
namespace Sp
open PySem PySem.Spec L2 PyProof.Rows
mutual
theorem eqv_self : ∀ d : PyData, d.canLay0 = true → PyData.eqv d d = true
  | .none, _ => by simp [PyData.eqv]
  | .bool b, _ => by simp [PyData.eqv]
  | .int i, _ => by simp [PyData.eqv]
  | .str x, _ => by simp [PyData.eqv]
  | .list xs, h => by
    rw [PyData.canLay0] at h
    rw [PyData.eqv]
    exact eqvAll_self xs h
  | .tuple xs, h => by
    rw [PyData.canLay0] at h
    rw [PyData.eqv]
    exact eqvAll_self xs h
  | .dict _, h => by rw [PyData.canLay0] at h; cases h
theorem eqvAll_self : ∀ ds : List PyData, PyData.canLayAll0 ds = true → PyData.eqvAll ds ds = true
  | [], _ => by simp [PyData.eqvAll]
  | d :: ds, h => by
    rw [PyData.canLayAll0, Bool.and_eq_true] at h
    rw [PyData.eqvAll, eqv_self d h.1, eqvAll_self ds h.2] <;> rfl
end
/-- laid without dicts, at most k deep -/
structure LayD (k : Nat) (d : PyData) : Prop where
  lay : d.canLay0 = true
  dep : d.depth ≤ k
theorem layAll : ∀ {k : Nat} {ds : List PyData}, (∀ d ∈ ds, LayD k d) → PyData.canLayAll0 ds = true ∧ PyData.depthAll ds ≤ k
  | k, [], _ => ⟨by simp [PyData.canLayAll0], by simp [PyData.depthAll]⟩
  | k, d :: ds, h => by
    have ⟨h1, h2⟩ := layAll fun x hx => h x (.tail _ hx)
    have h0 := h d (.head _)
    exact ⟨by rw [PyData.canLayAll0, h0.lay, h1] <;> rfl, by have := h0.dep; simp only [PyData.depthAll]; omega⟩
theorem LayD.int {k : Nat} (h : 1 ≤ k) (i : Int) : LayD k (.int i) := ⟨by simp [PyData.canLay0], by simp only [PyData.depth]; omega⟩
theorem LayD.bool {k : Nat} (h : 1 ≤ k) (b : Bool) : LayD k (.bool b) := ⟨by simp [PyData.canLay0], by simp only [PyData.depth]; omega⟩
theorem LayD.none {k : Nat} (h : 1 ≤ k) : LayD k .none := ⟨by simp [PyData.canLay0], by simp only [PyData.depth]; omega⟩
theorem LayD.str {k : Nat} (h : 1 ≤ k) {x : Str} (hx : PyData.strOk x = true) : LayD k (.str x) := ⟨by simpa [PyData.canLay0] using hx, by simp only [PyData.depth]; omega⟩
theorem LayD.list {k : Nat} {ds : List PyData} (h : ∀ d ∈ ds, LayD k d) : LayD (k + 1) (.list ds) := by
  have ⟨h1, h2⟩ := layAll h
  exact ⟨by rw [PyData.canLay0]; exact h1, by simp only [PyData.depth]; omega⟩
theorem LayD.tuple {k : Nat} {ds : List PyData} (h : ∀ d ∈ ds, LayD k d) : LayD (k + 1) (.tuple ds) := by
  have ⟨h1, h2⟩ := layAll h
  exact ⟨by rw [PyData.canLay0]; exact h1, by simp only [PyData.depth]; omega⟩
theorem LayD.ints {ns : List Int} : LayD 2 (.list (ns.map PyData.int)) := LayD.list fun d hd => by
  obtain ⟨n, _, rfl⟩ := List.mem_map.mp hd
  exact LayD.int (by decide) n
theorem LayD.shaped {k : Nat} {d : PyData} (h : LayD k d) (hk : k ≤ 64 := by decide) : SeqAt.shaped d = true := by
  unfold SeqAt.shaped
  rw [Bool.and_eq_true]
  exact ⟨h.lay, decide_eq_true (Nat.le_trans h.dep hk)⟩
section
variable {K : PySem.W.Frag} {H : Hp} {Q : VK} {x y : V} {d : PyData} {k : Nat}
theorem x_eqD (h1 : Dp K H x d) (h2 : Dp K H y d) (l : LayD k d) (q : Q (.bl true) H) (hk : k ≤ 64 := by decide) : rEqX K x y H Q :=
  .inr ⟨_, _, h1, h2, l.shaped hk, l.shaped hk, by rw [eqv_self d l.lay]; exact q⟩
theorem x_neD (h1 : Dp K H x d) (h2 : Dp K H y d) (l : LayD k d) (q : Q (.bl false) H) (hk : k ≤ 64 := by decide) : rNeX K x y H Q :=
  .inr ⟨_, _, h1, h2, l.shaped hk, l.shaped hk, by rw [eqv_self d l.lay]; exact q⟩
end
mutual
theorem Dp.same {K : PySem.W.Frag} {H H' : Hp} (s : Same H H') : ∀ (d : PyData) (v : V), Dp K H v d → Dp K H' v d
  | .none, _, h => by cases h; exact .non
  | .bool b, _, h => by cases h; exact .bl b
  | .int i, _, h => by cases h; exact .int i
  | .str x, _, h => by cases h; exact .str x
  | .list ds, _, h => by
    cases h with
    | lst h1 h2 => exact .lst (s.seq h1) (DpAll.same s ds _ h2)
  | .tuple ds, _, h => by
    cases h with
    | tup h1 h2 => exact .tup (same_sqT s h1) (DpAll.same s ds _ h2)
  | .dict _, _, h => by cases h
theorem DpAll.same {K : PySem.W.Frag} {H H' : Hp} (s : Same H H') : ∀ (ds : List PyData) (vs : List V), DpAll K H vs ds → DpAll K H' vs ds
  | [], _, h => by cases h; exact .nil
  | d :: ds, _, h => by
    cases h with
    | cons h1 h2 => exact .cons (Dp.same s d _ h1) (DpAll.same s ds _ h2)
end
theorem DpAll.app {K : PySem.W.Frag} {H : Hp} : ∀ {vs ws : List V} {ds es : List PyData}, DpAll K H vs ds → DpAll K H ws es → DpAll K H (vs ++ ws) (ds ++ es)
  | _, _, _, _, .nil, h => h
  | _, _, _, _, .cons h1 h2, h => .cons h1 (DpAll.app h2 h)
end Sp

/-! Gcd: the greatest divisor, fractions in their shortest words. -/
namespace Sp
open PySem PySem.Spec L2 PyProof.Rows
theorem x_par {i j : Nat} {ta : TA} {D : Ends} {σ : L2.St} {H : Hp} (h : ta σ H fun vs H1 => ∃ v w, vs = [v, w] ∧ D.nx ((σ.set i (some v)).set j (some w)) H1) : tPar i j ta D σ H := h
/-- numbers of at most B bits -/
def Bits (B : Nat) (a b : Int) : Prop := B ≤ 9000 ∧ a.natAbs < 2 ^ B ∧ b.natAbs < 2 ^ B
def gcdI (a b : Int) : Int := ((Int.gcd a b : Nat) : Int)
def shortM (a b : Int) : Int × Int := if 0 < b then (a / gcdI a b, b / gcdI a b) else (0 - a / gcdI a b, 0 - b / gcdI a b)
theorem gcd_step (x y : Nat) : Nat.gcd y (x % y) = Nat.gcd x y := by rw [Nat.gcd_comm y (x % y), ← Nat.gcd_rec, Nat.gcd_comm]
theorem halve {x y k : Nat} (h0 : 0 < y) (hxy : y ≤ x) (h : x * y < 2 ^ k) : y * (x % y) < 2 ^ (k - 1) ∧ 1 ≤ k := by
  have h1 : 1 ≤ x * y := Nat.mul_pos (by omega) h0
  have hk : 1 ≤ k := by
    rcases Nat.eq_zero_or_pos k with e | e
    · subst e; rw [Nat.pow_zero] at h; omega
    · exact e
  refine ⟨?_, hk⟩
  have e : 2 ^ k = 2 * 2 ^ (k - 1) := by rw [← Nat.pow_succ']; congr 1; omega
  have h2 : 2 * (x % y) ≤ x := by
    have := Nat.mod_lt x h0
    have h3 := Nat.div_add_mod x y
    have h4 : 1 ≤ x / y := (Nat.one_le_div_iff h0).mpr hxy
    have h5 : y * 1 ≤ y * (x / y) := Nat.mul_le_mul_left y h4
    omega
  have h6 : 2 * (y * (x % y)) ≤ x * y := by
    rw [← Nat.mul_assoc, Nat.mul_comm 2 y, Nat.mul_assoc, Nat.mul_comm x y]
    exact Nat.mul_le_mul_left y h2
  omega
theorem last2 (l : List Nat) (x y : Nat) : atI ((l ++ [x, y]).map vnat) (-1) = some (vnat y) ∧ atI ((l ++ [x, y]).map vnat) (-2) = some (vnat x) := by
  have hl : ((l ++ [x, y]).map vnat).length = l.length + 2 := by rw [List.length_map, List.length_append] <;> rfl
  constructor
  · unfold atI
    rw [hl, show ixN (l.length + 2) (-1) = some (l.length + 1) by unfold ixN; rw [if_neg (by decide), if_pos (by omega)]; congr 1; omega]
    rw [Option.bind_some, List.getElem?_map, List.getElem?_append_right (by omega), show l.length + 1 - l.length = 1 by omega] <;> rfl
  · unfold atI
    rw [hl, show ixN (l.length + 2) (-2) = some l.length by unfold ixN; rw [if_neg (by decide), if_pos (by omega)]; congr 1; omega]
    rw [Option.bind_some, List.getElem?_map, List.getElem?_append_right (by omega), Nat.sub_self] <;> rfl
theorem abs_nat (a : Int) : (if a < 0 then -a else a) = ((a.natAbs : Nat) : Int) := by
  by_cases h : a < 0
  · rw [if_pos h]; omega
  · rw [if_neg h]; omega
theorem gcd_pos {a b : Int} (h : b ≠ 0) : 0 < Int.gcd a b := Nat.gcd_pos_of_pos_right _ (by omega)
theorem gcd_le {a b : Int} (h : b ≠ 0) : Int.gcd a b ≤ b.natAbs := Nat.gcd_le_right _ (by omega)
theorem gcd_log {a b : Int} {B : Nat} (h : b ≠ 0) (hb : Bits B a b) : (gcdI a b).natAbs.log2 < 9000 := by
  obtain ⟨h1, _, h3⟩ := hb
  have h4 : B ≠ 0 := fun e => by rw [e, Nat.pow_zero] at h3; omega
  have h5 := gcd_le (a := a) h
  unfold gcdI
  rw [Int.natAbs_natCast]
  exact Nat.lt_of_lt_of_le (PySem.Flt.log2_lt_of (by omega) (Nat.lt_of_le_of_lt h5 h3)) h1
/-! ### what the shortest words are -/
theorem gcd_mul_div {a b : Int} (h : b ≠ 0) : gcdI a b * (a / gcdI a b) = a ∧ gcdI a b * (b / gcdI a b) = b := by
  unfold gcdI
  exact ⟨Int.mul_ediv_cancel' (Int.gcd_dvd_left ..), Int.mul_ediv_cancel' (Int.gcd_dvd_right ..)⟩
/-- a fraction in its shortest words -/
structure Frac (p q : Int) : Prop where
  pos : 0 < q
  one : Int.gcd p q = 1
theorem short_gcd {a b : Int} (h : b ≠ 0) : Int.gcd (a / gcdI a b) (b / gcdI a b) = 1 := by
  unfold gcdI
  exact Int.gcd_ediv_gcd_ediv_gcd (gcd_pos h)
theorem short_frac {a b : Int} (h : b ≠ 0) : Frac (shortM a b).1 (shortM a b).2 := by
  have hg : 0 < gcdI a b := by have := gcd_pos (a := a) h; unfold gcdI; omega
  have e := gcd_mul_div (a := a) h
  have h1 := short_gcd (a := a) h
  unfold shortM
  by_cases hb : 0 < b
  · rw [if_pos hb]
    exact ⟨Int.ediv_pos_of_pos_of_dvd hb (by omega) ⟨_, e.2.symm⟩, h1⟩
  · rw [if_neg hb]
    have h2 : 0 < 0 - b / gcdI a b := by
      have h3 : ¬ 0 ≤ b / gcdI a b := fun h4 => by
        have := Int.mul_nonneg (Int.le_of_lt hg) h4
        omega
      omega
    refine ⟨h2, ?_⟩
    rw [Int.zero_sub, Int.zero_sub, Int.gcd_neg, Int.neg_gcd]
    exact h1
theorem short_cross {a b : Int} (h : b ≠ 0) : (shortM a b).1 * b = a * (shortM a b).2 := by
  have e := gcd_mul_div (a := a) h
  unfold shortM
  have key : a / gcdI a b * b = a * (b / gcdI a b) := by
    have e1 : a / gcdI a b * b = a / gcdI a b * (gcdI a b * (b / gcdI a b)) := by rw [e.2]
    have e2 : a * (b / gcdI a b) = gcdI a b * (a / gcdI a b) * (b / gcdI a b) := by rw [e.1]
    rw [e1, e2, ← Int.mul_assoc, Int.mul_comm (a / gcdI a b) (gcdI a b)]
  by_cases hb : 0 < b
  · rw [if_pos hb]; exact key
  · rw [if_neg hb]
    show (0 - a / gcdI a b) * b = a * (0 - b / gcdI a b)
    rw [Int.sub_mul, Int.mul_sub, Int.zero_mul, Int.mul_zero, key]
theorem dvd_coprime {k m n : Int} (h : k ∣ m * n) (g : Int.gcd m k = 1) : k ∣ n := by
  have h1 : k.natAbs ∣ m.natAbs * n.natAbs := by rw [← Int.natAbs_mul]; exact Int.natAbs_dvd_natAbs.mpr h
  have h2 : Nat.Coprime k.natAbs m.natAbs := by rw [Nat.coprime_comm]; exact g
  exact Int.natAbs_dvd_natAbs.mp (h2.dvd_of_dvd_mul_left h1)
/-- only one pair of shortest words -/
theorem frac_unique {p q p' q' : Int} (f : Frac p q) (f' : Frac p' q') (h : p * q' = p' * q) : p = p' ∧ q = q' := by
  have d1 : q ∣ q' := by
    have : q ∣ p * q' := ⟨p', by rw [h, Int.mul_comm]⟩
    exact dvd_coprime this f.one
  have d2 : q' ∣ q := by
    have : q' ∣ p' * q := ⟨p, by rw [← h, Int.mul_comm]⟩
    exact dvd_coprime this f'.one
  have e : q = q' := Int.dvd_antisymm (Int.le_of_lt f.pos) (Int.le_of_lt f'.pos) d1 d2
  subst e
  exact ⟨Int.eq_of_mul_eq_mul_right (by have := f.pos; omega) h, rfl⟩
theorem short_eq {a b c d : Int} (hb : b ≠ 0) (hd : d ≠ 0) (h : a * d = c * b) : shortM a b = shortM c d := by
  have f1 := short_frac (a := a) hb
  have f2 := short_frac (a := c) hd
  have c1 := short_cross (a := a) hb
  have c2 := short_cross (a := c) hd
  have key : (shortM a b).1 * (shortM c d).2 = (shortM c d).1 * (shortM a b).2 := by
    refine Int.eq_of_mul_eq_mul_right (a := b * d) (Int.mul_ne_zero hb hd) ?_
    have l : (shortM a b).1 * (shortM c d).2 * (b * d) = ((shortM a b).1 * b) * ((shortM c d).2 * d) := by ac_rfl
    have r : (shortM c d).1 * (shortM a b).2 * (b * d) = ((shortM c d).1 * d) * ((shortM a b).2 * b) := by ac_rfl
    rw [l, r, c1, c2]
    have l2 : a * (shortM a b).2 * ((shortM c d).2 * d) = (a * d) * ((shortM a b).2 * (shortM c d).2) := by ac_rfl
    have r2 : c * (shortM c d).2 * ((shortM a b).2 * b) = (c * b) * ((shortM a b).2 * (shortM c d).2) := by ac_rfl
    rw [l2, r2, h]
  obtain ⟨e1, e2⟩ := frac_unique f1 f2 key
  exact Prod.ext e1 e2
end Sp

/-! Fra: lists of fractions, as tuples of their own. -/
namespace Sp
open PySem PySem.Spec L2 PyProof.Rows
abbrev frV (f : Int × Int) : List V := [.int f.1, .int f.2]
/-- ts hold the fractions fs -/
inductive FrAll (H : Hp) : List Addr → List (Int × Int) → Prop
  | nil : FrAll H [] []
  | cons {t : Addr} {ts : List Addr} {f : Int × Int} {fs : List (Int × Int)} : H t = some (.tup (frV f)) → FrAll H ts fs → FrAll H (t :: ts) (f :: fs)
theorem FrAll.same {H H' : Hp} (s : Same H H') : ∀ {ts : List Addr} {fs : List (Int × Int)}, FrAll H ts fs → FrAll H' ts fs
  | _, _, .nil => .nil
  | _, _, .cons h r => .cons (s _ _ h) (r.same s)
theorem FrAll.len {H : Hp} : ∀ {ts : List Addr} {fs : List (Int × Int)}, FrAll H ts fs → ts.length = fs.length
  | _, _, .nil => rfl
  | _, _, .cons _ r => by rw [List.length_cons, List.length_cons, r.len]
theorem FrAll.at {H : Hp} : ∀ {ts : List Addr} {fs : List (Int × Int)}, FrAll H ts fs → ∀ {i : Nat} {t : Addr}, ts[i]? = some t → ∃ f, fs[i]? = some f ∧ H t = some (.tup (frV f))
  | _, _, .nil, i, _, h => by rw [List.getElem?_nil] at h; cases h
  | _, _, .cons (f := f) h r, 0, t, e => ⟨f, rfl, by cases e; exact h⟩
  | _, _, .cons h r, i + 1, t, e => r.at (i := i) (by simpa using e)
theorem FrAll.mem {H : Hp} : ∀ {ts : List Addr} {fs : List (Int × Int)}, FrAll H ts fs → ∀ t ∈ ts, ∃ f, H t = some (.tup (frV f))
  | _, _, .cons (f := f) h r, t, m => by
    cases m with
    | head => exact ⟨f, h⟩
    | tail _ m => exact r.mem t m
theorem FrAll.snoc {H : Hp} {t : Addr} {f : Int × Int} (ht : H t = some (.tup (frV f))) : ∀ {ts : List Addr} {fs : List (Int × Int)}, FrAll H ts fs → FrAll H (ts ++ [t]) (fs ++ [f])
  | _, _, .nil => .cons ht .nil
  | _, _, .cons h r => .cons h (r.snoc ht)
theorem FrAll.congr {H H' : Hp} : ∀ {ts : List Addr} {fs : List (Int × Int)}, (∀ t ∈ ts, H' t = H t) → FrAll H ts fs → FrAll H' ts fs
  | _, _, _, .nil => .nil
  | _, _, e, .cons h r => .cons ((e _ (.head _)).trans h) (r.congr fun t m => e t (.tail _ m))
/-- a list of fractions is told -/
def RetFs (fs : List (Int × Int)) (H : Hp) (Q : VK) : Prop := ∀ (p : Addr) (ts : List Addr) (H' : Hp), H p = none → (∀ t ∈ ts, H t = none) → Same H H' → H' p = some (.lst (ts.map V.ref)) → FrAll H' ts fs → Q (.ref p) H'
/-- the tuples join what stands and stays -/
theorem own_newF {B H H' : Hp} {cs : Cells} {p : Addr} {ts : List Addr} {fs : List (Int × Int)} (w : Own B cs H) (np : H p = none) (nt : ∀ t ∈ ts, H t = none) (s : Same H H') (c : H' p = some (.lst (ts.map V.ref))) (f : FrAll H' ts fs) :
    ∃ B2, Same B B2 ∧ FrAll B2 ts fs ∧ Own B2 ((p, .lst (ts.map V.ref)) :: cs) H' := by
  classical
  have hB : ∀ t, H t = none → B t = none := fun t h => w.fresh h
  have npt : p ∉ ts := fun m => by
    obtain ⟨g, hg⟩ := f.mem p m
    rw [c] at hg; cases hg
  refine ⟨fun a => if a ∈ ts then H' a else B a, ?_, ?_, ?_, ?_, ?_⟩
  · intro a o h
    have : a ∉ ts := fun m => by rw [hB a (nt a m)] at h; cases h
    show (if a ∈ ts then H' a else B a) = some o
    rw [if_neg this]; exact h
  · exact f.congr fun t m => by
      show (if t ∈ ts then H' t else B t) = _
      rw [if_pos m]
  · intro a o h
    dsimp only at h
    by_cases m : a ∈ ts
    · rw [if_pos m] at h; exact h
    · rw [if_neg m] at h; exact s _ _ (w.ex _ _ h)
  · intro q hq
    cases hq with
    | head =>
      refine ⟨c, ?_⟩
      show (if p ∈ ts then H' p else B p) = none
      rw [if_neg npt]; exact hB p np
    | tail _ hq =>
      obtain ⟨h1, h2⟩ := w.cell q hq
      refine ⟨s _ _ h1, ?_⟩
      have : q.1 ∉ ts := fun m => by rw [nt _ m] at h1; cases h1
      show (if q.1 ∈ ts then H' q.1 else B q.1) = none
      rw [if_neg this]; exact h2
  · rw [List.map_cons, List.nodup_cons]
    exact ⟨w.off np, w.nd⟩
/-- what stands in a comprehension that makes fractions, one for each item -/
structure OwnF (B : Hp) (cs : Cells) (D : Addr) (fs : List (Int × Int)) (H : Hp) : Prop where
  own : ∃ ts : List Addr, Own B ((D, .lst (ts.map V.ref)) :: cs) H ∧ (∀ t ∈ ts, B t = none ∧ t ∉ cs.map (·.1)) ∧ FrAll H ts fs
theorem OwnF.ext {B : Hp} {cs : Cells} {D : Addr} {fs : List (Int × Int)} {H H' : Hp} (o : OwnF B cs D fs H) (s : Same H H') : OwnF B cs D fs H' := by
  obtain ⟨ts, w, n, f⟩ := o.own
  exact ⟨ts, w.ext s, n, f.same s⟩
theorem OwnF.cell {B : Hp} {cs : Cells} {D : Addr} {fs : List (Int × Int)} {H : Hp} (o : OwnF B cs D fs H) : Own B cs H := by
  obtain ⟨ts, w, _⟩ := o.own
  exact w.pop
theorem OwnF.step {B : Hp} {cs : Cells} {D t : Addr} {fs : List (Int × Int)} {f : Int × Int} {H H' : Hp} (o : OwnF B cs D fs H) (hl : fs.length < 1000000) (nt : H t = none) (s : Same H H') (c : H' t = some (.tup (frV f))) :
    ∃ acc, H' D = some (.lst acc) ∧ acc.length < sizeLine ∧ OwnF B cs D (fs ++ [f]) (upd H' D (.lst (acc ++ [.ref t]))) := by
  obtain ⟨ts, w, n, fr⟩ := o.own
  have w' := w.ext s
  have fr' := fr.same s
  refine ⟨ts.map V.ref, w'.get 0 rfl, by rw [List.length_map, fr.len]; exact Nat.lt_of_lt_of_le hl (by decide), ts ++ [t], ?_, ?_, ?_⟩
  · have w2 := w'.put (o' := .lst (ts.map V.ref ++ [.ref t])) 0 rfl
    rw [List.map_append]
    exact w2
  · intro a m
    rcases List.mem_append.mp m with m | m
    · exact n a m
    · rw [List.mem_singleton] at m
      subst m
      exact ⟨w.fresh nt, w.pop.off nt⟩
  · have hD : ∀ a, (∃ g, H' a = some (.tup (frV g))) → a ≠ D := fun a ⟨g, hg⟩ e => by
      subst e
      rw [w'.get 0 rfl] at hg; cases hg
    refine (fr'.snoc c).congr fun a m => ?_
    have : ∃ g, H' a = some (.tup (frV g)) := by
      rcases List.mem_append.mp m with m | m
      · exact fr'.mem a m
      · rw [List.mem_singleton] at m
        subst m
        exact ⟨f, c⟩
    exact upd_ne (hD a this)
theorem OwnF.start {B H : Hp} {cs : Cells} {D : Addr} (w : Own B cs H) (n : H D = none) : OwnF B cs D [] (upd H D (.lst [])) := ⟨[], w.new n, fun _ h => (nomatch h), .nil⟩
/-- at the end: told, seen from H -/
theorem OwnF.ret {H H' : Hp} {D : Addr} {fs : List (Int × Int)} {Q : VK} (o : OwnF H [] D fs H') (k : RetFs fs H Q) : Q (.ref D) H' := by
  obtain ⟨ts, w, n, f⟩ := o.own
  exact k D ts H' (w.none 0 rfl) (fun t m => (n t m).1) w.ex (w.get 0 rfl) f
theorem OwnF.next {B : Hp} {cs : Cells} {D t : Addr} {fs : List (Int × Int)} {f : Int × Int} {i : Nat} {H H' : Hp} (o : OwnF B cs D (fs.take i) H) (hf : fs[i]? = some f) (hl : fs.length < 1000000) (nt : H t = none) (s : Same H H') (c : H' t = some (.tup (frV f))) :
    ∃ acc, H' D = some (.lst acc) ∧ acc.length < sizeLine ∧ OwnF B cs D (fs.take (i + 1)) (upd H' D (.lst (acc ++ [.ref t]))) := by
  have e : fs.take (i + 1) = fs.take i ++ [f] := by rw [List.take_add_one, hf] <;> rfl
  rw [e]
  exact o.step (by rw [List.length_take]; omega) nt s c
/-- the comprehension over a list of our own, that makes a fraction of each item -/
theorem cp_frO {K : PySem.W.Frag} {B : Hp} {cs : Cells} {H : Hp} {σ : L2.St} {te : TE} {g : TG} {tt : TT} {vs : List Nat} {QD : Addr → Hp → Prop} {a : Addr} {xs : List V} (fs : List (Int × Int)) (w : Own B cs H) (j : Nat) (hx : cs[j]? = some (a, .lst xs)) (hl : xs.length = fs.length)
    (hs : ∀ D i x f H', xs[i]? = some x → fs[i]? = some f → OwnF B cs D (fs.take i) H' → g x (wipe σ vs) H' fun σ2 H2 => wipe σ2 vs = wipe σ vs ∧ tt σ2 H2 fun b H3 =>
      if b = true then te σ2 H3 fun y H4 => ∃ acc, H4 D = some (.lst acc) ∧ acc.length < sizeLine ∧ OwnF B cs D (fs.take (i + 1)) (upd H4 D (.lst (acc ++ [y]))) else OwnF B cs D (fs.take (i + 1)) H3)
    (hq : ∀ D H', OwnF B cs D fs H' → QD D H') : ∀ D, H D = none → ∃ W : Nat → Nat → Hp → Prop, (∃ m, W 0 m (upd H D (.lst []))) ∧ ∀ i m H, W i m H →
      ((Itl K a).stop i H ∧ QD D H) ∨ ((Itl K a).go i H ∧ ∃ Nx : Hp → Prop, (∀ H', Nx H' → ∃ m', m' < m ∧ W (i + 1) m' H') ∧ ∀ x H', (Itl K a).yld i H x H' → g x (wipe σ vs) H' fun σ2 H2 => wipe σ2 vs = wipe σ vs ∧ tt σ2 H2 fun b H3 =>
        if b = true then te σ2 H3 fun y H4 => ∃ acc, H4 D = some (.lst acc) ∧ acc.length < sizeLine ∧ Nx (upd H4 D (.lst (acc ++ [y]))) else Nx H3) := fun D hD =>
  lc_list (fun i H => OwnF B cs D (fs.take i) H) (OwnF.start w hD) (fun i H' hi p => Own.sq p.cell j hx) (fun i x H' hi p => by
    have hlt : i < fs.length := by rw [← hl]; exact (List.getElem?_eq_some_iff.mp hi).1
    exact hs D i x fs[i] H' hi (List.getElem?_eq_getElem hlt) p) (fun H' p => hq D H' (by rw [hl, List.take_length] at p; exact p))
/-! ### their data -/
def frD (fs : List (Int × Int)) : PyData := .list (fs.map fun f => .tuple [.int f.1, .int f.2])
theorem dpAll_fr {K : PySem.W.Frag} {H : Hp} : ∀ {ts : List Addr} {fs : List (Int × Int)}, FrAll H ts fs → DpAll K H (ts.map V.ref) (fs.map fun f => .tuple [.int f.1, .int f.2])
  | _, _, .nil => .nil
  | _, _, .cons h r => .cons (.tup (SqT.of h) (.cons (.int _) (.cons (.int _) .nil))) (dpAll_fr r)
theorem dp_fr {K : PySem.W.Frag} {H : Hp} {p : Addr} {ts : List Addr} {fs : List (Int × Int)} (h : SqL K H p (ts.map V.ref)) (f : FrAll H ts fs) : Dp K H (.ref p) (frD fs) := .lst h (dpAll_fr f)
theorem lay_fr (fs : List (Int × Int)) : LayD 3 (frD fs) := LayD.list fun d hd => by
  obtain ⟨f, _, rfl⟩ := List.mem_map.mp hd
  refine LayD.tuple fun e he => ?_
  simp only [List.mem_cons, List.not_mem_nil, or_false] at he
  rcases he with rfl | rfl
  · exact LayD.int (by decide) _
  · exact LayD.int (by decide) _
end Sp

/-! Frq: what is a fraction, asked of any thing. -/
namespace Sp
open PySem PySem.Spec L2 PyProof.Rows
theorem x_asgT {K : PySem.W.Frag} {te : TE} {n : Nat} {gs : TGs} {D : Ends} {σ : L2.St} {H : Hp} (h : te σ H fun x H1 => gTup K n gs x σ H1 fun σ2 H2 => D.nx σ2 H2) : tAsg te (gTup K n gs) D σ H := h
def isTp (H : Hp) (v : V) : Prop := ∃ a xs, v = .ref a ∧ Rd H a (.tup xs)
theorem x_isiTupN {K : PySem.W.Frag} {H : Hp} {Q : VK} {v : V} (h : Thing H v) (n : ¬ isTp H v) (q : Q (.bl false) H) : rIsi K [v, .ty "tuple"] H Q := by
  cases h with
  | non => exact ⟨_, .ty "tuple", _, _, _, rfl, .ty _, .base .non, kit_ty (by decide +kernel), q⟩
  | bl b => exact ⟨_, .ty "tuple", _, _, _, rfl, .ty _, .base (.bl b), kit_ty (by decide +kernel), q⟩
  | int i => exact ⟨_, .ty "tuple", _, _, _, rfl, .ty _, .base (.int i), kit_ty (by decide +kernel), q⟩
  | str x => exact ⟨_, .ty "tuple", _, _, _, rfl, .ty _, .base (.str x), kit_ty (by decide +kernel), q⟩
  | lst e =>
    rcases e with e | ⟨o, e⟩
    · exact ⟨_, .ty "tuple", _, _, _, rfl, .ty _, .base (.lst e), kit_ty (by decide +kernel), q⟩
    · exact ⟨_, .ty "tuple", _, _, _, rfl, .ty _, .base (.frz e), kit_ty (by decide +kernel), q⟩
  | tup e => exact absurd ⟨_, _, rfl, e⟩ n
  | dic e => exact ⟨_, .ty "tuple", _, _, _, rfl, .ty _, .base (.dK e), kit_ty (by decide +kernel), q⟩
/-- is it a fraction -/
inductive FrT (H : Hp) : V → Bool → Prop
  | no {v : V} (h : Thing H v) (n : ¬ isTp H v) : FrT H v false
  | len {a : Addr} {xs : List V} (h : Rd H a (.tup xs)) (n : xs.length ≠ 2) : FrT H (.ref a) false
  | two {a : Addr} {x y : V} (h : Rd H a (.tup [x, y])) (hx : Thing H x) (hy : Thing H y) (n : isI x = false ∨ isI y = false) : FrT H (.ref a) false
  | num {a : Addr} {p q : Int} {B : Nat} (h : Rd H a (.tup [.int p, .int q])) (hB : Bits B p q) : FrT H (.ref a) (decide (1 ≤ q) && decide (Int.gcd p q = 1))
theorem isTp_same {H H' : Hp} {v : V} (s : Same H H') (h : Thing H v) (n : ¬ isTp H v) : ¬ isTp H' v := fun ⟨a, xs, e, hr⟩ => by
  subst e
  cases h with
  | lst h =>
    have h2 := rd_same s h
    rcases h2 with h2 | ⟨o, h2⟩
    · rcases hr with hr | ⟨o', hr⟩ <;> rw [h2] at hr <;> cases hr
    · rcases hr with hr | ⟨o', hr⟩ <;> rw [h2] at hr <;> cases hr
  | tup h => exact n ⟨a, _, rfl, h⟩
  | dic h =>
    have h2 := s _ _ h
    rcases hr with hr | ⟨o', hr⟩ <;> rw [h2] at hr <;> cases hr
theorem FrT.same {H H' : Hp} {v : V} {b : Bool} (s : Same H H') (h : FrT H v b) : FrT H' v b := by
  cases h with
  | no h n => exact .no (h.same s) (isTp_same s h n)
  | len h n => exact .len (rd_same s h) n
  | two h hx hy n => exact .two (rd_same s h) (hx.same s) (hy.same s) n
  | num h hB => exact .num (rd_same s h) hB
theorem short_bits {a b : Int} {B : Nat} (h : Bits B a b) (h0 : b ≠ 0) : Bits B (shortM a b).1 (shortM a b).2 := by
  obtain ⟨h1, h2, h3⟩ := h
  have hd : ∀ x g : Int, (x / g).natAbs ≤ x.natAbs := fun x g => Int.natAbs_ediv_le_natAbs x g
  have ha := hd a (gcdI a b)
  have hb := hd b (gcdI a b)
  unfold shortM
  by_cases c : 0 < b
  · rw [if_pos c]
    exact ⟨h1, Nat.lt_of_le_of_lt ha h2, Nat.lt_of_le_of_lt hb h3⟩
  · rw [if_neg c]
    refine ⟨h1, ?_, ?_⟩
    · show (0 - a / gcdI a b).natAbs < _
      omega
    · show (0 - b / gcdI a b).natAbs < _
      omega
/-! ### sums and products -/
def plusF (f g : Int × Int) : Int × Int := shortM (f.1 * g.2 + g.1 * f.2) (f.2 * g.2)
theorem low_is {a b : Int} (h1 : 0 < a) (h2 : 0 < b) : ∃ u v : Int, 0 < u ∧ 0 < v ∧ a / gcdI a b * b = a * v ∧ a / gcdI a b * b = b * u ∧ u ≤ a ∧ v ≤ b := by
  obtain ⟨e1, e2⟩ := gcd_mul_div (a := a) (show b ≠ 0 by omega)
  have hg : 0 < gcdI a b := by have := gcd_pos (a := a) (show b ≠ 0 by omega); unfold gcdI; omega
  have hu : 0 < a / gcdI a b := Int.ediv_pos_of_pos_of_dvd h1 (by omega) ⟨_, e1.symm⟩
  have hv : 0 < b / gcdI a b := Int.ediv_pos_of_pos_of_dvd h2 (by omega) ⟨_, e2.symm⟩
  refine ⟨a / gcdI a b, b / gcdI a b, hu, hv, ?_, Int.mul_comm _ _, ?_, ?_⟩
  · have l : a / gcdI a b * b = a / gcdI a b * (gcdI a b * (b / gcdI a b)) := by rw [e2]
    have r : a * (b / gcdI a b) = gcdI a b * (a / gcdI a b) * (b / gcdI a b) := by rw [e1]
    rw [l, r, ← Int.mul_assoc, Int.mul_comm (a / gcdI a b) (gcdI a b)]
  · exact Int.ediv_le_self _ (by omega)
  · exact Int.ediv_le_self _ (by omega)
theorem plus_low {f g : Int × Int} (h1 : 0 < f.2) (h2 : 0 < g.2) :
    shortM (f.2 / gcdI f.2 g.2 * g.2 / f.2 * f.1 + f.2 / gcdI f.2 g.2 * g.2 / g.2 * g.1) (f.2 / gcdI f.2 g.2 * g.2) = plusF f g ∧ f.2 / gcdI f.2 g.2 * g.2 ≠ 0 := by
  obtain ⟨u, v, hu, hv, e1, e2, _, _⟩ := low_is h1 h2
  have hl : 0 < f.2 * v := Int.mul_pos h1 hv
  have d1 : f.2 / gcdI f.2 g.2 * g.2 / f.2 = v := by rw [e1]; exact Int.mul_ediv_cancel_left _ (by omega)
  have d2 : f.2 / gcdI f.2 g.2 * g.2 / g.2 = u := by rw [e2]; exact Int.mul_ediv_cancel_left _ (by omega)
  rw [d1, d2]
  have ne : f.2 / gcdI f.2 g.2 * g.2 ≠ 0 := by rw [e1]; omega
  refine ⟨short_eq ne (Int.mul_ne_zero (by omega) (by omega)) ?_, ne⟩
  rw [Int.add_mul, Int.add_mul]
  congr 1
  · rw [e1]; ac_rfl
  · rw [e2]; ac_rfl
def Fb (B : Nat) (f : Int × Int) : Prop := f.1.natAbs < 2 ^ B ∧ f.2.natAbs < 2 ^ B ∧ 0 < f.2
theorem log_of {z : Int} {B : Nat} (h0 : 0 < z) (h : z.natAbs < 2 ^ B) (hB : B ≤ 9000) : z.natAbs.log2 < 9000 := by
  have h4 : B ≠ 0 := fun e => by rw [e, Nat.pow_zero] at h; omega
  exact Nat.lt_of_lt_of_le (PySem.Flt.log2_lt_of (by omega) h) hB
theorem Fb.pos {B : Nat} {f : Int × Int} (h : Fb B f) : 0 < B := Nat.pos_of_ne_zero fun e => by
  obtain ⟨_, h2, h3⟩ := h
  rw [e, Nat.pow_zero] at h2; omega
theorem mul_lt {a b : Int} {n m : Nat} (ha : a.natAbs < 2 ^ n) (hb : b.natAbs < 2 ^ m) : (a * b).natAbs < 2 ^ (n + m) := by
  rw [Int.natAbs_mul, Nat.pow_add]
  exact Nat.mul_lt_mul'' ha hb
end Sp

/-! Mean: what the hands get of the dividends, each group's shared alike, over sixty. -/
namespace Sp
open PySem PySem.Spec L2 PyProof.Rows
def wt (g : Nat) : Int := ((60 / (handsM g).length : Nat) : Int)
def topsF (ds : List Int) (n h : Nat) : Int := ((List.range n).map fun g => if bitOn h g = true then fn ds g * wt g else 0).sum
theorem topsF_succ (ds : List Int) (n h : Nat) : topsF ds (n + 1) h = topsF ds n h + if bitOn h n = true then fn ds n * wt n else 0 := by
  unfold topsF
  rw [List.range_succ, List.map_append, List.sum_append] <;> simp
theorem topsF_one (ds : List Int) {h : Nat} (hh : h < 6) : topsF ds 1 h = 0 := by
  rw [show (1 : Nat) = 0 + 1 from rfl, topsF_succ]
  have : bitOn h 0 = false := (by decide : ∀ h, h < 6 → bitOn h 0 = false) h hh
  rw [this]
  rfl
/-- within group g, behind the first j hands -/
def topsG (ds : List Int) (g j h : Nat) : Int := topsF ds g h + if h ∈ (handsM g).take j then fn ds g * wt g else 0
theorem mem_hands {g h : Nat} (hh : h < 6) : h ∈ handsM g ↔ bitOn h g = true := by
  unfold handsM
  rw [List.mem_filter, List.mem_range]
  exact ⟨fun z => z.2, fun z => ⟨hh, z⟩⟩
theorem topsG_zero (ds : List Int) (g h : Nat) : topsG ds g 0 h = topsF ds g h := by
  unfold topsG
  rw [List.take_zero, if_neg (by simp)]
  omega
theorem topsG_all (ds : List Int) (g : Nat) {h : Nat} (hh : h < 6) : topsG ds g (handsM g).length h = topsF ds (g + 1) h := by
  unfold topsG
  rw [List.take_length, topsF_succ]
  congr 1
  by_cases c : bitOn h g = true
  · rw [if_pos c, if_pos ((mem_hands hh).mpr c)]
  · rw [if_neg c, if_neg (fun z => c ((mem_hands hh).mp z))]
theorem hands_nodup (g : Nat) : (handsM g).Nodup := List.Sublist.nodup (List.filter_sublist ..) List.nodup_range
theorem topsG_step (ds : List Int) {g j z : Nat} (hz : (handsM g)[j]? = some z) (h : Nat) :
    topsG ds g (j + 1) h = if h = z then topsG ds g j z + fn ds g * wt g else topsG ds g j h := by
  have hn : z ∉ (handsM g).take j := fun hm => by
    have h1 : ((handsM g).take (j + 1)).Nodup := (List.take_sublist _ _).nodup (hands_nodup g)
    rw [List.take_add_one, hz, List.nodup_append] at h1
    exact h1.2.2 z hm z (by simp) rfl
  unfold topsG
  rw [List.take_add_one, hz]
  by_cases e : h = z
  · subst e
    rw [if_pos rfl, if_neg hn, if_pos (by simp)]
    omega
  · rw [if_neg e]
    congr 1
    by_cases c : h ∈ (handsM g).take j
    · rw [if_pos c, if_pos (List.mem_append.mpr (.inl c))]
    · rw [if_neg c, if_neg (fun m => by
        rcases List.mem_append.mp m with m | m
        · exact c m
        · simp at m; exact e m)]
theorem natAbs_sum (M : Nat) : ∀ l : List Int, (∀ x ∈ l, x.natAbs ≤ M) → l.sum.natAbs ≤ l.length * M
  | [], _ => by simp
  | x :: l, h => by
    have h1 := natAbs_sum M l fun y hy => h y (.tail _ hy)
    have h2 := h x (.head _)
    have h3 := Int.natAbs_add_le x l.sum
    rw [List.sum_cons, List.length_cons, Nat.succ_mul]
    omega
theorem hands_cut : ∀ m, m < 7 → ∀ g, g < 2 ^ m → (handsM g).all (fun h => decide (h < m)) = true := by decide +kernel
theorem hands_in {g m z : Nat} (hg : g < 64) (h : m ≤ 6 ∧ g < 2 ^ m) (hz : z ∈ handsM g) : z < m := of_decide_eq_true (List.all_eq_true.mp (hands_cut m (by omega) g h.2) z hz)
/-- all numbers below 2 ^ C, either way -/
def Bdd (C : Nat) (f : Nat → Int) : Prop := ∀ i, (f i).natAbs < 2 ^ C
theorem Bdd.mono {C C' : Nat} {f : Nat → Int} (h : Bdd C f) (hc : C ≤ C') : Bdd C' f := fun i => Nat.lt_of_lt_of_le (h i) (Nat.pow_le_pow_right (by decide) hc)
theorem pow_two (C : Nat) : 2 ^ (C + 1) = 2 ^ C + 2 ^ C := by rw [Nat.pow_succ]; omega
theorem Bdd.add {C : Nat} {f g : Nat → Int} (h : Bdd C f) (h' : Bdd C g) : Bdd (C + 1) fun i => f i + g i := fun i => by
  have h1 := h i
  have h2 := h' i
  have h3 := Int.natAbs_add_le (f i) (g i)
  rw [pow_two]
  show (f i + g i).natAbs < _
  omega
theorem Bdd.allD {C : Nat} {f : Nat → Int} (h : Bdd C f) : ∀ k, Bdd (C + k) (allD k f)
  | 0 => h
  | k + 1 => fun i => by
    have ih := Bdd.allD h k
    show (stepD k (Sp.allD k f) i).natAbs < 2 ^ (C + k + 1)
    unfold stepD
    have h1 := ih i
    have h2 := ih (i ^^^ 2 ^ k)
    rw [pow_two]
    by_cases c : bitOn k i = true
    · rw [if_pos c]; omega
    · rw [if_neg c]; omega
theorem wt_le (g : Nat) : (wt g).natAbs ≤ 64 := by
  unfold wt
  rw [Int.natAbs_natCast]
  exact Nat.le_trans (Nat.div_le_self _ _) (by decide)
theorem topsF_bits {C n : Nat} {ds : List Int} (h : Bdd C (fn ds)) (hn : n ≤ 64) (hC : C + 18 ≤ 9000) (hh : Nat) : Bits (C + 18) (topsF ds n hh) 60 := by
  refine ⟨hC, ?_, ?_⟩
  · have h1 := natAbs_sum (2 ^ C * 64) ((List.range n).map fun g => if bitOn hh g = true then fn ds g * wt g else 0) fun x hx => by
      obtain ⟨g, _, rfl⟩ := List.mem_map.mp hx
      by_cases c : bitOn hh g = true
      · rw [if_pos c, Int.natAbs_mul]
        exact Nat.mul_le_mul (Nat.le_of_lt (h g)) (wt_le g)
      · rw [if_neg c]; exact Nat.zero_le _
    rw [List.length_map, List.length_range] at h1
    unfold topsF
    have h2 : n * (2 ^ C * 64) ≤ 64 * (2 ^ C * 64) := Nat.mul_le_mul_right _ hn
    have h3 : 2 ^ (C + 18) = 2 ^ C * 262144 := by rw [Nat.pow_add]
    have h4 := Nat.two_pow_pos C
    omega
  · have : 2 ^ 18 ≤ 2 ^ (C + 18) := Nat.pow_le_pow_right (by decide) (by omega)
    exact Nat.lt_of_lt_of_le (by decide) this
theorem bdd_bnd {b : Int} {C : Nat} {ns : List Int} (hb : 0 ≤ b) (h : Bnd b ns) (hC : b < ((2 ^ C : Nat) : Int)) : Bdd C (fn ns) := fun i => by
  have := h.at hb (i : Int)
  unfold fn
  omega
/-- made of dividends -/
def sumsM (ns : List Int) (k : Nat) : List Int := tl ns.length (allE k (fn ns))
theorem sums_at {ns : List Int} {k : Nat} (tb : Tab ns k) {g : Nat} (hg : g < ns.length) : allE k (fn ns) g = someSum (fn ns) g g := by
  have hp := tb.pos
  rw [allE_sum (fn ns) tb.hi (by rw [← tb.len]; exact hg), partSum_some _ (by omega), show fn ns 0 = 0 from tb.gi0]
  omega
theorem sumsM_tab {ns : List Int} {k : Nat} (tb : Tab ns k) : Tab (sumsM ns k) k := by
  have hp := tb.pos
  have hl : (sumsM ns k).length = ns.length := tl_len _ _
  refine ⟨by rw [hl]; exact tb.len, tb.lo, tb.hi, gi_zero (by omega) ?_⟩
  unfold sumsM
  rw [gi_tl (by decide) (by omega), show (0 : Int).toNat = 0 from rfl, sums_at tb (by omega)]
  unfold someSum
  rw [someSubs_zero] <;> rfl
theorem div_sums {ns : List Int} {k : Nat} (tb : Tab ns k) : tl (sumsM ns k).length (allD k (fn (sumsM ns k))) = ns := by
  have hp := tb.pos
  have hl : (sumsM ns k).length = ns.length := tl_len _ _
  rw [hl, ← tl_fn ns]
  rw [tl_len]
  refine tl_congr fun i hi => ?_
  rw [tl_fn]
  have h2 : i < 2 ^ k := by rw [← tb.len]; exact hi
  rw [allD_cut tb.hi (f' := allE k (fn ns)) (fun j hj => by unfold fn sumsM; exact gi_tln (by rw [tb.len]; exact hj)) h2]
  exact allDE (fn ns) k tb.hi i (by omega)
def meanFs (ds : List Int) (n m : Nat) : List (Int × Int) := (List.range m).map fun h => shortM (topsF ds n h) 60
end Sp

/-! Lin: sums that are linear in a table's numbers, told by their coefficients. -/
namespace Sp
open PySem PySem.Spec L2 PyProof.Rows
/-! ### turns: what a hand adds -/
def turnsM (ms : List Int) (m : Nat) : List Int := (List.range m).map fun h => (addsM ms h).sum
def turnL (h n : Nat) : LinF := (offs h n).flatMap fun g => [(1, g + 2 ^ h), (-1, g)]
theorem flat_sum (T : Nat → Int) (d : Nat → Nat) : ∀ l : List Nat, (l.map fun g => T (d g) - T g).sum = ev T (l.flatMap fun g => [(1, d g), (-1, g)])
  | [] => rfl
  | g :: l => by
    rw [List.map_cons, List.sum_cons, flat_sum T d l, List.flatMap_cons, ev_app, ev_cons, ev_cons]
    show _ = 1 * T (d g) + (-1 * T g + ev T []) + _
    rw [show ev T [] = 0 from rfl]
    omega
theorem adds_ev (ms : List Int) (h : Nat) : (addsM ms h).sum = ev (fn ms) (turnL h ms.length) := flat_sum (fn ms) (fun g => g + 2 ^ h) _
theorem turn_lt : ∀ m, m < 7 → ∀ h, h < m → (turnL h (2 ^ m)).all (fun p => decide (p.2 < 2 ^ m)) = true := by decide +kernel
/-- turned about, each hand adds as much in all -/
def turnedL (m h : Nat) : LinF := (turnL h (2 ^ m)).flatMap fun p => [(p.1, 2 ^ m - 1), (-p.1, 2 ^ m - 1 - p.2)]
theorem turned_same : ∀ m, m < 7 → ∀ h, h < m → sameL (2 ^ m) (turnedL m h) (turnL h (2 ^ m)) = true := by decide +kernel
theorem flat_ev (T : Nat → Int) (t : Int) (j : Nat) (ht : T j = t) (s : Nat → Nat) : ∀ L : LinF, ev (fun i => t - T (s i)) L = ev T (L.flatMap fun p => [(p.1, j), (-p.1, s p.2)])
  | [] => rfl
  | p :: L => by
    rw [List.flatMap_cons, ev_app, ev_cons, ev_cons, ev_cons, flat_ev T t j ht s L]
    show p.1 * (t - T (s p.2)) + _ = p.1 * T j + (-p.1 * T (s p.2) + ev T []) + _
    rw [show ev T [] = 0 from rfl, ht, Int.mul_sub, Int.neg_mul]
    omega
theorem turns_turned {ms : List Int} {m : Nat} (tb : Tab ms m) : turnsM (turnM ms) m = turnsM ms m := by
  have hp := tb.pos
  unfold turnsM
  refine List.map_congr_left fun h hh => ?_
  rw [List.mem_range] at hh
  have hm := tb.hi
  rw [adds_ev, adds_ev, turnM_len, tb.len, ← ev_same (turned_same m (by omega) h hh) (fn ms)]
  unfold turnedL
  rw [← flat_ev (fn ms) (gi ms ((ms.length : Int) - 1)) (2 ^ m - 1) (by unfold fn; congr 1; rw [tb.len]; have := Nat.two_pow_pos m; omega) (fun i => 2 ^ m - 1 - i)]
  refine ev_congr fun p hp' => ?_
  have hlt : p.2 < 2 ^ m := by
    have := List.all_eq_true.mp (turn_lt m (by omega) h hh) p hp'
    exact of_decide_eq_true this
  unfold fn turnM
  rw [gi_map_range (by omega) (by rw [tb.len]; omega)]
  show _ = gi ms _ - gi ms _
  congr 2
  rw [tb.len]
  omega
/-- one more for the whole company: one more for each hand -/
theorem turn_top : ∀ m, m < 7 → ∀ h, h < m → co (turnL h (2 ^ m)) (2 ^ m - 1) = 1 := by decide +kernel
theorem turns_bump {ms : List Int} {m : Nat} (tb : Tab ms m) : turnsM (ms.set (ms.length - 1) (gi ms ((ms.length : Int) - 1) + 1)) m = (turnsM ms m).map (· + 1) := by
  have hp := tb.pos
  have hm := tb.hi
  unfold turnsM
  rw [List.map_map]
  refine List.map_congr_left fun h hh => ?_
  rw [List.mem_range] at hh
  show _ = (addsM ms h).sum + 1
  have hc := turn_top m (by omega) h hh
  rw [adds_ev, adds_ev, List.length_set, tb.len]
  refine Eq.trans ?_ (show ev (fn ms) (turnL h (2 ^ m)) + co (turnL h (2 ^ m)) (2 ^ m - 1) = _ by rw [hc])
  rw [← ev_bump]
  refine ev_congr fun p hp' => ?_
  unfold fn gi
  rw [List.getD_eq_getElem?_getD, List.getElem?_set]
  rw [Int.toNat_natCast]
  by_cases e : p.2 = 2 ^ m - 1
  · rw [if_pos e, if_pos e.symm, if_pos (by have := tb.len; omega), e]
    show gi ms _ + 1 = _ + 1
    unfold gi
    rw [show (((2 ^ m : Nat) : Int) - 1).toNat = 2 ^ m - 1 by omega]
  · rw [if_neg e, if_neg (fun z => e z.symm), List.getD_eq_getElem?_getD]
/-- two hands merged: twice the new one's turns are both ones' -/
def mergeTurn (m i j : Nat) : Bool := sameL (2 ^ m) ((thr (fun q => spreadM q (blocksM (2 ^ i + 2 ^ j) m)) (turnL i (2 ^ (m - 1)))).map fun p => (2 * p.1, p.2)) (turnL i (2 ^ m) ++ turnL j (2 ^ m)) && decide ((keptM (2 ^ i + 2 ^ j) m).length = m - 1) && decide (2 ^ i + 2 ^ j < 2 ^ m)
theorem mergeTurn_all : ∀ m, m < 7 → ∀ j, j < m → ∀ i, i < j → mergeTurn m i j = true := by decide +kernel
theorem ev_two (T : Nat → Int) : ∀ L : LinF, ev T (L.map fun p => (2 * p.1, p.2)) = 2 * ev T L
  | [] => rfl
  | p :: L => by
    rw [List.map_cons, ev_cons, ev_cons, ev_two T L, Int.mul_add, Int.mul_assoc]
theorem turns_merged {ms : List Int} {m i j : Nat} (tb : Tab ms m) (hj : j < m) (hi : i < j) :
    2 ^ i + 2 ^ j < 2 ^ m ∧ (keptM (2 ^ i + 2 ^ j) m).length = m - 1 ∧ 2 * (addsM (mergedM ms (2 ^ i + 2 ^ j) m) i).sum = (addsM ms i).sum + (addsM ms j).sum := by
  have hm := tb.hi
  have h := mergeTurn_all m (by omega) j hj i hi
  unfold mergeTurn at h
  rw [Bool.and_eq_true, Bool.and_eq_true, decide_eq_true_eq, decide_eq_true_eq] at h
  obtain ⟨⟨h1, h2⟩, h3⟩ := h
  refine ⟨h3, h2, ?_⟩
  rw [adds_ev, adds_ev, adds_ev, mergedM_len, tb.len, ← ev_app, ← ev_same h1, ev_two, ev_thr, h2]
  congr 1
  refine ev_congr fun p hp' => ?_
  have hlt : p.2 < 2 ^ (m - 1) := of_decide_eq_true (List.all_eq_true.mp (turn_lt (m - 1) (by omega) i (by omega)) p hp')
  unfold fn mergedM
  rw [h2, gi_map_range (by omega) (by omega), Int.toNat_natCast]
end Sp

/-! Alk: hands that are alike, hands that add nothing; any of whole numbers. -/
namespace Sp
open PySem PySem.Spec L2 PyProof.Rows
theorem truth_ints {prog : Program} {w : World} {A : Around} {ns : List Int} {its : List Value} (r : Vals (ns.map V.int) its) :
    TruthOf prog w A (fun i v => its.toArray[i]? = some v) (fun i => !decide (ns.getD i 0 = 0)) := fun i v s Q E hv hq => by
  have hv' : its[i]? = some v := by simpa using hv
  obtain ⟨n, t, rfl, hn⟩ := r.ints.at i v hv'
  have hg : ns.getD i 0 = n := by rw [List.getD_eq_getElem?_getD, hn] <;> rfl
  have hq' : Q (!decide (ns.getD i 0 = 0)) s := hq
  rw [hg] at hq'
  refine PySem.P.truthy_int ?_
  have e : (n != 0) = !decide (n = 0) := rfl
  rw [e]
  exact hq'
theorem anyI_range : ∀ ns : List Int, (List.range ns.length).any (fun i => !decide (ns.getD i 0 = 0)) = ns.any (fun n => !decide (n = 0))
  | [] => rfl
  | b :: bs => by
    rw [List.length_cons, List.range_succ_eq_map, List.any_cons, List.any_map, List.any_cons, ← anyI_range bs]
    all_goals rfl
def rAnyI (K : PySem.W.Frag) : List V → Hp → VK → Prop := fun vs H Q => ∃ (a : Addr) (ns : List Int), vs = [V.ref a] ∧ SqL K H a (ns.map V.int) ∧ Q (.bl (ns.any fun n => !decide (n = 0))) H
theorem cr_anyI {X : Cx} (hc : X.calm = true) : CallR X (.builtin "any") (rAnyI X.K) := by
  intro pins s σ H vs us Q I r h
  obtain ⟨a, ns, rfl, hs, q⟩ := h
  obtain ⟨its, rv, hl, _⟩ := I.list hs
  rw [Vals.ref1 r]
  refine call_any_walk (iter_any hl.isList fun s₂ e2 st hne => ?_)
  subst e2
  refine ⟨_, _, _, _, _, _, _, rfl, Walks.list (A := X.A.in1) (I.ok.hd hc) _ a hne its.toArray, st, truth_ints rv, fun h' tk hk => ?_⟩
  refine ⟨.bl _, H, I.kept fun b o eo => hk b o (fun hmem => ?_) (Heap.get?_push_of_some _ eo), ?_, q⟩
  · rcases List.mem_cons.mp hmem with e1 | hmem
    · exact absurd (e1 ▸ Heap.lt_size eo) (Nat.lt_irrefl _)
    · cases hmem
  · show Value.bool _ = Value.bool _
    rw [← anyI_range, List.size_toArray, ← rv.length, List.length_map]
theorem cr_anyIK {X : Cx} {K : PySem.W.Frag} (h : X.K = K) (hc : X.calm = true) : CallR X (.builtin "any") (rAnyI K) := h ▸ cr_anyI hc
theorem x_anyI {K : PySem.W.Frag} {H : Hp} {Q : VK} {a : Addr} {ns : List Int} (h : SqL K H a (ns.map V.int)) (q : Q (.bl (ns.any fun n => !decide (n = 0))) H) : rAnyI K [.ref a] H Q := ⟨a, ns, rfl, h, q⟩
/-- a list told by a def stands in its own cells -/
theorem own_join {B H H' : Hp} {cs ds : Cells} (w : Own B cs H) (r : Own H ds H') : Own B (ds ++ cs) H' := by
  refine ⟨w.ex.trans r.ex, fun q hq => ?_, ?_⟩
  · rcases List.mem_append.mp hq with h | h
    · exact ⟨(r.cell q h).1, w.ex.free (r.cell q h).2⟩
    · exact ⟨r.ex _ _ (w.cell q h).1, (w.cell q h).2⟩
  · rw [List.map_append, List.nodup_append]
    refine ⟨r.nd, w.nd, fun x hx y hy e => ?_⟩
    subst e
    obtain ⟨q, hq, rfl⟩ := List.mem_map.mp hx
    obtain ⟨q2, hq2, e2⟩ := List.mem_map.mp hy
    have h1 := (r.cell q hq).2
    have h2 := (w.cell q2 hq2).1
    rw [e2, h1] at h2
    cases h2
def alikeB (ms : List Int) (i j : Nat) : Bool := (List.range ms.length).all fun g => bitOn i g || bitOn j g || decide (fn ms (g ||| 2 ^ i) = fn ms (g ||| 2 ^ j))
def leastA (ms : List Int) (h : Nat) : Nat := ((List.range (h + 1)).find? fun i => alikeB ms i h).getD 0
def idleB (ms : List Int) (h : Nat) : Bool := !((addsM ms h).any fun n => !decide (n = 0))
theorem alike_self (ms : List Int) (h : Nat) : alikeB ms h h = true := by
  unfold alikeB
  rw [List.all_eq_true]
  intro g _
  rw [decide_eq_true rfl, Bool.or_true]
theorem least_is {ms : List Int} {h i : Nat} (hi : i ≤ h) (ha : alikeB ms i h = true) (hn : ∀ j, j < i → alikeB ms j h = false) : leastA ms h = i := by
  unfold leastA
  have : (List.range (h + 1)).find? (fun i => alikeB ms i h) = some i := by
    rw [List.find?_range_eq_some]
    exact ⟨ha, List.mem_range.mpr (by omega), fun j hj => by rw [hn j hj] <;> rfl⟩
  rw [this] <;> rfl
theorem least_ex (ms : List Int) (h : Nat) : leastA ms h ≤ h ∧ alikeB ms (leastA ms h) h = true ∧ ∀ j, j < leastA ms h → alikeB ms j h = false := by
  unfold leastA
  cases e : (List.range (h + 1)).find? (fun i => alikeB ms i h) with
  | none =>
    rw [List.find?_eq_none] at e
    exact absurd (alike_self ms h) (e h (List.mem_range.mpr (by omega)))
  | some i =>
    rw [List.find?_range_eq_some] at e
    obtain ⟨h1, h2, h3⟩ := e
    exact ⟨by have := List.mem_range.mp h2; show i ≤ h; omega, h1, fun j hj => by simpa using h3 j hj⟩
def leasts (ms : List Int) (m : Nat) : List Nat := (List.range m).map (leastA ms)
def idles (ms : List Int) (m : Nat) : List Nat := (List.range m).filter (idleB ms)
def swapOk (m i j g : Nat) : Bool := !(bitOn i g && !bitOn j g) || (decide (2 ^ i ≤ g) && decide (g - 2 ^ i + 2 ^ j < 2 ^ m))
theorem swap_all : ∀ m, m < 7 → ∀ i, i < m → ∀ j, j < m → ∀ g, g < 2 ^ m → swapOk m i j g = true := by decide +kernel
theorem swap_in {m i j g : Nat} (hm : m < 7) (hi : i < m) (hj : j < m) (hg : g < 2 ^ m) (h1 : bitOn i g = true) (h2 : bitOn j g = false) : 2 ^ i ≤ g ∧ g - 2 ^ i + 2 ^ j < 2 ^ m := by
  have e := swap_all m hm i hi j hj g hg
  unfold swapOk at e
  rw [h1, h2, Bool.not_false, Bool.and_true, Bool.not_true, Bool.false_or, Bool.and_eq_true, decide_eq_true_eq, decide_eq_true_eq] at e
  exact e
theorem bit_le : ∀ i, i < 6 → ∀ g, g < 64 → bitOn i g = true → 2 ^ i ≤ g := by decide +kernel
theorem hands_few : ∀ m, m < 7 → ∀ g, g < 2 ^ m → (handsM g).length ≤ m := by decide +kernel
theorem own_swap {B H : Hp} {a b : Addr × HO} {cs : Cells} (w : Own B (a :: b :: cs) H) : Own B (b :: a :: cs) H := by
  refine ⟨w.ex, fun q hq => w.cell q ?_, ?_⟩
  · cases hq with
    | head => exact .tail _ (.head _)
    | tail _ hq => cases hq with
      | head => exact .head _
      | tail _ hq => exact .tail _ (.tail _ hq)
  · have h := w.nd
    rw [List.map_cons, List.map_cons, List.nodup_cons, List.nodup_cons] at h ⊢
    refine ⟨fun m => ?_, fun m => h.1 (.tail _ m), h.2.2⟩
    rcases List.mem_cons.mp m with e | m
    · exact h.1 (List.mem_cons.mpr (.inl e.symm))
    · exact h.2.1 m
def difs (ms : List Int) (h : Nat) (l : List Nat) : List Nat := l.filter fun g => !decide (fn ms (g + 2 ^ h) = fn ms g)
theorem difs_yes {ms : List Int} {h i z : Nat} {l : List Nat} (hz : l[i]? = some z) (c : ¬ fn ms (z + 2 ^ h) = fn ms z) : (difs ms h (l.take (i + 1))).map vnat = (difs ms h (l.take i)).map vnat ++ [vnat z] := by
  unfold difs
  rw [List.take_add_one, hz, List.filter_append, List.map_append]
  congr 1
  show (List.filter _ [z]).map vnat = _
  rw [List.filter_cons, if_pos (by rw [decide_eq_false c] <;> rfl)] <;> rfl
theorem difs_no {ms : List Int} {h i z : Nat} {l : List Nat} (hz : l[i]? = some z) (c : fn ms (z + 2 ^ h) = fn ms z) : (difs ms h (l.take (i + 1))).map vnat = (difs ms h (l.take i)).map vnat := by
  unfold difs
  rw [List.take_add_one, hz, List.filter_append, List.map_append]
  show _ ++ (List.filter _ [z]).map vnat = _
  rw [List.filter_cons, if_neg (by rw [decide_eq_true c]; exact Bool.false_ne_true), List.filter_nil, List.map_nil, List.append_nil]
theorem difs_idle (ms : List Int) (h : Nat) : decide (((difs ms h (offs h ms.length)).map fun n : Nat => (n : Int)) = []) = idleB ms h := by
  unfold idleB addsM
  rw [Bool.eq_iff_iff, decide_eq_true_eq, Bool.not_eq_true', List.map_eq_nil_iff]
  unfold difs
  rw [List.filter_eq_nil_iff, List.any_map, Bool.eq_false_iff]
  constructor
  · intro hA hB
    obtain ⟨g, hg, hv⟩ := List.any_eq_true.mp hB
    have h1 := hA g hg
    simp only [Function.comp, Bool.not_eq_true', decide_eq_false_iff_not, Bool.not_eq_true, Bool.not_eq_false', decide_eq_true_eq] at h1 hv
    omega
  · intro hA g hg hv
    apply hA
    refine List.any_eq_true.mpr ⟨g, hg, ?_⟩
    simp only [Function.comp, Bool.not_eq_true', decide_eq_false_iff_not] at hv ⊢
    omega
theorem mem_of_filter_least {ms : List Int} {h m : Nat} (_ : h < m) : leastA ms h ∈ (List.range (h + 1)).filter (fun k => alikeB ms k h) ∧ ∀ y ∈ (List.range (h + 1)).filter (fun k => alikeB ms k h), leastA ms h ≤ y := by
  obtain ⟨e1, e2, e3⟩ := least_ex ms h
  refine ⟨List.mem_filter.mpr ⟨List.mem_range.mpr (by omega), e2⟩, fun y hy => ?_⟩
  have h1 := (List.mem_filter.mp hy).2
  by_cases c : leastA ms h ≤ y
  · exact c
  · have := e3 y (by omega)
    rw [this] at h1; cases h1
/-- an if without an else: what stands behind it is told once -/
theorem x_ifJ {c : TT} {t u : TS} {D : Ends} {σ : L2.St} {H : Hp} (P : Hp → Prop) (hP : ∀ H', P H' → u D σ H') (h : (∀ H', P H' → u D σ H') → c σ H fun b H1 => if b = true then t { D with nx := u D } σ H1 else u D σ H1) : tSeq (tIfS c t tNext) u D σ H := h hP
/-- two lists of whole numbers in one list, told -/
def RetLL (l1 l2 : List Nat) (H : Hp) (Q : VK) : Prop := ∀ p q r H', Own H [(p, .lst [.ref q, .ref r]), (q, .lst (l1.map vnat)), (r, .lst (l2.map vnat))] H' → Q (.ref p) H'
def llD (l1 l2 : List Nat) : PyData := .list [.list ((l1.map fun n : Nat => (n : Int)).map PyData.int), .list ((l2.map fun n : Nat => (n : Int)).map PyData.int)]
theorem dp_ll {K : PySem.W.Frag} {H : Hp} {p q r : Addr} {l1 l2 : List Nat} (h1 : SqL K H p [.ref q, .ref r]) (h2 : SqL K H q (l1.map vnat)) (h3 : SqL K H r (l2.map vnat)) : Dp K H (.ref p) (llD l1 l2) := by
  rw [vnat_map] at h2 h3
  exact .lst h1 (.cons (dp_ints h2) (.cons (dp_ints h3) .nil))
theorem lay_ll (l1 l2 : List Nat) : LayD 3 (llD l1 l2) := LayD.list fun d hd => by
  simp only [List.mem_cons, List.not_mem_nil, or_false] at hd
  rcases hd with rfl | rfl
  · exact LayD.ints
  · exact LayD.ints
theorem x_eqN {K : PySem.W.Frag} {H : Hp} {Q : VK} {p q : Addr} {l : List Nat} (h1 : SqL K H p (l.map vnat)) (h2 : SqL K H q (l.map vnat)) (k : Q (.bl true) H) : rEqX K (.ref p) (.ref q) H Q := by
  rw [vnat_map] at h1 h2
  refine x_eqLI h1 h2 ?_
  rw [decide_eq_true rfl]
  exact k
theorem x_minN {K : PySem.W.Frag} {H : Hp} {Q : VK} {p : Addr} {l : List Nat} {z : Nat} (h : SqL K H p (l.map vnat)) (hz : z ∈ l) (hl : ∀ y ∈ l, z ≤ y) (k : Q (.int (z : Int)) H) : rMin K [.ref p] H Q := by
  rw [vnat_map] at h
  refine ⟨p, _, rfl, h, by rw [List.length_map]; exact List.length_pos_of_mem hz, fun m hm hle => ?_⟩
  obtain ⟨y, hy, rfl⟩ := List.mem_map.mp hm
  have h1 := hl y hy
  have h2 := hle (z : Int) (List.mem_map.mpr ⟨z, hz, rfl⟩)
  have h3 : ((y : Nat) : Int) ≤ (z : Int) := h2
  rw [show y = z by omega]
  exact k
/-- both bits asked at once -/
theorem two_bits : ∀ g, g < 64 → ∀ i, i < 6 → ∀ j, j < 6 → (decide (g &&& (2 ^ i ||| 2 ^ j) = 0)) = (!bitOn i g && !bitOn j g) := by decide +kernel
theorem all_to {p : Nat → Bool} {n : Nat} (h : p n = true) : (List.range (n + 1)).all p = (List.range n).all p := by
  rw [List.range_succ, List.all_append, List.all_cons, List.all_nil, h, Bool.and_true, Bool.and_true]
theorem all_no {p : Nat → Bool} {n k : Nat} (h : p n = false) (hk : n < k) : (List.range k).all p = false := by
  rw [Bool.eq_false_iff]
  intro ha
  have := List.all_eq_true.mp ha n (List.mem_range.mpr hk)
  rw [h] at this; cases this
end Sp

/-! Ord: orders of the hands, and what each hand adds in one. -/
namespace Sp
open PySem PySem.Spec L2 PyProof.Rows
section
variable {K : PySem.W.Frag} {H : Hp} {Q : VK} {σ : L2.St}
theorem x_lstRg1 {ta : TE} (h : ta σ H fun x H1 => ∃ n, x = .int n ∧ RgOk 0 n ∧ ∀ q, H1 q = none → Q (.ref q) (upd H1 q (.lst (rgV 0 n)))) : tLstRg (tRg1 ta) σ H Q := h
theorem rgV_nat (n : Nat) : rgV 0 (n : Int) = (List.range n).map vnat := by
  unfold rgV
  rw [show ((n : Int) - 0).toNat = n by omega]
  exact List.map_congr_left fun i _ => by show V.int _ = V.int _; congr 1; omega
def rLenD : List V → Hp → VK → Prop := fun xs H Q => ∃ a kvs, xs = [V.ref a] ∧ H a = some (.dK kvs) ∧ Q (.int kvs.length) H
theorem call_lenDX {X : Cx} : CallR X (.builtin "len") rLenD := call_lenD
theorem x_lenD {a : Addr} {kvs : List (Key × V)} (h : H a = some (.dK kvs)) (q : Q (.int kvs.length) H) : rLenD [.ref a] H Q := ⟨a, kvs, rfl, h, q⟩
theorem x_dIn {ty td : TE} (h : ty σ H fun y H1 => td σ H1 fun x H2 => ∃ a o, x = .ref a ∧ DGet H2 a y o ∧ Q (.bl o.isSome) H2) : tDIn ty td σ H Q := h
theorem x_dPut {td ty tv : TE} {D : Ends} (h : tv σ H fun v H1 => td σ H1 fun x H2 => ty σ H2 fun y H3 => ∃ a H4, x = .ref a ∧ DPut H3 a y v H4 ∧ D.nx σ H4) : sDPut td ty tv D σ H := h
theorem x_dNew (h : ∀ p, H p = none → Q (.ref p) (upd H p (.dK []))) : tDNewK σ H Q := h
theorem x_popAt {l : Addr} {xs : List V} {i : Int} {k : Nat} {y : V} (hH : H l = some (.lst xs)) (h0 : 0 ≤ i) (h1 : i < xs.length) (hz : xs.length ≤ 1000) (hk : k = i.toNat) (hy : xs[k]? = some y) (q : Q y (upd H l (.lst (xs.eraseIdx k)))) : rPopAt (.ref l) [.int i] H Q := by
  refine ⟨l, xs, i, k, y, rfl, rfl, hH, by omega, by omega, ?_, hy, q⟩
  unfold seqIndex?
  simp only [if_neg (show ¬ i < 0 by omega)]
  rw [decide_eq_true h0, decide_eq_true h1, hk] <;> rfl
theorem x_reverse {l : Addr} {xs : List V} (hH : H l = some (.lst xs)) (q : Q .non (upd H l (.lst xs.reverse))) : rReverse (.ref l) [] H Q := ⟨l, xs, rfl, rfl, hH, q⟩
end
/-- the order's hands, each once, all of them -/
structure Ordr (ns : List Nat) (m : Nat) : Prop where
  nd : ns.Nodup
  lt : ∀ n ∈ ns, n < m
  len : ns.length = m
def orderOk (xs : List V) (m : Nat) : Prop := ∃ ns : List Nat, xs = ns.map vnat ∧ Ordr ns m
theorem erase_map : ∀ (l : List Nat) (j : Nat), (l.map vnat).eraseIdx j = (l.eraseIdx j).map vnat
  | [], _ => rfl
  | _ :: _, 0 => rfl
  | x :: l, j + 1 => by rw [List.map_cons, List.eraseIdx_cons_succ, List.eraseIdx_cons_succ, List.map_cons, erase_map l j]
theorem erase_perm : ∀ {l : List Nat} {j : Nat} (h : j < l.length), (l[j] :: l.eraseIdx j).Perm l
  | x :: l, 0, _ => List.Perm.refl _
  | x :: l, j + 1, h => by
    have h' : j < l.length := by simpa using h
    have ih := erase_perm h'
    rw [List.eraseIdx_cons_succ, List.getElem_cons_succ]
    exact (List.Perm.swap x l[j] (l.eraseIdx j)).trans (ih.cons x)
theorem vnat_inj : ∀ {a b : List Nat}, a.map vnat = b.map vnat → a = b
  | [], [], _ => rfl
  | [], _ :: _, h => by cases h
  | _ :: _, [], h => by cases h
  | x :: a, y :: b, h => by
    rw [List.map_cons, List.map_cons] at h
    have h1 := V.int.inj (List.cons.inj h).1
    rw [vnat_inj (List.cons.inj h).2, show x = y by omega]
def stepO (ms : List Int) (st : Nat × List Int) (n : Nat) : Nat × List Int := (st.1 ||| 2 ^ n, st.2.set n (fn ms (st.1 ||| 2 ^ n) - fn ms st.1))
def orderS (ms : List Int) (m : Nat) (ns : List Nat) : Nat × List Int := ns.foldl (stepO ms) (0, List.replicate m 0)
def orderM (ms : List Int) (m : Nat) (ns : List Nat) : List Int := (orderS ms m ns).2
theorem orderS_snoc (ms : List Int) (m : Nat) (l : List Nat) (n : Nat) : orderS ms m (l ++ [n]) = stepO ms (orderS ms m l) n := by
  unfold orderS
  rw [List.foldl_append] <;> rfl
structure OInv (ms : List Int) (m : Nat) (l : List Nat) : Prop where
  lt : (orderS ms m l).1 < 2 ^ m
  bits : ∀ h, h < 6 → bitOn h (orderS ms m l).1 = decide (h ∈ l)
  len : (orderS ms m l).2.length = m
theorem bit_zero : ∀ h, h < 6 → bitOn h 0 = false := by decide
theorem bit_or6 : ∀ h, h < 6 → ∀ n, n < 6 → ∀ g, g < 64 → bitOn h (g ||| 2 ^ n) = (bitOn h g || h == n) := by decide +kernel
theorem OInv.nil {ms : List Int} {m : Nat} : OInv ms m [] := ⟨Nat.two_pow_pos m, fun h hh => bit_zero h hh, List.length_replicate⟩
theorem OInv.snoc {ms : List Int} {m : Nat} {l : List Nat} {n : Nat} (i : OInv ms m l) (hm : m ≤ 6) (hn : n < m) : OInv ms m (l ++ [n]) := by
  have h2 : 2 ^ n < 2 ^ m := Nat.pow_lt_pow_right (by decide) hn
  have h64 := pow6 hm
  have hl := i.lt
  refine ⟨?_, fun h hh => ?_, ?_⟩
  · rw [orderS_snoc]
    exact Nat.or_lt_two_pow i.lt h2
  · rw [orderS_snoc]
    show bitOn h ((orderS ms m l).1 ||| 2 ^ n) = _
    rw [bit_or6 h hh n (by omega) _ (by omega), i.bits h hh, Bool.eq_iff_iff]
    simp [List.mem_append]
  · rw [orderS_snoc]
    show ((orderS ms m l).2.set n _).length = m
    rw [List.length_set]
    exact i.len
theorem take_snoc {α : Type} {l : List α} {i : Nat} {z : α} (h : l[i]? = some z) : l.take (i + 1) = l.take i ++ [z] := by rw [List.take_add_one, h] <;> rfl
theorem nodup_at {l : List Nat} {i z : Nat} (hn : l.Nodup) (h : l[i]? = some z) : z ∉ l.take i := fun hm => by
  have h1 : (l.take (i + 1)).Nodup := (List.take_sublist _ _).nodup hn
  rw [take_snoc h, List.nodup_append] at h1
  exact h1.2.2 z hm z (List.mem_singleton.mpr rfl) rfl
theorem not_order_len {xs : List V} {m : Nat} (h : xs.length ≠ m) : ¬ orderOk xs m := fun ⟨ns, e, o⟩ => h (by rw [e, List.length_map, o.len])
theorem not_order_at {xs : List V} {m i : Nat} {v : V} (h : xs[i]? = some v) (hv : ∀ n : Nat, n < m → v ≠ vnat n) : ¬ orderOk xs m := fun ⟨ns, e, o⟩ => by
  subst e
  obtain ⟨n, hn, rfl⟩ := map_at h
  exact hv n (o.lt n (List.mem_of_getElem? hn)) rfl
theorem not_order_two {xs : List V} {m i j : Nat} {v : V} (hi : xs[i]? = some v) (hj : xs[j]? = some v) (ne : i ≠ j) : ¬ orderOk xs m := fun ⟨ns, e, o⟩ => by
  subst e
  obtain ⟨n, hn, e1⟩ := map_at hi
  obtain ⟨n', hn', e2⟩ := map_at hj
  have e3 : n = n' := by rw [e1] at e2; have := V.int.inj e2; omega
  subst e3
  obtain ⟨h1, h2⟩ := List.getElem?_eq_some_iff.mp hn
  obtain ⟨h3, h4⟩ := List.getElem?_eq_some_iff.mp hn'
  have pw := List.pairwise_iff_getElem.mp o.nd
  rcases Nat.lt_or_gt_of_ne ne with h | h
  · exact pw i j h1 h3 h (h2.trans h4.symm)
  · exact pw j i h3 h1 h (h4.trans h2.symm)
theorem splice {l : List V} {i : Nat} {v : V} (h : i < l.length) : l.take i ++ [v] ++ l.drop (i + 1) = l.set i v := by
  rw [List.set_eq_take_append_cons_drop, if_pos h, List.append_assoc] <;> rfl
/-- the place ahead of i, or the last one -/
theorem at_ahead {os : List Nat} {i : Nat} (hi : i < os.length) (h2 : 1 < os.length) : ∃ (j : Nat) (hj : j < os.length), j ≠ i ∧ atI (os.map vnat) ((i : Int) - 1) = some (vnat os[j]) := by
  by_cases e : i = 0
  · subst e
    refine ⟨os.length - 1, by omega, by omega, ?_⟩
    unfold atI
    rw [show ((0 : Nat) : Int) - 1 = -1 from rfl, List.length_map, ixN_last (by omega), Option.bind_some, List.getElem?_map, List.getElem?_eq_getElem (by omega)] <;> rfl
  · refine ⟨i - 1, by omega, by omega, ?_⟩
    rw [show (i : Int) - 1 = ((i - 1 : Nat) : Int) by omega]
    exact atI_nat (by rw [List.getElem?_map, List.getElem?_eq_getElem (by omega)] <;> rfl)
/-! ### what has been seen -/
def seenD (l : List Nat) : List (Key × V) := l.map fun n : Nat => ((Sum.inl (n : Int) : Key), V.bl true)
theorem seen_val (l : List Nat) (z : Int) : (valV (seenD l) (Sum.inl z : Key)).isSome = decide (∃ n ∈ l, z = (n : Int)) := by
  induction l with
  | nil => simp [seenD, valV]
  | cons n l ih =>
    unfold seenD at ih ⊢
    rw [List.map_cons]
    by_cases e : (n : Int) = z
    · rw [valV_pos (p := ((Sum.inl (n : Int) : Key), V.bl true)) (by rw [e])]
      rw [Option.isSome_some, decide_eq_true ⟨n, .head _, e.symm⟩]
    · rw [valV_neg (p := ((Sum.inl (n : Int) : Key), V.bl true)) (fun h => e (Sum.inl.inj h)), ih]
      refine decide_eq_decide.mpr ⟨fun ⟨k, h1, h2⟩ => ⟨k, .tail _ h1, h2⟩, fun ⟨k, h1, h2⟩ => ?_⟩
      cases h1 with
      | head => exact absurd h2.symm e
      | tail _ h1 => exact ⟨k, h1, h2⟩
theorem seen_put {l : List Nat} {n : Nat} (h : n ∉ l) : putK (seenD l) (Sum.inl (n : Int)) (V.bl true) = seenD (l ++ [n]) := by
  have hv : (valV (seenD l) (Sum.inl (n : Int) : Key)).isSome = false := by
    rw [seen_val]
    exact decide_eq_false fun ⟨k, h1, h2⟩ => h (by rw [show n = k by omega]; exact h1)
  unfold putK
  rw [valV_any, hv, if_neg Bool.false_ne_true]
  unfold seenD
  rw [List.map_append] <;> rfl
theorem seen_len (l : List Nat) : (seenD l).length = l.length := by unfold seenD; rw [List.length_map]
end Sp

/-! Xc: isinstance of the error that an except suite holds, by one class and by a written tuple of classes. -/
namespace Sp
open PySem PySem.Spec L2 PyProof.Rows
/-- isinstance(e, c): the error at a, of the class cls (an own one, without a dict of its own) -/
def rIsEX (K : PySem.W.Frag) (a : Addr) (cls : Value) (d : Option Addr) : List V → Hp → VK → Prop := fun xs H Q =>
  ∃ (D : Addr) (c : V) (cv : Value) (b : Bool), cls = .ref D ∧ d = none ∧ ExcC K D ∧ xs = [.ref a, c] ∧ ClsV c cv ∧ PySem.W.kitOne K (.ref D) cv = some b ∧ Q (.bl b) H
def rIsETX (K : PySem.W.Frag) (a : Addr) (cls : Value) (d : Option Addr) : List V → Hp → VK → Prop := fun xs H Q =>
  ∃ (D tp : Addr) (cs : List V) (us : List Value) (b : Bool), cls = .ref D ∧ d = none ∧ ExcC K D ∧ xs = [.ref a, .ref tp] ∧ H tp = some (.tup cs) ∧ Paired ClsV cs us ∧ PySem.W.kitAny K (.ref D) us = some b ∧ Q (.bl b) H
theorem suite_at {X : Cx} {pins pn : List (Addr × Obj)} {σ : L2.St} {H : Hp} {s : Shared} {a D : Addr} {oe : Obj} (hz : Zc (.ref D) none oe) (hf : ∃ vs, oe.data = .fields vs) (I : Inv (X.suite a ((a, oe) :: pn)) pins σ H s) : PySem.W.InstAt s.heap a oe D none := by
  obtain ⟨hget, _⟩ := I.pin (a, oe) (List.mem_append.mpr (.inl List.mem_cons_self))
  obtain ⟨vs, hv⟩ := hf
  obtain ⟨oc, od, oda, osl⟩ := oe
  obtain ⟨h1, h2⟩ := hz
  dsimp only at h1 h2 hv
  subst h1 h2 hv
  exact ⟨hget, rfl, rfl, trivial⟩
theorem call_isEX {X : Cx} {K : PySem.W.Frag} (hK : X.K = K) {a : Addr} {cls : Value} {d : Option Addr} {oe : Obj} {pn : List (Addr × Obj)} (hz : Zc cls d oe) (hf : ∃ vs, oe.data = .fields vs) :
    CallR (X.suite a ((a, oe) :: pn)) (.builtin "isinstance") (rIsEX K a cls d) := by
  subst hK
  intro pins s σ H xs us Q I r h
  obtain ⟨D, c, cv, b, rfl, rfl, C, rfl, hc, e, q⟩ := h
  obtain ⟨u1, u2, rfl, r1, r2⟩ := vals2 r
  cases (show u1 = Value.ref a from r1)
  have ec := hc.eq r2
  subst ec
  exact PySem.W.kia_one (PySem.W.handS_kitx_exc C.hg C.hk C.hs C.hd C.ha C.hn C.ht C.hm) I.kIn (suite_at hz hf I) e (fun z => nomatch z) fun tk => ⟨.bl b, H, I.kept (t' := tk) fun _ _ z => z, rfl, q⟩
theorem call_isETX {X : Cx} {K : PySem.W.Frag} (hK : X.K = K) {a : Addr} {cls : Value} {d : Option Addr} {oe : Obj} {pn : List (Addr × Obj)} (hz : Zc cls d oe) (hf : ∃ vs, oe.data = .fields vs) :
    CallR (X.suite a ((a, oe) :: pn)) (.builtin "isinstance") (rIsETX K a cls d) := by
  subst hK
  intro pins s σ H xs us Q I r h
  obtain ⟨D, tp, cs, ws, b, rfl, rfl, C, rfl, hT, k, e, q⟩ := h
  obtain ⟨u1, u2, rfl, r1, r2⟩ := vals2 r
  cases (show u1 = Value.ref a from r1)
  cases (show u2 = Value.ref tp from r2)
  obtain ⟨_, its, rv, o, h1, h2, n, h3⟩ := (show ObjOk _ _ H s.heap tp (.tup cs) from I.hok tp _ hT)
  have e3 := ClsV.all k rv
  subst e3
  obtain ⟨oc, od, dt, sl⟩ := o
  simp only at h2 h3
  subst h2 h3
  exact PySem.W.kia_tup (PySem.W.handS_kitx_exc C.hg C.hk C.hs C.hd C.ha C.hn C.ht C.hm) I.kIn (suite_at hz hf I) h1 e (fun z => nomatch z) fun tk => ⟨.bl b, H, I.kept (t' := tk) fun _ _ z => z, rfl, q⟩
/-- what is told of a class that is asked for -/
structure AskC (K : PySem.W.Frag) (C : Addr) : Prop where
  cls : PySem.W.isClsIn K C = true
  ty : PySem.W.typeIn K (.ref C) = some (.type "type")
  self : PySem.W.subIn K (.ref C) (.ref C) = some true
theorem kit_own {K : PySem.W.Frag} {D C : Addr} {b : Bool} (c : AskC K C) (h : PySem.W.subIn K (.ref D) (.ref C) = some b) : PySem.W.kitOne K (.ref D) (.ref C) = some b := by
  unfold PySem.W.kitOne
  by_cases e : D = C
  · subst e
    rw [c.self] at h
    rw [if_pos (by simp), ← h]
  · rw [if_neg (by simpa using e)]
    unfold PySem.W.kitCls
    have h2 : (PySem.W.clsIn K C).isSome = true := c.cls
    simp only [h2, c.ty]
    simpa using h
theorem kit_VE {K : PySem.W.Frag} {D : Addr} {b : Bool} (h : PySem.W.subIn K (.ref D) (.type "ValueError") = some b) : PySem.W.kitOne K (.ref D) (.type "ValueError") = some b := by
  unfold PySem.W.kitOne
  rw [if_neg (by simp)]
  unfold PySem.W.kitCls
  have h2 : PySem.W.kitMeta "ValueError" = true := by decide +kernel
  simp only [h2, if_true]
  exact h
theorem kit_no {K : PySem.W.Frag} {t : Value} {c : Value} {cs : List Value} (h : PySem.W.kitOne K t c = some false) (hr : PySem.W.kitAny K t cs = some false) : PySem.W.kitAny K t (c :: cs) = some false :=
  kitAny_cons h (fun _ => hr) (fun z => nomatch z)
/-- + of two lists that are read, however they stand -/
def rCatK (K : PySem.W.Frag) : R2 := fun x y H Q => ∃ l b xs zs, x = .ref l ∧ y = .ref b ∧ SqL K H l xs ∧ SqL K H b zs ∧ xs.length + zs.length ≤ sizeLine ∧ ∀ p, H p = none → Q (.ref p) (upd H p (.lst (xs ++ zs)))
theorem op_catX {X : Cx} : OpR X (binaryOp .Add) (rCatK X.K) := by
  intro pins s σ H x y v u Q I rx ry h
  obtain ⟨l, b, xs, zs, rfl, rfl, hH, hB, hz, q⟩ := h
  cases rx
  cases ry
  obtain ⟨its, r, ⟨⟨cls, dd, data, sl⟩, n, ho, hc, _, hd⟩, _⟩ := I.list hH
  obtain ⟨its2, r2, ⟨⟨cls2, dd2, data2, sl2⟩, n2, ho2, hc2, _, hd2⟩, _⟩ := I.list hB
  simp only at hc hd hc2 hd2
  subst hc hd hc2 hd2
  have hl := r.length
  have hl2 := r2.length
  have e : its.toArray ++ its2.toArray = (its ++ its2).toArray := by simp
  refine concat_meets ⟨_, ho, rfl⟩ ⟨_, ho2, rfl⟩ noFill_list_add seq_list_add PySem.F.slot_list_add PySem.F.entry_list_add (PySem.F.args_list_add_2 _ _) (list_addW l b its.toArray its2.toArray n n2 dd dd2 sl sl2 (by rw [List.size_toArray, List.size_toArray]; omega)) ⟨ho, ho2, ?_⟩
  rw [e]
  exact ⟨.ref _, _, I.lnew (t' := s.toks) (r.append r2) (by rw [List.length_append]; omega), rfl, q _ I.fresh⟩
theorem op_catK {X : Cx} {K : PySem.W.Frag} (h : X.K = K) : OpR X (binaryOp .Add) (rCatK K) := h ▸ op_catX
theorem x_cat {K : PySem.W.Frag} {H : Hp} {Q : VK} {l b : Addr} {xs zs : List V} (h1 : SqL K H l xs) (h2 : SqL K H b zs) (hz : xs.length + zs.length ≤ sizeLine) (q : ∀ p, H p = none → Q (.ref p) (upd H p (.lst (xs ++ zs)))) : rCatK K (.ref l) (.ref b) H Q := ⟨l, b, xs, zs, rfl, rfl, h1, h2, hz, q⟩
theorem pe_revLK {X : Cx} {K : PySem.W.Frag} (h : X.K = K) {e : Expr} {te : TE} {k : Nat} {p1 p2 p3 pos : Pos} (he : PE X e te) : PE X (.Subscript e (.Slice none none (some (.UnaryOp .USub (.Constant (.int 1) k p1) p2)) p3) pos) (tRevL K te) := h ▸ pe_revL he
theorem x_rev {K : PySem.W.Frag} {te : TE} {σ : L2.St} {H : Hp} {Q : VK} (h : te σ H fun x H1 => ∃ a xs, x = .ref a ∧ SqL K H1 a xs ∧ ∀ p, H1 p = none → Q (.ref p) (upd H1 p (.lst xs.reverse))) : tRevL K te σ H Q := h
section
variable {K : PySem.W.Frag} {H : Hp} {Q : VK} {a D : Addr}
theorem x_callS {sp : Sp} {E : L2.St → XK} {tr : TA} {σ : L2.St} (h : tr σ H fun vs H1 => sp vs H1 Q (E σ)) : tCallS sp E tr σ H Q := h
theorem x_isE {C : Addr} {b : Bool} (e : ExcC K D) (c : AskC K C) (h : PySem.W.subIn K (.ref D) (.ref C) = some b) (q : Q (.bl b) H) : rIsEX K a (.ref D) none [.ref a, .ref C] H Q :=
  ⟨D, _, _, b, rfl, rfl, e, rfl, .own C, kit_own c h, q⟩
theorem x_isEV {b : Bool} (e : ExcC K D) (h : PySem.W.subIn K (.ref D) (.type "ValueError") = some b) (q : Q (.bl b) H) : rIsEX K a (.ref D) none [.ref a, .ty "ValueError"] H Q :=
  ⟨D, _, _, b, rfl, rfl, e, rfl, .ty _, kit_VE h, q⟩
theorem x_isET {tp : Addr} {Cs : List Addr} {b : Bool} (e : ExcC K D) (hT : H tp = some (.tup (Cs.map V.ref))) (h : PySem.W.kitAny K (.ref D) (Cs.map Value.ref) = some b) (q : Q (.bl b) H) : rIsETX K a (.ref D) none [.ref a, .ref tp] H Q :=
  ⟨D, tp, _, _, b, rfl, rfl, e, rfl, hT, (by
    clear hT h q
    induction Cs with
    | nil => exact .nil
    | cons c r ih => exact .cons (.own c) ih), h, q⟩
end
end Sp

/-! Cpe: comprehensions whose items are not told ahead; ranges with a step; xs[::k]. -/
namespace Sp
open PySem PySem.Spec L2 PyProof.Rows
/-- behind i turns: the list at D holds some acc of which G is told; what is made within stands in B2 -/
def PvE (B : Hp) (cs : Cells) (D : Addr) (G : Hp → Nat → List V → Prop) (i : Nat) (H : Hp) : Prop := ∃ B2 acc, Same B B2 ∧ G B2 i acc ∧ Own B2 ((D, .lst acc) :: cs) H
section
variable {K : PySem.W.Frag} {σ : L2.St} {B H : Hp} {cs : Cells} {Q : VK} {te : TE} {g : TG} {tt : TT} {vs : List Nat} {QD : Addr → Hp → Prop} {G : Hp → Nat → List V → Prop}
theorem cpE_fin {D : Addr} {i : Nat} {H4 B2 : Hp} {acc : List V} {y : V} (w : Own B2 ((D, .lst acc) :: cs) H4) (s : Same B B2) (hg : G B2 (i + 1) (acc ++ [y])) (hl : acc.length < 1000000) :
    ∃ acc', H4 D = some (.lst acc') ∧ acc'.length < sizeLine ∧ PvE B cs D G (i + 1) (upd H4 D (.lst (acc' ++ [y]))) :=
  ⟨acc, Own.get w 0 rfl, Nat.lt_of_lt_of_le hl (by decide), B2, acc ++ [y], s, hg, Own.put (o' := .lst (acc ++ [y])) w 0 rfl⟩
theorem cpE_range {lo : Int} {n : Nat} (w : Own B cs H) (h0 : G B 0 [])
    (hs : ∀ D i H' B2 acc, i < n → Same B B2 → G B2 i acc → Own B2 ((D, .lst acc) :: cs) H' → g (.int (lo + i)) (wipe σ vs) H' fun σ2 H2 => wipe σ2 vs = wipe σ vs ∧ tt σ2 H2 fun b H3 =>
      if b = true then te σ2 H3 fun y H4 => ∃ acc', H4 D = some (.lst acc') ∧ acc'.length < sizeLine ∧ PvE B cs D G (i + 1) (upd H4 D (.lst (acc' ++ [y]))) else PvE B cs D G (i + 1) H3)
    (hq : ∀ D H' B2 acc, Same B B2 → G B2 n acc → Own B2 ((D, .lst acc) :: cs) H' → QD D H') : ∀ D, H D = none → ∃ W : Nat → Nat → Hp → Prop, (∃ m, W 0 m (upd H D (.lst []))) ∧ ∀ i m H, W i m H →
      ((Itr lo n).stop i H ∧ QD D H) ∨ ((Itr lo n).go i H ∧ ∃ Nx : Hp → Prop, (∀ H', Nx H' → ∃ m', m' < m ∧ W (i + 1) m' H') ∧ ∀ x H', (Itr lo n).yld i H x H' → g x (wipe σ vs) H' fun σ2 H2 => wipe σ2 vs = wipe σ vs ∧ tt σ2 H2 fun b H3 =>
        if b = true then te σ2 H3 fun y H4 => ∃ acc, H4 D = some (.lst acc) ∧ acc.length < sizeLine ∧ Nx (upd H4 D (.lst (acc ++ [y]))) else Nx H3) := fun D hD =>
  lc_range (PvE B cs D G) ⟨B, [], Same.refl _, h0, w.new hD⟩ (fun i H' hi ⟨B2, acc, s, hg, w2⟩ => hs D i H' B2 acc hi s hg w2) (fun H' ⟨B2, acc, s, hg, w2⟩ => hq D H' B2 acc s hg w2)
theorem cpE_list {a : Addr} {xs : List V} (w : Own B cs H) (hx : SqL K B a xs) (h0 : G B 0 [])
    (hs : ∀ D i x H' B2 acc, xs[i]? = some x → Same B B2 → G B2 i acc → Own B2 ((D, .lst acc) :: cs) H' → g x (wipe σ vs) H' fun σ2 H2 => wipe σ2 vs = wipe σ vs ∧ tt σ2 H2 fun b H3 =>
      if b = true then te σ2 H3 fun y H4 => ∃ acc', H4 D = some (.lst acc') ∧ acc'.length < sizeLine ∧ PvE B cs D G (i + 1) (upd H4 D (.lst (acc' ++ [y]))) else PvE B cs D G (i + 1) H3)
    (hq : ∀ D H' B2 acc, Same B B2 → G B2 xs.length acc → Own B2 ((D, .lst acc) :: cs) H' → QD D H') : ∀ D, H D = none → ∃ W : Nat → Nat → Hp → Prop, (∃ m, W 0 m (upd H D (.lst []))) ∧ ∀ i m H, W i m H →
      ((Itl K a).stop i H ∧ QD D H) ∨ ((Itl K a).go i H ∧ ∃ Nx : Hp → Prop, (∀ H', Nx H' → ∃ m', m' < m ∧ W (i + 1) m' H') ∧ ∀ x H', (Itl K a).yld i H x H' → g x (wipe σ vs) H' fun σ2 H2 => wipe σ2 vs = wipe σ vs ∧ tt σ2 H2 fun b H3 =>
        if b = true then te σ2 H3 fun y H4 => ∃ acc, H4 D = some (.lst acc) ∧ acc.length < sizeLine ∧ Nx (upd H4 D (.lst (acc ++ [y]))) else Nx H3) := fun D hD =>
  lc_list (PvE B cs D G) ⟨B, [], Same.refl _, h0, w.new hD⟩ (fun i H' hi ⟨B2, acc, s, hg, w2⟩ => w2.seq (s.seq hx)) (fun i x H' hx ⟨B2, acc, s, hg, w2⟩ => hs D i x H' B2 acc hx s hg w2) (fun H' ⟨B2, acc, s, hg, w2⟩ => hq D H' B2 acc s hg w2)
end
/-! ### ranges with a step -/
theorem x_iR3 {σ : L2.St} {H : Hp} {R : It → Hp → Prop} {tr : TA} (h : tr σ H fun vs H1 => ∃ (i j c : Int) (n : Nat), vs = [.int i, .int j, .int c] ∧ RgC i j c n ∧ R (Itc i c n) H1) : iRng3 tr σ H R := h
theorem rgc_up {i j c : Int} (hc : 0 < c) (hc2 : c < 1000) (hi : 0 ≤ i) (hi2 : i < 1000000) (hj : 0 ≤ j) (hj2 : j < 1000000) : RgC i j c (if i < j then (j - i - 1) / c + 1 else 0).toNat := by
  have hb : 0 ≤ (if i < j then (j - i - 1) / c + 1 else 0) ∧ (if i < j then (j - i - 1) / c + 1 else 0) ≤ 1000000 := by
    by_cases h : i < j
    · rw [if_pos h]
      have h1 := Int.ediv_nonneg (a := j - i - 1) (b := c) (by omega) (by omega)
      have h2 := Int.ediv_le_self (a := j - i - 1) c (by omega)
      omega
    · rw [if_neg h]; omega
  have e : Builtin.Range.rangeSize i j c = (if i < j then (j - i - 1) / c + 1 else 0) := by
    unfold Builtin.Range.rangeSize
    rw [if_pos (show c > 0 by omega)]
  refine ⟨by omega, by omega, ?_, by rw [e]; omega⟩
  unfold Builtin.Range.small
  rw [e]
  simp only [Builtin.Range.rangeFitsLong, Bool.and_eq_true, Bool.or_eq_true, decide_eq_true_eq, beq_iff_eq]
  generalize (if i < j then (j - i - 1) / c + 1 else 0) = z at hb ⊢
  refine ⟨by omega, .inr ?_⟩
  rw [if_pos (by omega), Bool.and_eq_true, decide_eq_true_eq, decide_eq_true_eq]
  omega
theorem rgc_in {i j c : Int} {k : Nat} (hc : 0 < c) (h : k < (if i < j then (j - i - 1) / c + 1 else 0).toNat) : i + (k : Int) * c < j := by
  by_cases hij : i < j
  · rw [if_pos hij] at h
    have h1 : (k : Int) ≤ (j - i - 1) / c := by omega
    have h2 : (k : Int) * c ≤ j - i - 1 := (Int.le_ediv_iff_mul_le hc).mp h1
    omega
  · rw [if_neg hij] at h; simp at h
/-! ### xs[::k] -/
def everyK (xs : List V) (k : Nat) : List V := (List.range ((xs.length + k - 1) / k)).filterMap fun i => xs[k * i]?
def tEvL (K : PySem.W.Frag) (k : Nat) (te : TE) : TE := fun σ H Q => te σ H fun x H1 => ∃ a xs, x = .ref a ∧ SqL K H1 a xs ∧ ∀ p, H1 p = none → Q (.ref p) (upd H1 p (.lst (everyK xs k)))
theorem x_ev {K : PySem.W.Frag} {k : Nat} {te : TE} {σ : L2.St} {H : Hp} {Q : VK} (h : te σ H fun x H1 => ∃ a xs, x = .ref a ∧ SqL K H1 a xs ∧ ∀ p, H1 p = none → Q (.ref p) (upd H1 p (.lst (everyK xs k)))) : tEvL K k te σ H Q := h
theorem vals_pick {xs : List V} {its : List Value} (r : Vals xs its) : ∀ ids : List Nat, Vals (ids.filterMap (xs[·]?)) (ids.filterMap (its[·]?))
  | [] => .nil
  | i :: ids => by
    have ih := vals_pick r ids
    rw [List.filterMap_cons, List.filterMap_cons]
    cases e : xs[i]? with
    | none =>
      have : its[i]? = none := by
        rw [List.getElem?_eq_none_iff] at e ⊢
        have := r.length
        omega
      rw [this]; exact ih
    | some x =>
      obtain ⟨u, hu, ru⟩ := r.get e
      rw [hu]
      exact .cons ru ih
theorem pick_every {its : List Value} {k : Nat} (hk : 0 < k) : slicePick its.toArray none none (some (k : Int)) = ((List.range ((its.length + k - 1) / k)).map (k * ·) |>.filterMap (its[·]?)).toArray := by
  have hk' : (k : Int) > 0 := by omega
  unfold slicePick sliceBounds
  simp only [Option.getD_some, if_pos hk', List.size_toArray, List.getElem?_toArray]
  congr 2
  unfold sliceRange
  simp only [if_pos hk']
  have e : (if (0 : Int) < (its.length : Int) then ((its.length : Int) - 0 + (k : Int) - 1) / (k : Int) else 0).toNat = (its.length + k - 1) / k := by
    by_cases h : 0 < its.length
    · rw [if_pos (by omega)]
      have : (its.length : Int) - 0 + (k : Int) - 1 = ((its.length + k - 1 : Nat) : Int) := by omega
      rw [this, ← Int.natCast_ediv, Int.toNat_natCast]
    · have : its.length = 0 := by omega
      rw [this, if_neg (by decide)]
      show 0 = (0 + k - 1) / k
      rw [Nat.div_eq_of_lt (by omega)]
  rw [e]
  exact List.map_congr_left fun i _ => by
    rw [Int.zero_add, ← Int.natCast_mul, Int.toNat_natCast]
theorem pe_evLK {X : Cx} {K : PySem.W.Frag} (hK : X.K = K) {e : Expr} {te : TE} {k : Nat} {j : Nat} {p1 p3 pos : Pos} (hk : 0 < k) (he : PE X e te) : PE X (.Subscript e (.Slice none none (some (.Constant (.int (k : Int)) j p1)) p3) pos) (tEvL K k te) := by
  subst hK
  constructor
  intro pins s σ H Q I h
  refine Subscript_ (thn (he.run pins s σ H _ I h) ?_)
  rintro v s1 ⟨x, H1, I1, r1, a, xs, rfl, hx, q⟩
  cases r1
  have stp : PO X (some (.Constant (.int (k : Int)) j p1)) (tPart (tC (.int (k : Int)))) := po_some pe_int
  refine wpAny_Slice (thn (po_none.run pins s1 σ H1 (fun o H2 => o = none ∧ H2 = H1) I1 ⟨rfl, rfl⟩) ?_)
  rintro vl s2 ⟨l, H2, I2, pl, rfl, rfl⟩
  refine thn (po_none.run pins s2 σ H2 (fun o H3 => o = none ∧ H3 = H2) I2 ⟨rfl, rfl⟩) ?_
  rintro vu s3 ⟨u, H3, I3, pu, rfl, rfl⟩
  refine thn (stp.run pins s3 σ H3 (fun o H4 => o = some (k : Int) ∧ H4 = H3) I3 ⟨(k : Int), rfl, rfl, rfl⟩) ?_
  rintro vs s4 ⟨o, H4, I4, ps, rfl, rfl⟩
  have I5 : Inv X pins σ H4 { s4 with heap := s4.heap.push { cls := .type "slice", data := .fields #[vl, vu, vs] } } := I4.kept (t' := s4.toks) fun b ob q => Heap.get?_push_of_some _ q
  obtain ⟨its, r, ht, hz⟩ := I5.list hx
  have hlen := r.length
  refine (show wpAny (model X.prog X.w) X.A (subscriptTail e (.Slice none none (some (.Constant (.int (k : Int)) j p1)) p3) (.ref a) (.ref s4.heap.objs.size)) (EP X pins σ Q) X.xe { s4 with heap := s4.heap.push { cls := .type "slice", data := .fields #[vl, vu, vs] } } from ?_)
  refine tail_any (ops := [.ref a, .ref s4.heap.objs.size]) ht.isList.typeIs (PySem.slot_list_getitem.lookup) ?_ (by with_unfolding_all rfl)
  refine wpAny_getItem_list_slice ht.isList (Heap.IsSliceOf.new _ vl vu vs) pl pu ps (fun z => by have := Option.some.inj z; omega) ?_ (by rw [List.size_toArray]; omega)
  rw [pick_every hk]
  have hv : Vals (everyK xs k) ((List.range ((its.length + k - 1) / k)).map (k * ·) |>.filterMap (its[·]?)) := by
    have := vals_pick r ((List.range ((its.length + k - 1) / k)).map (k * ·))
    unfold everyK
    rw [List.filterMap_map] at this
    rw [hlen]
    exact this
  have hle : (everyK xs k).length ≤ sizeLine := by
    have h1 : (everyK xs k).length ≤ (xs.length + k - 1) / k := by
      unfold everyK
      have := List.length_filterMap_le (fun i => xs[k * i]?) (List.range ((xs.length + k - 1) / k))
      rw [List.length_range] at this
      exact this
    have h2 : (xs.length + k - 1) / k ≤ xs.length := by
      by_cases h0 : xs.length = 0
      · rw [h0, Nat.zero_add, Nat.div_eq_of_lt (by omega)]; omega
      · refine Nat.div_le_of_le_mul ?_
        have : xs.length * 1 + k * 1 ≤ k * xs.length + 1 := by
          have e1 : xs.length = (xs.length - 1) + 1 := by omega
          have e2 : k * xs.length = k * (xs.length - 1) + k := by conv => lhs; rw [e1, Nat.mul_add, Nat.mul_one]
          have e3 : (xs.length - 1) ≤ k * (xs.length - 1) := Nat.le_mul_of_pos_left _ hk
          omega
        omega
    omega
  refine ⟨.ref _, _, I5.laid (t' := s4.toks) (o := .lst (everyK xs k)) (fun b ob q => Heap.get?_push_of_some _ q) (Nat.le_refl _) ?_, rfl, q _ (I5.hok.fresh (Nat.le_refl _))⟩
  exact ⟨hle, _, 0, hv, Heap.get?_push_size _ rfl⟩
end Sp

/-! Elt: things whose data is plain, lists of such. -/
namespace Sp
open PySem PySem.Spec L2 PyProof.Rows
theorem strOk_of (s : String) : PyData.strOk (Str.ofString s) = true := by
  unfold PyData.strOk
  rw [Str.ofString_eq_toList]
  simp only [List.all_toArray, List.all_map, List.all_eq_true, Function.comp_apply, decide_eq_true_eq]
  intro c _
  have h := c.valid
  simp only [UInt32.isValidChar, Nat.isValidChar] at h
  have e : c.toNat = c.val.toNat := rfl
  omega
/-- things whose data is plain -/
inductive Elt (K : PySem.W.Frag) (H : Hp) : V → PyData → Prop
  | non : Elt K H .non .none
  | bl (b : Bool) : Elt K H (.bl b) (.bool b)
  | int (i : Int) : Elt K H (.int i) (.int i)
  | str (x : Str) (h : PyData.strOk x = true) : Elt K H (.str x) (.str x)
  | lst {a : Addr} {ns : List Int} (e : Rd H a (.lst (ns.map V.int))) : Elt K H (.ref a) (.list (ns.map PyData.int))
  | tup {a : Addr} {ns : List Int} (e : H a = some (.tup (ns.map V.int))) : Elt K H (.ref a) (.tuple (ns.map PyData.int))
theorem Elt.same {K : PySem.W.Frag} {H H' : Hp} {v : V} {d : PyData} (s : Same H H') (h : Elt K H v d) : Elt K H' v d := by
  cases h with
  | non => exact .non
  | bl b => exact .bl b
  | int i => exact .int i
  | str x h => exact .str x h
  | lst e => exact .lst (rd_same s e)
  | tup e => exact .tup (s _ _ e)
theorem Elt.thing {K : PySem.W.Frag} {H : Hp} {v : V} {d : PyData} (h : Elt K H v d) : Thing H v := by
  cases h with
  | non => exact .non
  | bl b => exact .bl b
  | int i => exact .int i
  | str x h => exact .str x
  | lst e => exact .lst e
  | tup e => exact .tup (.inl e)
theorem Elt.dp {K : PySem.W.Frag} {H : Hp} {v : V} {d : PyData} (h : Elt K H v d) : Dp K H v d ∧ LayD 2 d := by
  cases h with
  | non => exact ⟨.non, LayD.none (by decide)⟩
  | bl b => exact ⟨.bl b, LayD.bool (by decide) b⟩
  | int i => exact ⟨.int i, LayD.int (by decide) i⟩
  | str x h => exact ⟨.str x, LayD.str (by decide) h⟩
  | lst e => exact ⟨dp_ints (.inl e), LayD.ints⟩
  | tup e =>
    refine ⟨.tup (SqT.of e) (dpAll_ints _), LayD.tuple fun d hd => ?_⟩
    obtain ⟨n, _, rfl⟩ := List.mem_map.mp hd
    exact LayD.int (by decide) n
def Elts (K : PySem.W.Frag) (H : Hp) (xs : List V) : Prop := ∀ v ∈ xs, ∃ d, Elt K H v d
theorem Elts.dp {K : PySem.W.Frag} {H : Hp} : ∀ {xs : List V}, Elts K H xs → ∃ ds, DpAll K H xs ds ∧ ∀ d ∈ ds, LayD 2 d
  | [], _ => ⟨[], .nil, fun _ h => nomatch h⟩
  | x :: xs, h => by
    obtain ⟨d, hd⟩ := h x (.head _)
    obtain ⟨ds, h1, h2⟩ := Elts.dp fun v hv => h v (.tail _ hv)
    exact ⟨d :: ds, .cons hd.dp.1 h1, fun e he => by
      cases he with
      | head => exact hd.dp.2
      | tail _ he => exact h2 e he⟩
theorem Elts.same {K : PySem.W.Frag} {H H' : Hp} {xs : List V} (s : Same H H') (h : Elts K H xs) : Elts K H' xs := fun v hv => (h v hv).imp fun _ z => z.same s
theorem Elts.thing {K : PySem.W.Frag} {H : Hp} {xs : List V} (h : Elts K H xs) : ∀ v ∈ xs, Thing H v := fun v hv => by
  obtain ⟨d, e⟩ := h v hv
  exact e.thing
theorem elts_nat {K : PySem.W.Frag} {H : Hp} {ns : List Nat} : Elts K H (ns.map vnat) := fun v hv => by
  obtain ⟨n, _, rfl⟩ := List.mem_map.mp hv
  exact ⟨_, .int _⟩
theorem elts_int {K : PySem.W.Frag} {H : Hp} {ns : List Int} : Elts K H (ns.map V.int) := fun v hv => by
  obtain ⟨n, _, rfl⟩ := List.mem_map.mp hv
  exact ⟨_, .int _⟩
theorem Elts.app {K : PySem.W.Frag} {H : Hp} {xs ys : List V} (h1 : Elts K H xs) (h2 : Elts K H ys) : Elts K H (xs ++ ys) := fun v hv => by
  rcases List.mem_append.mp hv with h | h
  · exact h1 v h
  · exact h2 v h
theorem Elts.one {K : PySem.W.Frag} {H : Hp} {v : V} {d : PyData} (h : Elt K H v d) : Elts K H [v] := fun w hw => by
  rw [List.mem_singleton] at hw
  subst hw
  exact ⟨d, h⟩
theorem Elts.take {K : PySem.W.Frag} {H : Hp} {xs : List V} (h : Elts K H xs) (n : Nat) : Elts K H (xs.take n) := fun v hv => h v (List.mem_of_mem_take hv)
theorem Elts.drop {K : PySem.W.Frag} {H : Hp} {xs : List V} (h : Elts K H xs) (n : Nat) : Elts K H (xs.drop n) := fun v hv => h v (List.mem_of_mem_drop hv)
/-- the list holds a thing that is no number; its length is that of no table; nobody's number is not nought -/
theorem look_odd {xs : List V} {v : V} (hv : v ∈ xs) (h : isI v = false) : lookM xs = none := by
  unfold lookM
  rw [if_neg]
  rintro ⟨_, h2, _⟩
  rw [List.all_eq_true.mp h2 v hv] at h
  cases h
theorem look_len {xs : List V} (h : ∀ k, 1 ≤ k → k ≤ 6 → xs.length ≠ 2 ^ k) : lookM xs = none := by
  unfold lookM
  rw [if_neg]
  rintro ⟨h1, _, _⟩
  have := manyOf_lo xs.length
  exact h _ this.1 this.2 h1
theorem look_first {xs : List V} {z : Int} (h : xs[0]? = some (.int z)) (hz : z ≠ 0) : lookM xs = none := by
  unfold lookM
  rw [if_neg]
  rintro ⟨_, _, h3⟩
  rw [h] at h3
  exact hz (V.int.inj (Option.some.inj h3))
theorem cut_m1 {xs : List V} : cutV xs none (some (-1)) = xs.take (xs.length - 1) := by
  unfold cutV
  have e : HT.sIx xs.length xs.length (some (-1)) = xs.length - 1 := by
    show (if (-1 : Int) < 0 then ((-1 : Int) + (xs.length : Int)).toNat else min (-1 : Int).toNat xs.length) = _
    rw [if_pos (by decide)]
    omega
  rw [HT.sIx_none, e, List.drop_zero, Nat.sub_zero]
theorem x_slL {K : PySem.W.Frag} {H : Hp} {Q : VK} {a : Addr} {xs : List V} {lo hi : Option Int} (h : SqL K H a xs) (q : ∀ p, H p = none → Q (.ref p) (upd H p (.lst (cutV xs lo hi)))) : rSlL K (.ref a) lo hi H Q := ⟨a, xs, rfl, h, q⟩
end Sp

/-! Sums: tables summed, put side by side; lists of lists told and held. -/
namespace Sp
open PySem PySem.Spec L2 PyProof.Rows
def sumT (xs ys : List Int) : List Int := List.zipWith (· + ·) xs ys
theorem sumT_len {xs ys : List Int} (h : xs.length = ys.length) : (sumT xs ys).length = xs.length := by
  unfold sumT
  rw [List.length_zipWith, h, Nat.min_self]
theorem sumT_at {xs ys : List Int} {i : Nat} {x y : Int} (hx : xs[i]? = some x) (hy : ys[i]? = some y) : (sumT xs ys)[i]? = some (x + y) := by
  unfold sumT
  rw [List.getElem?_zipWith, hx, hy] <;> rfl
theorem take_at {ns : List Int} {i : Nat} {z : Int} (h : ns[i]? = some z) : (ns.take (i + 1)).map V.int = (ns.take i).map V.int ++ [.int z] := by
  rw [List.take_add_one, h, List.map_append] <;> rfl
def besideT (xs ys : List Int) : List Int := ys.flatMap fun t => xs.map fun h => h + t
theorem besideT_len (xs : List Int) : ∀ ys : List Int, (besideT xs ys).length = xs.length * ys.length
  | [] => rfl
  | y :: ys => by
    unfold besideT
    rw [List.flatMap_cons, List.length_append, List.length_map, List.length_cons, Nat.mul_succ]
    have := besideT_len xs ys
    unfold besideT at this
    rw [this]; omega
theorem besideT_at (xs : List Int) : ∀ (ys : List Int) (i : Nat), i < xs.length * ys.length → gi (besideT xs ys) (i : Int) = gi xs ((i % xs.length : Nat) : Int) + gi ys ((i / xs.length : Nat) : Int)
  | [], i, h => by simp at h
  | y :: ys, i, h => by
    have e : besideT xs (y :: ys) = (xs.map fun h => h + y) ++ besideT xs ys := by unfold besideT; rw [List.flatMap_cons]
    have h0 : 0 < xs.length := by
      rcases Nat.eq_zero_or_pos xs.length with z | z
      · rw [z, Nat.zero_mul] at h; omega
      · exact z
    rw [e]
    unfold gi
    simp only [Int.toNat_natCast, List.getD_eq_getElem?_getD]
    by_cases c : i < xs.length
    · rw [List.getElem?_append_left (by rw [List.length_map]; exact c), Nat.mod_eq_of_lt c, Nat.div_eq_of_lt c, List.getElem?_map, List.getElem?_eq_getElem c]
      rfl
    · have hi : i - xs.length < xs.length * ys.length := by rw [List.length_cons, Nat.mul_succ] at h; omega
      have ih := besideT_at xs ys (i - xs.length) hi
      unfold gi at ih
      simp only [Int.toNat_natCast, List.getD_eq_getElem?_getD] at ih
      rw [List.getElem?_append_right (by rw [List.length_map]; omega), List.length_map, ih]
      have e1 : (i - xs.length) % xs.length = i % xs.length := by
        conv => rhs; rw [show i = (i - xs.length) + xs.length by omega, Nat.add_mod_right]
      have e2 : i / xs.length = (i - xs.length) / xs.length + 1 := by
        conv => lhs; rw [show i = (i - xs.length) + xs.length by omega, Nat.add_div_right _ h0]
      rw [e1, e2]
      congr 2
theorem besideT_two : ∀ ys : List Int, everyK ((besideT [0, 0] ys).map V.int) 2 = ys.map V.int
  | [] => rfl
  | y :: ys => by
    have ih := besideT_two ys
    have e : (besideT [0, 0] (y :: ys)).map V.int = V.int (0 + y) :: V.int (0 + y) :: (besideT [0, 0] ys).map V.int := by unfold besideT; rw [List.flatMap_cons]; rfl
    rw [e]
    unfold everyK at ih ⊢
    rw [List.length_cons, List.length_cons]
    generalize (besideT [0, 0] ys).map V.int = zs at ih ⊢
    rw [show (zs.length + 1 + 1 + 2 - 1) / 2 = (zs.length + 2 - 1) / 2 + 1 by omega, List.range_succ_eq_map, List.filterMap_cons, List.filterMap_map]
    rw [show (V.int (0 + y) :: V.int (0 + y) :: zs)[2 * 0]? = some (V.int (0 + y)) from rfl]
    show V.int (0 + y) :: _ = _
    rw [List.map_cons, Int.zero_add, ← ih]
    congr 1
theorem sumT_zero : ∀ xs : List Int, sumT xs (List.replicate xs.length 0) = xs
  | [] => rfl
  | x :: xs => by
    have := sumT_zero xs
    unfold sumT at this ⊢
    rw [List.length_cons, List.replicate_succ, List.zipWith_cons_cons, this, Int.add_zero]
theorem zero_sumT : ∀ xs : List Int, sumT (List.replicate xs.length 0) xs = xs
  | [] => rfl
  | x :: xs => by
    have := zero_sumT xs
    unfold sumT at this ⊢
    rw [List.length_cons, List.replicate_succ, List.zipWith_cons_cons, this, Int.zero_add]
theorem besideT_tab {xs ys : List Int} {k j : Nat} (h1 : Tab xs k) (h2 : Tab ys j) (h6 : k + j ≤ 6) : Tab (besideT xs ys) (k + j) := by
  have p1 := h1.pos
  have p2 := h2.pos
  have hl : (besideT xs ys).length = 2 ^ (k + j) := by rw [besideT_len, h1.len, h2.len, Nat.pow_add]
  refine ⟨hl, by have := h1.lo; omega, h6, gi_zero (by rw [hl]; exact Nat.two_pow_pos _) ?_⟩
  have := besideT_at xs ys 0 (Nat.mul_pos (by omega) (by omega))
  rw [Nat.zero_mod, Nat.zero_div] at this
  rw [show (0 : Int) = ((0 : Nat) : Int) from rfl, this, show gi xs ((0 : Nat) : Int) = 0 from h1.gi0, show gi ys ((0 : Nat) : Int) = 0 from h2.gi0] <;> rfl
theorem sumT_tab {xs ys : List Int} {k : Nat} (h1 : Tab xs k) (h2 : Tab ys k) : Tab (sumT xs ys) k := by
  have hl := sumT_len (xs := xs) (ys := ys) (by rw [h1.len, h2.len])
  refine ⟨by rw [hl]; exact h1.len, h1.lo, h1.hi, ?_⟩
  rw [sumT_at h1.zero h2.zero] <;> rfl
theorem rep_int (n : Nat) : (List.replicate n [V.int 0]).flatten = (List.replicate n (0 : Int)).map V.int := by
  induction n with
  | zero => rfl
  | succ n ih => rw [List.replicate_succ, List.replicate_succ, List.flatten_cons, ih, List.map_cons] <;> rfl
theorem rep_tab {n k : Nat} (h : n = 2 ^ k) (h1 : 1 ≤ k) (h6 : k ≤ 6) : Tab (List.replicate n 0) k := by
  refine ⟨by rw [List.length_replicate]; exact h, h1, h6, ?_⟩
  rw [List.getElem?_replicate, if_pos (by rw [h]; exact Nat.two_pow_pos k)]
/-- lists told beside lists held, of the same numbers -/
inductive Two (B : Hp) : List Addr → List Addr → Prop
  | nil : Two B [] []
  | cons {p q : Addr} {ps qs : List Addr} {ns : List Int} : B p = some (.lst (ns.map V.int)) → B q = some (.lst (ns.map V.int)) → Two B ps qs → Two B (p :: ps) (q :: qs)
theorem Two.same {B B' : Hp} (s : Same B B') : ∀ {ps qs : List Addr}, Two B ps qs → Two B' ps qs
  | _, _, .nil => .nil
  | _, _, .cons h1 h2 r => .cons (s _ _ h1) (s _ _ h2) (r.same s)
theorem Two.len {B : Hp} : ∀ {ps qs : List Addr}, Two B ps qs → ps.length = qs.length
  | _, _, .nil => rfl
  | _, _, .cons _ _ r => by rw [List.length_cons, List.length_cons, r.len]
theorem Two.snoc {B : Hp} {p q : Addr} {ns : List Int} (h1 : B p = some (.lst (ns.map V.int))) (h2 : B q = some (.lst (ns.map V.int))) : ∀ {ps qs : List Addr}, Two B ps qs → Two B (ps ++ [p]) (qs ++ [q])
  | _, _, .nil => .cons h1 h2 .nil
  | _, _, .cons a b r => .cons a b (r.snoc h1 h2)
theorem Two.at {B : Hp} : ∀ {ps qs : List Addr}, Two B ps qs → ∀ {i : Nat}, i < ps.length → ∃ (p q : Addr) (ns : List Int), ps[i]? = some p ∧ qs[i]? = some q ∧ B p = some (.lst (ns.map V.int)) ∧ B q = some (.lst (ns.map V.int))
  | _, _, .nil, i, h => absurd h (Nat.not_lt_zero i)
  | _, _, .cons (p := p) (q := q) (ns := ns) h1 h2 r, 0, _ => ⟨p, q, ns, rfl, rfl, h1, h2⟩
  | _, _, .cons h1 h2 r, i + 1, h => by
    obtain ⟨p, q, ns, e1, e2, e3, e4⟩ := r.at (i := i) (by simpa using h)
    exact ⟨p, q, ns, by simpa using e1, by simpa using e2, e3, e4⟩
/-- two lists of ints in a list: their data -/
def ddD (l1 l2 : List Int) : PyData := .list [.list (l1.map PyData.int), .list (l2.map PyData.int)]
theorem dp_dd {K : PySem.W.Frag} {H : Hp} {p q r : Addr} {l1 l2 : List Int} (h1 : SqL K H p [.ref q, .ref r]) (h2 : SqL K H q (l1.map V.int)) (h3 : SqL K H r (l2.map V.int)) : Dp K H (.ref p) (ddD l1 l2) :=
  .lst h1 (.cons (dp_ints h2) (.cons (dp_ints h3) .nil))
theorem lay_dd (l1 l2 : List Int) : LayD 3 (ddD l1 l2) := LayD.list fun d hd => by
  simp only [List.mem_cons, List.not_mem_nil, or_false] at hd
  rcases hd with rfl | rfl
  · exact LayD.ints
  · exact LayD.ints
end Sp

/-! FairA: the sums' coefficients, checked: the mean shares, sixty times, as sums linear in a table's numbers: each hand's adds, weighed by size. -/
namespace Sp
open PySem PySem.Spec L2 PyProof.Rows
theorem ev_mulF (T : Nat → Int) (c : Int) : ∀ L : LinF, ev T (L.map fun p => (p.1 * c, p.2)) = ev T L * c
  | [] => by rw [List.map_nil]; show (0 : Int) = 0 * c; rw [Int.zero_mul]
  | p :: L => by rw [List.map_cons, ev_cons, ev_cons, ev_mulF T c L, Int.add_mul, Int.mul_assoc, Int.mul_assoc, Int.mul_comm c]
theorem ev_flatF (T : Nat → Int) (L : Nat → LinF) : ∀ l : List Nat, (l.map fun q => ev T (L q)).sum = ev T (l.flatMap L)
  | [] => rfl
  | q :: l => by rw [List.map_cons, List.sum_cons, ev_flatF T L l, List.flatMap_cons, ev_app]
theorem ev_addT (T T' : Nat → Int) : ∀ L : LinF, ev (fun i => T i + T' i) L = ev T L + ev T' L
  | [] => rfl
  | p :: L => by rw [ev_cons, ev_cons, ev_cons, ev_addT T T' L, Int.mul_add]; omega
def dL : Nat → Nat → LinF
  | 0, g => [(1, g)]
  | k + 1, g => if bitOn k g = true then dL k g ++ (dL k (g ^^^ 2 ^ k)).map (fun p => (p.1 * (-1), p.2)) else dL k g
theorem ev_dL (T : Nat → Int) : ∀ k g, ev T (dL k g) = allD k T g
  | 0, g => by
    show 1 * T g + 0 = T g
    omega
  | k + 1, g => by
    show ev T (if bitOn k g = true then _ else _) = stepD k (allD k T) g
    unfold stepD
    by_cases c : bitOn k g = true
    · rw [if_pos c, if_pos c, ev_app, ev_mulF, ev_dL T k g, ev_dL T k]; omega
    · rw [if_neg c, if_neg c, ev_dL T k g]
def facN : Nat → Nat
  | 0 => 1
  | n + 1 => (n + 1) * facN n
/-- sixty times the part of the orders in which just s hands are ahead -/
def wS (m s : Nat) : Int := ((60 * (facN s * facN (m - s - 1)) / facN m : Nat) : Int)
def topL (m h : Nat) : LinF := (List.range (2 ^ m)).flatMap fun g => if bitOn h g = true then (dL m g).map (fun p => (p.1 * wt g, p.2)) else []
def shapL (m h : Nat) : LinF := (offs h (2 ^ m)).flatMap fun g => [(wS m (handsM g).length, g + 2 ^ h), (-wS m (handsM g).length, g)]
theorem top_shap : ∀ m, m < 7 → ∀ h, h < m → sameL (2 ^ m) (topL m h) (shapL m h) = true := by decide +kernel
theorem sum_all : ∀ m, m < 7 → 1 ≤ m → sameL (2 ^ m) ((List.range m).flatMap (shapL m)) [(60, 2 ^ m - 1), (-60, 0)] = true := by decide +kernel
/-- hands i and j in each other's place -/
def swG (i j g : Nat) : Nat := if bitOn i g = bitOn j g then g else g ^^^ (2 ^ i + 2 ^ j)
def swOkL (m i j : Nat) : Bool := sameL (2 ^ m) (thr (swG i j) (shapL m i)) (shapL m j) && (List.range (2 ^ m)).all fun g => (bitOn i g == bitOn j g) || (List.range (2 ^ m)).any fun q => !bitOn i q && !bitOn j q && ((g == (q ||| 2 ^ i) && swG i j g == (q ||| 2 ^ j)) || (g == (q ||| 2 ^ j) && swG i j g == (q ||| 2 ^ i)))
theorem sw_okL : ∀ m, m < 7 → ∀ i, i < m → ∀ j, j < i → swOkL m i j = true := by decide +kernel
theorem shap_lt : ∀ m, m < 7 → ∀ h, h < m → (shapL m h).all (fun p => decide (p.2 < 2 ^ m)) = true := by decide +kernel
def turnedS (m h : Nat) : LinF := (shapL m h).flatMap fun p => [(p.1, 2 ^ m - 1), (-p.1, 2 ^ m - 1 - p.2)]
theorem turned_sh : ∀ m, m < 7 → ∀ h, h < m → sameL (2 ^ m) (turnedS m h) (shapL m h) = true := by decide +kernel
theorem or_bitsF : ∀ a, a < 64 → ∀ z, z < 6 → ∀ j, j < 6 → bitOn j (a ||| 2 ^ z) = (bitOn j a || j == z) := by decide +kernel
theorem or_len : ∀ a, a < 64 → ∀ z, z < 6 → bitOn z a = false → (handsM (a ||| 2 ^ z)).length = (handsM a).length + 1 := by decide +kernel
theorem hands_to : ∀ m, m < 7 → ∀ g, g < 2 ^ m → (handsM g).length = ((List.range m).filter fun k => bitOn k g).length := by decide +kernel
theorem bits_eqF : ∀ a, a < 64 → ∀ b, b < 64 → ((List.range 6).all fun j => bitOn j a == bitOn j b) = true → a = b := by decide +kernel
theorem bit0F : ∀ j, j < 6 → bitOn j 0 = false := by decide +kernel
theorem high_off : ∀ m, m < 7 → ∀ g, g < 2 ^ m → ∀ j, j < 6 → m ≤ j → bitOn j g = false := by decide +kernel
theorem offs_len : ∀ m, m < 7 → ∀ i, i < m → (offs i (2 ^ m)).length = 2 ^ (m - 1) := by decide +kernel
end Sp

/-! Fair: the mean shares, sixty times, as sums linear in a table's numbers: each hand's adds, weighed by size. -/
namespace Sp
open PySem PySem.Spec L2 PyProof.Rows
/-- the shares, sixty times -/
def shF (ms : List Int) (m h : Nat) : Int := ev (fn ms) (shapL m h)
def shM (ms : List Int) (m : Nat) : List Int := (List.range m).map (shF ms m)
theorem tops_sh {ms : List Int} {m h : Nat} (tb : Tab ms m) (hh : h < m) : topsF (tl ms.length (allD m (fn ms))) ms.length h = shF ms m h := by
  have hm := tb.hi
  unfold shF
  rw [← ev_same (top_shap m (by omega) h hh)]
  unfold topL
  rw [← ev_flatF, tb.len]
  unfold topsF
  congr 1
  refine List.map_congr_left fun g hg => ?_
  rw [List.mem_range] at hg
  by_cases c : bitOn h g = true
  · rw [if_pos c, if_pos c, ev_mulF, ev_dL]
    congr 1
    exact gi_tln hg
  · rw [if_neg c, if_neg c] <;> rfl
theorem sh_sum {ms : List Int} {m : Nat} (tb : Tab ms m) : (shM ms m).sum = 60 * gi ms ((ms.length : Int) - 1) := by
  have hm := tb.hi
  have hp := tb.pos
  unfold shM
  rw [show (List.range m).map (shF ms m) = (List.range m).map fun h => ev (fn ms) (shapL m h) from rfl, ev_flatF, ev_same (sum_all m (by omega) tb.lo)]
  rw [ev_cons, ev_cons]
  show 60 * fn ms (2 ^ m - 1) + (-60 * fn ms 0 + 0) = _
  rw [show fn ms 0 = 0 from tb.gi0, show fn ms (2 ^ m - 1) = gi ms ((ms.length : Int) - 1) by
    unfold fn; congr 1; rw [tb.len]; have := Nat.two_pow_pos m; omega]
  omega
theorem ev_pairs (T : Nat → Int) (w d : Nat → Nat) (W : Nat → Int) : ∀ l : List Nat, ev T (l.flatMap fun g => [(W g, d g), (-W g, g)]) = (l.map fun g => W g * (T (d g) - T g)).sum
  | [] => rfl
  | g :: l => by
    rw [List.map_cons, List.sum_cons, ← ev_pairs T w d W l, List.flatMap_cons, ev_app, ev_cons, ev_cons]
    show W g * T (d g) + (-W g * T g + 0) + _ = _
    rw [Int.mul_sub, Int.neg_mul]
    omega
theorem sh_offs (ms : List Int) (m h : Nat) : shF ms m h = ((offs h (2 ^ m)).map fun g => wS m (handsM g).length * (fn ms (g + 2 ^ h) - fn ms g)).sum :=
  ev_pairs (fn ms) id (fun g => g + 2 ^ h) (fun g => wS m (handsM g).length) _
theorem sh_idle {ms : List Int} {m h : Nat} (tb : Tab ms m) (hi : idleB ms h = true) : shF ms m h = 0 := by
  rw [sh_offs]
  unfold idleB addsM at hi
  rw [Bool.not_eq_true', List.any_map, tb.len] at hi
  rw [show ((offs h (2 ^ m)).map fun g => wS m (handsM g).length * (fn ms (g + 2 ^ h) - fn ms g)) = (offs h (2 ^ m)).map fun _ => (0 : Int) from List.map_congr_left fun g hg => ?_]
  · exact sum_zero _
  · have h1 := List.any_eq_false.mp hi g hg
    have h2 : fn ms (g + 2 ^ h) - fn ms g = 0 := by simpa using h1
    rw [h2, Int.mul_zero]
theorem sh_alike {ms : List Int} {m i j : Nat} (tb : Tab ms m) (hi : i < m) (hj : j < i) (h : alikeB ms i j = true) : shF ms m i = shF ms m j := by
  have hm := tb.hi
  have e := sw_okL m (by omega) i hi j hj
  unfold swOkL at e
  rw [Bool.and_eq_true] at e
  obtain ⟨e1, e2⟩ := e
  unfold shF
  rw [← ev_same e1, ev_thr]
  refine ev_congr fun p hp => ?_
  have hlt : p.2 < 2 ^ m := of_decide_eq_true (List.all_eq_true.mp (shap_lt m (by omega) i hi) p hp)
  generalize p.2 = g at hlt
  have e3 := List.all_eq_true.mp e2 g (List.mem_range.mpr hlt)
  rw [Bool.or_eq_true] at e3
  rcases e3 with e3 | e3
  · unfold swG
    rw [if_pos (beq_iff_eq.mp e3)]
  · obtain ⟨q, hq, e4⟩ := List.any_eq_true.mp e3
    simp only [Bool.and_eq_true, Bool.or_eq_true, beq_iff_eq, Bool.not_eq_true'] at e4
    obtain ⟨⟨b1, b2⟩, e5⟩ := e4
    unfold alikeB at h
    have h1 := List.all_eq_true.mp h q (by rw [tb.len]; exact hq)
    rw [b1, b2] at h1
    have h2 : fn ms (q ||| 2 ^ i) = fn ms (q ||| 2 ^ j) := by simpa using h1
    rcases e5 with ⟨f1, f2⟩ | ⟨f1, f2⟩
    · rw [f2, f1, h2]
    · rw [f2, f1, h2]
theorem sh_add {ms ns bs : List Int} {m : Nat} (h : ∀ g, g < 2 ^ m → fn bs g = fn ms g + fn ns g) (hm : m < 7) {h' : Nat} (hh : h' < m) : shF bs m h' = shF ms m h' + shF ns m h' := by
  unfold shF
  rw [← ev_addT]
  refine ev_congr fun p hp => ?_
  exact h _ (of_decide_eq_true (List.all_eq_true.mp (shap_lt m hm h' hh) p hp))
theorem sh_turn {ms : List Int} {m h : Nat} (tb : Tab ms m) (hh : h < m) : shF (turnM ms) m h = shF ms m h := by
  have hm := tb.hi
  unfold shF
  rw [← ev_same (turned_sh m (by omega) h hh) (fn ms)]
  unfold turnedS
  rw [← flat_ev (fn ms) (gi ms ((ms.length : Int) - 1)) (2 ^ m - 1) (by unfold fn; congr 1; rw [tb.len]; have := Nat.two_pow_pos m; omega) (fun i => 2 ^ m - 1 - i)]
  refine ev_congr fun p hp' => ?_
  have hlt : p.2 < 2 ^ m := of_decide_eq_true (List.all_eq_true.mp (shap_lt m (by omega) h hh) p hp')
  unfold fn turnM
  rw [gi_map_range (by omega) (by rw [tb.len]; omega)]
  show _ = gi ms _ - gi ms _
  congr 2
  rw [tb.len]
  omega
/-! ### hands numbered anew -/
def pmTo (os : List Nat) (g : Nat) : Nat → Nat
  | 0 => 0
  | k + 1 => if bitOn k g = true then pmTo os g k + 2 ^ os.getD k 0 else pmTo os g k
def pmM (os : List Nat) (g : Nat) : Nat := pmTo os g os.length
theorem ord_at {os : List Nat} {m k : Nat} (o : Ordr os m) (hk : k < m) : os[k]? = some (os.getD k 0) ∧ os.getD k 0 < m := by
  have hl := o.len
  have e : os[k]? = some (os.getD k 0) := by rw [List.getD_eq_getElem?_getD, List.getElem?_eq_getElem (by omega)] <;> rfl
  exact ⟨e, o.lt _ (List.mem_of_getElem? e)⟩
theorem ord_inj {os : List Nat} {m i k : Nat} (o : Ordr os m) (hi : i < m) (hk : k < m) (e : os.getD i 0 = os.getD k 0) : i = k := by
  have hl := o.len
  have h1 := (ord_at o hi).1
  have h2 := (ord_at o hk).1
  rw [e, ← h2] at h1
  exact (List.getElem?_inj (by omega) o.nd).mp h1
theorem pm_inv {os : List Nat} {m : Nat} (g : Nat) (o : Ordr os m) (h6 : m ≤ 6) : ∀ k, k ≤ m → pmTo os g k < 2 ^ m ∧ (∀ j, j < 6 → (bitOn j (pmTo os g k) = true ↔ ∃ i, i < k ∧ os.getD i 0 = j ∧ bitOn i g = true)) ∧ (handsM (pmTo os g k)).length = ((List.range k).filter fun i => bitOn i g).length
  | 0, _ => by
    refine ⟨Nat.two_pow_pos m, fun j hj => ?_, by show (handsM 0).length = 0; decide⟩
    have z0 : bitOn j (pmTo os g 0) = false := bit0F j hj
    rw [z0]
    exact ⟨fun z => absurd z Bool.false_ne_true, fun z => by obtain ⟨_, z, _⟩ := z; exact absurd z (Nat.not_lt_zero _)⟩
  | k + 1, hk => by
    obtain ⟨i1, i2, i3⟩ := pm_inv g o h6 k (by omega)
    have h64 := pow6 h6
    obtain ⟨a1, a2⟩ := ord_at o (show k < m by omega)
    by_cases c : bitOn k g = true
    · have hz : bitOn (os.getD k 0) (pmTo os g k) = false := by
        rw [Bool.eq_false_iff]
        intro z
        obtain ⟨i, hi, he, _⟩ := (i2 _ (by omega)).mp z
        have := ord_inj o (show i < m by omega) (show k < m by omega) he
        omega
      obtain ⟨f1, f2⟩ := off_bit (by omega) a2 i1 hz
      have e : pmTo os g (k + 1) = pmTo os g k ||| 2 ^ os.getD k 0 := by
        show (if bitOn k g = true then _ else _) = _
        rw [if_pos c, f1]
      rw [e]
      refine ⟨by rw [f1]; exact f2, fun j hj => ?_, ?_⟩
      · rw [or_bitsF _ (by omega) _ (by omega) j hj, Bool.or_eq_true, i2 j hj, beq_iff_eq]
        constructor
        · rintro (⟨i, x, y, z⟩ | rfl)
          · exact ⟨i, by omega, y, z⟩
          · exact ⟨k, by omega, rfl, c⟩
        · rintro ⟨i, x, y, z⟩
          by_cases hik : i = k
          · subst hik; exact .inr y.symm
          · exact .inl ⟨i, by omega, y, z⟩
      · rw [or_len _ (by omega) _ (by omega) hz, i3, List.range_succ, List.filter_append, List.length_append, List.filter_cons, if_pos c] <;> rfl
    · have e : pmTo os g (k + 1) = pmTo os g k := by
        show (if bitOn k g = true then _ else _) = _
        rw [if_neg c]
      rw [e]
      refine ⟨i1, fun j hj => ?_, ?_⟩
      · rw [i2 j hj]
        constructor
        · rintro ⟨i, x, y, z⟩
          exact ⟨i, by omega, y, z⟩
        · rintro ⟨i, x, y, z⟩
          by_cases hik : i = k
          · subst hik; exact absurd z c
          · exact ⟨i, by omega, y, z⟩
      · rw [i3, List.range_succ, List.filter_append, List.length_append, List.filter_cons, if_neg c] <;> rfl
theorem pm_lt {os : List Nat} {m : Nat} (g : Nat) (o : Ordr os m) (h6 : m ≤ 6) : pmM os g < 2 ^ m := by
  unfold pmM; rw [o.len]; exact (pm_inv g o h6 m (Nat.le_refl _)).1
theorem pm_bit {os : List Nat} {m i : Nat} (g : Nat) (o : Ordr os m) (h6 : m ≤ 6) (hi : i < m) : bitOn (os.getD i 0) (pmM os g) = bitOn i g := by
  have h2 := (ord_at o hi).2
  rw [Bool.eq_iff_iff]
  unfold pmM
  rw [o.len, (pm_inv g o h6 m (Nat.le_refl _)).2.1 _ (by omega)]
  constructor
  · rintro ⟨k, x, y, z⟩
    have := ord_inj o x hi y
    subst this
    exact z
  · exact fun z => ⟨i, hi, rfl, z⟩
theorem pm_len {os : List Nat} {m g : Nat} (o : Ordr os m) (h6 : m ≤ 6) (hg : g < 2 ^ m) : (handsM (pmM os g)).length = (handsM g).length := by
  unfold pmM
  rw [o.len, (pm_inv g o h6 m (Nat.le_refl _)).2.2, hands_to m (by omega) g hg]
theorem nodup_sub {l l' : List Nat} : l.Nodup → (∀ x ∈ l, x ∈ l') → l'.length ≤ l.length → l.Perm l' := by
  induction l generalizing l' with
  | nil =>
    intro _ _ h
    rw [List.eq_nil_of_length_eq_zero (Nat.le_zero.mp h)]
  | cons x l ih =>
    intro nd hs hl
    rw [List.nodup_cons] at nd
    have hx := hs x (.head _)
    have hp := List.perm_cons_erase hx
    have hlen := List.length_erase_of_mem hx
    refine List.Perm.trans (List.Perm.cons x (ih nd.2 (fun y hy => ?_) ?_)) hp.symm
    · exact (List.mem_erase_of_ne (fun e => nd.1 (by rw [← e]; exact hy))).mpr (hs y (.tail _ hy))
    · rw [hlen]; rw [List.length_cons] at hl; omega
/-- every hand stands somewhere in the order -/
theorem ord_mem {os : List Nat} {m j : Nat} (o : Ordr os m) (hj : j < m) : ∃ i, i < m ∧ os.getD i 0 = j := by
  have hp := nodup_sub o.nd (fun x hx => List.mem_range.mpr (o.lt x hx)) (by rw [List.length_range, o.len]; exact Nat.le_refl _)
  have hm : j ∈ os := hp.mem_iff.mpr (List.mem_range.mpr hj)
  obtain ⟨i, hi, e⟩ := List.mem_iff_getElem.mp hm
  refine ⟨i, by rw [← o.len]; exact hi, ?_⟩
  rw [List.getD_eq_getElem?_getD, List.getElem?_eq_getElem hi, e] <;> rfl
theorem pm_inj {os : List Nat} {m g q : Nat} (o : Ordr os m) (h6 : m ≤ 6) (hg : g < 2 ^ m) (hq : q < 2 ^ m) (e : pmM os g = pmM os q) : g = q := by
  have h64 := pow6 h6
  refine bits_eqF g (by omega) q (by omega) (List.all_eq_true.mpr fun j hj => ?_)
  rw [List.mem_range] at hj
  rw [beq_iff_eq]
  by_cases c : j < m
  · rw [← pm_bit g o h6 c, ← pm_bit q o h6 c, e]
  · rw [high_off m (by omega) g hg j hj (by omega), high_off m (by omega) q hq j hj (by omega)]
theorem pm_off {os : List Nat} {m g i : Nat} (o : Ordr os m) (h6 : m ≤ 6) (hg : g < 2 ^ m) (hi : i < m) (hb : bitOn i g = false) : pmM os (g + 2 ^ i) = pmM os g + 2 ^ os.getD i 0 ∧ bitOn (os.getD i 0) (pmM os g) = false := by
  have h64 := pow6 h6
  have hz := (ord_at o hi).2
  have hb2 : bitOn (os.getD i 0) (pmM os g) = false := by rw [pm_bit g o h6 hi]; exact hb
  obtain ⟨f1, f2⟩ := off_bit (by omega) hi hg hb
  obtain ⟨g1, g2⟩ := off_bit (by omega) hz (pm_lt g o h6) hb2
  refine ⟨?_, hb2⟩
  rw [← g1, ← f1]
  have l1 := pm_lt (g ||| 2 ^ i) o h6
  refine bits_eqF _ (by omega) _ (by rw [g1]; omega) (List.all_eq_true.mpr fun j hj => ?_)
  rw [List.mem_range] at hj
  rw [beq_iff_eq, or_bitsF _ (by have := pm_lt g o h6; omega) _ (by omega) j hj]
  by_cases c : j < m
  · obtain ⟨k, hk, rfl⟩ := ord_mem o c
    rw [pm_bit _ o h6 hk, pm_bit g o h6 hk, or_bitsF g (by omega) i (by omega) k (by omega)]
    congr 1
    rw [Bool.eq_iff_iff, beq_iff_eq, beq_iff_eq]
    exact ⟨fun z => by rw [z], fun z => ord_inj o hk hi z⟩
  · rw [high_off m (by omega) _ l1 j hj (by omega), high_off m (by omega) _ (pm_lt g o h6) j hj (by omega), Bool.false_or]
    symm
    rw [beq_eq_false_iff_ne]
    omega
theorem sum_perm (f : Nat → Int) {l l' : List Nat} (p : l.Perm l') : (l.map f).sum = (l'.map f).sum := by
  induction p with
  | nil => rfl
  | cons x _ ih => rw [List.map_cons, List.map_cons, List.sum_cons, List.sum_cons, ih]
  | swap x y l => rw [List.map_cons, List.map_cons, List.map_cons, List.map_cons, List.sum_cons, List.sum_cons, List.sum_cons, List.sum_cons]; omega
  | trans _ _ h1 h2 => rw [h1, h2]
theorem pm_offs {os : List Nat} {m i : Nat} (o : Ordr os m) (h6 : m ≤ 6) (hi : i < m) : ((offs i (2 ^ m)).map (pmM os)).Perm (offs (os.getD i 0) (2 ^ m)) := by
  have hz := (ord_at o hi).2
  have mo : ∀ {h g : Nat}, g ∈ offs h (2 ^ m) ↔ g < 2 ^ m ∧ bitOn h g = false := fun {h g} => by
    unfold offs
    rw [List.mem_filter, List.mem_range, Bool.not_eq_true']
  refine nodup_sub ?_ (fun x hx => ?_) ?_
  · have nd : (offs i (2 ^ m)).Nodup := List.Sublist.nodup (List.filter_sublist ..) List.nodup_range
    rw [List.nodup_iff_pairwise_ne, List.pairwise_map]
    rw [List.nodup_iff_pairwise_ne] at nd
    exact nd.imp_of_mem fun ha hb hne e => hne (pm_inj o h6 (mo.mp ha).1 (mo.mp hb).1 e)
  · obtain ⟨g, hg, rfl⟩ := List.mem_map.mp hx
    obtain ⟨g1, g2⟩ := mo.mp hg
    exact mo.mpr ⟨pm_lt g o h6, (pm_off o h6 g1 hi g2).2⟩
  · rw [List.length_map, offs_len m (by omega) _ hz, offs_len m (by omega) _ hi]
    exact Nat.le_refl _
def anewM (ms : List Int) (os : List Nat) (m : Nat) : List Int := tl (2 ^ m) fun g => fn ms (pmM os g)
theorem sh_anew {ms : List Int} {os : List Nat} {m i : Nat} (o : Ordr os m) (h6 : m ≤ 6) (hi : i < m) : shF (anewM ms os m) m i = shF ms m (os.getD i 0) := by
  rw [sh_offs, sh_offs, ← sum_perm _ (pm_offs o h6 hi), List.map_map]
  congr 1
  refine List.map_congr_left fun g hg => ?_
  unfold offs at hg
  rw [List.mem_filter, List.mem_range, Bool.not_eq_true'] at hg
  obtain ⟨g1, g2⟩ := hg
  obtain ⟨f1, f2⟩ := off_bit (by omega) hi g1 g2
  obtain ⟨e1, _⟩ := pm_off o h6 g1 hi g2
  show _ = wS m (handsM (pmM os g)).length * (fn ms (pmM os g + 2 ^ os.getD i 0) - fn ms (pmM os g))
  rw [pm_len o h6 g1, ← e1]
  congr 2
  · exact gi_tln f2
  · exact gi_tln g1
theorem pm_zero {os : List Nat} : pmM os 0 = 0 := by
  unfold pmM
  induction os.length with
  | zero => rfl
  | succ k ih =>
    show (if bitOn k 0 = true then _ else _) = _
    rw [if_neg (by unfold bitOn; rw [Nat.zero_and]; decide), ih]
theorem anew_tab {ms : List Int} {os : List Nat} {m : Nat} (tb : Tab ms m) : Tab (anewM ms os m) m :=
  ⟨tl_len _ _, tb.lo, tb.hi, gi_zero (by unfold anewM; rw [tl_len]; exact Nat.two_pow_pos m) (by
    unfold anewM
    rw [show (0 : Int) = ((0 : Nat) : Int) from rfl, gi_tln (Nat.two_pow_pos m), pm_zero]
    exact tb.gi0)⟩
end Sp

/-! Cmp: dividends and shares of companies cut, and of two side by side, by coefficients. -/
namespace Sp
open PySem PySem.Spec L2 PyProof.Rows
def drop0 (L : LinF) : LinF := L.filter fun p => p.2 != 0
theorem ev_drop0 {T : Nat → Int} (h : T 0 = 0) : ∀ L : LinF, ev T (drop0 L) = ev T L
  | [] => rfl
  | p :: L => by
    unfold drop0
    rw [List.filter_cons, ev_cons]
    have ih := ev_drop0 h L
    unfold drop0 at ih
    by_cases c : p.2 = 0
    · rw [c, if_neg (by decide), ih, h]; omega
    · rw [if_pos (by simpa using c), ev_cons, ih]
theorem bes_ev {xs ys : List Int} {k j : Nat} (t1 : Tab xs k) (t2 : Tab ys j) {L : LinF} (hL : L.all (fun p => decide (p.2 < 2 ^ (k + j))) = true) :
    ev (fn (besideT xs ys)) L = ev (fn xs) (thr (fun q => q % 2 ^ k) L) + ev (fn ys) (thr (fun q => q / 2 ^ k) L) := by
  rw [ev_thr, ev_thr, ← ev_addT]
  refine ev_congr fun p hp => ?_
  have h := of_decide_eq_true (List.all_eq_true.mp hL p hp)
  unfold fn
  rw [besideT_at xs ys p.2 (by rw [t1.len, t2.len, ← Nat.pow_add]; exact h), t1.len]
/-- dividends side by side -/
def bothF (X Y : Nat → Int) (k g : Nat) : Int := if g % 2 ^ k = g then X g else if g % 2 ^ k = 0 then Y (g / 2 ^ k) else 0
def besOk (k j : Nat) : Bool := (List.range (2 ^ (k + j))).all fun g =>
  sameL (2 ^ k) (drop0 (thr (fun q => q % 2 ^ k) (dL (k + j) g))) (if g % 2 ^ k = g then drop0 (dL k g) else []) &&
  sameL (2 ^ j) (drop0 (thr (fun q => q / 2 ^ k) (dL (k + j) g))) (if g % 2 ^ k = 0 then drop0 (dL j (g / 2 ^ k)) else []) &&
  (dL (k + j) g).all (fun p => decide (p.2 < 2 ^ (k + j)))
theorem bes_okA : ∀ k, k < 5 → ∀ j, j < 3 → besOk k j = true := by decide +kernel
theorem bes_okB : besOk 5 1 = true := by decide +kernel
theorem bes_div {xs ys : List Int} {k j : Nat} (t1 : Tab xs k) (t2 : Tab ys j) (hb : besOk k j = true) {g : Nat} (hg : g < 2 ^ (k + j)) :
    allD (k + j) (fn (besideT xs ys)) g = bothF (allD k (fn xs)) (allD j (fn ys)) k g := by
  have h := List.all_eq_true.mp hb g (List.mem_range.mpr hg)
  rw [Bool.and_eq_true, Bool.and_eq_true] at h
  obtain ⟨⟨h1, h2⟩, h3⟩ := h
  have x0 : fn xs 0 = 0 := t1.gi0
  have y0 : fn ys 0 = 0 := t2.gi0
  rw [← ev_dL, bes_ev t1 t2 h3, ← ev_drop0 x0, ← ev_drop0 y0, ev_same h1, ev_same h2]
  unfold bothF
  by_cases c : g % 2 ^ k = g
  · rw [if_pos c, if_pos c, ev_drop0 x0, ev_dL]
    by_cases d : g % 2 ^ k = 0
    · have e : g = 0 := by omega
      subst e
      rw [if_pos d, ev_drop0 y0, ev_dL, Nat.zero_div]
      have : allD j (fn ys) 0 = 0 := by
        rw [← ev_dL, ← ev_drop0 y0]
        have z : ∀ j, j < 3 → drop0 (dL j 0) = [] := by decide
        by_cases c3 : j < 3
        · rw [z j c3] <;> rfl
        · rw [ev_drop0 y0, ev_dL]
          have e3 := allED (fn ys) j t2.hi 0 (by decide)
          rw [allE_sum _ t2.hi (Nat.two_pow_pos j), partSum_some _ (by decide)] at e3
          unfold someSum at e3
          rw [someSubs_zero] at e3
          rw [y0] at e3
          simpa using e3
      rw [this]; omega
    · rw [if_neg d]; show _ + (0 : Int) = _; omega
  · rw [if_neg c, if_neg c]
    by_cases d : g % 2 ^ k = 0
    · rw [if_pos d, if_pos d, ev_drop0 y0, ev_dL]; show (0 : Int) + _ = _; omega
    · rw [if_neg d, if_neg d]; rfl
def besSh (k j : Nat) : Bool := ((List.range k).all fun h =>
  sameL (2 ^ k) (thr (fun q => q % 2 ^ k) (shapL (k + j) h)) (shapL k h) && sameL (2 ^ j) (thr (fun q => q / 2 ^ k) (shapL (k + j) h)) []) &&
  ((List.range j).all fun h => sameL (2 ^ k) (thr (fun q => q % 2 ^ k) (shapL (k + j) (k + h))) [] && sameL (2 ^ j) (thr (fun q => q / 2 ^ k) (shapL (k + j) (k + h))) (shapL j h))
theorem bes_shA : ∀ k, k < 5 → ∀ j, j < 3 → besSh k j = true := by decide +kernel
theorem bes_shB : besSh 5 1 = true := by decide +kernel
theorem bes_sh {xs ys : List Int} {k j : Nat} (t1 : Tab xs k) (t2 : Tab ys j) (h6 : k + j < 7) (hb : besSh k j = true) : shM (besideT xs ys) (k + j) = shM xs k ++ shM ys j := by
  unfold besSh at hb
  rw [Bool.and_eq_true] at hb
  obtain ⟨b1, b2⟩ := hb
  unfold shM
  rw [List.range_add, List.map_append, List.map_map]
  congr 1
  · refine List.map_congr_left fun h hh => ?_
    have e := List.all_eq_true.mp b1 h hh
    rw [Bool.and_eq_true] at e
    rw [List.mem_range] at hh
    unfold shF
    rw [bes_ev t1 t2 (shap_lt (k + j) h6 h (by omega)), ev_same e.1, ev_same e.2]
    show _ + (0 : Int) = _
    omega
  · refine List.map_congr_left fun h hh => ?_
    have e := List.all_eq_true.mp b2 h hh
    rw [Bool.and_eq_true] at e
    rw [List.mem_range] at hh
    show shF (besideT xs ys) (k + j) (k + h) = shF ys j h
    unfold shF
    rw [bes_ev t1 t2 (shap_lt (k + j) h6 (k + h) (by omega)), ev_same e.1, ev_same e.2]
    show (0 : Int) + _ = _
    omega
/-! ### cut -/
def partsM (g : Nat) : List Nat := (List.range (g + 1)).filter fun q => (q &&& g) == q
theorem parts_spread : ∀ g, g < 64 → partsM g = (List.range (2 ^ (handsM g).length)).map fun q => spreadM q ((handsM g).map (2 ^ ·)) := by decide +kernel
def cutOk (m g : Nat) : Bool := ((List.range (2 ^ (handsM g).length)).all fun q => sameL (2 ^ m) (thr (fun r => spreadM r ((handsM g).map (2 ^ ·))) (dL (handsM g).length q)) (dL m (spreadM q ((handsM g).map (2 ^ ·)))) && (dL (handsM g).length q).all (fun p => decide (p.2 < 2 ^ (handsM g).length)))
theorem cut_ok : ∀ m, m < 6 → ∀ g, g < 2 ^ m → cutOk m g = true := by decide +kernel
theorem cut_div {ms : List Int} {m g : Nat} (tb : Tab ms m) (h5 : m < 6) (hg : g < 2 ^ m) : tl (cutM ms g).length (allD (handsM g).length (fn (cutM ms g))) = (partsM g).map fun q : Nat => gi (tl ms.length (allD m (fn ms))) (q : Int) := by
  have h64 : g < 64 := by
    have := pow6 (n := m) (by omega)
    omega
  have ok := List.all_eq_true.mp (cut_ok m h5 g hg)
  rw [parts_spread g h64, List.map_map]
  rw [cutM_len]
  rw [show tl (2 ^ (handsM g).length) (allD (handsM g).length (fn (cutM ms g))) = (List.range (2 ^ (handsM g).length)).map (allD (handsM g).length (fn (cutM ms g))) from rfl]
  refine List.map_congr_left fun q hq => ?_
  have e := ok q hq
  rw [Bool.and_eq_true] at e
  rw [List.mem_range] at hq
  have hs := spread_le h64 q hq
  show _ = gi (tl ms.length (allD m (fn ms))) ((spreadM q ((handsM g).map (2 ^ ·)) : Nat) : Int)
  rw [gi_tln (by rw [tb.len]; exact Nat.lt_of_le_of_lt hs hg), ← ev_dL, ← ev_dL, ← ev_same e.1, ev_thr]
  refine ev_congr fun p hp => ?_
  have hp := of_decide_eq_true (List.all_eq_true.mp e.2 p hp)
  unfold fn cutM
  rw [gi_map_range (by omega) (by omega), Int.toNat_natCast]
/-! ### dividends as a law reckons them, group by group -/
theorem subs_below : ∀ g, g < 64 → subs g = ((List.range g).filter fun q => (q &&& g) == q) ++ [g] := by decide +kernel
theorem div_step {ms : List Int} {m g : Nat} (tb : Tab ms m) (hg : g < ms.length) :
    fn ms g - (((List.range g).filter fun q => (q &&& g) == q).map (allD m (fn ms))).sum = allD m (fn ms) g := by
  have hp := tb.pos
  have e := allED (fn ms) m tb.hi g (by omega)
  rw [allE_sum _ tb.hi (by rw [← tb.len]; exact hg)] at e
  unfold partSum at e
  rw [subs_below g (by omega), List.map_append, sum_app] at e
  simp at e
  omega
end Sp

/-! Okf: fractions in lowest terms, as a law's own look at one asks. -/
namespace Sp
open PySem PySem.Spec L2 PyProof.Rows
def OkF (f : Int × Int) : Prop := 1 ≤ f.2 ∧ gcdI f.1 f.2 = 1 ∧ ∃ B, Bits B f.1 f.2
theorem short_ok {a b : Int} {B : Nat} (h : Bits B a b) (h0 : 0 < b) : OkF (shortM a b) := by
  have f := short_frac (a := a) (b := b) (by omega)
  have hb := short_bits h (by omega)
  exact ⟨by have := f.pos; omega, by unfold gcdI; rw [f.one] <;> rfl, B, hb⟩
theorem sixty_le (a : Int) : 1 ≤ (shortM a 60).2 ∧ (shortM a 60).2 ≤ 60 := by
  have f := short_frac (a := a) (b := 60) (by decide)
  refine ⟨by have := f.pos; omega, ?_⟩
  unfold shortM
  rw [if_pos (by decide)]
  exact Int.ediv_le_self _ (by decide)
theorem pg_lstK {X : Cx} {K : PySem.W.Frag} (h : X.K = K) {pos : Pos} {es : List Expr} {k : Nat} {t : TGs} {n : Nat} (hc : X.calm = true) (hg : PGs X es t)
    (hn : (assignEach es X.env).length = n := by rfl) (hst : (assignEach es X.env).findIdx? (·.1) = none := by rfl) : PG X (.Tuple es k pos) (gLst K n t) := h ▸ pg_lst hc hg hn hst
theorem x_gl {K : PySem.W.Frag} {σ : L2.St} {H : Hp} {n : Nat} {gs : TGs} {a : Addr} {xs : List V} {QS : L2.St → Hp → Prop} (h : SqL K H a xs) (hn : xs.length = n) (q : gs xs σ H QS) : gLst K n gs (.ref a) σ H QS := ⟨a, xs, rfl, h, hn, q⟩
end Sp

namespace Lw
open PySem PySem.Spec PyProof.Rows L2 Sp
def topS (i : Nat) : Stmt := PySem.Challenge.pw_shareparley_k61_whole_smaller_companies.main.body.getD i (.Pass ⟨0, 0, 0, 0⟩)
abbrev s_is_whole : Stmt := topS 8
abbrev N_is_whole : List Str := ["thing"]
theorem sc_is_whole : FnScope N_is_whole ["thing"] (defScope s_is_whole) := ⟨rfl, rfl, rfl, by decide +kernel, rfl, by decide +kernel, by decide +kernel⟩
abbrev s_divisor : Stmt := topS 9
abbrev N_divisor : List Str := ["one", "other", "rests"]
theorem sc_divisor : FnScope N_divisor ["one", "other"] (defScope s_divisor) := ⟨rfl, rfl, rfl, by decide +kernel, rfl, by decide +kernel, by decide +kernel⟩
abbrev s_shortest : Stmt := topS 10
abbrev N_shortest : List Str := ["top", "bottom", "share"]
theorem sc_shortest : FnScope N_shortest ["top", "bottom"] (defScope s_shortest) := ⟨rfl, rfl, rfl, by decide +kernel, rfl, by decide +kernel, by decide +kernel⟩
abbrev s_fraction : Stmt := topS 11
abbrev N_fraction : List Str := ["top", "bottom", "thing"]
theorem sc_fraction : FnScope N_fraction ["top", "bottom"] (defScope s_fraction) := ⟨rfl, rfl, rfl, by decide +kernel, rfl, by decide +kernel, by decide +kernel⟩
abbrev s_look_group : Stmt := topS 14
abbrev N_look_group : List Str := ["group", "least", "greatest"]
theorem sc_look_group : FnScope N_look_group ["group", "least", "greatest"] (defScope s_look_group) := ⟨rfl, rfl, rfl, by decide +kernel, rfl, by decide +kernel, by decide +kernel⟩
abbrev s_whole_of : Stmt := topS 15
abbrev N_whole_of : List Str := ["many"]
theorem sc_whole_of : FnScope N_whole_of ["many"] (defScope s_whole_of) := ⟨rfl, rfl, rfl, by decide +kernel, rfl, by decide +kernel, by decide +kernel⟩
abbrev s_hands_of : Stmt := topS 16
abbrev N_hands_of : List Str := ["group", "hand"]
theorem sc_hands_of : FnScope N_hands_of ["group"] (defScope s_hands_of) := ⟨rfl, rfl, rfl, by decide +kernel, rfl, by decide +kernel, by decide +kernel⟩
abbrev s_size_of : Stmt := topS 17
abbrev N_size_of : List Str := ["group"]
theorem sc_size_of : FnScope N_size_of ["group"] (defScope s_size_of) := ⟨rfl, rfl, rfl, by decide +kernel, rfl, by decide +kernel, by decide +kernel⟩
abbrev s_look : Stmt := topS 19
abbrev N_look : List Str := ["table", "many", "number"]
theorem sc_look : FnScope N_look ["table"] (defScope s_look) := ⟨rfl, rfl, rfl, by decide +kernel, rfl, by decide +kernel, by decide +kernel⟩
abbrev s_summed : Stmt := topS 21
abbrev N_summed : List Str := ["one", "other", "many", "here", "there"]
theorem sc_summed : FnScope N_summed ["one", "other"] (defScope s_summed) := ⟨rfl, rfl, rfl, by decide +kernel, rfl, by decide +kernel, by decide +kernel⟩
abbrev s_beside : Stmt := topS 22
abbrev N_beside : List Str := ["one", "other", "found", "there", "here"]
theorem sc_beside : FnScope N_beside ["one", "other"] (defScope s_beside) := ⟨rfl, rfl, rfl, by decide +kernel, rfl, by decide +kernel, by decide +kernel⟩
abbrev s_hands_spread : Stmt := topS 23
abbrev N_hands_spread : List Str := ["group", "blocks", "found", "at", "block"]
theorem sc_hands_spread : FnScope N_hands_spread ["group", "blocks"] (defScope s_hands_spread) := ⟨rfl, rfl, rfl, by decide +kernel, rfl, by decide +kernel, by decide +kernel⟩
abbrev s_look_group_of : Stmt := topS 24
abbrev N_look_group_of : List Str := ["table", "group", "many"]
theorem sc_look_group_of : FnScope N_look_group_of ["table", "group"] (defScope s_look_group_of) := ⟨rfl, rfl, rfl, by decide +kernel, rfl, by decide +kernel, by decide +kernel⟩
abbrev s_cut : Stmt := topS 25
abbrev N_cut : List Str := ["table", "group", "blocks", "hand", "part"]
theorem sc_cut : FnScope N_cut ["table", "group"] (defScope s_cut) := ⟨rfl, rfl, rfl, by decide +kernel, rfl, by decide +kernel, by decide +kernel⟩
abbrev s_merged : Stmt := topS 26
abbrev N_merged : List Str := ["table", "group", "least", "blocks", "hand", "part"]
theorem sc_merged : FnScope N_merged ["table", "group"] (defScope s_merged) := ⟨rfl, rfl, rfl, by decide +kernel, rfl, by decide +kernel, by decide +kernel⟩
abbrev s_turned : Stmt := topS 27
abbrev N_turned : List Str := ["table", "last", "group"]
theorem sc_turned : FnScope N_turned ["table"] (defScope s_turned) := ⟨rfl, rfl, rfl, by decide +kernel, rfl, by decide +kernel, by decide +kernel⟩
abbrev s_dividends : Stmt := topS 29
abbrev N_dividends : List Str := ["table", "many", "found", "hand", "bit", "group"]
theorem sc_dividends : FnScope N_dividends ["table"] (defScope s_dividends) := ⟨rfl, rfl, rfl, by decide +kernel, rfl, by decide +kernel, by decide +kernel⟩
abbrev s_mean_shares : Stmt := topS 32
abbrev N_mean_shares : List Str := ["table", "found", "tops", "group", "share", "hand", "top"]
theorem sc_mean_shares : FnScope N_mean_shares ["table"] (defScope s_mean_shares) := ⟨rfl, rfl, rfl, by decide +kernel, rfl, by decide +kernel, by decide +kernel⟩
abbrev s_adds_of : Stmt := topS 33
abbrev N_adds_of : List Str := ["table", "hand", "bit", "group"]
theorem sc_adds_of : FnScope N_adds_of ["table", "hand"] (defScope s_adds_of) := ⟨rfl, rfl, rfl, by decide +kernel, rfl, by decide +kernel, by decide +kernel⟩
abbrev s_turns : Stmt := topS 34
abbrev N_turns : List Str := ["table", "many", "hand"]
theorem sc_turns : FnScope N_turns ["table"] (defScope s_turns) := ⟨rfl, rfl, rfl, by decide +kernel, rfl, by decide +kernel, by decide +kernel⟩
abbrev s__law_cell : Stmt := topS 36
abbrev N__law_cell : List Str := ["_law_script", "_law_k"]
theorem sc__law_cell : FnScope N__law_cell ["_law_script", "_law_k"] (defScope s__law_cell) := ⟨rfl, rfl, rfl, by decide +kernel, rfl, by decide +kernel, by decide +kernel⟩
abbrev s__law_draws : Stmt := topS 37
abbrev N__law_draws : List Str := ["_law_script", "_law_cells", "_law_many", "_law_base", "_law_draws_here", "_law_left", "_law_k", "_law_number_here"]
theorem sc__law_draws : FnScope N__law_draws ["_law_script"] (defScope s__law_draws) := ⟨rfl, rfl, rfl, by decide +kernel, rfl, by decide +kernel, by decide +kernel⟩
abbrev s__law_whole : Stmt := topS 38
abbrev N__law_whole : List Str := ["_law_found"]
theorem sc__law_whole : FnScope N__law_whole ["_law_found"] (defScope s__law_whole) := ⟨rfl, rfl, rfl, by decide +kernel, rfl, by decide +kernel, by decide +kernel⟩
abbrev s__law_divisor : Stmt := topS 39
abbrev N__law_divisor : List Str := ["_law_one", "_law_other"]
theorem sc__law_divisor : FnScope N__law_divisor ["_law_one", "_law_other"] (defScope s__law_divisor) := ⟨rfl, rfl, rfl, by decide +kernel, rfl, by decide +kernel, by decide +kernel⟩
abbrev s__law_fraction : Stmt := topS 40
abbrev N__law_fraction : List Str := ["_law_found"]
theorem sc__law_fraction : FnScope N__law_fraction ["_law_found"] (defScope s__law_fraction) := ⟨rfl, rfl, rfl, by decide +kernel, rfl, by decide +kernel, by decide +kernel⟩
abbrev s__law_fractions : Stmt := topS 41
abbrev N__law_fractions : List Str := ["_law_found", "_law_many", "_law_one"]
theorem sc__law_fractions : FnScope N__law_fractions ["_law_found", "_law_many"] (defScope s__law_fractions) := ⟨rfl, rfl, rfl, by decide +kernel, rfl, by decide +kernel, by decide +kernel⟩
abbrev s__law_number : Stmt := topS 42
abbrev N__law_number : List Str := ["_law_cell_here"]
theorem sc__law_number : FnScope N__law_number ["_law_cell_here"] (defScope s__law_number) := ⟨rfl, rfl, rfl, by decide +kernel, rfl, by decide +kernel, by decide +kernel⟩
abbrev s__law_ones : Stmt := topS 43
abbrev N__law_ones : List Str := ["_law_number_here", "_law_many"]
theorem sc__law_ones : FnScope N__law_ones ["_law_number_here"] (defScope s__law_ones) := ⟨rfl, rfl, rfl, by decide +kernel, rfl, by decide +kernel, by decide +kernel⟩
abbrev s__law_dividends : Stmt := topS 44
abbrev N__law_dividends : List Str := ["_law_table", "_law_found", "_law_group", "_law_part"]
theorem sc__law_dividends : FnScope N__law_dividends ["_law_table"] (defScope s__law_dividends) := ⟨rfl, rfl, rfl, by decide +kernel, rfl, by decide +kernel, by decide +kernel⟩
abbrev s__law_sixty : Stmt := topS 45
abbrev N__law_sixty : List Str := ["_law_due", "_law_many", "_law_shares", "_law_group", "_law_hand"]
theorem sc__law_sixty : FnScope N__law_sixty ["_law_due", "_law_many"] (defScope s__law_sixty) := ⟨rfl, rfl, rfl, by decide +kernel, rfl, by decide +kernel, by decide +kernel⟩
abbrev s__law_numbers : Stmt := topS 46
abbrev N__law_numbers : List Str := ["_law_found", "_law_due", "_law_number_here", "_law_other"]
theorem sc__law_numbers : FnScope N__law_numbers ["_law_found", "_law_due"] (defScope s__law_numbers) := ⟨rfl, rfl, rfl, by decide +kernel, rfl, by decide +kernel, by decide +kernel⟩
abbrev s__law_tables : Stmt := topS 47
abbrev N__law_tables : List Str := ["_law_script", "_law_many", "_law_few", "_law_tables_here", "_law_places", "_law_k", "_law_which", "_law_table", "_law_at"]
theorem sc__law_tables : FnScope N__law_tables ["_law_script", "_law_many", "_law_few"] (defScope s__law_tables) := ⟨rfl, rfl, rfl, by decide +kernel, rfl, by decide +kernel, by decide +kernel⟩
abbrev s__law_mean : Stmt := topS 48
abbrev N__law_mean : List Str := ["_law_found", "_law_sixty_here", "_law_by", "_law_share", "_law_number_here"]
theorem sc__law_mean : FnScope N__law_mean ["_law_found", "_law_sixty_here", "_law_by"] (defScope s__law_mean) := ⟨rfl, rfl, rfl, by decide +kernel, rfl, by decide +kernel, by decide +kernel⟩
abbrev s__law_cut : Stmt := topS 49
abbrev N__law_cut : List Str := ["_law_table", "_law_due", "_law_group", "_law_parts", "_law_part"]
theorem sc__law_cut : FnScope N__law_cut ["_law_table", "_law_due", "_law_group"] (defScope s__law_cut) := ⟨rfl, rfl, rfl, by decide +kernel, rfl, by decide +kernel, by decide +kernel⟩
abbrev s__law_beside : Stmt := topS 50
abbrev N__law_beside : List Str := ["_law_one", "_law_other", "_law_many", "_law_few", "_law_due", "_law_more", "_law_both", "_law_group", "_law_low", "_law_made", "_law_sixty_here"]
theorem sc__law_beside : FnScope N__law_beside ["_law_one", "_law_other", "_law_many", "_law_few"] (defScope s__law_beside) := ⟨rfl, rfl, rfl, by decide +kernel, rfl, by decide +kernel, by decide +kernel⟩
abbrev s__law_turns : Stmt := topS 51
abbrev N__law_turns : List Str := ["_law_table", "_law_hand", "_law_groups", "_law_group"]
theorem sc__law_turns : FnScope N__law_turns ["_law_table", "_law_hand"] (defScope s__law_turns) := ⟨rfl, rfl, rfl, by decide +kernel, rfl, by decide +kernel, by decide +kernel⟩
abbrev s__law_merged : Stmt := topS 52
abbrev N__law_merged : List Str := ["_law_table", "_law_many", "_law_cell_here", "_law_one", "_law_other", "_law_found"]
theorem sc__law_merged : FnScope N__law_merged ["_law_table", "_law_many", "_law_cell_here"] (defScope s__law_merged) := ⟨rfl, rfl, rfl, by decide +kernel, rfl, by decide +kernel, by decide +kernel⟩
abbrev s_law : Stmt := topS 53
abbrev N_law : List Str := ["_law_script", "_law_draws_here", "_law_many", "_law_few", "_law_one", "_law_other", "_law_due", "_law_kept", "_law_back"]
theorem sc_law : FnScope N_law ["_law_script"] (defScope s_law) := ⟨rfl, rfl, rfl, by decide +kernel, rfl, by decide +kernel, by decide +kernel⟩
structure Ads where
  a_is_whole : Addr
  d_is_whole : FuncData
  a_divisor : Addr
  d_divisor : FuncData
  a_shortest : Addr
  d_shortest : FuncData
  a_fraction : Addr
  d_fraction : FuncData
  a_look_group : Addr
  d_look_group : FuncData
  a_whole_of : Addr
  d_whole_of : FuncData
  a_hands_of : Addr
  d_hands_of : FuncData
  a_size_of : Addr
  d_size_of : FuncData
  a_look : Addr
  d_look : FuncData
  a_summed : Addr
  d_summed : FuncData
  a_beside : Addr
  d_beside : FuncData
  a_hands_spread : Addr
  d_hands_spread : FuncData
  a_look_group_of : Addr
  d_look_group_of : FuncData
  a_cut : Addr
  d_cut : FuncData
  a_merged : Addr
  d_merged : FuncData
  a_turned : Addr
  d_turned : FuncData
  a_dividends : Addr
  d_dividends : FuncData
  a_mean_shares : Addr
  d_mean_shares : FuncData
  a_adds_of : Addr
  d_adds_of : FuncData
  a_turns : Addr
  d_turns : FuncData
  a__law_cell : Addr
  d__law_cell : FuncData
  a__law_draws : Addr
  d__law_draws : FuncData
  a__law_whole : Addr
  d__law_whole : FuncData
  a__law_divisor : Addr
  d__law_divisor : FuncData
  a__law_fraction : Addr
  d__law_fraction : FuncData
  a__law_fractions : Addr
  d__law_fractions : FuncData
  a__law_number : Addr
  d__law_number : FuncData
  a__law_ones : Addr
  d__law_ones : FuncData
  a__law_dividends : Addr
  d__law_dividends : FuncData
  a__law_sixty : Addr
  d__law_sixty : FuncData
  a__law_numbers : Addr
  d__law_numbers : FuncData
  a__law_tables : Addr
  d__law_tables : FuncData
  a__law_mean : Addr
  d__law_mean : FuncData
  a__law_cut : Addr
  d__law_cut : FuncData
  a__law_beside : Addr
  d__law_beside : FuncData
  a__law_turns : Addr
  d__law_turns : FuncData
  a__law_merged : Addr
  d__law_merged : FuncData
  a_law : Addr
  d_law : FuncData
  NoNumber : Addr
  NoGroup : Addr
  NoTable : Addr
  Unlike : Addr
  TooMany : Addr
  t_MOST : Tok
  t_SIXTY : Tok
/-- what the top has written -/
structure Txt (K : PySem.W.Frag) (mg : Str → Option Value) (A : Ads) : Prop where
  F_is_whole : Fun K "is_whole" "is_whole" s_is_whole A.a_is_whole A.d_is_whole
  b_is_whole : Binds K A.d_is_whole ["thing"] []
  g_is_whole : mg "is_whole" = some (.ref A.a_is_whole)
  F_divisor : Fun K "divisor" "divisor" s_divisor A.a_divisor A.d_divisor
  b_divisor : Binds K A.d_divisor ["one", "other"] []
  g_divisor : mg "divisor" = some (.ref A.a_divisor)
  F_shortest : Fun K "shortest" "shortest" s_shortest A.a_shortest A.d_shortest
  b_shortest : Binds K A.d_shortest ["top", "bottom"] []
  g_shortest : mg "shortest" = some (.ref A.a_shortest)
  F_fraction : Fun K "fraction" "fraction" s_fraction A.a_fraction A.d_fraction
  b_fraction : Binds K A.d_fraction ["top", "bottom"] []
  g_fraction : mg "fraction" = some (.ref A.a_fraction)
  F_look_group : Fun K "look_group" "look_group" s_look_group A.a_look_group A.d_look_group
  b_look_group : Binds K A.d_look_group ["group", "least", "greatest"] []
  g_look_group : mg "look_group" = some (.ref A.a_look_group)
  F_whole_of : Fun K "whole_of" "whole_of" s_whole_of A.a_whole_of A.d_whole_of
  b_whole_of : Binds K A.d_whole_of ["many"] []
  g_whole_of : mg "whole_of" = some (.ref A.a_whole_of)
  F_hands_of : Fun K "hands_of" "hands_of" s_hands_of A.a_hands_of A.d_hands_of
  b_hands_of : Binds K A.d_hands_of ["group"] []
  g_hands_of : mg "hands_of" = some (.ref A.a_hands_of)
  F_size_of : Fun K "size_of" "size_of" s_size_of A.a_size_of A.d_size_of
  b_size_of : Binds K A.d_size_of ["group"] []
  g_size_of : mg "size_of" = some (.ref A.a_size_of)
  F_look : Fun K "look" "look" s_look A.a_look A.d_look
  b_look : Binds K A.d_look ["table"] []
  g_look : mg "look" = some (.ref A.a_look)
  F_summed : Fun K "summed" "summed" s_summed A.a_summed A.d_summed
  b_summed : Binds K A.d_summed ["one", "other"] []
  g_summed : mg "summed" = some (.ref A.a_summed)
  F_beside : Fun K "beside" "beside" s_beside A.a_beside A.d_beside
  b_beside : Binds K A.d_beside ["one", "other"] []
  g_beside : mg "beside" = some (.ref A.a_beside)
  F_hands_spread : Fun K "hands_spread" "hands_spread" s_hands_spread A.a_hands_spread A.d_hands_spread
  b_hands_spread : Binds K A.d_hands_spread ["group", "blocks"] []
  g_hands_spread : mg "hands_spread" = some (.ref A.a_hands_spread)
  F_look_group_of : Fun K "look_group_of" "look_group_of" s_look_group_of A.a_look_group_of A.d_look_group_of
  b_look_group_of : Binds K A.d_look_group_of ["table", "group"] []
  g_look_group_of : mg "look_group_of" = some (.ref A.a_look_group_of)
  F_cut : Fun K "cut" "cut" s_cut A.a_cut A.d_cut
  b_cut : Binds K A.d_cut ["table", "group"] []
  g_cut : mg "cut" = some (.ref A.a_cut)
  F_merged : Fun K "merged" "merged" s_merged A.a_merged A.d_merged
  b_merged : Binds K A.d_merged ["table", "group"] []
  g_merged : mg "merged" = some (.ref A.a_merged)
  F_turned : Fun K "turned" "turned" s_turned A.a_turned A.d_turned
  b_turned : Binds K A.d_turned ["table"] []
  g_turned : mg "turned" = some (.ref A.a_turned)
  F_dividends : Fun K "dividends" "dividends" s_dividends A.a_dividends A.d_dividends
  b_dividends : Binds K A.d_dividends ["table"] []
  g_dividends : mg "dividends" = some (.ref A.a_dividends)
  F_mean_shares : Fun K "mean_shares" "mean_shares" s_mean_shares A.a_mean_shares A.d_mean_shares
  b_mean_shares : Binds K A.d_mean_shares ["table"] []
  g_mean_shares : mg "mean_shares" = some (.ref A.a_mean_shares)
  F_adds_of : Fun K "adds_of" "adds_of" s_adds_of A.a_adds_of A.d_adds_of
  b_adds_of : Binds K A.d_adds_of ["table", "hand"] []
  g_adds_of : mg "adds_of" = some (.ref A.a_adds_of)
  F_turns : Fun K "turns" "turns" s_turns A.a_turns A.d_turns
  b_turns : Binds K A.d_turns ["table"] []
  g_turns : mg "turns" = some (.ref A.a_turns)
  F__law_cell : Fun K "_law_cell" "_law_cell" s__law_cell A.a__law_cell A.d__law_cell
  b__law_cell : Binds K A.d__law_cell ["_law_script", "_law_k"] []
  g__law_cell : mg "_law_cell" = some (.ref A.a__law_cell)
  F__law_draws : Fun K "_law_draws" "_law_draws" s__law_draws A.a__law_draws A.d__law_draws
  b__law_draws : Binds K A.d__law_draws ["_law_script"] []
  g__law_draws : mg "_law_draws" = some (.ref A.a__law_draws)
  F__law_whole : Fun K "_law_whole" "_law_whole" s__law_whole A.a__law_whole A.d__law_whole
  b__law_whole : Binds K A.d__law_whole ["_law_found"] []
  g__law_whole : mg "_law_whole" = some (.ref A.a__law_whole)
  F__law_divisor : Fun K "_law_divisor" "_law_divisor" s__law_divisor A.a__law_divisor A.d__law_divisor
  b__law_divisor : Binds K A.d__law_divisor ["_law_one", "_law_other"] []
  g__law_divisor : mg "_law_divisor" = some (.ref A.a__law_divisor)
  F__law_fraction : Fun K "_law_fraction" "_law_fraction" s__law_fraction A.a__law_fraction A.d__law_fraction
  b__law_fraction : Binds K A.d__law_fraction ["_law_found"] []
  g__law_fraction : mg "_law_fraction" = some (.ref A.a__law_fraction)
  F__law_fractions : Fun K "_law_fractions" "_law_fractions" s__law_fractions A.a__law_fractions A.d__law_fractions
  b__law_fractions : Binds K A.d__law_fractions ["_law_found", "_law_many"] []
  g__law_fractions : mg "_law_fractions" = some (.ref A.a__law_fractions)
  F__law_number : Fun K "_law_number" "_law_number" s__law_number A.a__law_number A.d__law_number
  b__law_number : Binds K A.d__law_number ["_law_cell_here"] []
  g__law_number : mg "_law_number" = some (.ref A.a__law_number)
  F__law_ones : Fun K "_law_ones" "_law_ones" s__law_ones A.a__law_ones A.d__law_ones
  b__law_ones : Binds K A.d__law_ones ["_law_number_here"] []
  g__law_ones : mg "_law_ones" = some (.ref A.a__law_ones)
  F__law_dividends : Fun K "_law_dividends" "_law_dividends" s__law_dividends A.a__law_dividends A.d__law_dividends
  b__law_dividends : Binds K A.d__law_dividends ["_law_table"] []
  g__law_dividends : mg "_law_dividends" = some (.ref A.a__law_dividends)
  F__law_sixty : Fun K "_law_sixty" "_law_sixty" s__law_sixty A.a__law_sixty A.d__law_sixty
  b__law_sixty : Binds K A.d__law_sixty ["_law_due", "_law_many"] []
  g__law_sixty : mg "_law_sixty" = some (.ref A.a__law_sixty)
  F__law_numbers : Fun K "_law_numbers" "_law_numbers" s__law_numbers A.a__law_numbers A.d__law_numbers
  b__law_numbers : Binds K A.d__law_numbers ["_law_found", "_law_due"] []
  g__law_numbers : mg "_law_numbers" = some (.ref A.a__law_numbers)
  F__law_tables : Fun K "_law_tables" "_law_tables" s__law_tables A.a__law_tables A.d__law_tables
  b__law_tables : Binds K A.d__law_tables ["_law_script", "_law_many", "_law_few"] []
  g__law_tables : mg "_law_tables" = some (.ref A.a__law_tables)
  F__law_mean : Fun K "_law_mean" "_law_mean" s__law_mean A.a__law_mean A.d__law_mean
  b__law_mean : Binds K A.d__law_mean ["_law_found", "_law_sixty_here", "_law_by"] []
  g__law_mean : mg "_law_mean" = some (.ref A.a__law_mean)
  F__law_cut : Fun K "_law_cut" "_law_cut" s__law_cut A.a__law_cut A.d__law_cut
  b__law_cut : Binds K A.d__law_cut ["_law_table", "_law_due", "_law_group"] []
  g__law_cut : mg "_law_cut" = some (.ref A.a__law_cut)
  F__law_beside : Fun K "_law_beside" "_law_beside" s__law_beside A.a__law_beside A.d__law_beside
  b__law_beside : Binds K A.d__law_beside ["_law_one", "_law_other", "_law_many", "_law_few"] []
  g__law_beside : mg "_law_beside" = some (.ref A.a__law_beside)
  F__law_turns : Fun K "_law_turns" "_law_turns" s__law_turns A.a__law_turns A.d__law_turns
  b__law_turns : Binds K A.d__law_turns ["_law_table", "_law_hand"] []
  g__law_turns : mg "_law_turns" = some (.ref A.a__law_turns)
  F__law_merged : Fun K "_law_merged" "_law_merged" s__law_merged A.a__law_merged A.d__law_merged
  b__law_merged : Binds K A.d__law_merged ["_law_table", "_law_many", "_law_cell_here"] []
  g__law_merged : mg "_law_merged" = some (.ref A.a__law_merged)
  F_law : Fun K "law" "law" s_law A.a_law A.d_law
  b_law : Binds K A.d_law ["_law_script"] []
  g_law : mg "law" = some (.ref A.a_law)
  g_NoNumber : mg "NoNumber" = some (.ref A.NoNumber)
  k_NoNumber : PySem.W.keepIn K (.ref A.NoNumber) = true
  e_NoNumber : PySem.W.subIn K (.ref A.NoNumber) (.type "BaseException") = some true
  t_NoNumber : PySem.W.typeIn K (.ref A.NoNumber) = some (.type "type")
  x_NoNumber : PySem.W.excIn K A.NoNumber [.type "ValueError", .type "Exception", .type "BaseException", .type "object"] "ValueError.__new__" = true
  g_NoGroup : mg "NoGroup" = some (.ref A.NoGroup)
  k_NoGroup : PySem.W.keepIn K (.ref A.NoGroup) = true
  e_NoGroup : PySem.W.subIn K (.ref A.NoGroup) (.type "BaseException") = some true
  t_NoGroup : PySem.W.typeIn K (.ref A.NoGroup) = some (.type "type")
  x_NoGroup : PySem.W.excIn K A.NoGroup [.type "ValueError", .type "Exception", .type "BaseException", .type "object"] "ValueError.__new__" = true
  g_NoTable : mg "NoTable" = some (.ref A.NoTable)
  k_NoTable : PySem.W.keepIn K (.ref A.NoTable) = true
  e_NoTable : PySem.W.subIn K (.ref A.NoTable) (.type "BaseException") = some true
  t_NoTable : PySem.W.typeIn K (.ref A.NoTable) = some (.type "type")
  x_NoTable : PySem.W.excIn K A.NoTable [.type "ValueError", .type "Exception", .type "BaseException", .type "object"] "ValueError.__new__" = true
  g_Unlike : mg "Unlike" = some (.ref A.Unlike)
  k_Unlike : PySem.W.keepIn K (.ref A.Unlike) = true
  e_Unlike : PySem.W.subIn K (.ref A.Unlike) (.type "BaseException") = some true
  t_Unlike : PySem.W.typeIn K (.ref A.Unlike) = some (.type "type")
  x_Unlike : PySem.W.excIn K A.Unlike [.type "ValueError", .type "Exception", .type "BaseException", .type "object"] "ValueError.__new__" = true
  g_TooMany : mg "TooMany" = some (.ref A.TooMany)
  k_TooMany : PySem.W.keepIn K (.ref A.TooMany) = true
  e_TooMany : PySem.W.subIn K (.ref A.TooMany) (.type "BaseException") = some true
  t_TooMany : PySem.W.typeIn K (.ref A.TooMany) = some (.type "type")
  x_TooMany : PySem.W.excIn K A.TooMany [.type "ValueError", .type "Exception", .type "BaseException", .type "object"] "ValueError.__new__" = true
  c_MOST : mg "MOST" = some (.int 6 A.t_MOST)
  c_SIXTY : mg "SIXTY" = some (.int 60 A.t_SIXTY)
  z_abs : mg "abs" = none
  z_bool : mg "bool" = none
  z_enumerate : mg "enumerate" = none
  z_int : mg "int" = none
  z_isinstance : mg "isinstance" = none
  z_len : mg "len" = none
  z_list : mg "list" = none
  z_max : mg "max" = none
  z_min : mg "min" = none
  z_range : mg "range" = none
  z_sum : mg "sum" = none
  z_tuple : mg "tuple" = none
  z_zip : mg "zip" = none
local macro_rules | `(tactic| walk_at "x") => `(tactic| repeat (first
  | with_reducible refine x_seq ?_ | with_reducible refine x_asg ?_ | with_reducible refine x_op ?_ | with_reducible refine x_un ?_ | ((with_reducible refine' x_var ?e ?_); (case e => rfl)) | with_reducible refine x_c ?_
  | with_reducible refine x_if ?_ | with_reducible refine x_test ?_ | with_reducible refine x_B ?_ | with_reducible refine x_ex ?_ | with_reducible refine x_exI ?_ | with_reducible refine x_ret ?_ | with_reducible refine x_drop ?_
  | with_reducible refine x_rev ?_ | with_reducible refine x_lstRg1 ?_ | with_reducible refine x_dIn ?_ | with_reducible refine x_dPut ?_ | with_reducible refine x_dNew ?_ | with_reducible refine x_par ?_ | with_reducible refine x_call ?_ | with_reducible refine x_callS ?_ | with_reducible refine x_cons ?_ | with_reducible refine x_nil ?_ | with_reducible refine x_cb ?_
  | with_reducible refine x_addI ?_ | with_reducible refine x_subI ?_ | with_reducible refine x_ltI ?_ | with_reducible refine x_leI ?_ | with_reducible refine x_gtI ?_ | with_reducible refine x_geI ?_ | with_reducible refine x_eqI ?_ | with_reducible refine x_neI ?_
  | with_reducible refine x_eqS ?_ | with_reducible refine x_eqB ?_ | with_reducible refine x_isX ?_ | with_reducible refine x_isN ?_ | with_reducible refine x_notN ?_ | with_reducible refine x_ipI ?_
  | with_reducible refine x_andI ?_ | with_reducible refine x_orI ?_ | with_reducible refine x_xorI ?_ | with_reducible refine x_U ?_
  | with_reducible refine x_and ?_ | with_reducible refine x_or ?_ | with_reducible refine x_not ?_ | with_reducible refine x_andV ?_ | with_reducible refine x_orV ?_ | with_reducible refine x_notV ?_ | with_reducible refine x_ifE ?_
  | with_reducible refine x_for ?_ | with_reducible refine x_iList ?_ | with_reducible refine x_iTup ?_ | with_reducible refine x_iR1 ?_ | with_reducible refine x_iR2 ?_ | with_reducible refine x_iZip ?_ | with_reducible refine x_iEnum ?_ | with_reducible refine x_iR3 ?_ | with_reducible refine x_ev ?_
  | with_reducible refine x_meth ?_ | with_reducible refine x_methS ?_ | with_reducible refine x_base ?_ | with_reducible refine x_fld ?_ | with_reducible refine x_sfld ?_ | with_reducible refine x_make ?_ | with_reducible refine x_dNewT ?_ | with_reducible refine x_dInT ?_ | with_reducible refine x_dPutT ?_ | with_reducible refine x_dGetT ?_
  | with_reducible refine x_sl ?_ | with_reducible refine x_noPart ?_ | with_reducible refine x_part ?_ | with_reducible refine x_asgS ?_ | with_reducible refine x_augS ?_ | ((with_reducible refine' x_aug ?e ?_); (case e => rfl))
  | with_reducible refine x_bm ?_ | with_reducible refine x_bm0 ?_ | with_reducible refine x_tup ?_ | with_reducible refine x_lst ?_ | with_reducible refine x_next ?_ | with_reducible refine x_retN ?_ | with_reducible refine x_brk ?_ | with_reducible refine x_ct ?_
  | with_reducible refine x_lc ?_ | with_reducible refine x_yes ?_ | with_reducible refine x_gn ?_ | with_reducible refine x_gc ?_ | with_reducible refine x_g0 ?_ | with_reducible refine x_abs ?_ | with_reducible refine x_max2 ?_ | with_reducible refine x_min2 ?_))
local macro_rules | `(tactic| walk_at "sq") => `(tactic| first
  | assumption | exact .inl (by assumption) | exact Own.sq (by assumption) 0 rfl | exact Own.sq (by assumption) 1 rfl | exact Own.sq (by assumption) 2 rfl | exact Own.sq (by assumption) 3 rfl
  | exact Own.seq (by assumption) (by first | assumption | exact .inl (by assumption)))
section
variable {P : Program} {w : World} {K : PySem.W.Frag} {mg : Str → Option Value} {base : Heap} {A : Ads}
/-! ### is_whole -/
def sp_is_whole : Sp := fun vs H Q _ => ∃ v, vs = [v] ∧ Thing H v ∧ RetV (.bl (isI v)) H Q
theorem ok_is_whole (T : Txt K mg A) : FnOk P w K mg base (L2.CX P w) 1 A.a_is_whole A.d_is_whole ["thing"] sp_is_whole := by
  refine T.F_is_whole.okX sc_is_whole (fun vs H Q E h => ?_) (fun cdv A0 outer s H vs Q E hr h => ?_)
  · obtain ⟨v, rfl, _⟩ := h; rfl
  · obtain ⟨v, rfl, hv, k⟩ := h
    refine ⟨_, (pss_cons (ps_if (PW.pt (pw_or (pt_cmpR op_isX (pv 0) pe_bl (nomark _)) (pw_or1 (pt_cmpR op_isX (pv 0) pe_bl (nomark _))))) (pss_one (ps_ret pe_bl)) pss_nil)
      (pss_one (ps_ret (pe_callB (call_isiX (K := K) rfl) (by rfl) T.z_isinstance (by decide +kernel) (pa_cons (pv 0) (pa_cons (pe_bltn (v := .ty "int") (by rfl) T.z_int (by decide +kernel) rfl) pa_nil)))))), ?_⟩
    walk_at "x"
    have go : isB v = false → rIsi K [v, .ty "int"] H Q := fun e => x_isiInt hv (by rw [e, Bool.or_false]; exact k.go (Same.refl H))
    cases v with
    | bl b =>
      cases b
      · refine iteF ?_
        walk_at "x"
        exact iteT (k.go (Same.refl H))
      · exact iteT (iteT (k.go (Same.refl H)))
    | _ =>
      refine iteF ?_
      walk_at "x"
      refine iteF ?_
      walk_at "x"
      exact go rfl

/-! ### divisor -/
def sp_divisor : Sp := fun vs H Q _ => ∃ (a b : Int) (B : Nat), vs = [.int a, .int b] ∧ Bits B a b ∧ RetV (.int (gcdI a b)) H Q
theorem bigs {n B : Nat} (h : n ≤ 2 * B + 3) (hB : B ≤ 9000) : n < sizeLine := Nat.lt_of_le_of_lt (show n ≤ 18003 by omega) (by decide)
theorem ok_divisor (T : Txt K mg A) : FnOk P w K mg base (L2.CX P w) 1 A.a_divisor A.d_divisor ["one", "other"] sp_divisor := by
  refine T.F_divisor.okX sc_divisor (fun vs H Q E h => ?_) (fun cdv A0 outer s H vs Q E hr h => ?_)
  · obtain ⟨a, b, B, rfl, _⟩ := h; rfl
  · obtain ⟨a, b, B, rfl, ⟨hB, ha, hb⟩, k⟩ := h
    have w := Own.start (H := H)
    refine ⟨_, (pss_cons (ps_set (i := 2) sc_divisor.nd rfl (.inl rfl) (pe_lst (pa_cons (pe_callB call_absX (by rfl) T.z_abs (by decide +kernel) (pa_cons (pv 0) pa_nil)) (pa_cons (pe_callB call_absX (by rfl) T.z_abs (by decide +kernel) (pa_cons (pv 1) pa_nil)) pa_nil))))
      (pss_cons (ps_while (passes_of rfl) (pt_cmpR (op_neK (K := K) rfl hr.units) (pe_ix (ix_seqK (K := K) rfl) (pv 2) (pe_un un_neg pe_int) (fun _ _ => rfl)) pe_int (nomark _)) (pss_one (ps_expr (pe_bm PySem.F.plainAttrs_list PySem.F.slot_list_append PySem.F.type_list_append mt_append (pv 2) (pa_cons (pe_op op_modX (pe_ix (ix_seqK (K := K) rfl) (pv 2) (pe_un un_neg pe_int) (fun _ _ => rfl)) (pe_ix (ix_seqK (K := K) rfl) (pv 2) (pe_un un_neg pe_int) (fun _ _ => rfl))) pa_nil)))))
      (pss_one (ps_ret (pe_ix (ix_seqK (K := K) rfl) (pv 2) (pe_un un_neg pe_int) (fun _ _ => rfl)))))), ?_⟩
    walk_at "x"
    rw [abs_nat, abs_nat]
    refine ⟨(by show 2 ≤ sizeLine; decide), fun p np => ?_⟩
    have w1 := w.new (o := .lst ([a.natAbs, b.natAbs].map vnat)) np
    walk_at "x"
    -- the first rest
    refine x_while (fun m σ' H' => ∃ (l : List Nat) (x y j : Nat), σ' = [some (.int a), some (.int b), some (.ref p)] ∧ Own H [(p, .lst ((l ++ [x, y]).map vnat))] H' ∧ m = y ∧ Nat.gcd x y = Int.gcd a b ∧
      ((l = [] ∧ x < 2 ^ B ∧ y < 2 ^ B) ∨ (y ≤ x ∧ x * y < 2 ^ j ∧ l.length + j ≤ 2 * B + 1))) b.natAbs ⟨[], a.natAbs, b.natAbs, 0, rfl, w1, rfl, rfl, .inl ⟨rfl, ha, hb⟩⟩ ?_
    rintro m σ' H' ⟨l, x, y, j, rfl, w2, rfl, hg, hinv⟩
    obtain ⟨e1, e2⟩ := last2 l x m
    walk_at "x"
    refine x_ixXL (w2.sq 0 rfl) e1 ?_
    walk_at "x"
    cases m with
    | zero =>
      refine iteF ?_
      walk_at "x"
      refine x_ixXL (w2.sq 0 rfl) e2 ?_
      have : gcdI a b = (x : Int) := by unfold gcdI; rw [← hg, Nat.gcd_zero_right]
      rw [this] at k
      exact k.go w2.ex
    | succ m =>
      refine iteT ?_
      refine x_N ?_
      walk_at "x"
      refine ⟨x_tyL (w2.get 0 rfl), ?_⟩
      walk_at "x"
      refine x_ixXL (w2.sq 0 rfl) e2 ?_
      walk_at "x"
      refine x_ixXL (w2.sq 0 rfl) e1 ?_
      refine x_modP (by omega) ?_
      walk_at "x"
      rw [show (x : Int) % ((m + 1 : Nat) : Int) = ((x % (m + 1) : Nat) : Int) from rfl]
      have next : x % (m + 1) < m + 1 := Nat.mod_lt _ (Nat.succ_pos m)
      refine x_append (w2.get 0 rfl) ?_ ?_
      · rw [List.length_map, List.length_append]
        refine bigs (B := B) ?_ hB
        show l.length + 2 ≤ _
        rcases hinv with ⟨rfl, _, _⟩ | ⟨_, _, h⟩
        · show 0 + 2 ≤ _; omega
        · omega
      · have w3 := w2.put (o' := .lst (((l ++ [x]) ++ [m + 1, x % (m + 1)]).map vnat)) 0 rfl
        have el : ((l ++ [x]) ++ [m + 1, x % (m + 1)]).map vnat = (l ++ [x, m + 1]).map vnat ++ [vnat (x % (m + 1))] := by simp
        rw [el] at w3
        have step : ∀ j', l.length + 1 + j' ≤ 2 * B + 1 → (m + 1) * (x % (m + 1)) < 2 ^ j' → ∃ m', m' < m + 1 ∧ ∃ (l' : List Nat) (x' y' j : Nat), [some (V.int a), some (.int b), some (.ref p)] = [some (.int a), some (.int b), some (.ref p)] ∧ Own H [(p, .lst ((l' ++ [x', y']).map vnat))] (upd H' p (.lst ((l ++ [x, m + 1]).map vnat ++ [vnat (x % (m + 1))]))) ∧ m' = y' ∧ Nat.gcd x' y' = Int.gcd a b ∧
          ((l' = [] ∧ x' < 2 ^ B ∧ y' < 2 ^ B) ∨ (y' ≤ x' ∧ x' * y' < 2 ^ j ∧ l'.length + j ≤ 2 * B + 1)) := fun j' h1 h2 =>
          ⟨_, next, l ++ [x], m + 1, x % (m + 1), j', rfl, by rw [el]; exact w3, rfl, by rw [gcd_step, hg], .inr ⟨Nat.le_of_lt next, h2, by rw [List.length_append]; exact h1⟩⟩
        rcases hinv with ⟨rfl, hx, hy⟩ | ⟨hyx, hxy, hj⟩
        · refine step (2 * B) (by show 0 + 1 + 2 * B ≤ _; omega) ?_
          rw [show 2 * B = B + B by omega, Nat.pow_add]
          exact Nat.mul_lt_mul'' hy (Nat.lt_of_le_of_lt (Nat.mod_le _ _) hx)
        · obtain ⟨h1, h2⟩ := halve (Nat.succ_pos m) hyx hxy
          exact step (j - 1) (by omega) h1

/-! ### shortest -/
def sp_shortest : Sp := fun vs H Q _ => ∃ (a b : Int) (B : Nat), vs = [.int a, .int b] ∧ Bits B a b ∧ b ≠ 0 ∧ RetT [.int (shortM a b).1, .int (shortM a b).2] H Q
theorem ok_shortest (T : Txt K mg A) : FnOk P w K mg base (L2.CX P w) 2 A.a_shortest A.d_shortest ["top", "bottom"] sp_shortest := by
  refine T.F_shortest.okX sc_shortest (fun vs H Q E h => ?_) (fun cdv A0 outer s H vs Q E hr h => ?_)
  · obtain ⟨a, b, B, rfl, _⟩ := h; rfl
  · obtain ⟨a, b, B, rfl, hB, h0, k⟩ := h
    have w := Own.start (H := H)
    have hg : 0 < gcdI a b := by have := gcd_pos (a := a) h0; unfold gcdI; omega
    have hl := gcd_log h0 hB
    refine ⟨_, (pss_cons (ps_set (i := 2) sc_shortest.nd rfl (.inl rfl) (pe_call (ok_divisor T) (hr.mono (by decide)) (by rfl) T.g_divisor T.F_divisor.kp T.b_divisor .nil (passes_call (takes_of rfl rfl rfl rfl) (fun _ _ _ _ h => h)) (pa_cons (pv 0) (pa_cons (pv 1) pa_nil))))
      (pss_cons (ps_if (pt_cmpR op_gtX (pv 1) pe_int (nomark _)) (pss_one (ps_ret (pe_tup (pa_cons (pe_op op_fdivX (pv 0) (pv 2)) (pa_cons (pe_op op_fdivX (pv 1) (pv 2)) pa_nil))))) pss_nil)
      (pss_one (ps_ret (pe_tup (pa_cons (pe_op op_subX pe_int (pe_op op_fdivX (pv 0) (pv 2))) (pa_cons (pe_op op_subX pe_int (pe_op op_fdivX (pv 1) (pv 2))) pa_nil))))))), ?_⟩
    walk_at "x"
    refine ⟨a, b, B, rfl, hB, fun H1 s1 => ?_⟩
    have w1 := w.ext s1
    unfold shortM at k
    walk_at "x"
    refine ite2 (fun c => ?_) (fun c => ?_)
    · rw [if_pos (of_decide_eq_true c)] at k
      walk_at "x"
      refine x_divP hg hl ?_
      walk_at "x"
      refine x_divP hg hl ?_
      refine ⟨(by show 2 ≤ sizeLine; decide), fun p np => ?_⟩
      exact k.go (w1.new (o := .tup [.int (a / gcdI a b), .int (b / gcdI a b)]) np)
    · rw [if_neg (fun h => c (decide_eq_true h))] at k
      walk_at "x"
      refine x_divP hg hl ?_
      walk_at "x"
      refine x_divP hg hl ?_
      walk_at "x"
      refine ⟨(by show 2 ≤ sizeLine; decide), fun p np => ?_⟩
      exact k.go (w1.new (o := .tup [.int (0 - a / gcdI a b), .int (0 - b / gcdI a b)]) np)

/-! ### fraction -/
def sp_fraction (A : Ads) : Sp := fun vs H Q E => ∃ (u v : V), vs = [u, v] ∧ Thing H u ∧ Thing H v ∧ (∀ a b, u = .int a → v = .int b → b ≠ 0 → (∃ B, Bits B a b) ∧ RetT [.int (shortM a b).1, .int (shortM a b).2] H Q) ∧
  ((isI u = false ∨ isI v = false ∨ v = .int 0) → ∀ H', Same H H' → E (.ref A.NoNumber) none H')
theorem u_fraction {H : Hp} {Q : VK} {E : XK} {a b : Int} {B : Nat} (hB : Bits B a b) (h0 : b ≠ 0) (q : RetT [.int (shortM a b).1, .int (shortM a b).2] H Q) : sp_fraction A [.int a, .int b] H Q E :=
  ⟨_, _, rfl, .int a, .int b, fun a' b' e1 e2 _ => by
    cases e1; cases e2
    exact ⟨⟨B, hB⟩, q⟩, fun h => by
    rcases h with h | h | h
    · cases h
    · cases h
    · exact absurd (V.int.inj h) h0⟩
theorem isI_int {u : V} (h : isI u = true) : ∃ a, u = .int a := by cases u <;> first | exact ⟨_, rfl⟩ | cases h
theorem ok_fraction (T : Txt K mg A) : FnOk P w K mg base (L2.CX P w) 3 A.a_fraction A.d_fraction ["top", "bottom"] (sp_fraction A) := by
  refine T.F_fraction.okX sc_fraction (fun vs H Q E h => ?_) (fun cdv A0 outer s H vs Q E hr h => ?_)
  · obtain ⟨u, v, rfl, _⟩ := h; rfl
  · obtain ⟨u, v, rfl, hu, hv, k, kE⟩ := h
    have w := Own.start (H := H)
    refine ⟨_, (pss_cons (ps_for (passes_of rfl) rfl (pi_listK (K := K) rfl (pe_lst (pa_cons (pv 0) (pa_cons (pv 1) pa_nil)))) (pg_name (i := 2) sc_fraction.nd rfl (.inl rfl)) (pss_one (ps_if (pt_not (pt_val (pe_call (ok_is_whole T) (hr.mono (by decide)) (by rfl) T.g_is_whole T.F_is_whole.kp T.b_is_whole .nil (passes_call (takes_of rfl rfl rfl rfl) (fun _ _ _ _ h => h)) (pa_cons (pv 2) pa_nil)))) (pss_one (ps_raise rfl (takes_of rfl rfl rfl rfl) (pmk_own PySem.F.excBase_ValueError T.x_NoNumber T.g_NoNumber T.k_NoNumber (raises_own T.e_NoNumber T.t_NoNumber) (by rfl)))) pss_nil)))
      (pss_cons (ps_if (pt_cmpR (op_eqK (K := K) rfl hr.units) (pv 1) pe_int (nomark _)) (pss_one (ps_raise rfl (takes_of rfl rfl rfl rfl) (pmk_own PySem.F.excBase_ValueError T.x_NoNumber T.g_NoNumber T.k_NoNumber (raises_own T.e_NoNumber T.t_NoNumber) (by rfl)))) pss_nil)
      (pss_one (ps_ret (pe_call (ok_shortest T) (hr.mono (by decide)) (by rfl) T.g_shortest T.F_shortest.kp T.b_shortest .nil (passes_call (takes_of rfl rfl rfl rfl) (fun _ _ _ _ h => h)) (pa_cons (pv 0) (pa_cons (pv 1) pa_nil))))))), ?_⟩
    walk_at "x"
    refine ⟨(by show 2 ≤ sizeLine; decide), fun p np => ?_⟩
    have w1 := w.new (o := .lst [u, v]) np
    walk_at "x"
    refine ⟨_, rfl, ⟨_, w1.sq 0 rfl⟩, for_list (xs := [u, v]) (fun i σ' H' => (∃ v1, σ' = [some u, some v, v1]) ∧ Own H [(p, .lst [u, v])] H' ∧ (0 < i → isI u = true) ∧ (1 < i → isI v = true)) ⟨⟨_, rfl⟩, w1, (fun h => absurd h (by decide)), (fun h => absurd h (by decide))⟩ (fun i σ' H' _ h => h.2.1.sq 0 rfl) ?_ ?_⟩
    · rintro i x σ' H' hx ⟨⟨v1, rfl⟩, w2, c0, c1⟩
      have hx2 : (i = 0 ∧ x = u) ∨ (i = 1 ∧ x = v) := by
        match i, hx with
        | 0, hx => exact .inl ⟨rfl, (Option.some.inj hx).symm⟩
        | 1, hx => exact .inr ⟨rfl, (Option.some.inj hx).symm⟩
      have hT : Thing H x := by
        rcases hx2 with ⟨_, rfl⟩ | ⟨_, rfl⟩
        · exact hu
        · exact hv
      walk_at "x"
      refine ⟨x, rfl, hT.same w2.ex, fun H2 s2 => ?_⟩
      have w3 := w2.ext s2
      walk_at "x"
      cases c : isI x with
      | false =>
        refine iteT ?_
        refine kE ?_ _ w3.ex
        rcases hx2 with ⟨_, rfl⟩ | ⟨_, rfl⟩
        · exact .inl c
        · exact .inr (.inl c)
      | true =>
        refine iteF ?_
        walk_at "x"
        refine ⟨⟨_, rfl⟩, w3, fun h => ?_, fun h => ?_⟩
        · rcases hx2 with ⟨_, rfl⟩ | ⟨rfl, rfl⟩
          · exact c
          · exact c0 (by decide)
        · rcases hx2 with ⟨rfl, rfl⟩ | ⟨_, rfl⟩
          · exact absurd h (by decide)
          · exact c
    · rintro σ' H' ⟨⟨v1, rfl⟩, w2, c0, c1⟩
      have d0 := c0 (show 0 < 2 by decide)
      have d1 := c1 (show 1 < 2 by decide)
      obtain ⟨a, rfl⟩ : ∃ a, u = .int a := isI_int d0
      obtain ⟨b, rfl⟩ : ∃ a, v = .int a := isI_int d1
      walk_at "x"
      refine ite2 (fun c => ?_) (fun c => ?_)
      · refine kE (.inr (.inr ?_)) _ w2.ex
        rw [of_decide_eq_true c]
      · have h0 : b ≠ 0 := fun h => c (decide_eq_true h)
        obtain ⟨⟨B, hB⟩, q⟩ := k a b rfl rfl h0
        walk_at "x"
        exact ⟨a, b, B, rfl, hB, h0, fun p2 H2 n2 s2 c2 => q p2 H2 (w2.ex.free n2) (w2.ex.trans s2) c2⟩

/-! ### look_group -/
def sp_look_group (A : Ads) : Sp := fun vs H Q E => ∃ (v : V) (l g : Int), vs = [v, .int l, .int g] ∧ Thing H v ∧ (inR v l g → RetV .non H Q) ∧ (¬ inR v l g → ∀ H', Same H H' → E (.ref A.NoGroup) none H')
theorem ok_look_group (T : Txt K mg A) : FnOk P w K mg base (L2.CX P w) 2 A.a_look_group A.d_look_group ["group", "least", "greatest"] (sp_look_group A) := by
  refine T.F_look_group.okX sc_look_group (fun vs H Q E h => ?_) (fun cdv A0 outer s H vs Q E hr h => ?_)
  · obtain ⟨v, l, g, rfl, _⟩ := h; rfl
  · obtain ⟨v, l, g, rfl, hT, k, kE⟩ := h
    refine ⟨_, (pss_one (ps_if (PW.pt (pw_or (pt_not (pt_val (pe_call (ok_is_whole T) (hr.mono (by decide)) (by rfl) T.g_is_whole T.F_is_whole.kp T.b_is_whole .nil (passes_call (takes_of rfl rfl rfl rfl) (fun _ _ _ _ h => h)) (pa_cons (pv 0) pa_nil)))) (pw_or (pt_cmpR op_ltX (pv 0) (pv 1) (nomark _)) (pw_or1 (pt_cmpR op_gtX (pv 0) (pv 2) (nomark _)))))) (pss_one (ps_raise rfl (takes_of rfl rfl rfl rfl) (pmk_own PySem.F.excBase_ValueError T.x_NoGroup T.g_NoGroup T.k_NoGroup (raises_own T.e_NoGroup T.t_NoGroup) (by rfl)))) pss_nil)), ?_⟩
    walk_at "x"
    refine ⟨v, rfl, hT, fun H1 s1 => ?_⟩
    walk_at "x"
    cases hI : isI v with
    | false =>
      refine iteT ?_
      refine iteT (kE (fun ⟨z, e, _⟩ => ?_) H1 s1)
      rw [e] at hI; cases hI
    | true =>
      refine iteF ?_
      walk_at "x"
      obtain ⟨z, rfl⟩ : ∃ z, v = .int z := by
        cases v with
        | int z => exact ⟨z, rfl⟩
        | _ => cases hI
      walk_at "x"
      by_cases c1 : z < l
      · rw [decide_eq_true c1]
        refine iteT (iteT (kE (fun ⟨y, e, h1, h2⟩ => ?_) H1 s1))
        obtain rfl := V.int.inj e
        omega
      · rw [decide_eq_false c1]
        refine iteF ?_
        walk_at "x"
        by_cases c2 : g < z
        · rw [decide_eq_true c2]
          refine iteT (kE (fun ⟨y, e, h1, h2⟩ => ?_) H1 s1)
          obtain rfl := V.int.inj e
          omega
        · rw [decide_eq_false c2]
          refine iteF ?_
          walk_at "x"
          exact k ⟨z, rfl, by omega, by omega⟩ H1 s1

/-! ### whole_of -/
def sp_whole_of : Sp := fun vs H Q _ => ∃ k : Nat, vs = [.int (k : Int)] ∧ k ≤ 1000 ∧ RetV (.int (((2 ^ k : Nat) : Int) - 1)) H Q
theorem ok_whole_of (T : Txt K mg A) : FnOk P w K mg base (L2.CX P w) 1 A.a_whole_of A.d_whole_of ["many"] sp_whole_of := by
  refine T.F_whole_of.okX sc_whole_of (fun vs H Q E h => ?_) (fun cdv A0 outer s H vs Q E hr h => ?_)
  · obtain ⟨n, rfl, _⟩ := h; rfl
  · obtain ⟨n, rfl, hn, k⟩ := h
    refine ⟨_, (pss_one (ps_ret (pe_op op_subX (pe_op op_shlX pe_int (pv 0)) pe_int))), ?_⟩
    walk_at "x"
    refine x_shl ⟨by omega, by omega, by decide⟩ ?_
    rw [shl_nat]
    walk_at "x"
    exact k.go (Same.refl H)

/-! ### hands_of -/
def sp_hands_of (A : Ads) : Sp := fun vs H Q E => ∃ v : V, vs = [v] ∧ Thing H v ∧ (∀ g : Nat, v = .int (g : Int) → g < 64 → RetL ((handsM g).map vnat) H Q) ∧ (¬ inR v 0 63 → ∀ H', Same H H' → E (.ref A.NoGroup) none H')
theorem u_hands_of {H : Hp} {Q : VK} {E : XK} {g : Nat} (hg : g < 64) (q : RetL ((handsM g).map vnat) H Q) : sp_hands_of A [.int (g : Int)] H Q E :=
  ⟨_, rfl, .int _, fun g' e _ => by
    have : g = g' := by have := V.int.inj e; omega
    exact this ▸ q, fun h => absurd ⟨_, rfl, by omega, by omega⟩ h⟩
theorem ok_hands_of (T : Txt K mg A) : FnOk P w K mg base (L2.CX P w) 3 A.a_hands_of A.d_hands_of ["group"] (sp_hands_of A) := by
  refine T.F_hands_of.okX sc_hands_of (fun vs H Q E h => ?_) (fun cdv A0 outer s H vs Q E hr h => ?_)
  · obtain ⟨v, rfl, _⟩ := h; rfl
  · obtain ⟨v, rfl, hT, k, kE⟩ := h
    refine ⟨_, (pss_cons (ps_expr (pe_call (ok_look_group T) (hr.mono (by decide)) (by rfl) T.g_look_group T.F_look_group.kp T.b_look_group .nil (passes_call (takes_of rfl rfl rfl rfl) (fun _ _ _ _ h => h)) (pa_cons (pv 0) (pa_cons pe_int (pa_cons (pe_call (ok_whole_of T) (hr.mono (by decide)) (by rfl) T.g_whole_of T.F_whole_of.kp T.b_whole_of .nil (passes_call (takes_of rfl rfl rfl rfl) (fun _ _ _ _ h => h)) (pa_cons (pe_glob (v := .int 6) (by rfl) T.c_MOST ⟨_, rfl⟩) pa_nil)) pa_nil)))))
      (pss_one (ps_ret (pe_lc (own := [("hand", 1)]) rfl sc_hands_of.nd (pi_range1 (by rfl) T.z_range (pa_cons (pe_glob (v := .int 6) (by rfl) T.c_MOST ⟨_, rfl⟩) pa_nil)) (blkOk_by (own := [("hand", 1)]) (N := N_hands_of) (sc := defScope s_hands_of) (by decide +kernel)) (fun _ _ _ _ _ => (pg_name (i := 1) sc_hands_of.nd rfl (.inl rfl))) (fun _ _ _ _ _ => (pts_one (pt_cmpR (op_eqK (K := K) rfl hr.units) (pe_op op_andX (pe_op op_shrX (pv 0) (pv 1)) pe_int) pe_int (nomark _)))) (fun _ _ _ _ _ => (pv 1)))))), ?_⟩
    walk_at "x"
    refine ⟨6, rfl, by decide, fun H1 s1 => ?_⟩
    walk_at "x"
    refine ⟨v, 0, _, rfl, hT.same s1, fun hin H2 s2 => ?_, fun hn H2 s2 => kE hn H2 (s1.trans s2)⟩
    obtain ⟨z, rfl, h0, h1⟩ := hin
    have w : Own H [] H2 := Own.start.ext (s1.trans s2)
    obtain ⟨g, rfl⟩ := Int.eq_ofNat_of_zero_le h0
    have hg : g < 64 := by
      have : (((2 ^ 6 : Nat) : Int) - 1) = 63 := by decide
      omega
    walk_at "x"
    refine ⟨_, rfl, by decide, by decide, cp_r0 (n := 6) (fun i => ((List.range i).filter fun h => bitOn h g).map vnat) w rfl ?_ ?_⟩
    · intro D i H' hi p
      walk_at "x"
      refine ⟨rfl, ?_⟩
      walk_at "x"
      refine x_shr (by omega) ?_
      walk_at "x"
      rw [bit_int (by omega) hg]
      cases c : bitOn i g with
      | true =>
        refine iteT ?_
        walk_at "x"
        exact cp_fin p (filter_yes (p := fun h => bitOn h g) c vnat) (by rw [List.length_map]; have := filter_len (fun h => bitOn h g) i; omega)
      | false =>
        exact iteF (cp_no p (filter_no (p := fun h => bitOn h g) c vnat))
    · intro D H' w2
      exact (k g rfl hg).go w2

/-! ### size_of -/
def sp_size_of : Sp := fun vs H Q _ => ∃ g : Nat, vs = [.int (g : Int)] ∧ g < 64 ∧ RetV (.int (((handsM g).length : Nat) : Int)) H Q
theorem ok_size_of (T : Txt K mg A) : FnOk P w K mg base (L2.CX P w) 4 A.a_size_of A.d_size_of ["group"] sp_size_of := by
  refine T.F_size_of.okX sc_size_of (fun vs H Q E h => ?_) (fun cdv A0 outer s H vs Q E hr h => ?_)
  · obtain ⟨g, rfl, _⟩ := h; rfl
  · obtain ⟨g, rfl, hg, k⟩ := h
    have w := Own.start (H := H)
    refine ⟨_, (pss_one (ps_ret (pe_callB (call_lenK (K := K) rfl) (by rfl) T.z_len (by decide +kernel) (pa_cons (pe_call (ok_hands_of T) (hr.mono (by decide)) (by rfl) T.g_hands_of T.F_hands_of.kp T.b_hands_of .nil (passes_call (takes_of rfl rfl rfl rfl) (fun _ _ _ _ h => h)) (pa_cons (pv 0) pa_nil)) pa_nil)))), ?_⟩
    walk_at "x"
    refine u_hands_of hg fun p H1 n1 s1 c1 => ?_
    have w1 := w.newE n1 s1 c1
    walk_at "x"
    refine x_lenL (w1.sq 0 rfl) ?_
    rw [List.length_map]
    exact k.go w1.ex

/-! ### look -/
def sp_look (A : Ads) : Sp := fun vs H Q E => ∃ (a : Addr) (xs : List V), vs = [.ref a] ∧ Rd H a (.lst xs) ∧ (∀ v ∈ xs, Thing H v) ∧
  (∀ n, lookM xs = some n → RetV (.int n) H Q) ∧ (lookM xs = none → ∀ H', Same H H' → E (.ref A.NoTable) none H')
theorem ok_look (T : Txt K mg A) : FnOk P w K mg base (L2.CX P w) 2 A.a_look A.d_look ["table"] (sp_look A) := by
  refine T.F_look.okX sc_look (fun vs H Q E h => ?_) (fun cdv A0 outer s H vs Q E hr h => ?_)
  · obtain ⟨a, xs, rfl, _⟩ := h; rfl
  · obtain ⟨a, xs, rfl, hR, hT, k, kE⟩ := h
    have hS : SqL K H a xs := .inl hR
    refine ⟨_, (pss_cons (ps_set (i := 1) sc_look.nd rfl (.inl rfl) pe_int)
      (pss_cons (ps_while (passes_of rfl) (PW.pt (pw_and (pt_cmpR op_ltX (pv 1) (pe_glob (v := .int 6) (by rfl) T.c_MOST ⟨_, rfl⟩) (nomark _)) (pw_and1 (pt_cmpR op_ltX (pe_op op_shlX pe_int (pv 1)) (pe_callB (call_lenK (K := K) rfl) (by rfl) T.z_len (by decide +kernel) (pa_cons (pv 0) pa_nil)) (nomark _))))) (pss_one (ps_set (i := 1) sc_look.nd rfl (.inl rfl) (pe_op op_addX (pv 1) pe_int))))
      (pss_cons (ps_if (pt_cmpR (op_neK (K := K) rfl hr.units) (pe_callB (call_lenK (K := K) rfl) (by rfl) T.z_len (by decide +kernel) (pa_cons (pv 0) pa_nil)) (pe_op op_shlX pe_int (pv 1)) (nomark _)) (pss_one (ps_raise rfl (takes_of rfl rfl rfl rfl) (pmk_own PySem.F.excBase_ValueError T.x_NoTable T.g_NoTable T.k_NoTable (raises_own T.e_NoTable T.t_NoTable) (by rfl)))) pss_nil)
      (pss_cons (ps_for (passes_of rfl) rfl (pi_listK (K := K) rfl (pv 0)) (pg_name (i := 2) sc_look.nd rfl (.inl rfl)) (pss_one (ps_if (pt_not (pt_val (pe_call (ok_is_whole T) (hr.mono (by decide)) (by rfl) T.g_is_whole T.F_is_whole.kp T.b_is_whole .nil (passes_call (takes_of rfl rfl rfl rfl) (fun _ _ _ _ h => h)) (pa_cons (pv 2) pa_nil)))) (pss_one (ps_raise rfl (takes_of rfl rfl rfl rfl) (pmk_own PySem.F.excBase_ValueError T.x_NoTable T.g_NoTable T.k_NoTable (raises_own T.e_NoTable T.t_NoTable) (by rfl)))) pss_nil)))
      (pss_cons (ps_if (pt_cmpR (op_neK (K := K) rfl hr.units) (pe_ix (ix_seqK (K := K) rfl) (pv 0) pe_int (fun _ _ => rfl)) pe_int (nomark _)) (pss_one (ps_raise rfl (takes_of rfl rfl rfl rfl) (pmk_own PySem.F.excBase_ValueError T.x_NoTable T.g_NoTable T.k_NoTable (raises_own T.e_NoTable T.t_NoTable) (by rfl)))) pss_nil)
      (pss_one (ps_ret (pv 1)))))))), ?_⟩
    walk_at "x"
    refine x_while (fun m σ' H' => ∃ k : Nat, σ' = [some (.ref a), some (.int k), none] ∧ H' = H ∧ m = 6 - k ∧ 1 ≤ k ∧ k ≤ 6 ∧ (k = 1 ∨ 2 ^ (k - 1) < xs.length)) 5 ⟨1, rfl, rfl, rfl, by decide, by decide, .inl rfl⟩ ?_
    rintro m σ' H' ⟨n, rfl, rfl, rfl, h1, h6, hlo⟩
    have out : (n = 6 ∨ xs.length ≤ 2 ^ n) → manyOf xs.length = n := fun h => manyOf_is h1 h6 hlo h
    walk_at "x"
    -- what stands behind the loop
    have fin : manyOf xs.length = n → tSeq
        (tIfS (tTest (tOp (rNeX K) (tCB (Sp.rLen K) (tCons (tVar 0) tNil)) (tOp rShl (tC (V.int 1)) (tVar 1)))) (fun x σ H => E (.ref A.NoTable) none H) tNext) (tSeq
        (tFor (iList K (tVar 0)) (gName 2) (tIfS (tNot (tB (tCall sp_is_whole [] E (tCons (tVar 2) tNil)))) (fun x σ H => E (.ref A.NoTable) none H) tNext)) (tSeq
        (tIfS (tTest (tOp (rNeX K) (tOp (rIx K) (tVar 0) (tC (V.int 0))) (tC (V.int 0)))) (fun x σ H => E (.ref A.NoTable) none H) tNext) (tRet (tVar 1))))
        { nx := fun _ H' => Q .non H', rt := Q } [some (.ref a), some (.int n), none] H' := fun en => by
      have bad' : ∀ H2, Same H' H2 → ¬ (xs.length = 2 ^ manyOf xs.length ∧ xs.all isI = true ∧ xs[0]? = some (.int 0)) → E (.ref A.NoTable) none H2 := fun H2 s2 z => kE (by unfold lookM; rw [if_neg z]) H2 s2
      walk_at "x"
      refine x_lenL hS ?_
      walk_at "x"
      refine x_shl ⟨by omega, by omega, by decide⟩ ?_
      walk_at "x"
      have e1 : (1 : Int) * 2 ^ (n : Int).toNat = ((2 ^ n : Nat) : Int) := by rw [Int.one_mul, Int.toNat_natCast, Int.natCast_pow] <;> rfl
      rw [e1]
      by_cases c1 : xs.length = 2 ^ n
      · rw [decide_eq_true (show (xs.length : Int) = ((2 ^ n : Nat) : Int) by omega)]
        refine iteF ?_
        walk_at "x"
        refine ⟨_, rfl, ⟨_, hS⟩, for_list (xs := xs) (fun i σ' H2 => (∃ v, σ' = [some (.ref a), some (.int n), v]) ∧ Same H' H2 ∧ (xs.take i).all isI = true) ⟨⟨_, rfl⟩, Same.refl _, rfl⟩ (fun i σ' H2 _ p => p.2.1.seq hS) ?_ ?_⟩
        · rintro i x σ' H2 hx ⟨⟨v, rfl⟩, s2, p⟩
          have hxm := List.mem_of_getElem? hx
          walk_at "x"
          refine ⟨x, rfl, (hT x hxm).same s2, fun H3 s3 => ?_⟩
          walk_at "x"
          cases hI : isI x with
          | false =>
            refine iteT (bad' H3 (s2.trans s3) fun z => ?_)
            have := List.all_eq_true.mp z.2.1 x hxm
            rw [hI] at this; cases this
          | true =>
            refine iteF ?_
            walk_at "x"
            refine ⟨⟨_, rfl⟩, s2.trans s3, ?_⟩
            rw [List.take_add_one, hx, List.all_append, p]
            simp [hI]
        · rintro σ' H2 ⟨⟨v, rfl⟩, s2, p⟩
          rw [List.take_length] at p
          walk_at "x"
          have h0 : 0 < xs.length := by rw [c1]; exact Nat.two_pow_pos n
          have hI := List.all_eq_true.mp p xs[0] (List.getElem_mem h0)
          obtain ⟨z, hz⟩ : ∃ z, xs[0] = .int z := by
            cases e : xs[0] with
            | int z => exact ⟨z, rfl⟩
            | _ => rw [e] at hI; cases hI
          have h0' : xs[0]? = some (.int z) := by rw [List.getElem?_eq_getElem h0, hz]
          refine x_ixXL (s2.seq hS) (atI_nat (j := 0) h0') ?_
          walk_at "x"
          by_cases ez : z = 0
          · rw [decide_eq_true ez]
            refine iteF ?_
            walk_at "x"
            refine k n (by unfold lookM; rw [en, if_pos ⟨c1, p, by rw [h0', ez]⟩]) _ s2
          · rw [decide_eq_false ez]
            refine iteT (bad' H2 s2 fun y => ez ?_)
            rw [h0'] at y
            exact V.int.inj (Option.some.inj y.2.2)
      · rw [decide_eq_false (show ¬ (xs.length : Int) = ((2 ^ n : Nat) : Int) by omega)]
        exact iteT (bad' H' (Same.refl _) fun z => c1 (by rw [en] at z; exact z.1))
    by_cases hk : (n : Int) < 6
    · rw [decide_eq_true hk]
      refine iteT ?_
      walk_at "x"
      refine x_shl ⟨by omega, by omega, by decide⟩ ?_
      walk_at "x"
      refine x_lenL hS ?_
      walk_at "x"
      have e1 : (1 : Int) * 2 ^ (n : Int).toNat = ((2 ^ n : Nat) : Int) := by rw [Int.one_mul, Int.toNat_natCast, Int.natCast_pow] <;> rfl
      rw [e1]
      refine ite2 (fun hl => ?_) (fun hl => ?_)
      · have hl := of_decide_eq_true hl
        refine x_N ?_
        walk_at "x"
        exact ⟨6 - (n + 1), by omega, n + 1, by rw [Int.natCast_add] <;> rfl, rfl, rfl, by omega, by omega, .inr (by rw [Nat.add_sub_cancel]; omega)⟩
      · exact fin (out (.inr (by have := mt decide_eq_true hl; omega)))
    · rw [decide_eq_false hk]
      exact iteF (fin (out (.inl (by omega))))

/-! ### summed -/
def sp_summed (A : Ads) (K : PySem.W.Frag) : Sp := fun vs H Q E => ∃ (a b : Addr) (xs ys : List V), vs = [.ref a, .ref b] ∧ Rd H a (.lst xs) ∧ Rd H b (.lst ys) ∧ (∀ y ∈ xs, Thing H y) ∧ (∀ y ∈ ys, Thing H y) ∧
  (∀ ns ms k, Tab ns k → Tab ms k → xs = ns.map V.int → ys = ms.map V.int → RetL ((sumT ns ms).map V.int) H Q) ∧
  (∀ ns ms k j, Tab ns k → Tab ms j → k ≠ j → xs = ns.map V.int → ys = ms.map V.int → ∀ H', Same H H' → E (.ref A.Unlike) none H') ∧
  (lookM xs = none ∨ lookM ys = none → ∀ H', Same H H' → E (.ref A.NoTable) none H')
theorem u_summed {K : PySem.W.Frag} {H : Hp} {Q : VK} {E : XK} {a b : Addr} {ns ms : List Int} {k : Nat} (R1 : Rd H a (.lst (ns.map V.int))) (R2 : Rd H b (.lst (ms.map V.int))) (t1 : Tab ns k) (t2 : Tab ms k) (q : RetL ((sumT ns ms).map V.int) H Q) : sp_summed A K [.ref a, .ref b] H Q E :=
  ⟨a, b, _, _, rfl, R1, R2, things_int, things_int, fun ns' ms' _ _ _ e1 e2 => by
    obtain rfl := map_int_inj e1
    obtain rfl := map_int_inj e2
    exact q, fun ns' ms' k' j' h1 h2 hne e1 e2 => by
    obtain rfl := map_int_inj e1
    obtain rfl := map_int_inj e2
    exact absurd ((h1.same t1).trans (t2.same h2)) hne, fun h => by
    rw [t1.look, t2.look] at h
    rcases h with h | h <;> cases h⟩
theorem u_summedU {K : PySem.W.Frag} {H : Hp} {Q : VK} {E : XK} {a b : Addr} {ns ms : List Int} {k j : Nat} (R1 : Rd H a (.lst (ns.map V.int))) (R2 : Rd H b (.lst (ms.map V.int))) (t1 : Tab ns k) (t2 : Tab ms j) (hn : k ≠ j) (q : ∀ H', Same H H' → E (.ref A.Unlike) none H') : sp_summed A K [.ref a, .ref b] H Q E :=
  ⟨a, b, _, _, rfl, R1, R2, things_int, things_int, fun ns' ms' k' h1 h2 e1 e2 => by
    obtain rfl := map_int_inj e1
    obtain rfl := map_int_inj e2
    exact absurd ((t1.same h1).trans (h2.same t2)) hn, fun _ _ _ _ _ _ _ _ _ => q, fun h => by
    rw [t1.look, t2.look] at h
    rcases h with h | h <;> cases h⟩
theorem ok_summed (T : Txt K mg A) : FnOk P w K mg base (L2.CX P w) 3 A.a_summed A.d_summed ["one", "other"] (sp_summed A K) := by
  refine T.F_summed.okX sc_summed (fun vs H Q E h => ?_) (fun cdv A0 outer s H vs Q E hr h => ?_)
  · obtain ⟨a, b, xs, ys, rfl, _⟩ := h; rfl
  · obtain ⟨a, b, xs, ys, rfl, R1, R2, T1, T2, k, kU, kN⟩ := h
    refine ⟨_, (pss_cons (ps_set (i := 2) sc_summed.nd rfl (.inl rfl) (pe_call (ok_look T) (hr.mono (by decide)) (by rfl) T.g_look T.F_look.kp T.b_look .nil (passes_call (takes_of rfl rfl rfl rfl) (fun _ _ _ _ h => h)) (pa_cons (pv 0) pa_nil)))
      (pss_cons (ps_if (pt_cmpR (op_neK (K := K) rfl hr.units) (pe_call (ok_look T) (hr.mono (by decide)) (by rfl) T.g_look T.F_look.kp T.b_look .nil (passes_call (takes_of rfl rfl rfl rfl) (fun _ _ _ _ h => h)) (pa_cons (pv 1) pa_nil)) (pv 2) (nomark _)) (pss_one (ps_raise rfl (takes_of rfl rfl rfl rfl) (pmk_own PySem.F.excBase_ValueError T.x_Unlike T.g_Unlike T.k_Unlike (raises_own T.e_Unlike T.t_Unlike) (by rfl)))) pss_nil)
      (pss_one (ps_ret (pe_lc (own := [("here", 3), ("there", 4)]) rfl sc_summed.nd (pi_zipK (K := K) rfl (by rfl) T.z_zip (pa_cons (pv 0) (pa_cons (pv 1) pa_nil))) (blkOk_by (own := [("here", 3), ("there", 4)]) (N := N_summed) (sc := defScope s_summed) (by decide +kernel)) (fun _ _ _ _ _ => (pg_tupK (K := K) (n := 2) rfl rfl (pgs_cons (pg_name (i := 3) sc_summed.nd rfl (.inl rfl)) (pgs_cons (pg_name (i := 4) sc_summed.nd rfl (.inl rfl)) pgs_nil)))) (fun _ _ _ _ _ => pts_nil) (fun _ _ _ _ _ => (pe_op op_addX (pv 3) (pv 4)))))))), ?_⟩
    walk_at "x"
    refine ⟨a, xs, rfl, R1, T1, fun n hn H1 s1 => ?_, fun hn => kN (.inl hn)⟩
    obtain ⟨ns, m1, t1, rfl, rfl⟩ := look_tab hn
    have R2' := rd_same s1 R2
    walk_at "x"
    refine ⟨b, ys, rfl, R2', fun y hy => (T2 y hy).same s1, fun n hn2 H2 s2 => ?_, fun hn H' s' => kN (.inr hn) H' (s1.trans s')⟩
    obtain ⟨ms, m2, t2, rfl, rfl⟩ := look_tab hn2
    have s2 := s1.trans s2
    walk_at "x"
    by_cases c : m1 = m2
    · subst c
      rw [decide_eq_true rfl]
      refine iteF ?_
      have hp1 := t1.pos
      have hl : ns.length = ms.length := by rw [t1.len, t2.len]
      walk_at "x"
      refine ⟨a, b, _, _, rfl, s2.seq (.inl R1), s2.seq (.inl R2), cp_zip (xs := ns.map V.int) (ys := ms.map V.int) (fun i => ((sumT ns ms).take i).map V.int) (Own.start (H := H2)) (by rw [List.length_map, List.length_map, hl]) (s2.seq (.inl R1)) (s2.seq (.inl R2)) rfl ?_ ?_⟩
      · intro D i x y t H' hx hy p nt
        obtain ⟨z1, hz1, rfl⟩ := map_at hx
        obtain ⟨z2, hz2, rfl⟩ := map_at hy
        refine x_gt (SqT.of upd_same) rfl ?_
        walk_at "x"
        refine ⟨rfl, ?_⟩
        walk_at "x"
        refine iteT ?_
        walk_at "x"
        have hi := (List.getElem?_eq_some_iff.mp hz1).1
        exact cp_fin (Own.ext p (same_upd nt)) (take_at (sumT_at hz1 hz2)) (by rw [List.length_map, List.length_take]; omega)
      · intro D H' w
        rw [List.length_map, ← sumT_len hl, List.take_length] at w
        exact k ns ms m1 t1 t2 rfl rfl _ _ (s2.free (w.none 0 rfl)) (s2.trans w.ex) (w.get 0 rfl)
    · rw [decide_eq_false (show ¬ ((m2 : Nat) : Int) = ((m1 : Nat) : Int) by omega)]
      exact iteT (kU ns ms m1 m2 t1 t2 c rfl rfl H2 s2)

/-! ### beside -/
def sp_beside (A : Ads) (K : PySem.W.Frag) : Sp := fun vs H Q E => ∃ (a b : Addr) (xs ys : List V), vs = [.ref a, .ref b] ∧ Rd H a (.lst xs) ∧ Rd H b (.lst ys) ∧ (∀ y ∈ xs, Thing H y) ∧ (∀ y ∈ ys, Thing H y) ∧
  (∀ ns ms k j, Tab ns k → Tab ms j → k + j ≤ 6 → xs = ns.map V.int → ys = ms.map V.int → RetL ((besideT ns ms).map V.int) H Q) ∧
  (∀ ns ms k j, Tab ns k → Tab ms j → 6 < k + j → xs = ns.map V.int → ys = ms.map V.int → ∀ H', Same H H' → E (.ref A.TooMany) none H') ∧
  (lookM xs = none ∨ lookM ys = none → ∀ H', Same H H' → E (.ref A.NoTable) none H')
theorem u_beside {K : PySem.W.Frag} {H : Hp} {Q : VK} {E : XK} {a b : Addr} {ns ms : List Int} {k j : Nat} (R1 : Rd H a (.lst (ns.map V.int))) (R2 : Rd H b (.lst (ms.map V.int))) (t1 : Tab ns k) (t2 : Tab ms j) (h6 : k + j ≤ 6) (q : RetL ((besideT ns ms).map V.int) H Q) : sp_beside A K [.ref a, .ref b] H Q E :=
  ⟨a, b, _, _, rfl, R1, R2, things_int, things_int, fun ns' ms' _ _ _ _ _ e1 e2 => by
    obtain rfl := map_int_inj e1
    obtain rfl := map_int_inj e2
    exact q, fun ns' ms' k' j' h1 h2 hne e1 e2 => by
    obtain rfl := map_int_inj e1
    obtain rfl := map_int_inj e2
    have := h1.same t1
    have := h2.same t2
    omega, fun h => by
    rw [t1.look, t2.look] at h
    rcases h with h | h <;> cases h⟩
theorem u_besideT {K : PySem.W.Frag} {H : Hp} {Q : VK} {E : XK} {a b : Addr} {ns ms : List Int} {k j : Nat} (R1 : Rd H a (.lst (ns.map V.int))) (R2 : Rd H b (.lst (ms.map V.int))) (t1 : Tab ns k) (t2 : Tab ms j) (h6 : 6 < k + j) (q : ∀ H', Same H H' → E (.ref A.TooMany) none H') : sp_beside A K [.ref a, .ref b] H Q E :=
  ⟨a, b, _, _, rfl, R1, R2, things_int, things_int, fun ns' ms' _ _ h1 h2 _ e1 e2 => by
    obtain rfl := map_int_inj e1
    obtain rfl := map_int_inj e2
    have := h1.same t1
    have := h2.same t2
    omega, fun _ _ _ _ _ _ _ _ _ => q, fun h => by
    rw [t1.look, t2.look] at h
    rcases h with h | h <;> cases h⟩
theorem mul64 {k j : Nat} (h : k + j ≤ 6) : 2 ^ k * 2 ^ j ≤ 64 := by rw [← Nat.pow_add]; exact Nat.pow_le_pow_right (n := 2) (by decide) h
theorem beside_take {ns ms : List Int} {i : Nat} {z : Int} (h : ms[i]? = some z) : besideT ns (ms.take (i + 1)) = besideT ns (ms.take i) ++ ns.map (fun x => x + z) := by
  rw [List.take_add_one, h]
  unfold besideT
  rw [List.flatMap_append]
  simp
theorem ok_beside (T : Txt K mg A) : FnOk P w K mg base (L2.CX P w) 3 A.a_beside A.d_beside ["one", "other"] (sp_beside A K) := by
  refine T.F_beside.okX sc_beside (fun vs H Q E h => ?_) (fun cdv A0 outer s H vs Q E hr h => ?_)
  · obtain ⟨a, b, xs, ys, rfl, _⟩ := h; rfl
  · obtain ⟨a, b, xs, ys, rfl, R1, R2, T1, T2, k, kM, kN⟩ := h
    refine ⟨_, (pss_cons (ps_if (pt_cmpR op_gtX (pe_op op_addX (pe_call (ok_look T) (hr.mono (by decide)) (by rfl) T.g_look T.F_look.kp T.b_look .nil (passes_call (takes_of rfl rfl rfl rfl) (fun _ _ _ _ h => h)) (pa_cons (pv 0) pa_nil)) (pe_call (ok_look T) (hr.mono (by decide)) (by rfl) T.g_look T.F_look.kp T.b_look .nil (passes_call (takes_of rfl rfl rfl rfl) (fun _ _ _ _ h => h)) (pa_cons (pv 1) pa_nil))) (pe_glob (v := .int 6) (by rfl) T.c_MOST ⟨_, rfl⟩) (nomark _)) (pss_one (ps_raise rfl (takes_of rfl rfl rfl rfl) (pmk_own PySem.F.excBase_ValueError T.x_TooMany T.g_TooMany T.k_TooMany (raises_own T.e_TooMany T.t_TooMany) (by rfl)))) pss_nil)
      (pss_cons (ps_set (i := 2) sc_beside.nd rfl (.inl rfl) (pe_lst pa_nil))
      (pss_cons (ps_for (passes_of rfl) rfl (pi_listK (K := K) rfl (pv 1)) (pg_name (i := 3) sc_beside.nd rfl (.inl rfl)) (pss_one (ps_for (passes_of rfl) rfl (pi_listK (K := K) rfl (pv 0)) (pg_name (i := 4) sc_beside.nd rfl (.inl rfl)) (pss_one (ps_expr (pe_bm PySem.F.plainAttrs_list PySem.F.slot_list_append PySem.F.type_list_append mt_append (pv 2) (pa_cons (pe_op op_addX (pv 4) (pv 3)) pa_nil)))))))
      (pss_one (ps_ret (pv 2)))))), ?_⟩
    walk_at "x"
    refine ⟨a, xs, rfl, R1, T1, fun n hn H1 s1 => ?_, fun hn => kN (.inl hn)⟩
    obtain ⟨ns, m1, t1, rfl, rfl⟩ := look_tab hn
    have R2' := rd_same s1 R2
    walk_at "x"
    refine ⟨b, ys, rfl, R2', fun y hy => (T2 y hy).same s1, fun n hn2 H2 s2 => ?_, fun hn H' s' => kN (.inr hn) H' (s1.trans s')⟩
    obtain ⟨ms, m2, t2, rfl, rfl⟩ := look_tab hn2
    have s2 := s1.trans s2
    walk_at "x"
    refine ite2 (fun c => ?_) (fun c => ?_)
    · have c := of_decide_eq_true c
      exact kM ns ms m1 m2 t1 t2 (by omega) rfl rfl H2 s2
    · have c6 : m1 + m2 ≤ 6 := by
        by_cases h : m1 + m2 ≤ 6
        · exact h
        · exact absurd (decide_eq_true (by omega)) c
      have m64 := mul64 c6
      rw [← t1.len, ← t2.len] at m64
      have tot := besideT_len ns ms
      have hp1 := t1.pos
      have hp2 := t2.pos
      walk_at "x"
      refine ⟨(by show 0 ≤ sizeLine; decide), fun p0 n0 => ?_⟩
      have w0 := (Own.start.ext s2 : Own H [] H2).new (o := .lst []) n0
      walk_at "x"
      refine ⟨_, rfl, ⟨_, w0.seq (.inl R2)⟩, for_list (xs := ms.map V.int) (fun i σ' H' => (∃ v1 v2, σ' = [some (.ref a), some (.ref b), some (.ref p0), v1, v2]) ∧ Own H [(p0, .lst ((besideT ns (ms.take i)).map V.int))] H') ⟨⟨_, _, rfl⟩, w0⟩ (fun i σ' H' _ h => h.2.seq (.inl R2)) ?_ ?_⟩
      · rintro i x σ' H' hx ⟨⟨v1, v2, rfl⟩, w⟩
        obtain ⟨z, hz, rfl⟩ := map_at hx
        have hi := (List.getElem?_eq_some_iff.mp hz).1
        have bl := besideT_len ns (ms.take i)
        rw [List.length_take, Nat.min_eq_left (by omega)] at bl
        have bi : ns.length * i + ns.length ≤ 64 := by
          have : ns.length * (i + 1) ≤ ns.length * ms.length := Nat.mul_le_mul_left _ hi
          rw [Nat.mul_succ] at this; omega
        walk_at "x"
        refine ⟨_, rfl, ⟨_, w.seq (.inl R1)⟩, for_list (xs := ns.map V.int) (fun j σ' H' => (∃ v2, σ' = [some (.ref a), some (.ref b), some (.ref p0), some (.int z), v2]) ∧ Own H [(p0, .lst ((besideT ns (ms.take i) ++ (ns.take j).map fun x => x + z).map V.int))] H') ⟨⟨_, rfl⟩, by rw [List.take_zero, List.map_nil, List.append_nil]; exact w⟩ (fun i σ' H' _ h => h.2.seq (.inl R1)) ?_ ?_⟩
        · rintro j x σ' H' hx ⟨⟨v2, rfl⟩, w⟩
          obtain ⟨y, hy, rfl⟩ := map_at hx
          have hj := (List.getElem?_eq_some_iff.mp hy).1
          walk_at "x"
          refine ⟨x_tyL (w.get 0 rfl), ?_⟩
          walk_at "x"
          refine x_append (w.get 0 rfl) ?_ ?_
          · rw [List.length_map, List.length_append, List.length_map, List.length_take]
            exact small1000 (by omega)
          have w2 := w.put (o' := .lst ((besideT ns (ms.take i) ++ (ns.take j).map fun x => x + z).map V.int ++ [.int (y + z)])) 0 rfl
          have e : (besideT ns (ms.take i) ++ (ns.take j).map fun x => x + z).map V.int ++ [V.int (y + z)] = (besideT ns (ms.take i) ++ (ns.take (j + 1)).map fun x => x + z).map V.int := by
            rw [List.take_add_one, hy, List.map_append, List.map_append, List.map_append, List.map_append, List.append_assoc] <;> rfl
          rw [e] at w2 ⊢
          exact ⟨⟨_, rfl⟩, w2⟩
        · rintro σ' H' ⟨⟨v2, rfl⟩, w⟩
          rw [List.length_map, List.take_length, ← beside_take hz] at w
          exact ⟨⟨_, _, rfl⟩, w⟩
      · rintro σ' H' ⟨⟨v1, v2, rfl⟩, w⟩
        rw [List.length_map, List.take_length] at w
        walk_at "x"
        exact (k ns ms m1 m2 t1 t2 c6 rfl rfl).go w

/-! ### hands_spread -/
def sp_hands_spread (K : PySem.W.Frag) : Sp := fun vs H Q _ => ∃ (g : Nat) (b : Addr) (bs : List Nat), vs = [.int (g : Int), .ref b] ∧ g < 64 ∧ SqL K H b (bs.map vnat) ∧ bs.length ≤ 6 ∧ RetV (.int ((spreadM g bs : Nat) : Int)) H Q
theorem ok_hands_spread (T : Txt K mg A) : FnOk P w K mg base (L2.CX P w) 1 A.a_hands_spread A.d_hands_spread ["group", "blocks"] (sp_hands_spread K) := by
  refine T.F_hands_spread.okX sc_hands_spread (fun vs H Q E h => ?_) (fun cdv A0 outer s H vs Q E hr h => ?_)
  · obtain ⟨g, b, bs, rfl, _⟩ := h; rfl
  · obtain ⟨g, b, bs, rfl, hg, hS, hl, k⟩ := h
    refine ⟨_, (pss_cons (ps_set (i := 2) sc_hands_spread.nd rfl (.inl rfl) pe_int)
      (pss_cons (ps_for (passes_of rfl) rfl (pi_enumK (K := K) rfl (by rfl) T.z_enumerate (pa_cons (pv 1) pa_nil)) (pg_tupK (K := K) (n := 2) rfl rfl (pgs_cons (pg_name (i := 3) sc_hands_spread.nd rfl (.inl rfl)) (pgs_cons (pg_name (i := 4) sc_hands_spread.nd rfl (.inl rfl)) pgs_nil))) (pss_one (ps_if (pt_cmpR (op_eqK (K := K) rfl hr.units) (pe_op op_andX (pe_op op_shrX (pv 0) (pv 3)) pe_int) pe_int (nomark _)) (pss_one (ps_set (i := 2) sc_hands_spread.nd rfl (.inl rfl) (pe_op op_orX (pv 2) (pv 4)))) pss_nil)))
      (pss_one (ps_ret (pv 2))))), ?_⟩
    walk_at "x"
    refine ⟨b, bs.map vnat, rfl, hS, for_enumL (xs := bs.map vnat) (fun i σ' H' => (∃ v1 v2, σ' = [some (.int (g : Int)), some (.ref b), some (.int ((spreadTo g bs i : Nat) : Int)), v1, v2]) ∧ Own H [] H') ⟨⟨_, _, rfl⟩, Own.start⟩ (fun i σ' H' p => p.2.seq hS) ?_ ?_⟩
    · rintro i x Tt σ' H' hx ⟨⟨v1, v2, rfl⟩, w⟩ nT
      obtain ⟨z, hz, rfl⟩ := map_at hx
      have hi : i < 6 := by have := (List.getElem?_eq_some_iff.mp hz).1; omega
      have w1 := w.ext (same_upd (o := .tup [.int (i : Int), vnat z]) nT)
      refine x_gt (SqT.of upd_same) rfl ?_
      walk_at "x"
      refine x_shr (by omega) ?_
      walk_at "x"
      rw [bit_int hi hg]
      cases c : bitOn i g with
      | true =>
        refine iteT ?_
        walk_at "x"
        rw [or_nat]
        refine ⟨⟨some (.int (i : Int)), some (vnat z), ?_⟩, w1⟩
        rw [spreadTo_step hz, if_pos c]
        rfl
      | false =>
        refine iteF ?_
        walk_at "x"
        refine ⟨⟨some (.int (i : Int)), some (vnat z), ?_⟩, w1⟩
        rw [spreadTo_step hz, if_neg (by rw [c]; exact Bool.false_ne_true)]
        rfl
    · rintro σ' H' ⟨⟨v1, v2, rfl⟩, w⟩
      walk_at "x"
      rw [List.length_map]
      exact k.go w.ex

/-! ### look_group_of -/
def sp_look_group_of (A : Ads) : Sp := fun vs H Q E => ∃ (a : Addr) (xs : List V) (v : V), vs = [.ref a, v] ∧ Rd H a (.lst xs) ∧ (∀ y ∈ xs, Thing H y) ∧ Thing H v ∧
  (∀ ns k, Tab ns k → xs = ns.map V.int → inR v 1 ((ns.length : Int) - 1) → RetV .non H Q) ∧ (∀ ns k, Tab ns k → xs = ns.map V.int → ¬ inR v 1 ((ns.length : Int) - 1) → ∀ H', Same H H' → E (.ref A.NoGroup) none H') ∧
  (lookM xs = none → ∀ H', Same H H' → E (.ref A.NoTable) none H')
theorem ok_look_group_of (T : Txt K mg A) : FnOk P w K mg base (L2.CX P w) 3 A.a_look_group_of A.d_look_group_of ["table", "group"] (sp_look_group_of A) := by
  refine T.F_look_group_of.okX sc_look_group_of (fun vs H Q E h => ?_) (fun cdv A0 outer s H vs Q E hr h => ?_)
  · obtain ⟨a, xs, v, rfl, _⟩ := h; rfl
  · obtain ⟨a, xs, v, rfl, hR, hT, hv, k, kG, kE⟩ := h
    refine ⟨_, (pss_cons (ps_set (i := 2) sc_look_group_of.nd rfl (.inl rfl) (pe_call (ok_look T) (hr.mono (by decide)) (by rfl) T.g_look T.F_look.kp T.b_look .nil (passes_call (takes_of rfl rfl rfl rfl) (fun _ _ _ _ h => h)) (pa_cons (pv 0) pa_nil)))
      (pss_one (ps_expr (pe_call (ok_look_group T) (hr.mono (by decide)) (by rfl) T.g_look_group T.F_look_group.kp T.b_look_group .nil (passes_call (takes_of rfl rfl rfl rfl) (fun _ _ _ _ h => h)) (pa_cons (pv 1) (pa_cons pe_int (pa_cons (pe_call (ok_whole_of T) (hr.mono (by decide)) (by rfl) T.g_whole_of T.F_whole_of.kp T.b_whole_of .nil (passes_call (takes_of rfl rfl rfl rfl) (fun _ _ _ _ h => h)) (pa_cons (pv 2) pa_nil)) pa_nil))))))), ?_⟩
    walk_at "x"
    refine ⟨a, xs, rfl, hR, hT, fun n hn H1 s1 => ?_, kE⟩
    obtain ⟨ns, m, tb, rfl, rfl⟩ := look_tab hn
    walk_at "x"
    refine ⟨m, rfl, by have := tb.hi; omega, fun H2 s2 => ?_⟩
    walk_at "x"
    have e : (((2 ^ m : Nat) : Int) - 1) = (ns.length : Int) - 1 := by rw [tb.len]
    rw [e]
    refine ⟨v, 1, _, rfl, (hv.same s1).same s2, fun hin H3 s3 => k ns m tb rfl hin H3 ((s1.trans s2).trans s3), fun hin H3 s3 => kG ns m tb rfl hin H3 ((s1.trans s2).trans s3)⟩

/-! ### cut -/
def sp_cut (A : Ads) : Sp := fun vs H Q E => ∃ (a : Addr) (xs : List V) (v : V), vs = [.ref a, v] ∧ Rd H a (.lst xs) ∧ (∀ y ∈ xs, Thing H y) ∧ Thing H v ∧
  (∀ ns k (g : Nat), Tab ns k → xs = ns.map V.int → v = .int (g : Int) → 0 < g → g < ns.length → RetL ((cutM ns g).map V.int) H Q) ∧
  (∀ ns k, Tab ns k → xs = ns.map V.int → ¬ inR v 1 ((ns.length : Int) - 1) → ∀ H', Same H H' → E (.ref A.NoGroup) none H') ∧
  (lookM xs = none → ∀ H', Same H H' → E (.ref A.NoTable) none H')
theorem u_cut {H : Hp} {Q : VK} {E : XK} {a : Addr} {ms : List Int} {m g : Nat} (R : Rd H a (.lst (ms.map V.int))) (tb : Tab ms m) (h0 : 0 < g) (hg : g < ms.length) (q : RetL ((cutM ms g).map V.int) H Q) : sp_cut A [.ref a, .int (g : Int)] H Q E :=
  ⟨a, _, _, rfl, R, things_int, .int _, fun _ _ g' _ e eg _ _ => by
    obtain rfl := map_int_inj e
    have : g = g' := by have := V.int.inj eg; omega
    exact this ▸ q, fun ns _ _ e h => by
    obtain rfl := map_int_inj e
    exact absurd ⟨_, rfl, by omega, by omega⟩ h, fun e => by rw [tb.look] at e; cases e⟩
theorem u_cutE {H : Hp} {Q : VK} {E : XK} {a : Addr} {ms : List Int} {m : Nat} {v : V} (R : Rd H a (.lst (ms.map V.int))) (tb : Tab ms m) (hv : Thing H v) (hn : ¬ inR v 1 ((ms.length : Int) - 1)) (q : ∀ H', Same H H' → E (.ref A.NoGroup) none H') : sp_cut A [.ref a, v] H Q E :=
  ⟨a, _, _, rfl, R, things_int, hv, fun _ _ g' _ e eg h0 h1 => by
    obtain rfl := map_int_inj e
    exact absurd ⟨_, eg, by omega, by omega⟩ hn, fun ns _ _ e h => q, fun e => by rw [tb.look] at e; cases e⟩
theorem ok_cut (T : Txt K mg A) : FnOk P w K mg base (L2.CX P w) 4 A.a_cut A.d_cut ["table", "group"] (sp_cut A) := by
  refine T.F_cut.okX sc_cut (fun vs H Q E h => ?_) (fun cdv A0 outer s H vs Q E hr h => ?_)
  · obtain ⟨a, xs, v, rfl, _⟩ := h; rfl
  · obtain ⟨a, xs, v, rfl, hR, hT, hv, k, kG, kE⟩ := h
    refine ⟨_, (pss_cons (ps_expr (pe_call (ok_look_group_of T) (hr.mono (by decide)) (by rfl) T.g_look_group_of T.F_look_group_of.kp T.b_look_group_of .nil (passes_call (takes_of rfl rfl rfl rfl) (fun _ _ _ _ h => h)) (pa_cons (pv 0) (pa_cons (pv 1) pa_nil))))
      (pss_cons (ps_set (i := 2) sc_cut.nd rfl (.inr rfl) (pe_lc (own := [("hand", 3)]) rfl sc_cut.nd (pi_listK (K := K) rfl (pe_call (ok_hands_of T) (hr.mono (by decide)) (by rfl) T.g_hands_of T.F_hands_of.kp T.b_hands_of .nil (passes_call (takes_of rfl rfl rfl rfl) (fun _ _ _ _ h => h)) (pa_cons (pv 1) pa_nil))) (blkOk_by (own := [("hand", 3)]) (N := N_cut) (sc := defScope s_cut) (by decide +kernel)) (fun _ _ _ _ _ => (pg_name (i := 3) sc_cut.nd rfl (.inl rfl))) (fun _ _ _ _ _ => pts_nil) (fun _ _ _ _ _ => (pe_op op_shlX pe_int (pv 3)))))
      (pss_one (ps_ret (pe_lc (own := [("part", 4)]) rfl sc_cut.nd (pi_range1 (by rfl) T.z_range (pa_cons (pe_op op_shlX pe_int (pe_callB (call_lenK (K := K) rfl) (by rfl) T.z_len (by decide +kernel) (pa_cons (pv 2) pa_nil))) pa_nil)) (blkOk_by (own := [("part", 4)]) (N := N_cut) (sc := defScope s_cut) (by decide +kernel)) (fun _ _ _ _ _ => (pg_name (i := 4) sc_cut.nd rfl (.inl rfl))) (fun _ _ _ _ _ => pts_nil) (fun _ _ _ _ _ => (pe_ix (ix_seqK (K := K) rfl) (pv 0) (pe_call (ok_hands_spread T) (hr.mono (by decide)) (by rfl) T.g_hands_spread T.F_hands_spread.kp T.b_hands_spread .nil passL (pa_cons (pv 4) (pa_cons (pv 2) pa_nil))) (fun _ _ => rfl)))))))), ?_⟩
    walk_at "x"
    refine ⟨a, xs, v, rfl, hR, hT, hv, fun ns m tb e hin H1 s1 => ?_, kG, kE⟩
    subst e
    obtain ⟨z, rfl, h1, h2⟩ := hin
    obtain ⟨g, rfl⟩ := Int.eq_ofNat_of_zero_le (show (0 : Int) ≤ z by omega)
    have hp := tb.pos
    have w := Own.start.ext s1
    have hS : SqL K H a (ns.map V.int) := .inl hR
    walk_at "x"
    refine ⟨_, rfl, .int _, fun g' eg hg p1 H2 n2 s2 c2 => ?_, fun h => absurd ⟨_, rfl, by omega, by omega⟩ h⟩
    obtain rfl : g = g' := by have := V.int.inj eg; omega
    have w2 := w.newE n2 s2 c2
    have w3 := w2.freeze
    have hS3 := (same_upd (o := .lst ((handsM g).map vnat)) (w2.none 0 rfl)).seq hS
    walk_at "x"
    refine ⟨_, rfl, ⟨_, w3.seq (SqL.of upd_same)⟩, cp_list (xs := (handsM g).map vnat) (fun i => ((handsM g).take i).map fun h => vnat (2 ^ h)) w3 (SqL.of upd_same) rfl ?_ ?_⟩
    · intro D i x H' hx p
      obtain ⟨h, hh, rfl⟩ := map_at hx
      walk_at "x"
      refine ⟨rfl, ?_⟩
      walk_at "x"
      refine iteT ?_
      walk_at "x"
      refine x_shl ⟨by omega, by have := handsM_lt (List.mem_of_getElem? hh); omega, by decide⟩ ?_
      rw [shl_nat]
      exact cp_fin p (take_map hh _) (by rw [List.length_map, List.length_take]; have := handsM_len g; omega)
    · intro D H' w4
      rw [List.length_map, List.take_length] at w4
      walk_at "x"
      refine x_lenL (w4.sq 0 rfl) ?_
      walk_at "x"
      rw [List.length_map]
      have hl := handsM_len g
      refine x_shl ⟨by omega, by omega, by decide⟩ ?_
      rw [shl_nat]
      have w5 := w4.freeze
      have hS5 := (same_upd (o := .lst ((handsM g).map fun h => vnat (2 ^ h))) (w4.none 0 rfl)).seq hS3
      have hnn := Int.natCast_nonneg (2 ^ (handsM g).length)
      have h64' := pow6 hl
      refine ⟨_, rfl, by omega, by omega, cp_r0 (n := ((2 ^ (handsM g).length : Nat) : Int)) (fun i => (List.range i).map fun q => V.int (gi ns ((spreadM q ((handsM g).map (2 ^ ·)) : Nat) : Int))) w5 rfl ?_ ?_⟩
      · intro D2 i H3 hi p
        walk_at "x"
        refine ⟨rfl, ?_⟩
        walk_at "x"
        refine iteT ?_
        walk_at "x"
        have hi' : i < 2 ^ (handsM g).length := by omega
        have h64 := pow6 hl
        have eb : (handsM g).map (fun h => vnat (2 ^ h)) = ((handsM g).map (2 ^ ·)).map vnat := by rw [List.map_map] <;> rfl
        refine ⟨i, D, (handsM g).map (2 ^ ·), rfl, by omega, ?_, by rw [List.length_map]; exact hl, fun H4 s4 => ?_⟩
        · rw [← eb]; exact Own.seq p (SqL.of upd_same)
        · have p4 : Own _ _ H4 := Own.ext p s4
          have hb : spreadM i ((handsM g).map (2 ^ ·)) ≤ g := spread_le (by omega) i hi'
          refine x_ixXL (p4.seq hS5) (at_int (by omega) (by omega)) ?_
          walk_at "x"
          exact cp_fin p4 (range_map _ _) (by rw [List.length_map, List.length_range]; omega)
      · intro D2 H3 w6
        have e : (List.range ((2 ^ (handsM g).length : Nat) : Int).toNat).map (fun q => V.int (gi ns ((spreadM q ((handsM g).map (2 ^ ·)) : Nat) : Int))) = (cutM ns g).map V.int := by
          rw [Int.toNat_natCast]
          unfold cutM
          rw [List.map_map] <;> rfl
        rw [e] at w6
        have sH : Same H _ := (same_upd (o := .lst ((handsM g).map vnat)) (w2.none 0 rfl)).trans (same_upd (o := .lst ((handsM g).map fun h => vnat (2 ^ h))) (w4.none 0 rfl))
        exact k ns m g tb rfl rfl (by omega) (by omega) _ _ (sH.free (w6.none 0 rfl)) (sH.trans w6.ex) (w6.get 0 rfl)

/-! ### merged -/
def sp_merged (A : Ads) : Sp := fun vs H Q E => ∃ (a : Addr) (xs : List V) (v : V), vs = [.ref a, v] ∧ Rd H a (.lst xs) ∧ (∀ y ∈ xs, Thing H y) ∧ Thing H v ∧
  (∀ ns k (g : Nat), Tab ns k → xs = ns.map V.int → v = .int (g : Int) → 0 < g → g < ns.length → RetL ((mergedM ns g k).map V.int) H Q) ∧
  (∀ ns k, Tab ns k → xs = ns.map V.int → ¬ inR v 1 ((ns.length : Int) - 1) → ∀ H', Same H H' → E (.ref A.NoGroup) none H') ∧
  (lookM xs = none → ∀ H', Same H H' → E (.ref A.NoTable) none H')
theorem u_merged {H : Hp} {Q : VK} {E : XK} {a : Addr} {ms : List Int} {m g : Nat} (R : Rd H a (.lst (ms.map V.int))) (tb : Tab ms m) (h0 : 0 < g) (hg : g < ms.length) (q : RetL ((mergedM ms g m).map V.int) H Q) : sp_merged A [.ref a, .int (g : Int)] H Q E :=
  ⟨a, _, _, rfl, R, things_int, .int _, fun _ k' g' t' e eg _ _ => by
    obtain rfl := map_int_inj e
    have : g = g' := by have := V.int.inj eg; omega
    obtain rfl : m = k' := by have h1 := tb.len; rw [t'.len] at h1; exact ((Nat.pow_right_inj (by decide)).mp h1).symm
    exact this ▸ q, fun ns _ _ e h => by
    obtain rfl := map_int_inj e
    exact absurd ⟨_, rfl, by omega, by omega⟩ h, fun e => by rw [tb.look] at e; cases e⟩
theorem u_mergedE {H : Hp} {Q : VK} {E : XK} {a : Addr} {ms : List Int} {m : Nat} {v : V} (R : Rd H a (.lst (ms.map V.int))) (tb : Tab ms m) (hv : Thing H v) (hn : ¬ inR v 1 ((ms.length : Int) - 1)) (q : ∀ H', Same H H' → E (.ref A.NoGroup) none H') : sp_merged A [.ref a, v] H Q E :=
  ⟨a, _, _, rfl, R, things_int, hv, fun _ _ g' _ e eg h0 h1 => by
    obtain rfl := map_int_inj e
    exact absurd ⟨_, eg, by omega, by omega⟩ hn, fun ns _ _ e h => q, fun e => by rw [tb.look] at e; cases e⟩
theorem ok_merged (T : Txt K mg A) : FnOk P w K mg base (L2.CX P w) 4 A.a_merged A.d_merged ["table", "group"] (sp_merged A) := by
  refine T.F_merged.okX sc_merged (fun vs H Q E h => ?_) (fun cdv A0 outer s H vs Q E hr h => ?_)
  · obtain ⟨a, xs, v, rfl, _⟩ := h; rfl
  · obtain ⟨a, xs, v, rfl, hR, hT, hv, k, kG, kE⟩ := h
    refine ⟨_, (pss_cons (ps_expr (pe_call (ok_look_group_of T) (hr.mono (by decide)) (by rfl) T.g_look_group_of T.F_look_group_of.kp T.b_look_group_of .nil (passes_call (takes_of rfl rfl rfl rfl) (fun _ _ _ _ h => h)) (pa_cons (pv 0) (pa_cons (pv 1) pa_nil))))
      (pss_cons (ps_set (i := 2) sc_merged.nd rfl (.inl rfl) (pe_ix (ix_seqK (K := K) rfl) (pe_call (ok_hands_of T) (hr.mono (by decide)) (by rfl) T.g_hands_of T.F_hands_of.kp T.b_hands_of .nil (passes_call (takes_of rfl rfl rfl rfl) (fun _ _ _ _ h => h)) (pa_cons (pv 1) pa_nil)) pe_int (fun _ _ => rfl)))
      (pss_cons (ps_set (i := 3) sc_merged.nd rfl (.inr rfl) (pe_lst pa_nil))
      (pss_cons (ps_for (passes_of rfl) rfl (pi_listK (K := K) rfl (pe_call (ok_hands_of T) (hr.mono (by decide)) (by rfl) T.g_hands_of T.F_hands_of.kp T.b_hands_of .nil (passes_call (takes_of rfl rfl rfl rfl) (fun _ _ _ _ h => h)) (pa_cons (pe_op op_subX (pe_callB (call_lenK (K := K) rfl) (by rfl) T.z_len (by decide +kernel) (pa_cons (pv 0) pa_nil)) pe_int) pa_nil))) (pg_name (i := 4) sc_merged.nd rfl (.inl rfl)) (pss_one (ps_if (pt_cmpR (op_eqK (K := K) rfl hr.units) (pv 4) (pv 2) (nomark _)) (pss_one (ps_expr (pe_bm PySem.F.plainAttrs_list PySem.F.slot_list_append PySem.F.type_list_append mt_append (pv 3) (pa_cons (pv 1) pa_nil)))) (pss_one (ps_if (pt_cmpR (op_eqK (K := K) rfl hr.units) (pe_op op_andX (pe_op op_shrX (pv 1) (pv 4)) pe_int) pe_int (nomark _)) (pss_one (ps_expr (pe_bm PySem.F.plainAttrs_list PySem.F.slot_list_append PySem.F.type_list_append mt_append (pv 3) (pa_cons (pe_op op_shlX pe_int (pv 4)) pa_nil)))) pss_nil)))))
      (pss_one (ps_ret (pe_lc (own := [("part", 5)]) rfl sc_merged.nd (pi_range1 (by rfl) T.z_range (pa_cons (pe_op op_shlX pe_int (pe_callB (call_lenK (K := K) rfl) (by rfl) T.z_len (by decide +kernel) (pa_cons (pv 3) pa_nil))) pa_nil)) (blkOk_by (own := [("part", 5)]) (N := N_merged) (sc := defScope s_merged) (by decide +kernel)) (fun _ _ _ _ _ => (pg_name (i := 5) sc_merged.nd rfl (.inl rfl))) (fun _ _ _ _ _ => pts_nil) (fun _ _ _ _ _ => (pe_ix (ix_seqK (K := K) rfl) (pv 0) (pe_call (ok_hands_spread T) (hr.mono (by decide)) (by rfl) T.g_hands_spread T.F_hands_spread.kp T.b_hands_spread .nil passL (pa_cons (pv 5) (pa_cons (pv 3) pa_nil))) (fun _ _ => rfl)))))))))), ?_⟩
    walk_at "x"
    refine ⟨a, xs, v, rfl, hR, hT, hv, fun ns m tb e hin H1 s1 => ?_, kG, kE⟩
    subst e
    obtain ⟨z, rfl, h1, h2⟩ := hin
    obtain ⟨g, rfl⟩ := Int.eq_ofNat_of_zero_le (show (0 : Int) ≤ z by omega)
    have hp := tb.pos
    have hm6 := tb.hi
    have ht := tb.len
    have w := Own.start.ext s1
    have hS : SqL K H a (ns.map V.int) := .inl hR
    walk_at "x"
    refine u_hands_of (by omega) fun p1 H2 n2 s2 c2 => ?_
    have w2 := w.newE n2 s2 c2
    walk_at "x"
    have hlf := leastF g (by omega) (by omega)
    refine x_ixXL (w2.sq 0 rfl) (atI_nat (j := 0) (v := .int ((leastM g : Nat) : Int)) (by rw [List.getElem?_map, hlf.1] <;> rfl)) ?_
    walk_at "x"
    refine ⟨Nat.zero_le _, fun p3 n3 => ?_⟩
    have w3 := w2.new (o := .lst []) n3
    walk_at "x"
    refine x_lenL (w3.seq hS) ?_
    walk_at "x"
    rw [List.length_map, show ((ns.length : Int) - 1) = ((ns.length - 1 : Nat) : Int) by omega]
    refine u_hands_of (by omega) fun p4 H4 n4 s4 c4 => ?_
    have w4 := w3.newE n4 s4 c4
    have eh : handsM (ns.length - 1) = List.range m := by rw [ht]; exact handsM_all m (by omega)
    rw [eh] at w4
    have fF := mgF m (by omega) g (by omega) (by omega)
    refine ⟨_, rfl, ⟨_, w4.sq 0 rfl⟩, for_list (xs := (List.range m).map vnat) (fun i σ' H' => (∃ v1 v2, σ' = [some (.ref a), some (.int (g : Int)), some (.int ((leastM g : Nat) : Int)), some (.ref p3), v1, v2]) ∧
      Own H [(p4, .lst ((List.range m).map vnat)), (p3, .lst ((((List.range i).filter (keepP g)).map (blockOf g)).map vnat)), (p1, .lst ((handsM g).map vnat))] H') ⟨⟨_, _, rfl⟩, w4⟩ (fun i σ' H' _ p => p.2.sq 0 rfl) ?_ ?_⟩
    · rintro i x σ' H5 hx ⟨⟨v1, v2, rfl⟩, w5⟩
      obtain ⟨z, hz, rfl⟩ := map_at hx
      obtain ⟨rfl, hi⟩ := range_at hz
      have hlen : ((((List.range z).filter (keepP g)).map (blockOf g)).map vnat).length ≤ z := by rw [List.length_map, List.length_map]; exact filter_len _ _
      walk_at "x"
      refine ite2 (fun c => ?_) (fun c => ?_)
      · have c' := of_decide_eq_true c
        have hk : keepP g z = true := by
          unfold keepP
          rw [show (z == leastM g) = true by rw [beq_iff_eq]; omega] <;> rfl
        walk_at "x"
        refine ⟨x_tyL (w5.get 1 rfl), ?_⟩
        walk_at "x"
        refine x_append (w5.get 1 rfl) (small1000 (by omega)) ?_
        have w6 := w5.put (o' := .lst ((((List.range (z + 1)).filter (keepP g)).map (blockOf g)).map vnat)) 1 rfl
        rw [keep_yes hk, show blockOf g z = g by unfold blockOf; rw [if_pos (by omega)]] at w6
        exact ⟨⟨_, _, rfl⟩, by rw [keep_yes hk, show blockOf g z = g by unfold blockOf; rw [if_pos (by omega)]]; exact w6⟩
      · have c' : ¬ (z : Int) = ((leastM g : Nat) : Int) := fun e => c (decide_eq_true e)
        walk_at "x"
        refine x_shr (by omega) ?_
        walk_at "x"
        rw [bit_int0 (by omega) (by omega)]
        cases cb : bitOn z g with
        | true =>
          have hk : keepP g z = false := by
            unfold keepP
            rw [cb, show (z == leastM g) = false by rw [beq_eq_false_iff_ne]; omega] <;> rfl
          refine iteF ?_
          walk_at "x"
          exact ⟨⟨_, _, rfl⟩, by rw [keep_no hk]; exact w5⟩
        | false =>
          have hk : keepP g z = true := by
            unfold keepP
            rw [cb, show (z == leastM g) = false by rw [beq_eq_false_iff_ne]; omega] <;> rfl
          refine iteT ?_
          walk_at "x"
          refine ⟨x_tyL (w5.get 1 rfl), ?_⟩
          walk_at "x"
          refine x_shl ⟨by omega, by omega, by decide⟩ ?_
          rw [shl_nat]
          walk_at "x"
          refine x_append (w5.get 1 rfl) (small1000 (by omega)) ?_
          have w6 := w5.put (o' := .lst ((((List.range (z + 1)).filter (keepP g)).map (blockOf g)).map vnat)) 1 rfl
          rw [keep_yes hk, show blockOf g z = 2 ^ z by unfold blockOf; rw [if_neg (by omega)]] at w6
          exact ⟨⟨_, _, rfl⟩, by rw [keep_yes hk, show blockOf g z = 2 ^ z by unfold blockOf; rw [if_neg (by omega)]]; exact w6⟩
    · rintro σ' H5 ⟨⟨v1, v2, rfl⟩, w5⟩
      rw [List.length_map, List.length_range] at w5
      have hbl := blocksM_len g m
      have hkl := keptM_len g m
      have w5 : Own H [(p4, .lst ((List.range m).map vnat)), (p3, .lst ((blocksM g m).map vnat)), (p1, .lst ((handsM g).map vnat))] H5 := w5
      have h64 := pow6 (show (keptM g m).length ≤ 6 by omega)
      have hnn := Int.natCast_nonneg (2 ^ (keptM g m).length)
      walk_at "x"
      refine x_lenL (w5.sq 1 rfl) ?_
      walk_at "x"
      rw [List.length_map, hbl]
      refine x_shl ⟨by omega, by omega, by decide⟩ ?_
      rw [shl_nat]
      refine ⟨_, rfl, by omega, by omega, cp_r0 (n := ((2 ^ (keptM g m).length : Nat) : Int)) (fun i => (List.range i).map fun q => V.int (gi ns ((spreadM q (blocksM g m) : Nat) : Int))) w5 rfl ?_ ?_⟩
      · intro D2 i H6 hi p
        walk_at "x"
        refine ⟨rfl, ?_⟩
        walk_at "x"
        refine iteT ?_
        walk_at "x"
        have hi' : i < 2 ^ (keptM g m).length := by omega
        refine ⟨i, p3, blocksM g m, rfl, by omega, Own.sq p 2 rfl, by omega, fun H7 s7 => ?_⟩
        have p7 : Own _ _ H7 := Own.ext p s7
        have hb := (fF.2.2.2 i hi').1
        refine x_ixXL (p7.seq hS) (at_int (by omega) (by omega)) ?_
        walk_at "x"
        exact cp_fin p7 (range_map _ _) (by rw [List.length_map, List.length_range]; omega)
      · intro D2 H6 w6
        have e : (List.range ((2 ^ (keptM g m).length : Nat) : Int).toNat).map (fun q => V.int (gi ns ((spreadM q (blocksM g m) : Nat) : Int))) = (mergedM ns g m).map V.int := by
          rw [Int.toNat_natCast]
          unfold mergedM
          rw [List.map_map] <;> rfl
        rw [e] at w6
        exact k ns m g tb rfl rfl (by omega) (by omega) _ _ (w6.none 0 rfl) w6.ex (w6.get 0 rfl)

/-! ### turned -/
def sp_turned (A : Ads) : Sp := fun vs H Q E => ∃ (a : Addr) (xs : List V), vs = [.ref a] ∧ Rd H a (.lst xs) ∧ (∀ v ∈ xs, Thing H v) ∧
  (∀ ns k, Tab ns k → xs = ns.map V.int → RetL ((turnM ns).map V.int) H Q) ∧ (lookM xs = none → ∀ H', Same H H' → E (.ref A.NoTable) none H')
theorem ok_turned (T : Txt K mg A) : FnOk P w K mg base (L2.CX P w) 3 A.a_turned A.d_turned ["table"] (sp_turned A) := by
  refine T.F_turned.okX sc_turned (fun vs H Q E h => ?_) (fun cdv A0 outer s H vs Q E hr h => ?_)
  · obtain ⟨a, xs, rfl, _⟩ := h; rfl
  · obtain ⟨a, xs, rfl, hR, hT, k, kE⟩ := h
    refine ⟨_, (pss_cons (ps_expr (pe_call (ok_look T) (hr.mono (by decide)) (by rfl) T.g_look T.F_look.kp T.b_look .nil (passes_call (takes_of rfl rfl rfl rfl) (fun _ _ _ _ h => h)) (pa_cons (pv 0) pa_nil)))
      (pss_cons (ps_set (i := 1) sc_turned.nd rfl (.inr rfl) (pe_op op_subX (pe_callB (call_lenK (K := K) rfl) (by rfl) T.z_len (by decide +kernel) (pa_cons (pv 0) pa_nil)) pe_int))
      (pss_one (ps_ret (pe_lc (own := [("group", 2)]) rfl sc_turned.nd (pi_range1 (by rfl) T.z_range (pa_cons (pe_op op_addX (pv 1) pe_int) pa_nil)) (blkOk_by (own := [("group", 2)]) (N := N_turned) (sc := defScope s_turned) (by decide +kernel)) (fun _ _ _ _ _ => (pg_name (i := 2) sc_turned.nd rfl (.inl rfl))) (fun _ _ _ _ _ => pts_nil) (fun _ _ _ _ _ => (pe_op op_subX (pe_ix (ix_seqK (K := K) rfl) (pv 0) (pv 1) (fun _ _ => rfl)) (pe_ix (ix_seqK (K := K) rfl) (pv 0) (pe_op op_subX (pv 1) (pv 2)) (fun _ _ => rfl))))))))), ?_⟩
    walk_at "x"
    refine ⟨a, xs, rfl, hR, hT, fun n hn H1 s1 => ?_, kE⟩
    obtain ⟨ns, m, tb, rfl, rfl⟩ := look_tab hn
    have w : Own H [] H1 := Own.start.ext s1
    have hS : SqL K H a (ns.map V.int) := .inl hR
    have hl : 0 < ns.length := by rw [tb.len]; exact Nat.two_pow_pos m
    have hb : ns.length ≤ 64 := by rw [tb.len]; exact Nat.pow_le_pow_right (by decide) tb.hi
    walk_at "x"
    refine x_lenL (w.seq hS) ?_
    walk_at "x"
    rw [List.length_map]
    refine ⟨_, rfl, by omega, by omega, cp_range (fun i => (List.range i).map fun g : Nat => V.int (gi ns ((ns.length : Int) - 1) - gi ns ((ns.length : Int) - 1 - (g : Int)))) w rfl ?_ ?_⟩
    · intro D i H' hi p
      have p1 : Own H _ H' := p
      walk_at "x"
      refine ⟨rfl, ?_⟩
      walk_at "x"
      refine iteT ?_
      walk_at "x"
      refine x_ixXL (p1.seq hS) (at_int (by omega) (by omega)) ?_
      walk_at "x"
      refine x_ixXL (p1.seq hS) (at_int (by omega) (by omega)) ?_
      walk_at "x"
      exact cp_fin p (by rw [range_map, Int.zero_add]) (by rw [List.length_map, List.length_range]; omega)
    · intro D H' w2
      have e : (List.range ((ns.length : Int) - 1 + 1).toNat).map (fun g : Nat => V.int (gi ns ((ns.length : Int) - 1) - gi ns ((ns.length : Int) - 1 - (g : Int)))) = (turnM ns).map V.int := by
        rw [show ((ns.length : Int) - 1 + 1).toNat = ns.length by omega]
        unfold turnM
        rw [List.map_map] <;> rfl
      rw [e] at w2
      exact (k ns m tb rfl).go w2
theorem u_turned {H : Hp} {Q : VK} {E : XK} {a : Addr} {ms : List Int} {m : Nat} (R : Rd H a (.lst (ms.map V.int))) (tb : Tab ms m) (q : RetL ((turnM ms).map V.int) H Q) : sp_turned A [.ref a] H Q E :=
  ⟨a, _, rfl, R, things_int, fun _ _ _ e => map_int_inj e ▸ q, fun e => by rw [tb.look] at e; cases e⟩

/-! ### dividends -/
def sp_dividends (A : Ads) : Sp := fun vs H Q E => ∃ (a : Addr) (xs : List V), vs = [.ref a] ∧ Rd H a (.lst xs) ∧ (∀ v ∈ xs, Thing H v) ∧
  (∀ ns k, Tab ns k → xs = ns.map V.int → RetL ((divM ns k).map V.int) H Q) ∧ (lookM xs = none → ∀ H', Same H H' → E (.ref A.NoTable) none H')
theorem u_dividends {H : Hp} {Q : VK} {E : XK} {a : Addr} {ms : List Int} {m : Nat} (R : Rd H a (.lst (ms.map V.int))) (tb : Tab ms m) (q : RetL ((divM ms m).map V.int) H Q) : sp_dividends A [.ref a] H Q E :=
  ⟨a, _, rfl, R, things_int, fun _ _ t e => by
    obtain rfl := map_int_inj e
    obtain rfl := tb.same t
    exact q, fun e => by rw [tb.look] at e; cases e⟩
theorem ok_dividends (T : Txt K mg A) : FnOk P w K mg base (L2.CX P w) 3 A.a_dividends A.d_dividends ["table"] (sp_dividends A) := by
  refine T.F_dividends.okX sc_dividends (fun vs H Q E h => ?_) (fun cdv A0 outer s H vs Q E hr h => ?_)
  · obtain ⟨a, xs, rfl, _⟩ := h; rfl
  · obtain ⟨a, xs, rfl, hR, hT, k, kE⟩ := h
    refine ⟨_, (pss_cons (ps_set (i := 1) sc_dividends.nd rfl (.inl rfl) (pe_call (ok_look T) (hr.mono (by decide)) (by rfl) T.g_look T.F_look.kp T.b_look .nil (passes_call (takes_of rfl rfl rfl rfl) (fun _ _ _ _ h => h)) (pa_cons (pv 0) pa_nil)))
      (pss_cons (ps_set (i := 2) sc_dividends.nd rfl (.inl rfl) (pe_callTy (call_listK (K := K) rfl) (by rfl) T.z_list (by decide +kernel) (pa_cons (pv 0) pa_nil)))
      (pss_cons (ps_for (passes_of rfl) rfl (pi_range1 (by rfl) T.z_range (pa_cons (pv 1) pa_nil)) (pg_name (i := 3) sc_dividends.nd rfl (.inl rfl)) (pss_cons (ps_set (i := 4) sc_dividends.nd rfl (.inl rfl) (pe_op op_shlX pe_int (pv 3)))
      (pss_one (ps_for (passes_of rfl) rfl (pi_range1 (by rfl) T.z_range (pa_cons (pe_callB (call_lenK (K := K) rfl) (by rfl) T.z_len (by decide +kernel) (pa_cons (pv 2) pa_nil)) pa_nil)) (pg_name (i := 5) sc_dividends.nd rfl (.inl rfl)) (pss_one (ps_if (pt_cmpR (op_neK (K := K) rfl hr.units) (pe_op op_andX (pv 5) (pv 4)) pe_int (nomark _)) (pss_one (ps_augS (pv 2) (pv 5) (get_listK (K := K) rfl) (pe_ix (ix_seqK (K := K) rfl) (pv 2) (pe_op op_xorX (pv 5) (pv 4)) (fun _ _ => rfl)) ip_sub set_list)) pss_nil))))))
      (pss_one (ps_ret (pv 2)))))), ?_⟩
    walk_at "x"
    refine ⟨a, xs, rfl, hR, hT, fun n hn H1 s1 => ?_, kE⟩
    obtain ⟨ns, m, tb, rfl, rfl⟩ := look_tab hn
    have w : Own H [] H1 := Own.start.ext s1
    have hS : SqL K H a (ns.map V.int) := .inl hR
    have hb := tb.pos
    have hm := tb.hi
    walk_at "x"
    refine x_list (w.seq hS) fun p np => ?_
    have w1 := w.new (o := .lst (ns.map V.int)) np
    walk_at "x"
    -- for hand in range(many)
    refine ⟨_, rfl, by omega, by omega, for_r0 (n := (m : Int)) (fun i σ H' => ∃ u1 u2 u3 : Option V,
      σ = [some (.ref a), some (.int (m : Int)), some (.ref p), u1, u2, u3] ∧ Own H [(p, .lst ((tl ns.length (allD i (fn ns))).map V.int))] H') ⟨none, none, none, rfl, by rw [show allD 0 (fn ns) = fn ns from rfl, tl_fn]; exact w1⟩ ?_ ?_⟩
    · rintro i σ H' hi ⟨u1, u2, u3, rfl, w2⟩
      have hi6 : i < 6 := by omega
      walk_at "x"
      refine x_shl ⟨by omega, by omega, by decide⟩ ?_
      rw [shl_nat]
      walk_at "x"
      refine x_lenL (w2.sq 0 rfl) ?_
      walk_at "x"
      rw [List.length_map, tl_len]
      refine ⟨_, rfl, by omega, by omega, for_r0 (n := (ns.length : Int)) (fun j σ H' => ∃ u3 : Option V,
        σ = [some (.ref a), some (.int (m : Int)), some (.ref p), some (.int (i : Int)), some (.int ((2 ^ i : Nat) : Int)), u3] ∧
        Own H [(p, .lst ((tl ns.length (fun g => if g < j then stepD i (allD i (fn ns)) g else allD i (fn ns) g)).map V.int))] H') ⟨u3, rfl, w2⟩ ?_ ?_⟩
      · rintro j σ H' hj ⟨u3, rfl, w3⟩
        have hj1 : j < ns.length := by omega
        have bf := bit_facts i hi6 j (by omega)
        walk_at "x"
        rw [and_nat, bitOn_iff]
        cases c : bitOn i j with
        | true =>
          have b := bf.1 c
          refine iteT ?_
          walk_at "x"
          refine x_ixL (w3.sq 0 rfl) (at_int (by omega) (by rw [tl_len]; omega)) ?_
          walk_at "x"
          rw [xor_nat]
          refine x_ixXL (w3.sq 0 rfl) (at_int (by omega) (by rw [tl_len]; omega)) ?_
          walk_at "x"
          refine x_setL (w3.get 0 rfl) (by rw [List.length_map, tl_len]; exact ixN_int (by omega) (by omega)) ?_
          rw [map_set_int, Int.toNat_natCast, gi_tln hj1, gi_tln (by omega), if_neg (by omega), if_pos b.1, tl_set hj1]
          have e : stepD i (allD i (fn ns)) (j ^^^ 2 ^ i) = allD i (fn ns) (j ^^^ 2 ^ i) := by
            unfold stepD
            rw [if_neg (by rw [b.2]; exact Bool.false_ne_true)]
          have e2 : stepD i (allD i (fn ns)) j = allD i (fn ns) j - allD i (fn ns) (j ^^^ 2 ^ i) := by
            unfold stepD
            rw [if_pos c]
          refine ⟨_, rfl, ?_⟩
          have w4 := w3.put (o' := .lst ((tl ns.length (fun g => if g < j + 1 then stepD i (allD i (fn ns)) g else allD i (fn ns) g)).map V.int)) 0 rfl
          have ec : tl ns.length (fun g => if g = j then allD i (fn ns) j - stepD i (allD i (fn ns)) (j ^^^ 2 ^ i) else if g < j then stepD i (allD i (fn ns)) g else allD i (fn ns) g)
              = tl ns.length (fun g => if g < j + 1 then stepD i (allD i (fn ns)) g else allD i (fn ns) g) := tl_congr fun g _ => by
            by_cases g1 : g = j
            · subst g1
              rw [if_pos rfl, if_pos (by omega), e, e2]
            · rw [if_neg g1]
              by_cases g2 : g < j
              · rw [if_pos g2, if_pos (by omega)]
              · rw [if_neg g2, if_neg (by omega)]
          rw [ec]
          exact w4
        | false =>
          refine iteF ?_
          walk_at "x"
          refine ⟨_, rfl, ?_⟩
          have e2 : stepD i (allD i (fn ns)) j = allD i (fn ns) j := by
            unfold stepD
            rw [if_neg (by rw [c]; exact Bool.false_ne_true)]
          have ec : tl ns.length (fun g => if g < j then stepD i (allD i (fn ns)) g else allD i (fn ns) g)
              = tl ns.length (fun g => if g < j + 1 then stepD i (allD i (fn ns)) g else allD i (fn ns) g) := tl_congr fun g _ => by
            by_cases g1 : g = j
            · subst g1
              rw [if_neg (by omega), if_pos (by omega), e2]
            · by_cases g2 : g < j
              · rw [if_pos g2, if_pos (by omega)]
              · rw [if_neg g2, if_neg (by omega)]
          rw [← ec]
          exact w3
      · rintro σ H' ⟨u3, rfl, w3⟩
        refine ⟨_, _, _, rfl, ?_⟩
        have ec : tl ns.length (fun g => if g < ((ns.length : Int)).toNat then stepD i (allD i (fn ns)) g else allD i (fn ns) g) = tl ns.length (allD (i + 1) (fn ns)) := tl_congr fun g hg => by
          rw [if_pos (by omega)]
          rfl
        rw [ec] at w3
        exact w3
    · rintro σ H' ⟨u1, u2, u3, rfl, w3⟩
      walk_at "x"
      rw [Int.toNat_natCast] at w3
      exact (k ns m tb rfl).go w3

/-! ### mean_shares -/
def sp_mean_shares (A : Ads) : Sp := fun vs H Q _ => ∃ (a : Addr) (ms : List Int) (m C : Nat), vs = [.ref a] ∧ Rd H a (.lst (ms.map V.int)) ∧ Tab ms m ∧ Bdd C (fn (divM ms m)) ∧ C + 18 ≤ 9000 ∧ RetFs (meanFs (divM ms m) ms.length m) H Q
theorem ok_mean_shares (T : Txt K mg A) : FnOk P w K mg base (L2.CX P w) 5 A.a_mean_shares A.d_mean_shares ["table"] (sp_mean_shares A) := by
  refine T.F_mean_shares.okX sc_mean_shares (fun vs H Q E h => ?_) (fun cdv A0 outer s H vs Q E hr h => ?_)
  · obtain ⟨a, ms, m, C, rfl, _⟩ := h; rfl
  · obtain ⟨a, ms, m, C, rfl, hR, tb, hB, hC, k⟩ := h
    have hm := tb.hi
    have hp := tb.pos
    have ht := tb.len
    have w := Own.start (H := H)
    refine ⟨_, (pss_cons (ps_set (i := 1) sc_mean_shares.nd rfl (.inl rfl) (pe_call (ok_dividends T) (hr.mono (by decide)) (by rfl) T.g_dividends T.F_dividends.kp T.b_dividends .nil (passes_call (takes_of rfl rfl rfl rfl) (fun _ _ _ _ h => h)) (pa_cons (pv 0) pa_nil)))
      (pss_cons (ps_set (i := 2) sc_mean_shares.nd rfl (.inl rfl) (pe_op op_mulX (pe_lst (pa_cons pe_int pa_nil)) (pe_call (ok_look T) (hr.mono (by decide)) (by rfl) T.g_look T.F_look.kp T.b_look .nil (passes_call (takes_of rfl rfl rfl rfl) (fun _ _ _ _ h => h)) (pa_cons (pv 0) pa_nil))))
      (pss_cons (ps_for (passes_of rfl) rfl (pi_range2 (by rfl) T.z_range (pa_cons pe_int (pa_cons (pe_callB (call_lenK (K := K) rfl) (by rfl) T.z_len (by decide +kernel) (pa_cons (pv 1) pa_nil)) pa_nil))) (pg_name (i := 3) sc_mean_shares.nd rfl (.inl rfl)) (pss_cons (ps_set (i := 4) sc_mean_shares.nd rfl (.inl rfl) (pe_op op_mulX (pe_ix (ix_seqK (K := K) rfl) (pv 1) (pv 3) (fun _ _ => rfl)) (pe_op op_fdivX (pe_glob (v := .int 60) (by rfl) T.c_SIXTY ⟨_, rfl⟩) (pe_call (ok_size_of T) (hr.mono (by decide)) (by rfl) T.g_size_of T.F_size_of.kp T.b_size_of .nil (passes_call (takes_of rfl rfl rfl rfl) (fun _ _ _ _ h => h)) (pa_cons (pv 3) pa_nil)))))
      (pss_one (ps_for (passes_of rfl) rfl (pi_listK (K := K) rfl (pe_call (ok_hands_of T) (hr.mono (by decide)) (by rfl) T.g_hands_of T.F_hands_of.kp T.b_hands_of .nil (passes_call (takes_of rfl rfl rfl rfl) (fun _ _ _ _ h => h)) (pa_cons (pv 3) pa_nil))) (pg_name (i := 5) sc_mean_shares.nd rfl (.inl rfl)) (pss_one (ps_augS (pv 2) (pv 5) (get_listK (K := K) rfl) (pv 4) ip_add set_list))))))
      (pss_one (ps_ret (pe_lc (own := [("top", 6)]) rfl sc_mean_shares.nd (pi_listK (K := K) rfl (pv 2)) (blkOk_by (own := [("top", 6)]) (N := N_mean_shares) (sc := defScope s_mean_shares) (by decide +kernel)) (fun _ _ _ _ _ => (pg_name (i := 6) sc_mean_shares.nd rfl (.inl rfl))) (fun _ _ _ _ _ => pts_nil) (fun _ _ _ _ _ => (pe_call (ok_fraction T) (hr.mono (by decide)) (by rfl) T.g_fraction T.F_fraction.kp T.b_fraction .nil passL (pa_cons (pv 6) (pa_cons (pe_glob (v := .int 60) (by rfl) T.c_SIXTY ⟨_, rfl⟩) pa_nil)))))))))), ?_⟩
    walk_at "x"
    refine u_dividends hR tb fun p1 H1 n1 s1 c1 => ?_
    have w1 := w.newE n1 s1 c1
    have hdl : (divM ms m).length = ms.length := tl_len _ _
    generalize divM ms m = ds at *
    walk_at "x"
    refine ⟨(by show 1 ≤ sizeLine; decide), fun p2 n2 => ?_⟩
    have w2 := w1.new (o := .lst [.int 0]) n2
    walk_at "x"
    refine ⟨a, _, rfl, rd_same w2.ex hR, things_int, fun n hn H3 s3 => ?_, fun hn => by rw [tb.look] at hn; cases hn⟩
    rw [tb.look] at hn
    obtain rfl := (Option.some.inj hn).symm
    have w3 := w2.ext s3
    walk_at "x"
    refine x_mulL (w3.get 0 rfl) ⟨by omega, by omega, ?_⟩ (fun p4 n4 => ?_)
    · rw [Int.toNat_natCast]
      exact Nat.le_trans (show [V.int 0].length * m ≤ 6 by rw [List.length_singleton]; omega) (by decide)
    have e0 : (List.replicate (m : Int).toNat [V.int 0]).flatten = (tl m (topsF ds 1)).map V.int := by
      rw [Int.toNat_natCast, rep_flat]
      congr 1
      exact rep_tl fun h hh => topsF_one ds (by omega)
    rw [e0]
    have w4 := w3.new (o := .lst ((tl m (topsF ds 1)).map V.int)) n4
    have w4 := w4.sub (ds := [(p4, .lst ((tl m (topsF ds 1)).map V.int)), (p1, .lst (ds.map V.int))]) (.cons_cons _ (.cons _ (.cons_cons _ .slnil)))
    walk_at "x"
    refine x_lenL (w4.sq 1 rfl) ?_
    walk_at "x"
    rw [List.length_map, hdl]
    refine ⟨_, _, rfl, ⟨by omega, by omega, by omega, by omega⟩, for_range (lo := 1) (n := ((ms.length : Int) - 1).toNat) (fun i σ' H' => (∃ v1 v2 v3 v4, σ' = [some (.ref a), some (.ref p1), some (.ref p4), v1, v2, v3, v4]) ∧ Own H [(p4, .lst ((tl m (topsF ds (1 + i))).map V.int)), (p1, .lst (ds.map V.int))] H') ⟨⟨_, _, _, _, rfl⟩, w4⟩ ?_ ?_⟩
    · rintro i σ' H5 hi ⟨⟨v1, v2, v3, v4, rfl⟩, w5⟩
      have hg : 1 + i < 64 := by omega
      rw [show (1 : Int) + (i : Int) = ((1 + i : Nat) : Int) by omega]
      generalize hgg : 1 + i = g at *
      walk_at "x"
      refine x_ixXL (w5.sq 1 rfl) (at_int (by omega) (by omega)) ?_
      walk_at "x"
      refine ⟨g, rfl, hg, fun H6 s6 => ?_⟩
      have w6 := w5.ext s6
      have hlen := handsM_pos g hg (by omega)
      have hl6 := handsM_len g
      walk_at "x"
      refine x_divP (by omega) (Nat.lt_of_le_of_lt (Nat.log2_le_self _) (by omega)) ?_
      rw [show (60 : Int) / (((handsM g).length : Nat) : Int) = wt g from rfl]
      have hw := wt_le g
      refine x_mulI (.of_right (intBits_le_64 (by omega) (by omega))) ?_
      walk_at "x"
      refine u_hands_of hg fun p7 H7 n7 s7 c7 => ?_
      have w7 := w6.newE n7 s7 c7
      walk_at "x"
      refine ⟨_, rfl, ⟨_, w7.sq 0 rfl⟩, for_list (xs := (handsM g).map vnat) (fun j σ' H' => (∃ v3 v4, σ' = [some (.ref a), some (.ref p1), some (.ref p4), some (.int (g : Int)), some (.int (gi ds (g : Int) * wt g)), v3, v4]) ∧ Own H [(p7, .lst ((handsM g).map vnat)), (p4, .lst ((tl m (topsG ds g j)).map V.int)), (p1, .lst (ds.map V.int))] H') ⟨⟨_, _, rfl⟩, by rw [show topsG ds g 0 = topsF ds g from funext (topsG_zero ds g)]; exact w7⟩ (fun j σ' H' _ h => h.2.sq 0 rfl) ?_ ?_⟩
      · rintro j x σ' H8 hx ⟨⟨v3, v4, rfl⟩, w8⟩
        obtain ⟨z, hz, rfl⟩ := map_at hx
        have hz6 := handsM_lt (List.mem_of_getElem? hz)
        have hzm : z < m := hands_in hg ⟨hm, by omega⟩ (List.mem_of_getElem? hz)
        have hln : (tl m (topsG ds g j)).length = m := tl_len _ _
        walk_at "x"
        refine x_ixL (w8.sq 1 rfl) (at_int (by omega) (by omega)) ?_
        walk_at "x"
        refine x_setL (w8.get 1 rfl) (by rw [List.length_map]; exact ixN_int (by omega) (by omega)) ?_
        rw [map_set_int, gi_tln hzm, Int.toNat_natCast, tl_set hzm]
        have w9 := w8.put (o' := .lst ((tl m (topsG ds g (j + 1))).map V.int)) 1 rfl
        rw [show topsG ds g (j + 1) = fun h => if h = z then topsG ds g j z + fn ds g * wt g else topsG ds g j h from funext (topsG_step ds hz)] at w9
        exact ⟨⟨_, _, rfl⟩, by rw [show topsG ds g (j + 1) = fun h => if h = z then topsG ds g j z + fn ds g * wt g else topsG ds g j h from funext (topsG_step ds hz)]; exact w9⟩
      · rintro σ' H8 ⟨⟨v3, v4, rfl⟩, w8⟩
        rw [List.length_map] at w8
        refine ⟨⟨_, _, _, _, rfl⟩, ?_⟩
        rw [tl_congr fun h hh => topsG_all ds g (show h < 6 by omega), ← hgg] at w8
        exact w8.pop
    · rintro σ' H5 ⟨⟨v1, v2, v3, v4, rfl⟩, w5⟩
      rw [show 1 + ((ms.length : Int) - 1).toNat = ms.length by omega] at w5
      have hln : (tl m (topsF ds ms.length)).length = m := tl_len _ _
      have hfl : (meanFs ds ms.length m).length = m := by unfold meanFs; rw [List.length_map, List.length_range]
      walk_at "x"
      refine ⟨_, rfl, ⟨_, w5.sq 0 rfl⟩, cp_frO (xs := (tl m (topsF ds ms.length)).map V.int) (meanFs ds ms.length m) w5 0 rfl (by rw [List.length_map, hln, hfl]) ?_ ?_⟩
      · intro D i x f H6 hx hf o
        obtain ⟨y, hy, rfl⟩ := map_at hx
        have him : i < m := by have := (List.getElem?_eq_some_iff.mp hf).1; omega
        have ef : f = shortM (topsF ds ms.length i) 60 := by
          unfold meanFs at hf
          rw [List.getElem?_map, List.getElem?_range him] at hf
          exact (Option.some.inj hf).symm
        have ey : y = topsF ds ms.length i := by
          unfold tl at hy
          rw [List.getElem?_map, List.getElem?_range him] at hy
          exact (Option.some.inj hy).symm
        subst ef ey
        walk_at "x"
        refine ⟨rfl, ?_⟩
        walk_at "x"
        refine iteT ?_
        walk_at "x"
        refine u_fraction (topsF_bits hB hp.2 hC i) (by decide) fun t H7 n7 s7 c7 => ?_
        exact o.next hf (by omega) n7 s7 c7
      · intro D H6 o
        obtain ⟨ts, w6, n6, f6⟩ := o.own
        have w7 := w6.sub (ds := [(D, .lst (ts.map V.ref))]) (.cons_cons _ (.cons _ (.cons _ .slnil)))
        exact k D ts H6 (w7.none 0 rfl) (fun t m => (n6 t m).1) w7.ex (w7.get 0 rfl) f6

/-! ### adds_of -/
def sp_adds_of (K : PySem.W.Frag) : Sp := fun vs H Q _ => ∃ (a : Addr) (ms : List Int) (m h : Nat), vs = [.ref a, .int (h : Int)] ∧ SqL K H a (ms.map V.int) ∧ Tab ms m ∧ h < m ∧ RetL ((addsM ms h).map V.int) H Q
theorem ok_adds_of (T : Txt K mg A) : FnOk P w K mg base (L2.CX P w) 1 A.a_adds_of A.d_adds_of ["table", "hand"] (sp_adds_of K) := by
  refine T.F_adds_of.okX sc_adds_of (fun vs H Q E h => ?_) (fun cdv A0 outer s H vs Q E hr h => ?_)
  · obtain ⟨a, ms, m, h, rfl, _⟩ := h; rfl
  · obtain ⟨a, ms, m, h, rfl, hS, tb, hh, k⟩ := h
    have hp := tb.pos
    have hm := tb.hi
    have ht := tb.len
    have w := Own.start (H := H)
    refine ⟨_, (pss_cons (ps_set (i := 2) sc_adds_of.nd rfl (.inr rfl) (pe_op op_shlX pe_int (pv 1)))
      (pss_one (ps_ret (pe_lc (own := [("group", 3)]) rfl sc_adds_of.nd (pi_range1 (by rfl) T.z_range (pa_cons (pe_callB (call_lenK (K := K) rfl) (by rfl) T.z_len (by decide +kernel) (pa_cons (pv 0) pa_nil)) pa_nil)) (blkOk_by (own := [("group", 3)]) (N := N_adds_of) (sc := defScope s_adds_of) (by decide +kernel)) (fun _ _ _ _ _ => (pg_name (i := 3) sc_adds_of.nd rfl (.inl rfl))) (fun _ _ _ _ _ => (pts_one (pt_cmpR (op_eqK (K := K) rfl hr.units) (pe_op op_andX (pv 3) (pv 2)) pe_int (nomark _)))) (fun _ _ _ _ _ => (pe_op op_subX (pe_ix (ix_seqK (K := K) rfl) (pv 0) (pe_op op_orX (pv 3) (pv 2)) (fun _ _ => rfl)) (pe_ix (ix_seqK (K := K) rfl) (pv 0) (pv 3) (fun _ _ => rfl)))))))), ?_⟩
    walk_at "x"
    refine x_shl ⟨by omega, by omega, by decide⟩ ?_
    rw [shl_nat]
    walk_at "x"
    refine x_lenL hS ?_
    walk_at "x"
    rw [List.length_map]
    refine ⟨_, rfl, by omega, by omega, cp_r0 (fun i => ((List.range i).filter fun g => !bitOn h g).map fun g => V.int (fn ms (g + 2 ^ h) - fn ms g)) w rfl ?_ ?_⟩
    · intro D i H' hi p
      walk_at "x"
      refine ⟨rfl, ?_⟩
      walk_at "x"
      rw [and_nat, show decide (((i &&& 2 ^ h : Nat) : Int) = 0) = !bitOn h i by rw [← bitOn_iff, Bool.not_not]]
      cases c : bitOn h i with
      | false =>
        obtain ⟨f1, f2⟩ := off_bit (by omega) hh (show i < 2 ^ m by omega) c
        refine iteT ?_
        walk_at "x"
        rw [or_nat, f1]
        refine x_ixXL (Own.seq p hS) (at_int (by omega) (by omega)) ?_
        walk_at "x"
        refine x_ixXL (Own.seq p hS) (at_int (by omega) (by omega)) ?_
        walk_at "x"
        exact cp_fin p (filter_yes (p := fun g => !bitOn h g) (by rw [c] <;> rfl) _) (by rw [List.length_map]; have := filter_len (fun g => !bitOn h g) i; omega)
      | true => exact iteF (cp_no p (filter_no (p := fun g => !bitOn h g) (by rw [c] <;> rfl) _))
    · intro D H' w2
      rw [Int.toNat_natCast] at w2
      have e : ((List.range ms.length).filter fun g => !bitOn h g).map (fun g => V.int (fn ms (g + 2 ^ h) - fn ms g)) = (addsM ms h).map V.int := by
        unfold addsM offs
        rw [List.map_map] <;> rfl
      rw [e] at w2
      exact k.go w2

/-! ### turns -/
def sp_turns (A : Ads) : Sp := fun vs H Q _ => ∃ (a : Addr) (ms : List Int) (m : Nat), vs = [.ref a] ∧ Rd H a (.lst (ms.map V.int)) ∧ Tab ms m ∧ RetL ((turnsM ms m).map V.int) H Q
theorem u_turns {H : Hp} {Q : VK} {E : XK} {a : Addr} {ms : List Int} {m : Nat} (R : Rd H a (.lst (ms.map V.int))) (tb : Tab ms m) (q : RetL ((turnsM ms m).map V.int) H Q) : sp_turns A [.ref a] H Q E := ⟨a, ms, m, rfl, R, tb, q⟩
theorem ok_turns (T : Txt K mg A) : FnOk P w K mg base (L2.CX P w) 3 A.a_turns A.d_turns ["table"] (sp_turns A) := by
  refine T.F_turns.okX sc_turns (fun vs H Q E h => ?_) (fun cdv A0 outer s H vs Q E hr h => ?_)
  · obtain ⟨a, ms, m, rfl, _⟩ := h; rfl
  · obtain ⟨a, ms, m, rfl, hR, tb, k⟩ := h
    have hS : SqL K H a (ms.map V.int) := .inl hR
    have hm := tb.hi
    refine ⟨_, (pss_cons (ps_set (i := 1) sc_turns.nd rfl (.inl rfl) (pe_call (ok_look T) (hr.mono (by decide)) (by rfl) T.g_look T.F_look.kp T.b_look .nil (passes_call (takes_of rfl rfl rfl rfl) (fun _ _ _ _ h => h)) (pa_cons (pv 0) pa_nil)))
      (pss_one (ps_ret (pe_lc (own := [("hand", 2)]) rfl sc_turns.nd (pi_range1 (by rfl) T.z_range (pa_cons (pv 1) pa_nil)) (blkOk_by (own := [("hand", 2)]) (N := N_turns) (sc := defScope s_turns) (by decide +kernel)) (fun _ _ _ _ _ => (pg_name (i := 2) sc_turns.nd rfl (.inl rfl))) (fun _ _ _ _ _ => pts_nil) (fun _ _ _ _ _ => (pe_callB (cr_sumK (K := K) rfl rfl) (by rfl) T.z_sum (by decide +kernel) (pa_cons (pe_call (ok_adds_of T) (hr.mono (by decide)) (by rfl) T.g_adds_of T.F_adds_of.kp T.b_adds_of .nil passL (pa_cons (pv 0) (pa_cons (pv 2) pa_nil))) pa_nil))))))), ?_⟩
    walk_at "x"
    refine ⟨a, _, rfl, hR, things_int, fun n hn H1 s1 => ?_, fun hn => by rw [tb.look] at hn; cases hn⟩
    rw [tb.look] at hn
    obtain rfl := (Option.some.inj hn).symm
    have w := Own.start.ext s1
    walk_at "x"
    refine ⟨_, rfl, by omega, by omega, cp_r0 (fun i => (List.range i).map fun h => V.int (addsM ms h).sum) w rfl ?_ ?_⟩
    · intro D i H' hi p
      walk_at "x"
      refine ⟨rfl, ?_⟩
      walk_at "x"
      refine iteT ?_
      walk_at "x"
      refine ⟨a, ms, m, i, rfl, Own.seq p hS, tb, by omega, fun p2 H2 n2 s2 c2 => ?_⟩
      have w2 := Own.newE p n2 s2 c2
      walk_at "x"
      refine x_sum (w2.sq 0 rfl) ?_
      exact cp_fin (Own.pop w2) (range_map _ _) (by rw [List.length_map, List.length_range]; omega)
    · intro D H' w2
      rw [Int.toNat_natCast] at w2
      have e : (List.range m).map (fun h => V.int (addsM ms h).sum) = (turnsM ms m).map V.int := by
        unfold turnsM
        rw [List.map_map] <;> rfl
      rw [e] at w2
      exact k.go w2

/-! ### _law_cell -/
def sp__law_cell (K : PySem.W.Frag) : Sp := fun vs H Q _ => ∃ (a : Addr) (ns : List Int) (j : Nat), vs = [.ref a, .int (j : Int)] ∧ SqL K H a (ns.map V.int) ∧ RetV (.int (gi ns (j : Int))) H Q
theorem ok__law_cell (T : Txt K mg A) : FnOk P w K mg base (L2.CX P w) 1 A.a__law_cell A.d__law_cell ["_law_script", "_law_k"] (sp__law_cell K) := by
  refine T.F__law_cell.okX sc__law_cell (fun vs H Q E h => ?_) (fun cdv A0 outer s H vs Q E hr h => ?_)
  · obtain ⟨a, ns, j, rfl, _⟩ := h; rfl
  · obtain ⟨a, ns, j, rfl, hS, k⟩ := h
    have k' := k.go (Same.refl H)
    refine ⟨_, (pss_cons (ps_if (pt_cmpR op_ltX (pv 1) (pe_callB (call_lenK (K := K) rfl) (by rfl) T.z_len (by decide +kernel) (pa_cons (pv 0) pa_nil)) (nomark _)) (pss_one (ps_ret (pe_ix (ix_seqK (K := K) rfl) (pv 0) (pv 1) (fun _ _ => rfl)))) pss_nil)
      (pss_one (ps_ret pe_int))), ?_⟩
    walk_at "x"
    refine x_lenL hS ?_
    walk_at "x"
    rw [List.length_map]
    refine ite2 (fun c => ?_) (fun c => x_next ?_)
    · have c := of_decide_eq_true c
      walk_at "x"
      exact x_ixXL hS (at_int (by omega) c) k'
    · have c := of_decide_eq_false (Bool.eq_false_iff.mpr c)
      walk_at "x"
      have e : gi ns (j : Int) = 0 := by
        unfold gi
        rw [Int.toNat_natCast, List.getD_eq_getElem?_getD, List.getElem?_eq_none (by omega)] <;> rfl
      rw [e] at k'
      exact k'

/-! ### _law_draws -/
def sp__law_draws (K : PySem.W.Frag) : Sp := fun vs H Q _ => ∃ (a : Addr) (ns : List Int), vs = [.ref a] ∧ SqL K H a (ns.map V.int) ∧ ns.length ≤ 63 ∧ ∀ ds : List Int, DrawnL ds → RetL (ds.map V.int) H Q
theorem ok__law_draws (T : Txt K mg A) : FnOk P w K mg base (L2.CX P w) 1 A.a__law_draws A.d__law_draws ["_law_script"] (sp__law_draws K) := by
  refine T.F__law_draws.okX sc__law_draws (fun vs H Q E h => ?_) (fun cdv A0 outer s H vs Q E hr h => ?_)
  · obtain ⟨a, ns, rfl, _⟩ := h; rfl
  · obtain ⟨a, ns, rfl, hS, hl, k⟩ := h
    have b0 : (0 : Int) < baseN := by decide
    refine ⟨_, (pss_cons (ps_set (i := 1) sc__law_draws.nd rfl (.inl rfl) (pe_op (op_catK (K := K) rfl) (pv 0) (pe_op op_mulX (pe_lst (pa_cons pe_int pa_nil)) (pe_callTy call_int1X (by rfl) T.z_int (by decide +kernel) (pa_cons (pe_cmpR (op_eqK (K := K) rfl hr.units) (pv 0) (pe_lst pa_nil) (nomark _)) pa_nil)))))
      (pss_cons (ps_set (i := 2) sc__law_draws.nd rfl (.inl rfl) (pe_callB (call_max2X rfl) (by rfl) T.z_max (by decide +kernel) (pa_cons pe_int (pa_cons (pe_callB (call_lenK (K := K) rfl) (by rfl) T.z_len (by decide +kernel) (pa_cons (pv 1) pa_nil)) pa_nil))))
      (pss_cons (ps_set (i := 3) sc__law_draws.nd rfl (.inl rfl) (pe_op op_addX (pe_op op_powX pe_int pe_int) pe_int))
      (pss_cons (ps_set (i := 4) sc__law_draws.nd rfl (.inl rfl) (pe_lst pa_nil))
      (pss_cons (ps_if (pt_cmpR (op_eqK (K := K) rfl hr.units) (pe_op op_modX (pe_ix (ix_seqK (K := K) rfl) (pv 1) pe_int (fun _ _ => rfl)) pe_int) pe_int (nomark _)) (pss_cons (ps_set (i := 5) sc__law_draws.nd rfl (.inl rfl) (pe_op (op_catK (K := K) rfl) (pe_lst (pa_cons (pe_op op_fdivX (pe_ix (ix_seqK (K := K) rfl) (pv 1) pe_int (fun _ _ => rfl)) pe_int) pa_nil)) (pe_slice (sl_listK (K := K) rfl) (pv 1) (po_some pe_int) po_none)))
      (pss_cons (ps_while (passes_of rfl) (pt_cmpR op_ltX (pe_callB (call_lenK (K := K) rfl) (by rfl) T.z_len (by decide +kernel) (pa_cons (pv 4) pa_nil)) (pv 2) (nomark _)) (pss_one (ps_for (passes_of rfl) rfl (pi_range1 (by rfl) T.z_range (pa_cons (pe_callB (call_lenK (K := K) rfl) (by rfl) T.z_len (by decide +kernel) (pa_cons (pv 1) pa_nil)) pa_nil)) (pg_name (i := 6) sc__law_draws.nd rfl (.inl rfl)) (pss_cons (ps_expr (pe_bm PySem.F.plainAttrs_list PySem.F.slot_list_append PySem.F.type_list_append mt_append (pv 4) (pa_cons (pe_op op_modX (pe_ix (ix_seqK (K := K) rfl) (pv 5) (pv 6) (fun _ _ => rfl)) (pv 3)) pa_nil)))
      (pss_one (ps_asg (pe_op op_fdivX (pe_ix (ix_seqK (K := K) rfl) (pv 5) (pv 6) (fun _ _ => rfl)) (pv 3)) (pg_sub (pv 5) (pv 6) set_list)))))))
      (pss_one (ps_ret (pv 4))))) pss_nil)
      (pss_cons (ps_for (passes_of rfl) rfl (pi_range1 (by rfl) T.z_range (pa_cons (pv 2) pa_nil)) (pg_name (i := 6) sc__law_draws.nd rfl (.inl rfl)) (pss_cons (ps_set (i := 7) sc__law_draws.nd rfl (.inl rfl) (pe_op op_modX (pe_op op_mulX (pe_op op_addX (pe_op op_addX (pe_ix (ix_seqK (K := K) rfl) (pv 1) (pe_op op_modX (pv 6) (pe_callB (call_lenK (K := K) rfl) (by rfl) T.z_len (by decide +kernel) (pa_cons (pv 1) pa_nil))) (fun _ _ => rfl)) (pe_op op_mulX (pe_op op_mulX pe_int (pv 6)) (pv 6))) pe_int) pe_int) pe_int))
      (pss_one (ps_expr (pe_bm PySem.F.plainAttrs_list PySem.F.slot_list_append PySem.F.type_list_append mt_append (pv 4) (pa_cons (pe_op op_modX (pe_op op_mulX (pe_op op_mulX (pv 7) (pv 7)) pe_int) (pv 3)) pa_nil))))))
      (pss_one (ps_ret (pv 4))))))))), ?_⟩
    walk_at "x"
    refine ⟨(by show 1 ≤ sizeLine; decide), fun p1 n1 => ?_⟩
    have w1 := (Own.start (H := H)).new (o := .lst ([0].map V.int)) n1
    walk_at "x"
    refine ⟨(by show 0 ≤ sizeLine; decide), fun p2 n2 => ?_⟩
    have w2 := w1.new (o := .lst (([] : List Int).map V.int)) n2
    walk_at "x"
    refine x_eqLI (w2.seq hS) (w2.sq 0 rfl) ?_
    walk_at "x"
    refine .inr ⟨_, rfl, ?_⟩
    obtain ⟨j, hj, hj1, hjn⟩ : ∃ j : Nat, (if decide (ns = []) = true then (1 : Int) else 0) = (j : Int) ∧ j ≤ 1 ∧ (1 ≤ ns.length + j) := by
      by_cases e : ns = []
      · subst e; exact ⟨1, rfl, Nat.le_refl _, Nat.le_refl _⟩
      · refine ⟨0, by rw [decide_eq_false e] <;> rfl, by omega, ?_⟩
        have := List.length_pos_iff.mpr e
        omega
    rw [hj]
    refine x_mulL (w2.get 1 rfl) ⟨by omega, by omega, ?_⟩ (fun p3 n3 => ?_)
    · rw [Int.toNat_natCast]
      exact Nat.le_trans (show 1 * j ≤ 1 by omega) (by decide)
    have w3 := w2.new (o := .lst ((List.replicate j (0 : Int)).map V.int)) (by exact n3)
    rw [Int.toNat_natCast, show (List.replicate j ([0].map V.int)).flatten = (List.replicate j (0 : Int)).map V.int from rep_flat j]
    refine x_cat (w3.seq hS) (w3.sq 0 rfl) ?_ (fun p4 n4 => ?_)
    · rw [List.length_map, List.length_map, List.length_replicate]
      exact Nat.le_trans (show ns.length + j ≤ 64 by omega) (by decide)
    rw [← List.map_append]
    have hcl : (ns ++ List.replicate j (0 : Int)).length = ns.length + j := by rw [List.length_append, List.length_replicate]
    have w4 := w3.new (o := .lst ((ns ++ List.replicate j (0 : Int)).map V.int)) n4
    generalize ns ++ List.replicate j (0 : Int) = cs at hcl w4 ⊢
    have c1 : 1 ≤ cs.length := by omega
    have c64 : cs.length ≤ 63 := by
      by_cases e : ns = []
      · subst e; rw [List.length_nil] at hcl; omega
      · have : j = 0 := by
          rw [decide_eq_false e] at hj
          have : (0 : Int) = (j : Int) := hj
          omega
        omega
    have w4 := w4.sub (ds := [(p4, .lst (cs.map V.int))]) (.cons_cons _ (.cons _ (.cons _ (.cons _ .slnil))))
    walk_at "x"
    refine x_lenL (w4.sq 0 rfl) ?_
    rw [List.length_map]
    refine x_nil ?_
    refine x_max2 ?_
    rw [show (if (cs.length : Int) > 64 then (cs.length : Int) else 64) = 64 by rw [if_neg (by omega)]]
    walk_at "x"
    refine x_powN ⟨by decide, by decide, by decide⟩ ?_
    walk_at "x"
    rw [show (10 : Int) ^ (20 : Int).toNat + 39 = baseN by decide]
    have hb2 : baseN.natAbs.log2 < 9000 := by decide
    refine ⟨(by show 0 ≤ sizeLine; decide), fun p5 n5 => ?_⟩
    have w5 := w4.new (o := .lst (([] : List Int).map V.int)) n5
    walk_at "x"
    refine x_ixXL (w5.sq 1 rfl) (at_int (ns := cs) (by decide) (by show (0 : Int) < _; omega)) ?_
    walk_at "x"
    refine x_modP (by decide) ?_
    walk_at "x"
    refine ite2 (fun _ => ?_) (fun _ => x_next ?_)
    · walk_at "x"
      refine x_ixXL (w5.sq 1 rfl) (at_int (ns := cs) (by decide) (by show (0 : Int) < _; omega)) ?_
      walk_at "x"
      refine x_divP (by decide) (by decide) ?_
      refine ⟨(by show 1 ≤ sizeLine; decide), fun p6 n6 => ?_⟩
      have w6 := w5.new (o := .lst ([gi cs 0 / 2].map V.int)) n6
      walk_at "x"
      refine x_slL (w6.sq 2 rfl) (fun p7 n7 => ?_)
      rw [show cutV (cs.map V.int) (some 1) none = (cs.drop 1).map V.int by rw [show (1 : Int) = ((1 : Nat) : Int) from rfl, cut_from, List.map_drop]]
      have w7 := w6.new (o := .lst ((cs.drop 1).map V.int)) n7
      refine x_cat (w7.sq 1 rfl) (w7.sq 0 rfl) ?_ (fun p8 n8 => ?_)
      · rw [List.length_map, List.length_map, List.length_drop]
        exact Nat.le_trans (show 1 + (cs.length - 1) ≤ 64 by omega) (by decide)
      rw [← List.map_append]
      have hel : ([gi cs 0 / 2] ++ cs.drop 1).length = cs.length := by rw [List.length_append, List.length_drop, List.length_singleton]; omega
      have w8 := w7.new (o := .lst (([gi cs 0 / 2] ++ cs.drop 1).map V.int)) n8
      generalize [gi cs 0 / 2] ++ cs.drop 1 = es0 at hel w8 ⊢
      have w8 := w8.sub (ds := [(p8, .lst (es0.map V.int)), (p5, .lst (([] : List Int).map V.int)), (p4, .lst (cs.map V.int))]) (.cons_cons _ (.cons _ (.cons _ (.cons_cons _ (.cons_cons _ .slnil)))))
      walk_at "x"
      refine x_while (fun d σ' H' => ∃ (es ds : List Int), (∃ v6 v7, σ' = [some (.ref a), some (.ref p4), some (.int 64), some (.int baseN), some (.ref p5), some (.ref p8), v6, v7]) ∧ d = 64 - ds.length ∧ es.length = cs.length ∧ ds.length ≤ 127 ∧ (∀ d ∈ ds, 0 ≤ d ∧ d < baseN) ∧ Own H [(p8, .lst (es.map V.int)), (p5, .lst (ds.map V.int)), (p4, .lst (cs.map V.int))] H') 64 ⟨es0, [], ⟨_, _, rfl⟩, rfl, hel, by decide, fun _ h => (nomatch h), w8⟩ ?_
      rintro d σ' H' ⟨es, ds, ⟨v6, v7, rfl⟩, rfl, he, hd, hn, w⟩
      walk_at "x"
      refine x_lenL (w.sq 1 rfl) ?_
      walk_at "x"
      rw [List.length_map]
      refine ite2 (fun c => ?_) (fun c => ?_)
      · have hd2 : ds.length < 64 := by have := of_decide_eq_true c; omega
        refine x_N ?_
        walk_at "x"
        refine x_lenL (w.sq 2 rfl) ?_
        rw [List.length_map]
        refine ⟨_, rfl, by omega, by omega, for_r0 (n := (cs.length : Int)) (fun i σ' H' => ∃ (es' ds' : List Int), (∃ v6 v7, σ' = [some (.ref a), some (.ref p4), some (.int 64), some (.int baseN), some (.ref p5), some (.ref p8), v6, v7]) ∧ es'.length = cs.length ∧ ds'.length = ds.length + i ∧ (∀ d ∈ ds', 0 ≤ d ∧ d < baseN) ∧ Own H [(p8, .lst (es'.map V.int)), (p5, .lst (ds'.map V.int)), (p4, .lst (cs.map V.int))] H') ⟨es, ds, ⟨_, _, rfl⟩, he, rfl, hn, w⟩ ?_ ?_⟩
        · rintro i σ' H' hi ⟨es', ds', ⟨v6, v7, rfl⟩, he', hd', hn', w⟩
          walk_at "x"
          refine ⟨x_tyL (w.get 1 rfl), ?_⟩
          walk_at "x"
          refine x_ixXL (w.sq 0 rfl) (at_int (ns := es') (by omega) (by omega)) ?_
          walk_at "x"
          refine x_modP b0 ?_
          walk_at "x"
          refine x_append (w.get 1 rfl) (by rw [List.length_map]; exact Nat.lt_of_lt_of_le (show ds'.length < 1000 by omega) (by decide)) ?_
          rw [map_app_int]
          have w9 := w.put (o' := .lst ((ds' ++ [gi es' (i : Int) % baseN]).map V.int)) 1 rfl
          walk_at "x"
          refine x_ixXL (w9.sq 0 rfl) (at_int (ns := es') (by omega) (by omega)) ?_
          walk_at "x"
          refine x_divP b0 hb2 ?_
          walk_at "x"
          refine x_setL (w9.get 0 rfl) (by rw [List.length_map]; exact ixN_int (by omega) (by omega)) ?_
          rw [map_set_int]
          have w10 := w9.put (o' := .lst ((es'.set (i : Int).toNat (gi es' (i : Int) / baseN)).map V.int)) 0 rfl
          exact ⟨_, _, ⟨_, _, rfl⟩, by rw [List.length_set, he'], by rw [List.length_append, hd'] <;> rfl, drawn_app hn' (Int.emod_nonneg _ (by omega)) (Int.emod_lt_of_pos _ b0), w10⟩
        · rintro σ' H' ⟨es', ds', ⟨v6, v7, rfl⟩, he', hd', hn', w⟩
          rw [Int.toNat_natCast] at hd'
          exact ⟨64 - ds'.length, by omega, es', ds', ⟨_, _, rfl⟩, rfl, he', by omega, hn', w⟩
      · have hd2 : 64 ≤ ds.length := by have := of_decide_eq_false (Bool.eq_false_iff.mpr c); omega
        walk_at "x"
        exact (k ds ⟨hd2, hd, hn⟩) p5 H' (w.none 1 rfl) w.ex (w.get 1 rfl)
    · walk_at "x"
      refine ⟨_, rfl, by decide, by decide, for_r0 (n := 64) (fun i σ' H' => ∃ (ds : List Int), (∃ v6 v7, σ' = [some (.ref a), some (.ref p4), some (.int 64), some (.int baseN), some (.ref p5), none, v6, v7]) ∧ ds.length = i ∧ (∀ d ∈ ds, 0 ≤ d ∧ d < baseN) ∧ Own H [(p5, .lst (ds.map V.int)), (p4, .lst (cs.map V.int))] H') ⟨[], ⟨_, _, rfl⟩, rfl, fun _ h => (nomatch h), w5⟩ ?_ ?_⟩
      · rintro i σ' H' hi ⟨ds, ⟨v6, v7, rfl⟩, hd, hn, w⟩
        have r0 := Int.emod_nonneg (i : Int) (show (cs.length : Int) ≠ 0 by omega)
        have r1 := Int.emod_lt_of_pos (i : Int) (show (0 : Int) < (cs.length : Int) by omega)
        walk_at "x"
        refine x_lenL (w.sq 1 rfl) ?_
        rw [List.length_map]
        refine x_modP (by omega) ?_
        refine x_ixXL (w.sq 1 rfl) (at_int (ns := cs) r0 (by omega)) ?_
        walk_at "x"
        refine x_mulI (.of_left (by decide)) ?_
        walk_at "x"
        refine x_mulI (.of_right (intBits_le_64 (by omega) (by omega))) ?_
        walk_at "x"
        refine x_mulI (.of_right (by decide)) ?_
        walk_at "x"
        refine x_modP (by decide) ?_
        generalize (gi cs ((i : Int) % (cs.length : Int)) + 7919 * (i : Int) * (i : Int) + 11) * 48271 = y
        have y0 := Int.emod_nonneg y (show (2147483629 : Int) ≠ 0 by decide)
        have y1 := Int.emod_lt_of_pos y (show (0 : Int) < 2147483629 by decide)
        generalize y % 2147483629 = z at y0 y1 ⊢
        walk_at "x"
        refine ⟨x_tyL (w.get 0 rfl), ?_⟩
        walk_at "x"
        refine x_mulI (.of_right (intBits_le_64 (by omega) (by omega))) ?_
        walk_at "x"
        refine x_mulI (.of_right (by decide)) ?_
        walk_at "x"
        refine x_modP b0 ?_
        walk_at "x"
        refine x_append (w.get 0 rfl) (by rw [List.length_map]; exact Nat.lt_of_lt_of_le (show ds.length < 1000 by omega) (by decide)) ?_
        rw [map_app_int]
        exact ⟨_, ⟨_, _, rfl⟩, by rw [List.length_append, hd] <;> rfl, drawn_app hn (Int.emod_nonneg _ (by omega)) (Int.emod_lt_of_pos _ b0), w.put (o' := .lst ((ds ++ [z * z * 1000000007 % baseN]).map V.int)) 0 rfl⟩
      · rintro σ' H' ⟨ds, ⟨v6, v7, rfl⟩, hd, hn, w⟩
        walk_at "x"
        have hd2 : ds.length = 64 := hd
        exact (k ds ⟨by omega, by omega, hn⟩) p5 H' (w.none 0 rfl) w.ex (w.get 0 rfl)

/-! ### _law_whole -/
def sp__law_whole : Sp := fun vs H Q _ => ∃ v, vs = [v] ∧ Thing H v ∧ RetV (.bl (isI v)) H Q
theorem ok__law_whole (T : Txt K mg A) : FnOk P w K mg base (L2.CX P w) 1 A.a__law_whole A.d__law_whole ["_law_found"] sp__law_whole := by
  refine T.F__law_whole.okX sc__law_whole (fun vs H Q E h => ?_) (fun cdv A0 outer s H vs Q E hr h => ?_)
  · obtain ⟨v, rfl, _⟩ := h; rfl
  · obtain ⟨v, rfl, hv, k⟩ := h
    refine ⟨_, (pss_one (ps_ret (pe_and (pe_callB (call_isiX (K := K) rfl) (by rfl) T.z_isinstance (by decide +kernel) (pa_cons (pv 0) (pa_cons (pe_bltn (v := .ty "int") (by rfl) T.z_int (by decide +kernel) rfl) pa_nil))) (pe_one (pe_not (pe_callB (call_isiX (K := K) rfl) (by rfl) T.z_isinstance (by decide +kernel) (pa_cons (pv 0) (pa_cons (pe_bltn (v := .ty "bool") (by rfl) T.z_bool (by decide +kernel) rfl) pa_nil)))))))), ?_⟩
    walk_at "x"
    refine x_isiInt hv ?_
    walk_at "x"
    have e : isI v = ((isI v || isB v) && !isB v) := by cases v <;> rfl
    have k' := k.go (Same.refl H)
    rw [e] at k'
    cases c : (isI v || isB v) with
    | false => rw [c, Bool.false_and] at k'; exact iteF k'
    | true =>
      rw [c, Bool.true_and] at k'
      refine iteT ?_
      walk_at "x"
      refine x_isiBool hv ?_
      walk_at "x"
      exact k'

/-! ### _law_divisor -/
def sp__law_divisor : Sp := fun vs H Q _ => ∃ (a b : Int) (B : Nat), vs = [.int a, .int b] ∧ Bits B a b ∧ 0 ≤ b ∧ RetV (.int (gcdI a b)) H Q
theorem gcdI_step {x y : Int} (_ : 0 < y) : Int.gcd y (x % y) = Int.gcd x y := by
  rw [Int.gcd_comm x y, Int.emod_def, Int.mul_comm y (x / y)]
  exact Int.gcd_sub_mul_right_right y x (x / y)
theorem ok__law_divisor (T : Txt K mg A) : FnOk P w K mg base (L2.CX P w) 1 A.a__law_divisor A.d__law_divisor ["_law_one", "_law_other"] sp__law_divisor := by
  refine T.F__law_divisor.okX sc__law_divisor (fun vs H Q E h => ?_) (fun cdv A0 outer s H vs Q E hr h => ?_)
  · obtain ⟨a, b, B, rfl, _⟩ := h; rfl
  · obtain ⟨a, b, B, rfl, hB, h0, k⟩ := h
    have w := Own.start (H := H)
    refine ⟨_, (pss_cons (ps_while (passes_of rfl) (pt_cmpR (op_neK (K := K) rfl hr.units) (pv 1) pe_int (nomark _)) (pss_one (ps_par (i := 0) (j := 1) rfl sc__law_divisor.nd rfl rfl (by decide) rfl rfl (pa_cons (pv 1) (pa_cons (pe_op op_modX (pv 0) (pv 1)) pa_nil)) (by rfl))))
      (pss_one (ps_ret (pe_callB call_absX (by rfl) T.z_abs (by decide +kernel) (pa_cons (pv 0) pa_nil))))), ?_⟩
    refine x_seq ?_
    refine x_while (fun m σ' H' => ∃ x y : Int, σ' = [some (.int x), some (.int y)] ∧ Own H [] H' ∧ m = y.natAbs ∧ 0 ≤ y ∧ Int.gcd x y = Int.gcd a b) b.natAbs ⟨a, b, rfl, w, rfl, h0, rfl⟩ ?_
    rintro m σ' H' ⟨x, y, rfl, w2, rfl, hy, hgc⟩
    walk_at "x"
    by_cases c : y = 0
    · subst c
      rw [decide_eq_true rfl]
      refine iteF ?_
      walk_at "x"
      rw [abs_nat]
      have e : ((x.natAbs : Nat) : Int) = gcdI a b := by unfold gcdI; rw [← hgc, Int.gcd_zero_right]
      rw [e]
      exact k.go w2.ex
    · rw [decide_eq_false c]
      refine iteT ?_
      refine x_N ?_
      walk_at "x"
      refine x_modP (by omega) ?_
      walk_at "x"
      have h1 := Int.emod_nonneg x c
      have h2 := Int.emod_lt_of_pos x (show 0 < y by omega)
      exact ⟨_, _, rfl, _, (by omega : (x % y).natAbs < y.natAbs), y, x % y, rfl, w2, rfl, h1, by rw [gcdI_step (by omega), hgc]⟩

/-! ### _law_fraction -/
def sp__law_fraction (K : PySem.W.Frag) : Sp := fun vs H Q _ => ∃ (t : Addr) (f : Int × Int), vs = [.ref t] ∧ Rd H t (.tup (frV f)) ∧ OkF f ∧ RetV (.bl true) H Q
theorem ok__law_fraction (T : Txt K mg A) : FnOk P w K mg base (L2.CX P w) 2 A.a__law_fraction A.d__law_fraction ["_law_found"] (sp__law_fraction K) := by
  refine T.F__law_fraction.okX sc__law_fraction (fun vs H Q E h => ?_) (fun cdv A0 outer s H vs Q E hr h => ?_)
  · obtain ⟨t, f, rfl, _⟩ := h; rfl
  · obtain ⟨t, f, rfl, hT, ⟨q1, q2, B, q3⟩, k⟩ := h
    refine ⟨_, (pss_cons (ps_if (PW.pt (pw_or (pt_not (pt_val (pe_callB (call_isiX (K := K) rfl) (by rfl) T.z_isinstance (by decide +kernel) (pa_cons (pv 0) (pa_cons (pe_bltn (v := .ty "tuple") (by rfl) T.z_tuple (by decide +kernel) rfl) pa_nil))))) (pw_or1 (pt_cmpR (op_neK (K := K) rfl hr.units) (pe_callB (call_lenK (K := K) rfl) (by rfl) T.z_len (by decide +kernel) (pa_cons (pv 0) pa_nil)) pe_int (nomark _))))) (pss_one (ps_ret pe_bl)) pss_nil)
      (pss_cons (ps_if (PW.pt (pw_or (pt_not (pt_val (pe_call (ok__law_whole T) (hr.mono (by decide)) (by rfl) T.g__law_whole T.F__law_whole.kp T.b__law_whole .nil (passes_call (takes_of rfl rfl rfl rfl) (fun _ _ _ _ h => h)) (pa_cons (pe_ix (ix_seqK (K := K) rfl) (pv 0) pe_int (fun _ _ => rfl)) pa_nil)))) (pw_or (pt_not (pt_val (pe_call (ok__law_whole T) (hr.mono (by decide)) (by rfl) T.g__law_whole T.F__law_whole.kp T.b__law_whole .nil (passes_call (takes_of rfl rfl rfl rfl) (fun _ _ _ _ h => h)) (pa_cons (pe_ix (ix_seqK (K := K) rfl) (pv 0) pe_int (fun _ _ => rfl)) pa_nil)))) (pw_or1 (pt_cmpR op_ltX (pe_ix (ix_seqK (K := K) rfl) (pv 0) pe_int (fun _ _ => rfl)) pe_int (nomark _)))))) (pss_one (ps_ret pe_bl)) pss_nil)
      (pss_one (ps_ret (pe_cmpR (op_eqK (K := K) rfl hr.units) (pe_call (ok__law_divisor T) (hr.mono (by decide)) (by rfl) T.g__law_divisor T.F__law_divisor.kp T.b__law_divisor .nil (passes_call (takes_of rfl rfl rfl rfl) (fun _ _ _ _ h => h)) (pa_cons (pe_ix (ix_seqK (K := K) rfl) (pv 0) pe_int (fun _ _ => rfl)) (pa_cons (pe_ix (ix_seqK (K := K) rfl) (pv 0) pe_int (fun _ _ => rfl)) pa_nil))) pe_int (nomark _)))))), ?_⟩
    walk_at "x"
    refine x_isiTupT hT ?_
    walk_at "x"
    refine iteF ?_
    walk_at "x"
    refine x_lenT (.inl hT) ?_
    walk_at "x"
    refine iteF ?_
    walk_at "x"
    refine x_ixXT (.inl hT) (v := .int f.1) rfl ?_
    walk_at "x"
    refine ⟨_, rfl, .int _, fun H3 s3 => ?_⟩
    have hT3 := rd_same s3 hT
    walk_at "x"
    refine iteF ?_
    walk_at "x"
    refine x_ixXT (.inl hT3) (v := .int f.2) rfl ?_
    walk_at "x"
    refine ⟨_, rfl, .int _, fun H4 s4 => ?_⟩
    have hT4 := rd_same s4 hT3
    walk_at "x"
    refine iteF ?_
    walk_at "x"
    refine x_ixXT (.inl hT4) (v := .int f.2) rfl ?_
    walk_at "x"
    rw [decide_eq_false (show ¬ f.2 < 1 by omega)]
    refine iteF ?_
    walk_at "x"
    refine x_ixXT (.inl hT4) (v := .int f.1) rfl ?_
    walk_at "x"
    refine x_ixXT (.inl hT4) (v := .int f.2) rfl ?_
    walk_at "x"
    refine ⟨f.1, f.2, B, rfl, q3, by omega, fun H5 s5 => ?_⟩
    rw [q2]
    walk_at "x"
    exact k.go ((s3.trans s4).trans s5)

/-! ### _law_fractions -/
def sp__law_fractions (K : PySem.W.Frag) : Sp := fun vs H Q _ => ∃ (p : Addr) (ts : List Addr) (fs : List (Int × Int)), vs = [.ref p, .int (fs.length : Int)] ∧ Rd H p (.lst (ts.map V.ref)) ∧ FrAll H ts fs ∧ (∀ f ∈ fs, OkF f) ∧ RetV (.bl true) H Q
theorem ok__law_fractions (T : Txt K mg A) : FnOk P w K mg base (L2.CX P w) 3 A.a__law_fractions A.d__law_fractions ["_law_found", "_law_many"] (sp__law_fractions K) := by
  refine T.F__law_fractions.okX sc__law_fractions (fun vs H Q E h => ?_) (fun cdv A0 outer s H vs Q E hr h => ?_)
  · obtain ⟨p, ts, fs, rfl, _⟩ := h; rfl
  · obtain ⟨p, ts, fs, rfl, hR, hF, ok, k⟩ := h
    have hS : SqL K H p (ts.map V.ref) := .inl hR
    refine ⟨_, (pss_cons (ps_if (PW.pt (pw_or (pt_not (pt_val (pe_callB (call_isiX (K := K) rfl) (by rfl) T.z_isinstance (by decide +kernel) (pa_cons (pv 0) (pa_cons (pe_bltn (v := .ty "list") (by rfl) T.z_list (by decide +kernel) rfl) pa_nil))))) (pw_or1 (pt_cmpR (op_neK (K := K) rfl hr.units) (pe_callB (call_lenK (K := K) rfl) (by rfl) T.z_len (by decide +kernel) (pa_cons (pv 0) pa_nil)) (pv 1) (nomark _))))) (pss_one (ps_ret pe_bl)) pss_nil)
      (pss_cons (ps_for (passes_of rfl) rfl (pi_listK (K := K) rfl (pv 0)) (pg_name (i := 2) sc__law_fractions.nd rfl (.inl rfl)) (pss_one (ps_if (pt_not (pt_val (pe_call (ok__law_fraction T) (hr.mono (by decide)) (by rfl) T.g__law_fraction T.F__law_fraction.kp T.b__law_fraction .nil (passes_call (takes_of rfl rfl rfl rfl) (fun _ _ _ _ h => h)) (pa_cons (pv 2) pa_nil)))) (pss_one (ps_ret pe_bl)) pss_nil)))
      (pss_one (ps_ret pe_bl)))), ?_⟩
    walk_at "x"
    refine x_isiListL hR ?_
    walk_at "x"
    refine iteF ?_
    walk_at "x"
    refine x_lenL hS ?_
    walk_at "x"
    rw [List.length_map, hF.len, decide_eq_true rfl]
    refine iteF ?_
    walk_at "x"
    refine ⟨_, rfl, ⟨_, hS⟩, for_list (xs := ts.map V.ref) (fun i σ' H' => (∃ v2, σ' = [some (.ref p), some (.int (fs.length : Int)), v2]) ∧ Same H H') ⟨⟨_, rfl⟩, Same.refl _⟩ (fun i σ' H' _ h => h.2.seq hS) ?_ ?_⟩
    · rintro j x σ' H' hx ⟨⟨v2, rfl⟩, s1⟩
      obtain ⟨t, ht, rfl⟩ := map_at hx
      obtain ⟨f, hf, hT⟩ := hF.at ht
      walk_at "x"
      refine ⟨t, f, rfl, .inl (s1 _ _ hT), ok f (List.mem_of_getElem? hf), fun H2 s2 => ?_⟩
      walk_at "x"
      refine iteF ?_
      walk_at "x"
      exact ⟨⟨_, rfl⟩, s1.trans s2⟩
    · rintro σ' H' ⟨⟨v2, rfl⟩, s1⟩
      walk_at "x"
      exact k.go s1

/-! ### _law_number -/
def sp__law_number : Sp := fun vs H Q _ => ∃ c : Int, vs = [.int c] ∧ ∀ z, Small z → RetV (.int z) H Q
theorem ok__law_number (T : Txt K mg A) : FnOk P w K mg base (L2.CX P w) 1 A.a__law_number A.d__law_number ["_law_cell_here"] sp__law_number := by
  refine T.F__law_number.okX sc__law_number (fun vs H Q E h => ?_) (fun cdv A0 outer s H vs Q E hr h => ?_)
  · obtain ⟨c, rfl, _⟩ := h; rfl
  · obtain ⟨c, rfl, k⟩ := h
    have k' : ∀ z, Small z → Q (.int z) H := fun z hz => (k z hz).go (Same.refl H)
    refine ⟨_, (pss_cons (ps_if (pt_cmpR op_ltX (pe_op op_modX (pv 0) pe_int) pe_int (nomark _)) (pss_one (ps_ret (pe_op op_subX (pe_op op_modX (pe_op op_fdivX (pv 0) pe_int) pe_int) pe_int))) pss_nil)
      (pss_cons (ps_if (pt_cmpR (op_eqK (K := K) rfl hr.units) (pe_op op_modX (pv 0) pe_int) pe_int (nomark _)) (pss_one (ps_ret (pe_op op_subX (pe_op op_modX (pe_op op_fdivX (pv 0) pe_int) pe_int) pe_int))) pss_nil)
      (pss_one (ps_ret (pe_op op_subX (pe_op op_modX (pe_op op_mulX (pe_op op_fdivX (pv 0) pe_int) pe_int) (pe_op op_addX (pe_op op_mulX pe_int (pe_op op_powX pe_int pe_int)) pe_int)) (pe_op op_powX pe_int pe_int)))))), ?_⟩
    walk_at "x"
    refine x_modP (by decide) ?_
    walk_at "x"
    refine ite2 (fun _ => ?_) (fun _ => x_next ?_)
    · walk_at "x"
      refine x_divP (by decide) (by decide) ?_
      walk_at "x"
      refine x_modP (by decide) ?_
      walk_at "x"
      exact k' _ ⟨by omega, by omega⟩
    · walk_at "x"
      refine x_modP (by decide) ?_
      walk_at "x"
      refine ite2 (fun _ => ?_) (fun _ => x_next ?_)
      · walk_at "x"
        refine x_divP (by decide) (by decide) ?_
        walk_at "x"
        refine x_modP (by decide) ?_
        walk_at "x"
        exact k' _ ⟨by omega, by omega⟩
      · walk_at "x"
        refine x_divP (by decide) (by decide) ?_
        walk_at "x"
        refine x_mulI (.of_right (by decide)) ?_
        walk_at "x"
        refine x_powN ⟨by decide, by decide, by decide⟩ ?_
        walk_at "x"
        refine x_mulI (.of_left (by decide)) ?_
        walk_at "x"
        have e : (2 : Int) * 10 ^ (18 : Int).toNat + 1 = 2000000000000000001 := by decide
        rw [e]
        refine x_modP (by decide) ?_
        walk_at "x"
        refine x_powN ⟨by decide, by decide, by decide⟩ ?_
        walk_at "x"
        have e2 : (10 : Int) ^ (18 : Int).toNat = 1000000000000000000 := by decide
        rw [e2]
        exact k' _ ⟨by omega, by omega⟩

/-! ### _law_ones -/
/-- the ones of what is left behind i turns -/
def onesTo (g : Nat) : Nat → Nat
  | 0 => 0
  | i + 1 => onesTo g i + g / 2 ^ i % 2
theorem ones_hands : ∀ g, g < 64 → onesTo g 6 = (handsM g).length := by decide +kernel
theorem ones_end : ∀ g, g < 64 → ∀ i, i < 7 → g / 2 ^ i = 0 → onesTo g i = (handsM g).length := by decide +kernel
def sp__law_ones : Sp := fun vs H Q _ => ∃ g : Nat, vs = [.int (g : Int)] ∧ g < 64 ∧ RetV (.int ((handsM g).length : Int)) H Q
theorem ok__law_ones (T : Txt K mg A) : FnOk P w K mg base (L2.CX P w) 1 A.a__law_ones A.d__law_ones ["_law_number_here"] sp__law_ones := by
  refine T.F__law_ones.okX sc__law_ones (fun vs H Q E h => ?_) (fun cdv A0 outer s H vs Q E hr h => ?_)
  · obtain ⟨g, rfl, _⟩ := h; rfl
  · obtain ⟨g, rfl, hg, k⟩ := h
    refine ⟨_, (pss_cons (ps_set (i := 1) sc__law_ones.nd rfl (.inl rfl) pe_int)
      (pss_cons (ps_while (passes_of rfl) (pt_cmpR op_gtX (pv 0) pe_int (nomark _)) (pss_cons (ps_set (i := 1) sc__law_ones.nd rfl (.inl rfl) (pe_op op_addX (pv 1) (pe_op op_modX (pv 0) pe_int)))
      (pss_one (ps_set (i := 0) sc__law_ones.nd rfl (.inl rfl) (pe_op op_fdivX (pv 0) pe_int)))))
      (pss_one (ps_ret (pv 1))))), ?_⟩
    walk_at "x"
    refine x_while (fun d σ' H' => ∃ i, i ≤ 6 ∧ d = 6 - i ∧ σ' = [some (.int ((g / 2 ^ i : Nat) : Int)), some (.int ((onesTo g i : Nat) : Int))] ∧ H' = H) 6 ⟨0, by decide, rfl, by rw [Nat.pow_zero, Nat.div_one] <;> rfl, rfl⟩ ?_
    rintro d σ' H' ⟨i, hi, rfl, rfl, rfl⟩
    walk_at "x"
    by_cases c : g / 2 ^ i = 0
    · rw [c]
      refine iteF ?_
      walk_at "x"
      rw [ones_end g hg i (by omega) c]
      exact k.go (Same.refl _)
    · have hp : 0 < g / 2 ^ i := Nat.pos_of_ne_zero c
      have h6 : i ≠ 6 := fun e => by
        subst e
        exact c (Nat.div_eq_of_lt (by omega))
      rw [decide_eq_true (show (0 : Int) < ((g / 2 ^ i : Nat) : Int) from Int.natCast_pos.mpr hp)]
      refine iteT ?_
      refine x_N ?_
      walk_at "x"
      refine x_modP (by decide) ?_
      walk_at "x"
      refine x_divP (by decide) (by decide) ?_
      walk_at "x"
      refine ⟨6 - (i + 1), by omega, i + 1, by omega, rfl, ?_, rfl⟩
      have e1 : ((g / 2 ^ i : Nat) : Int) / 2 = ((g / 2 ^ (i + 1) : Nat) : Int) := by rw [Nat.pow_succ, ← Nat.div_div_eq_div_mul] <;> rfl
      have e2 : ((onesTo g i : Nat) : Int) + ((g / 2 ^ i : Nat) : Int) % 2 = ((onesTo g (i + 1) : Nat) : Int) := by
        show _ = ((onesTo g i + g / 2 ^ i % 2 : Nat) : Int)
        omega
      rw [e1, e2]
      rfl

/-! ### _law_dividends -/
def sp__law_dividends (K : PySem.W.Frag) : Sp := fun vs H Q _ => ∃ (a : Addr) (ms : List Int) (m : Nat), vs = [.ref a] ∧ SqL K H a (ms.map V.int) ∧ Tab ms m ∧ RetL ((divM ms m).map V.int) H Q
def divTo (ms : List Int) (m g : Nat) : List Int := tl ms.length fun q => if q < g then allD m (fn ms) q else 0
theorem ok__law_dividends (T : Txt K mg A) : FnOk P w K mg base (L2.CX P w) 1 A.a__law_dividends A.d__law_dividends ["_law_table"] (sp__law_dividends K) := by
  refine T.F__law_dividends.okX sc__law_dividends (fun vs H Q E h => ?_) (fun cdv A0 outer s H vs Q E hr h => ?_)
  · obtain ⟨a, ms, m, rfl, _⟩ := h; rfl
  · obtain ⟨a, ms, m, rfl, hS, tb, k⟩ := h
    have hm := tb.hi
    have hp := tb.pos
    have ht := tb.len
    refine ⟨_, (pss_cons (ps_set (i := 1) sc__law_dividends.nd rfl (.inr rfl) (pe_op op_mulX (pe_lst (pa_cons pe_int pa_nil)) (pe_callB (call_lenK (K := K) rfl) (by rfl) T.z_len (by decide +kernel) (pa_cons (pv 0) pa_nil))))
      (pss_cons (ps_for (passes_of rfl) rfl (pi_range1 (by rfl) T.z_range (pa_cons (pe_callB (call_lenK (K := K) rfl) (by rfl) T.z_len (by decide +kernel) (pa_cons (pv 0) pa_nil)) pa_nil)) (pg_name (i := 2) sc__law_dividends.nd rfl (.inr rfl)) (pss_one (ps_asg (pe_op op_subX (pe_ix (ix_seqK (K := K) rfl) (pv 0) (pv 2) (fun _ _ => rfl)) (pe_callB (cr_sumK (K := K) rfl rfl) (by rfl) T.z_sum (by decide +kernel) (pa_cons (pe_lc (own := [("_law_part", 3)]) rfl sc__law_dividends.nd (pi_range1 (by rfl) T.z_range (pa_cons (pv 2) pa_nil)) (blkOk_by (own := [("_law_part", 3)]) (N := N__law_dividends) (sc := defScope s__law_dividends) (by decide +kernel)) (fun _ _ _ _ _ => (pg_name (i := 3) sc__law_dividends.nd rfl (.inl rfl))) (fun _ _ _ _ _ => (pts_one (pt_cmpR (op_eqK (K := K) rfl hr.units) (pe_op op_andX (pv 3) (pv 2)) (pv 3) (nomark _)))) (fun _ _ _ _ _ => (pe_ix (ix_seqK (K := K) rfl) (pv 1) (pv 3) (fun _ _ => rfl)))) pa_nil))) (pg_sub (pv 1) (pv 2) set_list))))
      (pss_one (ps_ret (pv 1))))), ?_⟩
    walk_at "x"
    refine ⟨(by show 1 ≤ sizeLine; decide), fun p0 n0 => ?_⟩
    have w0 := (Own.start (H := H)).new (o := .lst ([0].map V.int)) n0
    walk_at "x"
    refine x_lenL (w0.seq hS) ?_
    rw [List.length_map]
    refine x_mulL (w0.get 0 rfl) ⟨by omega, by omega, ?_⟩ (fun p1 n1 => ?_)
    · rw [Int.toNat_natCast]
      exact Nat.le_trans (show 1 * ms.length ≤ 64 by omega) (by decide)
    rw [Int.toNat_natCast, show (List.replicate ms.length ([0].map V.int)).flatten = (divTo ms m 0).map V.int by
      rw [show [0].map V.int = [V.int 0] from rfl, rep_flat]
      congr 1
      exact rep_tl fun q _ => by rw [if_neg (Nat.not_lt_zero q)]]
    have w1 := w0.new (o := .lst ((divTo ms m 0).map V.int)) n1
    have w1 := w1.sub (ds := [(p1, .lst ((divTo ms m 0).map V.int))]) (.cons_cons _ (.cons _ .slnil))
    walk_at "x"
    refine x_lenL (w1.seq hS) ?_
    rw [List.length_map]
    refine ⟨_, rfl, by omega, by omega, for_r0 (n := (ms.length : Int)) (fun i σ' H' => (∃ v2 v3, σ' = [some (.ref a), some (.ref p1), v2, v3]) ∧ Own H [(p1, .lst ((divTo ms m i).map V.int))] H') ⟨⟨_, _, rfl⟩, w1⟩ ?_ ?_⟩
    · rintro g σ' H' hg ⟨⟨v2, v3, rfl⟩, w⟩
      have hgn : g < ms.length := by omega
      have hdl : (divTo ms m g).length = ms.length := tl_len _ _
      have hda : ∀ q, q < g → gi (divTo ms m g) (q : Int) = allD m (fn ms) q := fun q hq => by unfold divTo; rw [gi_tln (by omega), if_pos hq]
      walk_at "x"
      refine x_ixXL (w.seq hS) (at_int (by omega) (by omega)) ?_
      walk_at "x"
      refine ⟨_, rfl, by omega, by omega, cp_r0 (n := (g : Int)) (fun i => (((List.range i).filter fun q => (q &&& g) == q).map (allD m (fn ms))).map V.int) w rfl ?_ ?_⟩
      · intro D q H2 hq p
        walk_at "x"
        refine ⟨rfl, ?_⟩
        walk_at "x"
        rw [and_nat, show decide (((q &&& g : Nat) : Int) = (q : Int)) = ((q &&& g) == q) by rw [Bool.eq_iff_iff, decide_eq_true_eq, beq_iff_eq]; omega]
        have hl := filter_len (fun q => (q &&& g) == q) q
        cases c : ((q &&& g) == q) with
        | true =>
          refine iteT ?_
          walk_at "x"
          refine x_ixXL (Own.sq p 1 rfl) (at_int (by omega) (by omega)) ?_
          rw [hda q (by omega)]
          refine cp_fin p ?_ (by rw [List.length_map, List.length_map]; omega)
          rw [filter_yes (p := fun q => (q &&& g) == q) c, List.map_append] <;> rfl
        | false =>
          refine iteF (cp_no p ?_)
          rw [filter_no (p := fun q => (q &&& g) == q) c]
      intro D H2 w2
      rw [Int.toNat_natCast] at w2
      refine x_nil ?_
      refine x_sum (w2.sq 0 rfl) ?_
      walk_at "x"
      rw [show gi ms (g : Int) = fn ms g from rfl, div_step tb hgn]
      refine x_setL (w2.get 1 rfl) (by rw [List.length_map]; exact ixN_int (by omega) (by omega)) ?_
      rw [map_set_int, Int.toNat_natCast]
      have e : (divTo ms m g).set g (allD m (fn ms) g) = divTo ms m (g + 1) := by
        unfold divTo
        rw [tl_set hgn]
        refine tl_congr fun i _ => ?_
        by_cases c : i = g
        · subst c; rw [if_pos rfl, if_pos (by omega)]
        · rw [if_neg c]
          by_cases d : i < g
          · rw [if_pos d, if_pos (by omega)]
          · rw [if_neg d, if_neg (by omega)]
      rw [e]
      have w3 := w2.put (o' := .lst ((divTo ms m (g + 1)).map V.int)) 1 rfl
      exact ⟨⟨_, _, rfl⟩, w3.pop⟩
    · rintro σ' H' ⟨⟨v2, v3, rfl⟩, w⟩
      rw [Int.toNat_natCast] at w
      walk_at "x"
      have e : divTo ms m ms.length = divM ms m := by
        unfold divTo divM
        exact tl_congr fun i hi => if_pos hi
      rw [e] at w
      exact k.go w

/-! ### _law_sixty -/
def sp__law_sixty (K : PySem.W.Frag) : Sp := fun vs H Q _ => ∃ (a : Addr) (ds : List Int) (m : Nat), vs = [.ref a, .int (m : Int)] ∧ SqL K H a (ds.map V.int) ∧ ds.length = 2 ^ m ∧ m ≤ 6 ∧ RetL ((tl m (topsF ds ds.length)).map V.int) H Q
theorem ok__law_sixty (T : Txt K mg A) : FnOk P w K mg base (L2.CX P w) 2 A.a__law_sixty A.d__law_sixty ["_law_due", "_law_many"] (sp__law_sixty K) := by
  refine T.F__law_sixty.okX sc__law_sixty (fun vs H Q E h => ?_) (fun cdv A0 outer s H vs Q E hr h => ?_)
  · obtain ⟨a, ds, m, rfl, _⟩ := h; rfl
  · obtain ⟨a, ds, m, rfl, hS, ht, hm, k⟩ := h
    have h64 := pow6 hm
    have hp := Nat.two_pow_pos m
    refine ⟨_, (pss_cons (ps_set (i := 2) sc__law_sixty.nd rfl (.inl rfl) (pe_op op_mulX (pe_lst (pa_cons pe_int pa_nil)) (pv 1)))
      (pss_cons (ps_for (passes_of rfl) rfl (pi_range2 (by rfl) T.z_range (pa_cons pe_int (pa_cons (pe_callB (call_lenK (K := K) rfl) (by rfl) T.z_len (by decide +kernel) (pa_cons (pv 0) pa_nil)) pa_nil))) (pg_name (i := 3) sc__law_sixty.nd rfl (.inl rfl)) (pss_one (ps_for (passes_of rfl) rfl (pi_range1 (by rfl) T.z_range (pa_cons (pv 1) pa_nil)) (pg_name (i := 4) sc__law_sixty.nd rfl (.inl rfl)) (pss_one (ps_if (pt_cmpR (op_eqK (K := K) rfl hr.units) (pe_op op_andX (pe_op op_shrX (pv 3) (pv 4)) pe_int) pe_int (nomark _)) (pss_one (ps_asg (pe_op op_addX (pe_ix (ix_seqK (K := K) rfl) (pv 2) (pv 4) (fun _ _ => rfl)) (pe_op op_mulX (pe_ix (ix_seqK (K := K) rfl) (pv 0) (pv 3) (fun _ _ => rfl)) (pe_op op_fdivX pe_int (pe_call (ok__law_ones T) (hr.mono (by decide)) (by rfl) T.g__law_ones T.F__law_ones.kp T.b__law_ones .nil (passes_call (takes_of rfl rfl rfl rfl) (fun _ _ _ _ h => h)) (pa_cons (pv 3) pa_nil))))) (pg_sub (pv 2) (pv 4) set_list))) pss_nil)))))
      (pss_one (ps_ret (pv 2))))), ?_⟩
    walk_at "x"
    refine ⟨(by show 1 ≤ sizeLine; decide), fun p0 n0 => ?_⟩
    have w0 := (Own.start (H := H)).new (o := .lst ([0].map V.int)) n0
    walk_at "x"
    refine x_mulL (w0.get 0 rfl) ⟨by omega, by omega, ?_⟩ (fun p1 n1 => ?_)
    · rw [Int.toNat_natCast]
      exact Nat.le_trans (show 1 * m ≤ 6 by omega) (by decide)
    rw [Int.toNat_natCast, show (List.replicate m ([0].map V.int)).flatten = (tl m (topsF ds 1)).map V.int by
      rw [show [0].map V.int = [V.int 0] from rfl, rep_flat]
      congr 1
      exact rep_tl fun h hh => topsF_one ds (by omega)]
    have w1 := w0.new (o := .lst ((tl m (topsF ds 1)).map V.int)) n1
    have w1 := w1.sub (ds := [(p1, .lst ((tl m (topsF ds 1)).map V.int))]) (.cons_cons _ (.cons _ .slnil))
    walk_at "x"
    refine x_lenL (w1.seq hS) ?_
    rw [List.length_map]
    refine ⟨_, _, rfl, ⟨by omega, by omega, by omega, by omega⟩, for_range (lo := 1) (n := ((ds.length : Int) - 1).toNat) (fun i σ' H' => (∃ v3 v4, σ' = [some (.ref a), some (.int (m : Int)), some (.ref p1), v3, v4]) ∧ Own H [(p1, .lst ((tl m (topsF ds (1 + i))).map V.int))] H') ⟨⟨_, _, rfl⟩, w1⟩ ?_ ?_⟩
    · rintro i σ' H' hi ⟨⟨v3, v4, rfl⟩, w⟩
      have hg : 1 + i < ds.length := by omega
      rw [show (1 : Int) + (i : Int) = ((1 + i : Nat) : Int) by omega]
      generalize hgg : 1 + i = g at *
      walk_at "x"
      refine ⟨_, rfl, by omega, by omega, for_r0 (n := (m : Int)) (fun h σ' H' => (∃ v4, σ' = [some (.ref a), some (.int (m : Int)), some (.ref p1), some (.int (g : Int)), v4]) ∧ Own H [(p1, .lst ((tl m fun q => if q < h then topsF ds (g + 1) q else topsF ds g q).map V.int))] H') ⟨⟨_, rfl⟩, by rw [show (tl m fun q => if q < 0 then topsF ds (g + 1) q else topsF ds g q) = tl m (topsF ds g) from tl_congr fun q _ => if_neg (Nat.not_lt_zero q)]; exact w⟩ ?_ ?_⟩
      · rintro h σ' H' hh ⟨⟨v4, rfl⟩, w⟩
        have hhm : h < m := by omega
        have hl : (tl m fun q => if q < h then topsF ds (g + 1) q else topsF ds g q).length = m := tl_len _ _
        have step : ∀ z : Int, z = topsF ds (g + 1) h → (tl m fun q => if q < h then topsF ds (g + 1) q else topsF ds g q).set h z = tl m fun q => if q < h + 1 then topsF ds (g + 1) q else topsF ds g q := fun z hz => by
          rw [tl_set hhm]
          refine tl_congr fun q _ => ?_
          by_cases c : q = h
          · subst c; rw [if_pos rfl, if_pos (by omega), hz]
          · rw [if_neg c]
            by_cases d : q < h
            · rw [if_pos d, if_pos (by omega)]
            · rw [if_neg d, if_neg (by omega)]
        walk_at "x"
        refine x_shr (by omega) ?_
        walk_at "x"
        rw [bit_int (by omega) (by omega)]
        cases c : bitOn h g with
        | true =>
          refine iteT ?_
          walk_at "x"
          refine x_ixXL (w.sq 0 rfl) (at_int (by omega) (by omega)) ?_
          walk_at "x"
          refine x_ixXL (w.seq hS) (at_int (by omega) (by omega)) ?_
          walk_at "x"
          refine ⟨g, rfl, by omega, fun H3 s3 => ?_⟩
          have w := w.ext s3
          have hlen := handsM_pos g (by omega) (by omega)
          have hl6 := handsM_len g
          have hw := wt_le g
          refine x_divP (by omega) (Nat.lt_of_le_of_lt (Nat.log2_le_self _) (by omega)) ?_
          rw [show (60 : Int) / (((handsM g).length : Nat) : Int) = wt g from rfl]
          refine x_mulI (.of_right (intBits_le_64 (by omega) (by omega))) ?_
          walk_at "x"
          refine x_setL (w.get 0 rfl) (by rw [List.length_map]; exact ixN_int (by omega) (by omega)) ?_
          rw [map_set_int, Int.toNat_natCast, step _ (by
            rw [gi_tln hhm, if_neg (by omega), topsF_succ, c, if_pos rfl] <;> rfl)]
          exact ⟨⟨_, rfl⟩, w.put (o' := .lst ((tl m fun q => if q < h + 1 then topsF ds (g + 1) q else topsF ds g q).map V.int)) 0 rfl⟩
        | false =>
          refine iteF ?_
          walk_at "x"
          refine ⟨⟨_, rfl⟩, ?_⟩
          rw [show (tl m fun q => if q < h + 1 then topsF ds (g + 1) q else topsF ds g q) = tl m fun q => if q < h then topsF ds (g + 1) q else topsF ds g q from tl_congr fun q _ => by
            by_cases d : q = h
            · subst d; rw [if_pos (by omega), if_neg (by omega), topsF_succ, c, if_neg Bool.false_ne_true]; omega
            · by_cases d2 : q < h
              · rw [if_pos d2, if_pos (by omega)]
              · rw [if_neg d2, if_neg (by omega)]]
          exact w
      · rintro σ' H' ⟨⟨v4, rfl⟩, w⟩
        rw [Int.toNat_natCast, show (tl m fun q => if q < m then topsF ds (g + 1) q else topsF ds g q) = tl m (topsF ds (g + 1)) from tl_congr fun q hq => if_pos hq] at w
        refine ⟨⟨_, _, rfl⟩, ?_⟩
        rw [show 1 + (i + 1) = g + 1 by omega]
        exact w
    · rintro σ' H' ⟨⟨v3, v4, rfl⟩, w⟩
      rw [show 1 + ((ds.length : Int) - 1).toNat = ds.length by omega] at w
      walk_at "x"
      exact k.go w

/-! ### _law_numbers -/
def sp__law_numbers (K : PySem.W.Frag) : Sp := fun vs H Q _ => ∃ (a b : Addr) (l : List Int), vs = [.ref a, .ref b] ∧ Rd H a (.lst (l.map V.int)) ∧ SqL K H b (l.map V.int) ∧ RetV (.bl true) H Q
theorem ok__law_numbers (T : Txt K mg A) : FnOk P w K mg base (L2.CX P w) 2 A.a__law_numbers A.d__law_numbers ["_law_found", "_law_due"] (sp__law_numbers K) := by
  refine T.F__law_numbers.okX sc__law_numbers (fun vs H Q E h => ?_) (fun cdv A0 outer s H vs Q E hr h => ?_)
  · obtain ⟨a, b, l, rfl, _⟩ := h; rfl
  · obtain ⟨a, b, l, rfl, hA, hB, k⟩ := h
    refine ⟨_, (pss_cons (ps_if (PW.pt (pw_or (pt_not (pt_val (pe_callB (call_isiX (K := K) rfl) (by rfl) T.z_isinstance (by decide +kernel) (pa_cons (pv 0) (pa_cons (pe_bltn (v := .ty "list") (by rfl) T.z_list (by decide +kernel) rfl) pa_nil))))) (pw_or1 (pt_cmpR (op_neK (K := K) rfl hr.units) (pe_callB (call_lenK (K := K) rfl) (by rfl) T.z_len (by decide +kernel) (pa_cons (pv 0) pa_nil)) (pe_callB (call_lenK (K := K) rfl) (by rfl) T.z_len (by decide +kernel) (pa_cons (pv 1) pa_nil)) (nomark _))))) (pss_one (ps_ret pe_bl)) pss_nil)
      (pss_cons (ps_for (passes_of rfl) rfl (pi_zipK (K := K) rfl (by rfl) T.z_zip (pa_cons (pv 0) (pa_cons (pv 1) pa_nil))) (pg_tupK (K := K) (n := 2) rfl rfl (pgs_cons (pg_name (i := 2) sc__law_numbers.nd rfl (.inl rfl)) (pgs_cons (pg_name (i := 3) sc__law_numbers.nd rfl (.inl rfl)) pgs_nil))) (pss_one (ps_if (PW.pt (pw_or (pt_not (pt_val (pe_call (ok__law_whole T) (hr.mono (by decide)) (by rfl) T.g__law_whole T.F__law_whole.kp T.b__law_whole .nil (passes_call (takes_of rfl rfl rfl rfl) (fun _ _ _ _ h => h)) (pa_cons (pv 2) pa_nil)))) (pw_or1 (pt_cmpR (op_neK (K := K) rfl hr.units) (pv 2) (pv 3) (nomark _))))) (pss_one (ps_ret pe_bl)) pss_nil)))
      (pss_one (ps_ret pe_bl)))), ?_⟩
    walk_at "x"
    refine x_isiListL hA ?_
    walk_at "x"
    refine iteF ?_
    walk_at "x"
    refine x_lenL (.inl hA) ?_
    walk_at "x"
    refine x_lenL hB ?_
    walk_at "x"
    rw [decide_eq_true rfl]
    refine iteF ?_
    walk_at "x"
    refine ⟨a, b, _, _, rfl, .inl hA, hB, RZ.for_zipL rfl (fun i σ' H' => (∃ v1 v2, σ' = [some (.ref a), some (.ref b), v1, v2]) ∧ Same H H') ⟨⟨_, _, rfl⟩, Same.refl _⟩ (fun i σ' H' h => ⟨h.2.seq (.inl hA), h.2.seq hB⟩) ?_ ?_⟩
    · rintro i x y t σ' H' hx hy ⟨⟨v1, v2, rfl⟩, s1⟩ nt
      obtain ⟨z, hz, rfl⟩ := map_at hx
      rw [hx] at hy
      obtain rfl := Option.some.inj hy
      have st := same_upd (o := .tup [.int z, .int z]) nt
      refine x_gt (SqT.of upd_same) rfl ?_
      walk_at "x"
      refine ⟨_, rfl, .int _, fun H2 s2 => ?_⟩
      walk_at "x"
      refine iteF ?_
      walk_at "x"
      rw [decide_eq_true rfl]
      refine iteF ?_
      walk_at "x"
      exact ⟨⟨_, _, rfl⟩, (s1.trans st).trans s2⟩
    · rintro σ' H' ⟨⟨v1, v2, rfl⟩, s1⟩
      walk_at "x"
      exact k _ s1

/-! ### _law_tables -/
def sp__law_tables (K : PySem.W.Frag) : Sp := fun vs H Q _ => ∃ (a : Addr) (ds : List Int) (m j : Nat), vs = [.ref a, .int (m : Int), .int (j : Int)] ∧ SqL K H a (ds.map V.int) ∧ ds.length ≤ 127 ∧ 1 ≤ m ∧ m ≤ 6 ∧ 1 ≤ j ∧ j ≤ 6 ∧
  ∀ xs ys : List Int, Tab xs m → Tab ys j → Bnd 1000000000000000000000 xs → Bnd 1000000000000000000000 ys → ∀ (p q r : Addr) (H' : Hp), Own H [(p, .lst [.ref q, .ref r]), (q, .lst (xs.map V.int)), (r, .lst (ys.map V.int))] H' → Q (.ref p) H'
theorem rep_bnd {n : Nat} {b : Int} (h : 0 ≤ b) : Bnd b (List.replicate n 0) := fun z hz => by
  obtain ⟨_, rfl⟩ := List.mem_replicate.mp hz
  omega
theorem bnd_step {xs : List Int} {i j : Nat} {z : Int} (h : Bnd (1000000000000000000 * (i : Int)) xs) (hz : Small z) (k : Int) : Bnd (1000000000000000000 * ((i + 1 : Nat) : Int)) (xs.set j (gi xs k + z)) := by
  have h1 := Bnd.at (by omega) h k
  obtain ⟨z0, z1⟩ := hz
  exact Bnd.set (h.mono (by omega)) (by omega) (by omega)
theorem bnd_keep {xs : List Int} {i : Nat} (h : Bnd (1000000000000000000 * (i : Int)) xs) : Bnd (1000000000000000000 * ((i + 1 : Nat) : Int)) xs := h.mono (by omega)
theorem ok__law_tables (T : Txt K mg A) : FnOk P w K mg base (L2.CX P w) 2 A.a__law_tables A.d__law_tables ["_law_script", "_law_many", "_law_few"] (sp__law_tables K) := by
  refine T.F__law_tables.okX sc__law_tables (fun vs H Q E h => ?_) (fun cdv A0 outer s H vs Q E hr h => ?_)
  · obtain ⟨a, ds, m, j, rfl, _⟩ := h; rfl
  · obtain ⟨a, ds, m, j, rfl, hS, hd, m1, m6, j1, j6, k⟩ := h
    have h64 := pow6 m6
    have g64 := pow6 j6
    have z1 : (0 : Int) ≤ ((2 ^ m : Nat) : Int) := Int.natCast_nonneg _
    have z2 : (0 : Int) ≤ ((2 ^ j : Nat) : Int) := Int.natCast_nonneg _
    refine ⟨_, (pss_cons (ps_set (i := 3) sc__law_tables.nd rfl (.inl rfl) (pe_lst (pa_cons (pe_op op_mulX (pe_lst (pa_cons pe_int pa_nil)) (pe_op op_shlX pe_int (pv 1))) (pa_cons (pe_op op_mulX (pe_lst (pa_cons pe_int pa_nil)) (pe_op op_shlX pe_int (pv 2))) pa_nil))))
      (pss_cons (ps_set (i := 4) sc__law_tables.nd rfl (.inl rfl) (pe_lst (pa_cons pe_int (pa_cons pe_int pa_nil))))
      (pss_cons (ps_for (passes_of rfl) rfl (pi_range2 (by rfl) T.z_range (pa_cons pe_int (pa_cons (pe_callB (call_lenK (K := K) rfl) (by rfl) T.z_len (by decide +kernel) (pa_cons (pv 0) pa_nil)) pa_nil))) (pg_name (i := 5) sc__law_tables.nd rfl (.inl rfl)) (pss_cons (ps_set (i := 6) sc__law_tables.nd rfl (.inl rfl) (pe_callTy call_int1X (by rfl) T.z_int (by decide +kernel) (pa_cons (pe_cmpR (op_eqK (K := K) rfl hr.units) (pe_op op_modX (pv 5) pe_int) pe_int (nomark _)) pa_nil)))
      (pss_cons (ps_set (i := 7) sc__law_tables.nd rfl (.inl rfl) (pe_ix (ix_seqK (K := K) rfl) (pv 3) (pv 6) (fun _ _ => rfl)))
      (pss_cons (ps_set (i := 8) sc__law_tables.nd rfl (.inl rfl) (pe_op op_subX (pe_op op_subX (pe_callB (call_lenK (K := K) rfl) (by rfl) T.z_len (by decide +kernel) (pa_cons (pv 7) pa_nil)) pe_int) (pe_op op_modX (pe_ix (ix_seqK (K := K) rfl) (pv 4) (pv 6) (fun _ _ => rfl)) (pe_op op_subX (pe_callB (call_lenK (K := K) rfl) (by rfl) T.z_len (by decide +kernel) (pa_cons (pv 7) pa_nil)) pe_int))))
      (pss_cons (ps_asg (pe_op op_addX (pe_ix (ix_seqK (K := K) rfl) (pv 7) (pv 8) (fun _ _ => rfl)) (pe_call (ok__law_number T) (hr.mono (by decide)) (by rfl) T.g__law_number T.F__law_number.kp T.b__law_number .nil (passes_call (takes_of rfl rfl rfl rfl) (fun _ _ _ _ h => h)) (pa_cons (pe_ix (ix_seqK (K := K) rfl) (pv 0) (pv 5) (fun _ _ => rfl)) pa_nil))) (pg_sub (pv 7) (pv 8) set_list))
      (pss_one (ps_asg (pe_op op_addX (pe_ix (ix_seqK (K := K) rfl) (pv 4) (pv 6) (fun _ _ => rfl)) pe_int) (pg_sub (pv 4) (pv 6) set_list))))))))
      (pss_one (ps_ret (pv 3)))))), ?_⟩
    walk_at "x"
    refine ⟨(by show 1 ≤ sizeLine; decide), fun p0 n0 => ?_⟩
    have w0 := (Own.start (H := H)).new (o := .lst ([0].map V.int)) n0
    walk_at "x"
    refine x_shl ⟨by omega, by omega, by decide⟩ ?_
    rw [shl_nat]
    refine x_mulL (w0.get 0 rfl) ⟨by omega, by omega, ?_⟩ (fun p1 n1 => ?_)
    · rw [Int.toNat_natCast]
      exact Nat.le_trans (show 1 * 2 ^ m ≤ 64 by omega) (by decide)
    rw [Int.toNat_natCast, show (List.replicate (2 ^ m) ([0].map V.int)).flatten = (List.replicate (2 ^ m) (0 : Int)).map V.int from rep_flat _]
    have w1 := w0.new (o := .lst ((List.replicate (2 ^ m) (0 : Int)).map V.int)) n1
    walk_at "x"
    refine ⟨(by show 1 ≤ sizeLine; decide), fun p2 n2 => ?_⟩
    have w2 := w1.new (o := .lst ([0].map V.int)) n2
    walk_at "x"
    refine x_shl ⟨by omega, by omega, by decide⟩ ?_
    rw [shl_nat]
    refine x_mulL (w2.get 0 rfl) ⟨by omega, by omega, ?_⟩ (fun p3 n3 => ?_)
    · rw [Int.toNat_natCast]
      exact Nat.le_trans (show 1 * 2 ^ j ≤ 64 by omega) (by decide)
    rw [Int.toNat_natCast, show (List.replicate (2 ^ j) ([0].map V.int)).flatten = (List.replicate (2 ^ j) (0 : Int)).map V.int from rep_flat _]
    have w3 := w2.new (o := .lst ((List.replicate (2 ^ j) (0 : Int)).map V.int)) n3
    have w3 := w3.sub (ds := [(p3, .lst ((List.replicate (2 ^ j) (0 : Int)).map V.int)), (p1, .lst ((List.replicate (2 ^ m) (0 : Int)).map V.int))]) (.cons_cons _ (.cons _ (.cons_cons _ (.cons _ .slnil))))
    walk_at "x"
    refine ⟨(by show 2 ≤ sizeLine; decide), fun p4 n4 => ?_⟩
    have w4 := w3.new (o := .lst [.ref p1, .ref p3]) n4
    walk_at "x"
    refine ⟨(by show 2 ≤ sizeLine; decide), fun p5 n5 => ?_⟩
    have w5 := w4.new (o := .lst ([0, 0].map V.int)) n5
    walk_at "x"
    refine x_lenL (w5.seq hS) ?_
    rw [List.length_map]
    have t0 : Tab (List.replicate (2 ^ m) (0 : Int)) m := ⟨by rw [List.length_replicate], m1, m6, by rw [List.getElem?_replicate, if_pos (Nat.two_pow_pos m)]⟩
    have u0 : Tab (List.replicate (2 ^ j) (0 : Int)) j := ⟨by rw [List.length_replicate], j1, j6, by rw [List.getElem?_replicate, if_pos (Nat.two_pow_pos j)]⟩
    refine ⟨_, _, rfl, ⟨by omega, by omega, by omega, by omega⟩, for_range (lo := 3) (n := ((ds.length : Int) - 3).toNat) (fun i σ' H' => ∃ (xs ys : List Int) (c0 c1 : Int), (∃ v5 v6 v7 v8, σ' = [some (.ref a), some (.int (m : Int)), some (.int (j : Int)), some (.ref p4), some (.ref p5), v5, v6, v7, v8]) ∧ Tab xs m ∧ Tab ys j ∧ Bnd (1000000000000000000 * (i : Int)) xs ∧ Bnd (1000000000000000000 * (i : Int)) ys ∧ Own H [(p5, .lst ([c0, c1].map V.int)), (p4, .lst [.ref p1, .ref p3]), (p3, .lst (ys.map V.int)), (p1, .lst (xs.map V.int))] H') ⟨_, _, 0, 0, ⟨_, _, _, _, rfl⟩, t0, u0, rep_bnd (by decide), rep_bnd (by decide), w5⟩ ?_ ?_⟩
    · rintro i σ' H' hi ⟨xs, ys, c0, c1, ⟨v5, v6, v7, v8, rfl⟩, tx, ty, bx, by_, w⟩
      have px := tx.pos
      have py := ty.pos
      walk_at "x"
      refine x_modP (by decide) ?_
      walk_at "x"
      by_cases c : (3 + (i : Int)) % 5 = 4
      · rw [decide_eq_true c]
        refine .inr ⟨_, rfl, ?_⟩
        walk_at "x"
        refine x_ixXL (w.sq 1 rfl) (v := .ref p3) rfl ?_
        walk_at "x"
        refine x_lenL (w.sq 2 rfl) ?_
        rw [List.length_map]
        walk_at "x"
        refine x_ixXL (w.sq 0 rfl) (v := .int c1) rfl ?_
        walk_at "x"
        refine x_lenL (w.sq 2 rfl) ?_
        rw [List.length_map]
        walk_at "x"
        refine x_modP (by omega) ?_
        walk_at "x"
        have r0 := Int.emod_nonneg c1 (show (ys.length : Int) - 1 ≠ 0 by omega)
        have r1 := Int.emod_lt_of_pos c1 (show (0 : Int) < (ys.length : Int) - 1 by omega)
        generalize hat : (ys.length : Int) - 1 - c1 % ((ys.length : Int) - 1) = at_ at *
        have a0 : 1 ≤ at_ := by omega
        have a1 : at_ < ys.length := by omega
        refine x_ixXL (w.sq 2 rfl) (at_int (ns := ys) (by omega) a1) ?_
        walk_at "x"
        refine x_ixXL (w.seq hS) (at_int (ns := ds) (by omega) (by omega)) ?_
        walk_at "x"
        refine ⟨_, rfl, fun z hz H2 s2 => ?_⟩
        have w := w.ext s2
        walk_at "x"
        refine x_setL (w.get 2 rfl) (by rw [List.length_map]; exact ixN_int (by omega) (by omega)) ?_
        rw [map_set_int]
        have w := w.put (o' := .lst ((ys.set at_.toNat (gi ys at_ + z)).map V.int)) 2 rfl
        walk_at "x"
        refine x_ixXL (w.sq 0 rfl) (v := .int c1) rfl ?_
        walk_at "x"
        refine x_setL (k := (1 : Int)) (j := 1) (w.get 0 rfl) rfl ?_
        have w := w.put (o' := .lst ([c0, c1 + 1].map V.int)) 0 rfl
        exact ⟨xs, ys.set at_.toNat (gi ys at_ + z), c0, c1 + 1, ⟨_, _, _, _, rfl⟩, tx, ty.set (by omega), bnd_keep bx, bnd_step by_ hz _, w⟩
      · rw [decide_eq_false c]
        refine .inr ⟨_, rfl, ?_⟩
        walk_at "x"
        refine x_ixXL (w.sq 1 rfl) (v := .ref p1) rfl ?_
        walk_at "x"
        refine x_lenL (w.sq 3 rfl) ?_
        rw [List.length_map]
        walk_at "x"
        refine x_ixXL (w.sq 0 rfl) (v := .int c0) rfl ?_
        walk_at "x"
        refine x_lenL (w.sq 3 rfl) ?_
        rw [List.length_map]
        walk_at "x"
        refine x_modP (by omega) ?_
        walk_at "x"
        have r0 := Int.emod_nonneg c0 (show (xs.length : Int) - 1 ≠ 0 by omega)
        have r1 := Int.emod_lt_of_pos c0 (show (0 : Int) < (xs.length : Int) - 1 by omega)
        generalize hat : (xs.length : Int) - 1 - c0 % ((xs.length : Int) - 1) = at_ at *
        have a0 : 1 ≤ at_ := by omega
        have a1 : at_ < xs.length := by omega
        refine x_ixXL (w.sq 3 rfl) (at_int (ns := xs) (by omega) a1) ?_
        walk_at "x"
        refine x_ixXL (w.seq hS) (at_int (ns := ds) (by omega) (by omega)) ?_
        walk_at "x"
        refine ⟨_, rfl, fun z hz H2 s2 => ?_⟩
        have w := w.ext s2
        walk_at "x"
        refine x_setL (w.get 3 rfl) (by rw [List.length_map]; exact ixN_int (by omega) (by omega)) ?_
        rw [map_set_int]
        have w := w.put (o' := .lst ((xs.set at_.toNat (gi xs at_ + z)).map V.int)) 3 rfl
        walk_at "x"
        refine x_ixXL (w.sq 0 rfl) (v := .int c0) rfl ?_
        walk_at "x"
        refine x_setL (k := (0 : Int)) (j := 0) (w.get 0 rfl) rfl ?_
        have w := w.put (o' := .lst ([c0 + 1, c1].map V.int)) 0 rfl
        exact ⟨xs.set at_.toNat (gi xs at_ + z), ys, c0 + 1, c1, ⟨_, _, _, _, rfl⟩, tx.set (by omega), ty, bnd_step bx hz _, bnd_keep by_, w⟩
    · rintro σ' H' ⟨xs, ys, c0, c1, ⟨v5, v6, v7, v8, rfl⟩, tx, ty, bx, by_, w⟩
      walk_at "x"
      have w := w.sub (ds := [(p4, .lst [.ref p1, .ref p3]), (p3, .lst (ys.map V.int)), (p1, .lst (xs.map V.int))]) (.cons _ (.cons_cons _ (.cons_cons _ (.cons_cons _ .slnil))))
      refine k xs ys tx ty (bx.mono (by omega)) (by_.mono (by omega)) p4 p1 p3 _ ⟨w.ex, fun o ho => ?_, ?_⟩
      · simp only [List.mem_cons, List.not_mem_nil, or_false] at ho
        rcases ho with rfl | rfl | rfl
        · exact w.cell _ (by simp)
        · exact w.cell _ (by simp)
        · exact w.cell _ (by simp)
      · have := w.nd
        simp only [List.map_cons, List.map_nil, List.nodup_cons, List.mem_cons, List.not_mem_nil, or_false, not_or] at this ⊢
        obtain ⟨⟨h1, h2⟩, h3, _⟩ := this
        exact ⟨⟨h2, h1⟩, fun e => h3 e.symm, fun e => e, .nil⟩

/-! ### _law_mean -/
def sp__law_mean (K : PySem.W.Frag) : Sp := fun vs H Q _ => ∃ (p q : Addr) (ts : List Addr) (zs : List Int) (b : Int), vs = [.ref p, .ref q, .int b] ∧ Rd H p (.lst (ts.map V.ref)) ∧ FrAll H ts (zs.map fun z => shortM (b * z) 60) ∧ SqL K H q (zs.map V.int) ∧ -10 < b ∧ b < 10 ∧ (∀ z ∈ zs, ∃ B, Bits B (b * z) 60) ∧ RetV (.bl true) H Q
theorem ok__law_mean (T : Txt K mg A) : FnOk P w K mg base (L2.CX P w) 4 A.a__law_mean A.d__law_mean ["_law_found", "_law_sixty_here", "_law_by"] (sp__law_mean K) := by
  refine T.F__law_mean.okX sc__law_mean (fun vs H Q E h => ?_) (fun cdv A0 outer s H vs Q E hr h => ?_)
  · obtain ⟨p, q, ts, zs, b, rfl, _⟩ := h; rfl
  · obtain ⟨p, q, ts, zs, b, rfl, hR, hF, hZ, hb0, hb1, hB, k⟩ := h
    have hS : SqL K H p (ts.map V.ref) := .inl hR
    have hfl : ts.length = zs.length := by rw [hF.len, List.length_map]
    refine ⟨_, (pss_cons (ps_if (pt_not (pt_val (pe_call (ok__law_fractions T) (hr.mono (by decide)) (by rfl) T.g__law_fractions T.F__law_fractions.kp T.b__law_fractions .nil (passes_call (takes_of rfl rfl rfl rfl) (fun _ _ _ _ h => h)) (pa_cons (pv 0) (pa_cons (pe_callB (call_lenK (K := K) rfl) (by rfl) T.z_len (by decide +kernel) (pa_cons (pv 1) pa_nil)) pa_nil))))) (pss_one (ps_ret pe_bl)) pss_nil)
      (pss_cons (ps_for (passes_of rfl) rfl (pi_zipK (K := K) rfl (by rfl) T.z_zip (pa_cons (pv 0) (pa_cons (pv 1) pa_nil))) (pg_tupK (K := K) (n := 2) rfl rfl (pgs_cons (pg_name (i := 3) sc__law_mean.nd rfl (.inl rfl)) (pgs_cons (pg_name (i := 4) sc__law_mean.nd rfl (.inl rfl)) pgs_nil))) (pss_one (ps_if (pt_cmpR (op_neK (K := K) rfl hr.units) (pe_op op_mulX (pe_ix (ix_seqK (K := K) rfl) (pv 3) pe_int (fun _ _ => rfl)) pe_int) (pe_op op_mulX (pe_op op_mulX (pv 2) (pv 4)) (pe_ix (ix_seqK (K := K) rfl) (pv 3) pe_int (fun _ _ => rfl))) (nomark _)) (pss_one (ps_ret pe_bl)) pss_nil)))
      (pss_one (ps_ret pe_bl)))), ?_⟩
    walk_at "x"
    refine x_lenL hZ ?_
    walk_at "x"
    refine ⟨p, ts, _, by rw [List.length_map, List.length_map]; rfl, hR, hF, fun f hf => ?_, fun H1 s1 => ?_⟩
    · obtain ⟨z, hz, rfl⟩ := List.mem_map.mp hf
      obtain ⟨B, hB⟩ := hB z hz
      exact short_ok hB (by decide)
    walk_at "x"
    refine iteF ?_
    walk_at "x"
    refine ⟨p, q, _, _, rfl, s1.seq hS, s1.seq hZ, RZ.for_zipL (by rw [List.length_map, List.length_map, hfl]) (fun i σ' H' => (∃ v1 v2, σ' = [some (.ref p), some (.ref q), some (.int b), v1, v2]) ∧ Same H H') ⟨⟨_, _, rfl⟩, s1⟩ (fun i σ' H' h => ⟨h.2.seq hS, h.2.seq hZ⟩) ?_ ?_⟩
    · rintro i x y t σ' H' hx hy ⟨⟨v1, v2, rfl⟩, s2⟩ nt
      obtain ⟨u, hu, rfl⟩ := map_at hx
      obtain ⟨z, hz, rfl⟩ := map_at hy
      obtain ⟨f, hf, hT⟩ := hF.at hu
      have ef : f = shortM (b * z) 60 := by
        rw [List.getElem?_map, hz] at hf
        exact (Option.some.inj hf).symm
      have st := same_upd (o := .tup [.ref u, .int z]) nt
      have hT2 : Rd (upd H' t (.tup [.ref u, .int z])) u (.tup (frV f)) := .inl (st _ _ (s2 _ _ hT))
      obtain ⟨f1, f2⟩ := sixty_le (b * z)
      have fc := short_cross (a := b * z) (b := 60) (by decide)
      rw [← ef] at f1 f2 fc
      refine x_gt (SqT.of upd_same) rfl ?_
      walk_at "x"
      refine x_ixXT (.inl hT2) (v := .int f.1) rfl ?_
      walk_at "x"
      refine x_mulI (.of_right (by decide)) ?_
      walk_at "x"
      refine x_mulI (.of_left (intBits_le_64 (by omega) (by omega))) ?_
      walk_at "x"
      refine x_ixXT (.inl hT2) (v := .int f.2) rfl ?_
      walk_at "x"
      refine x_mulI (.of_right (intBits_le_64 (by omega) (by omega))) ?_
      walk_at "x"
      rw [fc, decide_eq_true rfl]
      refine iteF ?_
      walk_at "x"
      exact ⟨⟨_, _, rfl⟩, s2.trans st⟩
    · rintro σ' H' ⟨⟨v1, v2, rfl⟩, s2⟩
      walk_at "x"
      exact k _ s2

/-! ### _law_cut -/
def sp__law_cut (A : Ads) (K : PySem.W.Frag) : Sp := fun vs H Q _ => ∃ (a b : Addr) (ms : List Int) (m g : Nat), vs = [.ref a, .ref b, .int (g : Int)] ∧ Rd H a (.lst (ms.map V.int)) ∧ SqL K H b ((divM ms m).map V.int) ∧ Tab ms m ∧ m < 6 ∧ 0 < g ∧ g < ms.length ∧ RetV (.bl true) H Q
theorem ok__law_cut (T : Txt K mg A) : FnOk P w K mg base (L2.CX P w) 5 A.a__law_cut A.d__law_cut ["_law_table", "_law_due", "_law_group"] (sp__law_cut A K) := by
  refine T.F__law_cut.okX sc__law_cut (fun vs H Q E h => ?_) (fun cdv A0 outer s H vs Q E hr h => ?_)
  · obtain ⟨a, b, ms, m, g, rfl, _⟩ := h; rfl
  · obtain ⟨a, b, ms, m, g, rfl, hR, hD, tb, h5, hg0, hg, k⟩ := h
    have hp := tb.pos
    have ht := tb.len
    have hdl : (divM ms m).length = ms.length := tl_len _ _
    refine ⟨_, (pss_cons (ps_setLc (i := 3) (own := [("_law_part", 4)]) rfl sc__law_cut.nd rfl rfl (sw_true rfl rfl rfl (by decide +kernel)) (pi_range1 (by rfl) T.z_range (pa_cons (pe_op op_addX (pv 2) pe_int) pa_nil)) (blkOk_by (own := [("_law_part", 4)]) (N := N__law_cut) (sc := defScope s__law_cut) (by decide +kernel)) (fun _ _ _ _ _ => (pg_name (i := 4) sc__law_cut.nd rfl (.inl rfl))) (fun _ _ _ _ _ => (pts_one (pt_cmpR (op_eqK (K := K) rfl hr.units) (pe_op op_andX (pv 4) (pv 2)) (pv 4) (nomark _)))) (fun _ _ _ _ _ => (pv 4)))
      (pss_one (ps_ret (pe_call (ok__law_numbers T) (hr.mono (by decide)) (by rfl) T.g__law_numbers T.F__law_numbers.kp T.b__law_numbers .nil (passes_call (takes_of rfl rfl rfl rfl) (fun _ _ _ _ h => h)) (pa_cons (pe_call (ok_dividends T) (hr.mono (by decide)) (by rfl) T.g_dividends T.F_dividends.kp T.b_dividends .nil (passes_call (takes_of rfl rfl rfl rfl) (fun _ _ _ _ h => h)) (pa_cons (pe_call (ok_cut T) (hr.mono (by decide)) (by rfl) T.g_cut T.F_cut.kp T.b_cut .nil (passes_call (takes_of rfl rfl rfl rfl) (fun _ _ _ _ h => h)) (pa_cons (pv 0) (pa_cons (pv 2) pa_nil))) pa_nil)) (pa_cons (pe_lc (own := [("_law_part", 4)]) rfl sc__law_cut.nd (pi_listK (K := K) rfl (pv 3)) (blkOk_by (own := [("_law_part", 4)]) (N := N__law_cut) (sc := defScope s__law_cut) (by decide +kernel)) (fun _ _ _ _ _ => (pg_name (i := 4) sc__law_cut.nd rfl (.inl rfl))) (fun _ _ _ _ _ => pts_nil) (fun _ _ _ _ _ => (pe_ix (ix_seqK (K := K) rfl) (pv 1) (pv 4) (fun _ _ => rfl)))) pa_nil)))))), ?_⟩
    walk_at "x"
    refine ⟨_, rfl, by omega, by omega, cp_r0 (n := (g : Int) + 1) (fun i => ((List.range i).filter fun q => (q &&& g) == q).map vnat) (Own.start (H := H)) rfl ?_ ?_⟩
    · intro D q H2 hq p
      walk_at "x"
      refine ⟨rfl, ?_⟩
      walk_at "x"
      rw [and_nat, show decide (((q &&& g : Nat) : Int) = (q : Int)) = ((q &&& g) == q) by rw [Bool.eq_iff_iff, decide_eq_true_eq, beq_iff_eq]; omega]
      have hl := filter_len (fun q => (q &&& g) == q) q
      cases c : ((q &&& g) == q) with
      | true =>
        refine iteT ?_
        walk_at "x"
        exact cp_fin (F := fun i => ((List.range i).filter fun q => (q &&& g) == q).map vnat) p (filter_yes (p := fun q => (q &&& g) == q) c vnat) (by rw [List.length_map]; omega)
      | false => exact iteF (cp_no (F := fun i => ((List.range i).filter fun q => (q &&& g) == q).map vnat) p (filter_no (p := fun q => (q &&& g) == q) c vnat))
    intro p1 H1 w1
    rw [show ((g : Int) + 1).toNat = g + 1 by omega, show ((List.range (g + 1)).filter fun q => (q &&& g) == q) = partsM g from rfl] at w1
    walk_at "x"
    refine u_cut (rd_same w1.ex hR) tb hg0 hg fun p2 H2 n2 s2 c2 => ?_
    have w2 := w1.newE n2 s2 c2
    walk_at "x"
    refine u_dividends (.inl (w2.get 0 rfl)) (cutM_tab tb hg0 hg) fun p3 H3 n3 s3 c3 => ?_
    have w3 := w2.newE n3 s3 c3
    walk_at "x"
    have hql : (partsM g).length ≤ g + 1 := filter_len _ _
    refine ⟨_, rfl, ⟨_, w3.sq 2 rfl⟩, cp_listO (xs := (partsM g).map vnat) (fun i => (((partsM g).take i).map fun q : Nat => gi (divM ms m) (q : Int)).map V.int) w3 2 rfl rfl ?_ ?_⟩
    · intro D i x H' hx p
      obtain ⟨q, hq, rfl⟩ := map_at hx
      have hqg : q < g + 1 := by
        have := List.mem_of_getElem? hq
        unfold partsM at this
        rw [List.mem_filter, List.mem_range] at this
        exact this.1
      walk_at "x"
      refine ⟨rfl, ?_⟩
      walk_at "x"
      refine iteT ?_
      walk_at "x"
      refine x_ixXL (Own.seq p hD) (at_int (ns := divM ms m) (i := (q : Int)) (by omega) (by omega)) ?_
      exact cp_fin p (by rw [take_map hq, List.map_append] <;> rfl) (by rw [List.length_map, List.length_map, List.length_take]; omega)
    intro p4 H4 w4
    rw [List.length_map, List.take_length] at w4
    rw [show ((partsM g).map fun q : Nat => gi (divM ms m) (q : Int)) = divM (cutM ms g) (handsM g).length from (cut_div tb h5 (by omega)).symm] at w4
    walk_at "x"
    refine ⟨p3, p4, _, rfl, .inl (w4.get 1 rfl), w4.sq 0 rfl, fun H5 s5 => ?_⟩
    exact k.go (w4.ext s5).ex

/-! ### _law_beside -/
def sp__law_beside (A : Ads) (K : PySem.W.Frag) : Sp := fun vs H Q _ => ∃ (a b : Addr) (xs ys : List Int) (m j : Nat), vs = [.ref a, .ref b, .int (m : Int), .int (j : Int)] ∧ Rd H a (.lst (xs.map V.int)) ∧ Rd H b (.lst (ys.map V.int)) ∧ Tab xs m ∧ Tab ys j ∧ m + j ≤ 6 ∧ besOk m j = true ∧ besSh m j = true ∧ Bnd 1000000000000000000000 xs ∧ Bnd 1000000000000000000000 ys ∧ RetV (.bl true) H Q
theorem low_bits : ∀ m, m < 7 → ∀ g, g < 64 → g &&& (2 ^ m - 1) = g % 2 ^ m := by decide +kernel
theorem tops_sh2 {ms : List Int} {m : Nat} (tb : Tab ms m) : tl m (topsF (divM ms m) (divM ms m).length) = shM ms m := by
  unfold shM
  rw [show (divM ms m).length = ms.length from tl_len _ _]
  exact tl_congr fun h hh => tops_sh tb hh
theorem mean_sh {ms : List Int} {m : Nat} (tb : Tab ms m) : meanFs (divM ms m) ms.length m = (shM ms m).map fun z => shortM (1 * z) 60 := by
  unfold meanFs shM
  rw [List.map_map]
  refine List.map_congr_left fun h hh => ?_
  show _ = shortM (1 * shF ms m h) 60
  rw [Int.one_mul, ← tops_sh tb (List.mem_range.mp hh)] <;> rfl
theorem sh_bits {ms : List Int} {m C : Nat} (tb : Tab ms m) (hB : Bdd C (fn (divM ms m))) (hC : C + 18 ≤ 9000) : ∀ z ∈ shM ms m, Bits (C + 18) z 60 := fun z hz => by
  unfold shM at hz
  obtain ⟨h, hh, rfl⟩ := List.mem_map.mp hz
  rw [← tops_sh tb (List.mem_range.mp hh)]
  have := tb.pos
  exact topsF_bits hB this.2 hC h
theorem div_bdd {ms : List Int} {m C : Nat} (tb : Tab ms m) (hB : Bdd C (fn ms)) : Bdd (C + m) (fn (divM ms m)) := fun i => by
  by_cases h : i < ms.length
  · unfold divM
    rw [show fn (tl ms.length (allD m (fn ms))) i = allD m (fn ms) i from gi_tln h]
    exact hB.allD m i
  · have e : fn (divM ms m) i = 0 := by
      unfold fn gi
      rw [Int.toNat_natCast, List.getD_eq_getElem?_getD, List.getElem?_eq_none (by rw [show (divM ms m).length = ms.length from tl_len _ _]; omega)] <;> rfl
    rw [e]
    exact Nat.two_pow_pos _
theorem bes_bnd {xs ys : List Int} {b : Int} (h0 : 0 ≤ b) (h1 : Bnd b xs) (h2 : Bnd b ys) : Bnd (2 * b) (besideT xs ys) := fun z hz => by
  unfold besideT at hz
  obtain ⟨y, hy, hz⟩ := List.mem_flatMap.mp hz
  obtain ⟨x, hx, rfl⟩ := List.mem_map.mp hz
  have := h1 x hx
  have := h2 y hy
  omega
theorem ok__law_beside (T : Txt K mg A) : FnOk P w K mg base (L2.CX P w) 6 A.a__law_beside A.d__law_beside ["_law_one", "_law_other", "_law_many", "_law_few"] (sp__law_beside A K) := by
  refine T.F__law_beside.okX sc__law_beside (fun vs H Q E h => ?_) (fun cdv A0 outer s H vs Q E hr h => ?_)
  · obtain ⟨a, b, xs, ys, m, j, rfl, _⟩ := h; rfl
  · obtain ⟨a, b, xs, ys, m, j, rfl, hA, hB, t1, t2, h6, bo, bs, bx, by_, k⟩ := h
    have hSA : SqL K H a (xs.map V.int) := .inl hA
    have hSB : SqL K H b (ys.map V.int) := .inl hB
    have p1 := t1.pos
    have p2 := t2.pos
    have l1 := t1.len
    have l2 := t2.len
    have h64 := pow6 h6
    have hd1 : (divM xs m).length = xs.length := tl_len _ _
    have hd2 : (divM ys j).length = ys.length := tl_len _ _
    have hbl : (besideT xs ys).length = 2 ^ (m + j) := by rw [besideT_len, l1, l2, Nat.pow_add]
    have tB := besideT_tab t1 t2 h6
    refine ⟨_, (pss_cons (ps_set (i := 4) sc__law_beside.nd rfl (.inl rfl) (pe_call (ok__law_dividends T) (hr.mono (by decide)) (by rfl) T.g__law_dividends T.F__law_dividends.kp T.b__law_dividends .nil (passes_call (takes_of rfl rfl rfl rfl) (fun _ _ _ _ h => h)) (pa_cons (pv 0) pa_nil)))
      (pss_cons (ps_set (i := 5) sc__law_beside.nd rfl (.inl rfl) (pe_call (ok__law_dividends T) (hr.mono (by decide)) (by rfl) T.g__law_dividends T.F__law_dividends.kp T.b__law_dividends .nil (passes_call (takes_of rfl rfl rfl rfl) (fun _ _ _ _ h => h)) (pa_cons (pv 1) pa_nil)))
      (pss_cons (ps_set (i := 6) sc__law_beside.nd rfl (.inl rfl) (pe_lst pa_nil))
      (pss_cons (ps_for (passes_of rfl) rfl (pi_range1 (by rfl) T.z_range (pa_cons (pe_op op_shlX pe_int (pe_op op_addX (pv 2) (pv 3))) pa_nil)) (pg_name (i := 7) sc__law_beside.nd rfl (.inl rfl)) (pss_cons (ps_set (i := 8) sc__law_beside.nd rfl (.inl rfl) (pe_op op_andX (pv 7) (pe_op op_subX (pe_op op_shlX pe_int (pv 2)) pe_int)))
      (pss_one (ps_if (pt_cmpR (op_eqK (K := K) rfl hr.units) (pv 8) (pv 7) (nomark _)) (pss_one (ps_expr (pe_bm PySem.F.plainAttrs_list PySem.F.slot_list_append PySem.F.type_list_append mt_append (pv 6) (pa_cons (pe_ix (ix_seqK (K := K) rfl) (pv 4) (pv 8) (fun _ _ => rfl)) pa_nil)))) (pss_one (ps_if (pt_cmpR (op_eqK (K := K) rfl hr.units) (pv 8) pe_int (nomark _)) (pss_one (ps_expr (pe_bm PySem.F.plainAttrs_list PySem.F.slot_list_append PySem.F.type_list_append mt_append (pv 6) (pa_cons (pe_ix (ix_seqK (K := K) rfl) (pv 5) (pe_op op_shrX (pv 7) (pv 2)) (fun _ _ => rfl)) pa_nil)))) (pss_one (ps_expr (pe_bm PySem.F.plainAttrs_list PySem.F.slot_list_append PySem.F.type_list_append mt_append (pv 6) (pa_cons pe_int pa_nil))))))))))
      (pss_cons (ps_set (i := 9) sc__law_beside.nd rfl (.inl rfl) (pe_call (ok_beside T) (hr.mono (by decide)) (by rfl) T.g_beside T.F_beside.kp T.b_beside .nil (passes_call (takes_of rfl rfl rfl rfl) (fun _ _ _ _ h => h)) (pa_cons (pv 0) (pa_cons (pv 1) pa_nil))))
      (pss_cons (ps_set (i := 10) sc__law_beside.nd rfl (.inl rfl) (pe_op op_addX (pe_call (ok__law_sixty T) (hr.mono (by decide)) (by rfl) T.g__law_sixty T.F__law_sixty.kp T.b__law_sixty .nil (passes_call (takes_of rfl rfl rfl rfl) (fun _ _ _ _ h => h)) (pa_cons (pv 4) (pa_cons (pv 2) pa_nil))) (pe_call (ok__law_sixty T) (hr.mono (by decide)) (by rfl) T.g__law_sixty T.F__law_sixty.kp T.b__law_sixty .nil (passes_call (takes_of rfl rfl rfl rfl) (fun _ _ _ _ h => h)) (pa_cons (pv 5) (pa_cons (pv 3) pa_nil)))))
      (pss_one (ps_ret (pe_and (pe_call (ok__law_numbers T) (hr.mono (by decide)) (by rfl) T.g__law_numbers T.F__law_numbers.kp T.b__law_numbers .nil (passes_call (takes_of rfl rfl rfl rfl) (fun _ _ _ _ h => h)) (pa_cons (pe_call (ok_dividends T) (hr.mono (by decide)) (by rfl) T.g_dividends T.F_dividends.kp T.b_dividends .nil (passes_call (takes_of rfl rfl rfl rfl) (fun _ _ _ _ h => h)) (pa_cons (pe_callTy (call_listK (K := K) rfl) (by rfl) T.z_list (by decide +kernel) (pa_cons (pv 9) pa_nil)) pa_nil)) (pa_cons (pv 6) pa_nil))) (pe_one (pe_call (ok__law_mean T) (hr.mono (by decide)) (by rfl) T.g__law_mean T.F__law_mean.kp T.b__law_mean .nil (passes_call (takes_of rfl rfl rfl rfl) (fun _ _ _ _ h => h)) (pa_cons (pe_call (ok_mean_shares T) (hr.mono (by decide)) (by rfl) T.g_mean_shares T.F_mean_shares.kp T.b_mean_shares .nil (passes_call (takes_of rfl rfl rfl rfl) (fun _ _ _ _ h => h)) (pa_cons (pe_callTy (call_listK (K := K) rfl) (by rfl) T.z_list (by decide +kernel) (pa_cons (pv 9) pa_nil)) pa_nil)) (pa_cons (pv 10) (pa_cons pe_int pa_nil)))))))))))))), ?_⟩
    walk_at "x"
    refine ⟨a, xs, m, rfl, hSA, t1, fun p1 H1 n1 s1 c1 => ?_⟩
    have w1 : Own H [(p1, .lst ((divM xs m).map V.int))] H1 := Own.start.newE n1 s1 c1
    walk_at "x"
    refine ⟨b, ys, j, rfl, w1.seq hSB, t2, fun p2 H2 n2 s2 c2 => ?_⟩
    have w2 := w1.newE n2 s2 c2
    walk_at "x"
    refine ⟨(by show 0 ≤ sizeLine; decide), fun p3 n3 => ?_⟩
    have w3 := w2.new (o := .lst (([] : List Int).map V.int)) n3
    walk_at "x"
    rw [show (m : Int) + (j : Int) = ((m + j : Nat) : Int) by omega]
    refine x_shl ⟨by omega, by omega, by decide⟩ ?_
    rw [shl_nat]
    refine ⟨_, rfl, by omega, by omega, for_r0 (n := ((2 ^ (m + j) : Nat) : Int)) (fun i σ' H' => (∃ v7 v8, σ' = [some (.ref a), some (.ref b), some (.int (m : Int)), some (.int (j : Int)), some (.ref p1), some (.ref p2), some (.ref p3), v7, v8, none, none]) ∧ Own H [(p3, .lst (((List.range i).map (bothF (allD m (fn xs)) (allD j (fn ys)) m)).map V.int)), (p2, .lst ((divM ys j).map V.int)), (p1, .lst ((divM xs m).map V.int))] H') ⟨⟨_, _, rfl⟩, w3⟩ ?_ ?_⟩
    · rintro g σ' H' hg ⟨⟨v7, v8, rfl⟩, w⟩
      have hg2 : g < 2 ^ (m + j) := by omega
      have hlow := Nat.mod_lt g (Nat.two_pow_pos m)
      have hll : ((List.range g).map (bothF (allD m (fn xs)) (allD j (fn ys)) m)).length = g := by rw [List.length_map, List.length_range]
      have app : ∀ z : Int, z = bothF (allD m (fn xs)) (allD j (fn ys)) m g → ((List.range g).map (bothF (allD m (fn xs)) (allD j (fn ys)) m)).map V.int ++ [.int z] = ((List.range (g + 1)).map (bothF (allD m (fn xs)) (allD j (fn ys)) m)).map V.int := fun z hz => by
        rw [List.range_succ, List.map_append, List.map_append, hz] <;> rfl
      walk_at "x"
      refine x_shl ⟨by omega, by omega, by decide⟩ ?_
      rw [shl_nat]
      walk_at "x"
      rw [show ((2 ^ m : Nat) : Int) - 1 = ((2 ^ m - 1 : Nat) : Int) by omega, and_nat, low_bits m (by omega) g (by omega)]
      by_cases c : g % 2 ^ m = g
      · rw [decide_eq_true (show ((g % 2 ^ m : Nat) : Int) = (g : Int) by rw [c])]
        refine iteT ?_
        walk_at "x"
        refine ⟨x_tyL (w.get 0 rfl), ?_⟩
        walk_at "x"
        refine x_ixXL (w.sq 2 rfl) (at_int (ns := divM xs m) (i := ((g % 2 ^ m : Nat) : Int)) (by omega) (by omega)) ?_
        walk_at "x"
        refine x_append (w.get 0 rfl) (by rw [List.length_map, hll]; exact Nat.lt_of_lt_of_le (show g < 1000 by omega) (by decide)) ?_
        rw [app _ (by unfold bothF; rw [if_pos c, c]; unfold divM; exact gi_tln (by omega))]
        exact ⟨⟨_, _, rfl⟩, w.put (o' := .lst (((List.range (g + 1)).map (bothF (allD m (fn xs)) (allD j (fn ys)) m)).map V.int)) 0 rfl⟩
      · rw [decide_eq_false (show ¬ ((g % 2 ^ m : Nat) : Int) = (g : Int) from fun e => c (by omega))]
        refine iteF ?_
        walk_at "x"
        by_cases d : g % 2 ^ m = 0
        · rw [decide_eq_true (show ((g % 2 ^ m : Nat) : Int) = 0 by omega)]
          refine iteT ?_
          have hdv : g / 2 ^ m < 2 ^ j := Nat.div_lt_of_lt_mul (by rw [← Nat.pow_add]; exact hg2)
          walk_at "x"
          refine ⟨x_tyL (w.get 0 rfl), ?_⟩
          walk_at "x"
          refine x_shr (by omega) ?_
          rw [Int.toNat_natCast, show (g : Int) / 2 ^ m = ((g / 2 ^ m : Nat) : Int) from rfl]
          refine x_ixXL (w.sq 1 rfl) (at_int (ns := divM ys j) (i := ((g / 2 ^ m : Nat) : Int)) (Int.natCast_nonneg _) (Int.ofNat_lt.mpr (by rw [hd2, l2]; exact hdv))) ?_
          walk_at "x"
          refine x_append (w.get 0 rfl) (by rw [List.length_map, hll]; exact Nat.lt_of_lt_of_le (show g < 1000 by omega) (by decide)) ?_
          rw [app _ (by unfold bothF; rw [if_neg c, if_pos d]; unfold divM; exact gi_tln (by omega))]
          exact ⟨⟨_, _, rfl⟩, w.put (o' := .lst (((List.range (g + 1)).map (bothF (allD m (fn xs)) (allD j (fn ys)) m)).map V.int)) 0 rfl⟩
        · rw [decide_eq_false (show ¬ ((g % 2 ^ m : Nat) : Int) = 0 from fun e => d (by omega))]
          refine iteF ?_
          walk_at "x"
          refine ⟨x_tyL (w.get 0 rfl), ?_⟩
          walk_at "x"
          refine x_append (w.get 0 rfl) (by rw [List.length_map, hll]; exact Nat.lt_of_lt_of_le (show g < 1000 by omega) (by decide)) ?_
          rw [app _ (by unfold bothF; rw [if_neg c, if_neg d])]
          exact ⟨⟨_, _, rfl⟩, w.put (o' := .lst (((List.range (g + 1)).map (bothF (allD m (fn xs)) (allD j (fn ys)) m)).map V.int)) 0 rfl⟩
    · rintro σ' H' ⟨⟨v7, v8, rfl⟩, w⟩
      rw [Int.toNat_natCast] at w
      have eb : (List.range (2 ^ (m + j))).map (bothF (allD m (fn xs)) (allD j (fn ys)) m) = divM (besideT xs ys) (m + j) := by
        unfold divM
        rw [hbl]
        exact (tl_congr fun g hg => bes_div t1 t2 bo hg).symm
      rw [eb] at w
      walk_at "x"
      refine u_beside (rd_same w.ex hA) (rd_same w.ex hB) t1 t2 h6 fun p4 H4 n4 s4 c4 => ?_
      have w4 := w.newE n4 s4 c4
      walk_at "x"
      refine ⟨p1, _, m, rfl, w4.sq 3 rfl, by omega, by omega, fun p5 H5 n5 s5 c5 => ?_⟩
      have w5 := w4.newE n5 s5 c5
      walk_at "x"
      refine ⟨p2, _, j, rfl, w5.sq 3 rfl, by omega, by omega, fun p6 H6 n6 s6 c6 => ?_⟩
      have w6 := w5.newE n6 s6 c6
      refine x_addL (.inl (w6.get 1 rfl)) (.inl (w6.get 0 rfl)) (Nat.le_trans (show _ ≤ 12 by rw [List.length_map, List.length_map, tl_len, tl_len]; omega) (by decide)) (fun p7 n7 => ?_)
      rw [tops_sh2 t1, tops_sh2 t2, ← List.map_append, ← bes_sh t1 t2 (by omega) bs] at *
      have w7 := w6.new (o := .lst ((shM (besideT xs ys) (m + j)).map V.int)) n7
      walk_at "x"
      refine x_list (w7.sq 3 rfl) (fun p8 n8 => ?_)
      have w8 := w7.new (o := .lst ((besideT xs ys).map V.int)) n8
      walk_at "x"
      refine u_dividends (.inl (w8.get 0 rfl)) tB fun p9 H9 n9 s9 c9 => ?_
      have w9 := w8.newE n9 s9 c9
      walk_at "x"
      refine ⟨p9, p3, _, rfl, .inl (w9.get 0 rfl), w9.sq 6 rfl, fun H10 s10 => ?_⟩
      have w10 := w9.ext s10
      refine ⟨_, rfl, iteT ?_⟩
      walk_at "x"
      refine x_list (w10.sq 5 rfl) (fun p11 n11 => ?_)
      have w11 := w10.new (o := .lst ((besideT xs ys).map V.int)) n11
      walk_at "x"
      have hbd : Bdd (80 + (m + j)) (fn (divM (besideT xs ys) (m + j))) := div_bdd tB (bdd_bnd (by decide) (bes_bnd (by decide) bx by_) (by decide))
      refine ⟨p11, _, _, _, rfl, .inl (w11.get 0 rfl), tB, hbd, by omega, fun p12 t12 H12 n12 m12 s12 c12 f12 => ?_⟩
      obtain ⟨B12, b12, f12, w12⟩ := own_newF w11 n12 m12 s12 c12 f12
      rw [mean_sh tB] at f12
      walk_at "x"
      refine ⟨p12, p7, t12, shM (besideT xs ys) (m + j), 1, rfl, .inl (w12.get 0 rfl), f12.same w12.ex, w12.sq 4 rfl, by decide, by decide, fun z hz => ⟨_, by rw [Int.one_mul]; exact sh_bits tB hbd (by omega) z hz⟩, fun H13 s13 => ?_⟩
      exact k _ (b12.trans (w12.ext s13).ex)

/-! ### _law_turns -/
def sp__law_turns (K : PySem.W.Frag) : Sp := fun vs H Q _ => ∃ (a : Addr) (ms : List Int) (m h : Nat), vs = [.ref a, .int (h : Int)] ∧ SqL K H a (ms.map V.int) ∧ Tab ms m ∧ h < m ∧ RetV (.int (addsM ms h).sum) H Q
theorem offs_in {ms : List Int} {m h : Nat} (tb : Tab ms m) (hh : h < m) {g : Nat} (hg : g ∈ offs h ms.length) : g < ms.length ∧ g + 2 ^ h < ms.length := by
  have hm := tb.hi
  unfold offs at hg
  rw [List.mem_filter, List.mem_range, Bool.not_eq_true'] at hg
  have := (off_bit (by omega) hh (by rw [← tb.len]; exact hg.1) hg.2).2
  exact ⟨hg.1, by rw [tb.len]; exact this⟩
theorem bit_int0 {h g : Nat} (hh : h < 6) (hg : g < 64) : decide (Builtin.bitAnd ((g : Int) / 2 ^ ((h : Int)).toNat) 1 = 0) = !bitOn h g := by
  rw [← bit_int hh hg]
  have e : Builtin.bitAnd ((g : Int) / 2 ^ ((h : Int)).toNat) 1 = 0 ∨ Builtin.bitAnd ((g : Int) / 2 ^ ((h : Int)).toNat) 1 = 1 := by
    rw [Int.toNat_natCast, show (g : Int) / 2 ^ h = ((g / 2 ^ h : Nat) : Int) from rfl, show (1 : Int) = ((1 : Nat) : Int) from rfl, and_nat, Nat.and_one_is_mod]
    omega
  rcases e with e | e <;> rw [e] <;> rfl
theorem ok__law_turns (T : Txt K mg A) : FnOk P w K mg base (L2.CX P w) 1 A.a__law_turns A.d__law_turns ["_law_table", "_law_hand"] (sp__law_turns K) := by
  refine T.F__law_turns.okX sc__law_turns (fun vs H Q E h => ?_) (fun cdv A0 outer s H vs Q E hr h => ?_)
  · obtain ⟨a, ms, m, h, rfl, _⟩ := h; rfl
  · obtain ⟨a, ms, m, h, rfl, hS, tb, hh, k⟩ := h
    have hm := tb.hi
    have hp := tb.pos
    refine ⟨_, (pss_cons (ps_setLc (i := 2) (own := [("_law_group", 3)]) rfl sc__law_turns.nd rfl rfl (sw_true rfl rfl rfl (by decide +kernel)) (pi_range1 (by rfl) T.z_range (pa_cons (pe_callB (call_lenK (K := K) rfl) (by rfl) T.z_len (by decide +kernel) (pa_cons (pv 0) pa_nil)) pa_nil)) (blkOk_by (own := [("_law_group", 3)]) (N := N__law_turns) (sc := defScope s__law_turns) (by decide +kernel)) (fun _ _ _ _ _ => (pg_name (i := 3) sc__law_turns.nd rfl (.inl rfl))) (fun _ _ _ _ _ => (pts_one (pt_cmpR (op_eqK (K := K) rfl hr.units) (pe_op op_andX (pe_op op_shrX (pv 3) (pv 1)) pe_int) pe_int (nomark _)))) (fun _ _ _ _ _ => (pv 3)))
      (pss_one (ps_ret (pe_callB (cr_sumK (K := K) rfl rfl) (by rfl) T.z_sum (by decide +kernel) (pa_cons (pe_lc (own := [("_law_group", 3)]) rfl sc__law_turns.nd (pi_listK (K := K) rfl (pv 2)) (blkOk_by (own := [("_law_group", 3)]) (N := N__law_turns) (sc := defScope s__law_turns) (by decide +kernel)) (fun _ _ _ _ _ => (pg_name (i := 3) sc__law_turns.nd rfl (.inl rfl))) (fun _ _ _ _ _ => pts_nil) (fun _ _ _ _ _ => (pe_op op_subX (pe_ix (ix_seqK (K := K) rfl) (pv 0) (pe_op op_addX (pv 3) (pe_op op_shlX pe_int (pv 1))) (fun _ _ => rfl)) (pe_ix (ix_seqK (K := K) rfl) (pv 0) (pv 3) (fun _ _ => rfl))))) pa_nil))))), ?_⟩
    walk_at "x"
    refine x_lenL hS ?_
    rw [List.length_map]
    refine ⟨_, rfl, by omega, by omega, cp_r0 (n := (ms.length : Int)) (fun i => (offs h i).map vnat) (Own.start (H := H)) rfl ?_ ?_⟩
    · intro D q H2 hq p
      walk_at "x"
      refine ⟨rfl, ?_⟩
      walk_at "x"
      refine x_shr (by omega) ?_
      walk_at "x"
      rw [bit_int0 (by omega) (by omega)]
      have hl := filter_len (fun g => !bitOn h g) q
      cases c : !bitOn h q with
      | true =>
        refine iteT ?_
        walk_at "x"
        exact cp_fin (F := fun i => (offs h i).map vnat) p (filter_yes (p := fun g => !bitOn h g) c vnat) (by rw [List.length_map]; unfold offs; omega)
      | false => exact iteF (cp_no (F := fun i => (offs h i).map vnat) p (filter_no (p := fun g => !bitOn h g) c vnat))
    intro p1 H1 w1
    rw [Int.toNat_natCast] at w1
    walk_at "x"
    have hol : (offs h ms.length).length ≤ ms.length := filter_len _ _
    refine ⟨_, rfl, ⟨_, w1.sq 0 rfl⟩, cp_listO (xs := (offs h ms.length).map vnat) (fun i => (((offs h ms.length).take i).map fun g => fn ms (g + 2 ^ h) - fn ms g).map V.int) w1 0 rfl rfl ?_ ?_⟩
    · intro D i x H' hx p
      obtain ⟨g, hg, rfl⟩ := map_at hx
      obtain ⟨g1, g2⟩ := offs_in tb hh (List.mem_of_getElem? hg)
      have z1 : (0 : Int) ≤ ((2 ^ h : Nat) : Int) := Int.natCast_nonneg _
      have z2 : (0 : Int) ≤ ((g + 2 ^ h : Nat) : Int) := Int.natCast_nonneg _
      have z3 : ((g + 2 ^ h : Nat) : Int) < (ms.length : Int) := Int.ofNat_lt.mpr g2
      walk_at "x"
      refine ⟨rfl, ?_⟩
      walk_at "x"
      refine iteT ?_
      walk_at "x"
      refine x_shl ⟨by omega, by omega, by decide⟩ ?_
      rw [shl_nat]
      walk_at "x"
      rw [show (g : Int) + ((2 ^ h : Nat) : Int) = ((g + 2 ^ h : Nat) : Int) from rfl]
      refine x_ixXL (Own.seq p hS) (at_int (ns := ms) (i := ((g + 2 ^ h : Nat) : Int)) z2 z3) ?_
      walk_at "x"
      refine x_ixXL (Own.seq p hS) (at_int (ns := ms) (i := (g : Int)) (by omega) (by omega)) ?_
      walk_at "x"
      exact cp_fin p (by rw [take_map hg, List.map_append] <;> rfl) (by rw [List.length_map, List.length_map, List.length_take]; omega)
    intro p2 H2 w2
    rw [List.length_map, List.take_length] at w2
    refine x_nil ?_
    refine x_sum (w2.sq 0 rfl) ?_
    exact k.go w2.ex

/-! ### _law_merged -/
def sp__law_merged (A : Ads) (K : PySem.W.Frag) : Sp := fun vs H Q _ => ∃ (a : Addr) (ms : List Int) (m : Nat) (c : Int), vs = [.ref a, .int (m : Int), .int c] ∧ Rd H a (.lst (ms.map V.int)) ∧ Tab ms m ∧ RetV (.bl true) H Q
theorem turnsM_at {ms : List Int} {m i : Nat} (h : i < m) : gi (turnsM ms m) (i : Int) = (addsM ms i).sum := by
  unfold turnsM
  rw [gi_map_range (by omega) (by omega), Int.toNat_natCast]
theorem merged_two {ms : List Int} {m i j : Nat} (tb : Tab ms m) (hi : i < m) (hj : j < m) (hne : i ≠ j) :
    2 ^ i + 2 ^ j < 2 ^ m ∧ (keptM (2 ^ i + 2 ^ j) m).length = m - 1 ∧ 2 * (addsM (mergedM ms (2 ^ i + 2 ^ j) m) (min i j)).sum = (addsM ms i).sum + (addsM ms j).sum := by
  rcases Nat.lt_or_gt_of_ne hne with h | h
  · rw [Nat.min_eq_left (by omega)]
    exact turns_merged tb hj h
  · rw [Nat.min_eq_right (by omega), Nat.add_comm (2 ^ i), Int.add_comm]
    exact turns_merged tb hi h
theorem ok__law_merged (T : Txt K mg A) : FnOk P w K mg base (L2.CX P w) 5 A.a__law_merged A.d__law_merged ["_law_table", "_law_many", "_law_cell_here"] (sp__law_merged A K) := by
  refine T.F__law_merged.okX sc__law_merged (fun vs H Q E h => ?_) (fun cdv A0 outer s H vs Q E hr h => ?_)
  · obtain ⟨a, ms, m, c, rfl, _⟩ := h; rfl
  · obtain ⟨a, ms, m, c, rfl, hR, tb, k⟩ := h
    have hS : SqL K H a (ms.map V.int) := .inl hR
    have hm := tb.hi
    have h1 := tb.lo
    have ht := tb.len
    refine ⟨_, (pss_cons (ps_if (pt_cmpR (op_eqK (K := K) rfl hr.units) (pv 1) pe_int (nomark _)) (pss_one (ps_ret pe_bl)) pss_nil)
      (pss_cons (ps_set (i := 3) sc__law_merged.nd rfl (.inl rfl) (pe_op op_modX (pv 2) (pv 1)))
      (pss_cons (ps_set (i := 4) sc__law_merged.nd rfl (.inl rfl) (pe_op op_modX (pe_op op_addX (pe_op op_addX (pv 3) pe_int) (pe_op op_modX (pe_op op_fdivX (pv 2) pe_int) (pe_op op_subX (pv 1) pe_int))) (pv 1)))
      (pss_cons (ps_set (i := 5) sc__law_merged.nd rfl (.inl rfl) (pe_call (ok_turns T) (hr.mono (by decide)) (by rfl) T.g_turns T.F_turns.kp T.b_turns .nil (passes_call (takes_of rfl rfl rfl rfl) (fun _ _ _ _ h => h)) (pa_cons (pe_call (ok_merged T) (hr.mono (by decide)) (by rfl) T.g_merged T.F_merged.kp T.b_merged .nil (passes_call (takes_of rfl rfl rfl rfl) (fun _ _ _ _ h => h)) (pa_cons (pv 0) (pa_cons (pe_op op_addX (pe_op op_shlX pe_int (pv 3)) (pe_op op_shlX pe_int (pv 4))) pa_nil))) pa_nil)))
      (pss_cons (ps_if (PW.pt (pw_or (pt_not (pt_val (pe_callB (call_isiX (K := K) rfl) (by rfl) T.z_isinstance (by decide +kernel) (pa_cons (pv 5) (pa_cons (pe_bltn (v := .ty "list") (by rfl) T.z_list (by decide +kernel) rfl) pa_nil))))) (pw_or (pt_cmpR (op_neK (K := K) rfl hr.units) (pe_callB (call_lenK (K := K) rfl) (by rfl) T.z_len (by decide +kernel) (pa_cons (pv 5) pa_nil)) (pe_op op_subX (pv 1) pe_int) (nomark _)) (pw_or1 (pt_not (pt_val (pe_call (ok__law_whole T) (hr.mono (by decide)) (by rfl) T.g__law_whole T.F__law_whole.kp T.b__law_whole .nil (passes_call (takes_of rfl rfl rfl rfl) (fun _ _ _ _ h => h)) (pa_cons (pe_ix (ix_seqK (K := K) rfl) (pv 5) (pe_callB (call_min2X rfl) (by rfl) T.z_min (by decide +kernel) (pa_cons (pv 3) (pa_cons (pv 4) pa_nil))) (fun _ _ => rfl)) pa_nil)))))))) (pss_one (ps_ret pe_bl)) pss_nil)
      (pss_one (ps_ret (pe_cmpR (op_eqK (K := K) rfl hr.units) (pe_op op_mulX pe_int (pe_ix (ix_seqK (K := K) rfl) (pv 5) (pe_callB (call_min2X rfl) (by rfl) T.z_min (by decide +kernel) (pa_cons (pv 3) (pa_cons (pv 4) pa_nil))) (fun _ _ => rfl))) (pe_op op_addX (pe_call (ok__law_turns T) (hr.mono (by decide)) (by rfl) T.g__law_turns T.F__law_turns.kp T.b__law_turns .nil (passes_call (takes_of rfl rfl rfl rfl) (fun _ _ _ _ h => h)) (pa_cons (pv 0) (pa_cons (pv 3) pa_nil))) (pe_call (ok__law_turns T) (hr.mono (by decide)) (by rfl) T.g__law_turns T.F__law_turns.kp T.b__law_turns .nil (passes_call (takes_of rfl rfl rfl rfl) (fun _ _ _ _ h => h)) (pa_cons (pv 0) (pa_cons (pv 4) pa_nil)))) (nomark _))))))))), ?_⟩
    walk_at "x"
    by_cases e1 : (m : Int) = 1
    · rw [decide_eq_true e1]
      refine iteT ?_
      walk_at "x"
      exact k.go (Same.refl _)
    rw [decide_eq_false e1]
    refine iteF (x_next ?_)
    walk_at "x"
    refine x_modP (by omega) ?_
    have r0 := Int.emod_nonneg c (show (m : Int) ≠ 0 by omega)
    have r1 := Int.emod_lt_of_pos c (show (0 : Int) < (m : Int) by omega)
    generalize c % (m : Int) = x at r0 r1 ⊢
    obtain ⟨i, rfl⟩ := Int.eq_ofNat_of_zero_le r0
    walk_at "x"
    refine x_divP (by decide) (by decide) ?_
    walk_at "x"
    refine x_modP (by omega) ?_
    walk_at "x"
    have q0 := Int.emod_nonneg (c / 5) (show (m : Int) - 1 ≠ 0 by omega)
    have q1 := Int.emod_lt_of_pos (c / 5) (show (0 : Int) < (m : Int) - 1 by omega)
    generalize c / 5 % ((m : Int) - 1) = y at q0 q1 ⊢
    refine x_modP (by omega) ?_
    have t0 := Int.emod_nonneg ((i : Int) + 1 + y) (show (m : Int) ≠ 0 by omega)
    have t1 := Int.emod_lt_of_pos ((i : Int) + 1 + y) (show (0 : Int) < (m : Int) by omega)
    have tne : ((i : Int) + 1 + y) % (m : Int) ≠ (i : Int) := by
      intro e
      by_cases hlt : (i : Int) + 1 + y < m
      · rw [Int.emod_eq_of_lt (by omega) hlt] at e; omega
      · have e2 : ((i : Int) + 1 + y) % (m : Int) = (i : Int) + 1 + y - m := by
          rw [← Int.sub_emod_right, Int.emod_eq_of_lt (by omega) (by omega)]
        omega
    generalize ((i : Int) + 1 + y) % (m : Int) = z at t0 t1 tne ⊢
    obtain ⟨j, rfl⟩ := Int.eq_ofNat_of_zero_le t0
    have him : i < m := by omega
    have hjm : j < m := by omega
    have hne : i ≠ j := by omega
    obtain ⟨f1, f2, f3⟩ := merged_two tb him hjm hne
    have z1 := Nat.two_pow_pos i
    have z2 := Nat.two_pow_pos j
    walk_at "x"
    refine x_shl ⟨by omega, by omega, by decide⟩ ?_
    rw [shl_nat]
    walk_at "x"
    refine x_shl ⟨by omega, by omega, by decide⟩ ?_
    rw [shl_nat]
    walk_at "x"
    rw [show ((2 ^ i : Nat) : Int) + ((2 ^ j : Nat) : Int) = ((2 ^ i + 2 ^ j : Nat) : Int) by omega]
    refine u_merged hR tb (by omega) (by omega) fun p1 H1 n1 s1 c1 => ?_
    have w1 : Own H [(p1, .lst ((mergedM ms (2 ^ i + 2 ^ j) m).map V.int))] H1 := Own.start.newE n1 s1 c1
    have tM := mergedM_tab tb (show 0 < 2 ^ i + 2 ^ j by omega) (show 2 ^ i + 2 ^ j < ms.length by omega)
    rw [f2] at tM
    walk_at "x"
    refine u_turns (.inl (w1.get 0 rfl)) tM fun p2 H2 n2 s2 c2 => ?_
    have w2 := w1.newE n2 s2 c2
    have htl : (turnsM (mergedM ms (2 ^ i + 2 ^ j) m) (m - 1)).length = m - 1 := by unfold turnsM; rw [List.length_map, List.length_range]
    have hmin : (if (j : Int) < (i : Int) then (j : Int) else (i : Int)) = ((min i j : Nat) : Int) := by
      by_cases c : j < i
      · rw [if_pos (by omega), Nat.min_eq_right (by omega)]
      · rw [if_neg (by omega), Nat.min_eq_left (by omega)]
    have hmlt : min i j < m - 1 := by omega
    walk_at "x"
    refine x_isiListL (.inl (w2.get 0 rfl)) ?_
    walk_at "x"
    refine iteF ?_
    walk_at "x"
    refine x_lenL (w2.sq 0 rfl) ?_
    rw [List.length_map, htl]
    walk_at "x"
    rw [decide_eq_true (show ((m - 1 : Nat) : Int) = (m : Int) - 1 by omega)]
    refine iteF ?_
    walk_at "x"
    rw [hmin]
    refine x_ixXL (w2.sq 0 rfl) (at_int (ns := turnsM (mergedM ms (2 ^ i + 2 ^ j) m) (m - 1)) (i := ((min i j : Nat) : Int)) (by omega) (by omega)) ?_
    walk_at "x"
    refine ⟨_, rfl, .int _, fun H3 s3 => ?_⟩
    have w3 := w2.ext s3
    walk_at "x"
    refine iteF ?_
    walk_at "x"
    rw [hmin]
    refine x_ixXL (w3.sq 0 rfl) (at_int (ns := turnsM (mergedM ms (2 ^ i + 2 ^ j) m) (m - 1)) (i := ((min i j : Nat) : Int)) (by omega) (by omega)) ?_
    walk_at "x"
    refine x_mulI (.of_left (by decide)) ?_
    walk_at "x"
    refine ⟨a, ms, m, i, rfl, w3.seq hS, tb, him, fun H4 s4 => ?_⟩
    have w4 := w3.ext s4
    walk_at "x"
    refine ⟨a, ms, m, j, rfl, w4.seq hS, tb, hjm, fun H5 s5 => ?_⟩
    have w5 := w4.ext s5
    walk_at "x"
    rw [turnsM_at hmlt, f3, decide_eq_true rfl]
    exact k.go w5.ex

/-! ### law -/
def sp_law (K : PySem.W.Frag) : Sp := fun vs H Q _ => ∃ (a : Addr) (ns : List Int), vs = [.ref a] ∧ SqL K H a (ns.map V.int) ∧ ns.length ≤ 63 ∧ ∀ H', Q (.bl true) H'
theorem x_asgG {te : TE} {tg : V → L2.St → Hp → (L2.St → Hp → Prop) → Prop} {D : Ends} {σ : L2.St} {H : Hp} (h : te σ H fun x H1 => tg x σ H1 fun σ2 H2 => D.nx σ2 H2) : tAsg te tg D σ H := h
theorem many_at {r : Int} (h0 : 0 ≤ r) (h1 : r < 9) : ∃ m : Nat, atI [V.int 1, V.int 2, V.int 3, V.int 3, V.int 4, V.int 4, V.int 4, V.int 4, V.int 5] r = some (.int (m : Int)) ∧ 1 ≤ m ∧ m ≤ 5 := by
  rcases (show r = 0 ∨ r = 1 ∨ r = 2 ∨ r = 3 ∨ r = 4 ∨ r = 5 ∨ r = 6 ∨ r = 7 ∨ r = 8 by omega) with e | e | e | e | e | e | e | e | e <;> subst e
  · exact ⟨1, rfl, by decide, by decide⟩
  · exact ⟨2, rfl, by decide, by decide⟩
  · exact ⟨3, rfl, by decide, by decide⟩
  · exact ⟨3, rfl, by decide, by decide⟩
  · exact ⟨4, rfl, by decide, by decide⟩
  · exact ⟨4, rfl, by decide, by decide⟩
  · exact ⟨4, rfl, by decide, by decide⟩
  · exact ⟨4, rfl, by decide, by decide⟩
  · exact ⟨5, rfl, by decide, by decide⟩
theorem sumT_add {xs ys : List Int} (hl : xs.length = ys.length) {g : Nat} (hg : g < xs.length) : fn (sumT xs ys) g = fn xs g + fn ys g := by
  unfold fn gi
  rw [Int.toNat_natCast, List.getD_eq_getElem?_getD, List.getD_eq_getElem?_getD, List.getD_eq_getElem?_getD, sumT_at (List.getElem?_eq_getElem hg) (List.getElem?_eq_getElem (by omega)), List.getElem?_eq_getElem hg, List.getElem?_eq_getElem (show g < ys.length by omega)] <;> rfl
theorem twice_sh {ms : List Int} {m : Nat} (tb : Tab ms m) : (shM (sumT ms (turnM ms)) m) = (shM ms m).map fun z => 2 * z := by
  have hm := tb.hi
  unfold shM
  rw [List.map_map]
  refine List.map_congr_left fun h hh => ?_
  rw [List.mem_range] at hh
  show _ = 2 * shF ms m h
  rw [sh_add (ms := ms) (ns := turnM ms) (bs := sumT ms (turnM ms)) (m := m) (fun g hg => sumT_add (by rw [turnM_len]) (by rw [tb.len]; exact hg)) (by omega) hh, sh_turn tb hh]
  omega
theorem mean_two {ms : List Int} {m : Nat} (tb : Tab ms m) : meanFs (divM (sumT ms (turnM ms)) m) (sumT ms (turnM ms)).length m = (shM ms m).map fun z => shortM (2 * z) 60 := by
  have t2 := sumT_tab tb tb.turn
  unfold meanFs shM
  rw [List.map_map]
  refine List.map_congr_left fun h hh => ?_
  show _ = shortM (2 * shF ms m h) 60
  have hh := List.mem_range.mp hh
  have hm := tb.hi
  rw [show topsF (divM (sumT ms (turnM ms)) m) (sumT ms (turnM ms)).length h = shF (sumT ms (turnM ms)) m h from tops_sh t2 hh]
  rw [sh_add (ms := ms) (ns := turnM ms) (bs := sumT ms (turnM ms)) (m := m) (fun g hg => sumT_add (by rw [turnM_len]) (by rw [tb.len]; exact hg)) (by omega) hh, sh_turn tb hh]
  congr 1
  omega
theorem sumT_bnd {xs ys : List Int} {b c : Int} (h1 : Bnd b xs) (h2 : Bnd c ys) : Bnd (b + c) (sumT xs ys) := fun z hz => by
  unfold sumT at hz
  obtain ⟨i, hi, e⟩ := List.mem_iff_getElem.mp hz
  rw [List.getElem_zipWith] at e
  have h3 := h1 _ (List.getElem_mem (l := xs) (by rw [List.length_zipWith] at hi; omega : i < xs.length))
  have h4 := h2 _ (List.getElem_mem (l := ys) (by rw [List.length_zipWith] at hi; omega : i < ys.length))
  omega
theorem turn_bnd {xs : List Int} {b : Int} (h0 : 0 ≤ b) (h : Bnd b xs) : Bnd (2 * b) (turnM xs) := fun z hz => by
  unfold turnM at hz
  obtain ⟨g, _, rfl⟩ := List.mem_map.mp hz
  have b1 := Bnd.at h0 h ((xs.length : Int) - 1)
  have b2 := Bnd.at h0 h ((xs.length : Int) - 1 - (g : Int))
  omega
theorem oks61 {m j : Nat} (h1 : 1 ≤ m) (h5 : m ≤ 5) (hj : 1 ≤ j) (h : m < 5 ∧ j ≤ 2 ∨ m = 5 ∧ j = 1) : besOk m j = true ∧ besSh m j = true ∧ m + j ≤ 6 := by
  rcases h with ⟨a, b⟩ | ⟨rfl, rfl⟩
  · exact ⟨bes_okA m a j (by omega), bes_shA m a j (by omega), by omega⟩
  · exact ⟨bes_okB, bes_shB, by decide⟩
theorem ok_law (T : Txt K mg A) : FnOk P w K mg base (L2.CX P w) 7 A.a_law A.d_law ["_law_script"] (sp_law K) := by
  refine T.F_law.okX sc_law (fun vs H Q E h => ?_) (fun cdv A0 outer s H vs Q E hr h => ?_)
  · obtain ⟨a, ns, rfl, _⟩ := h; rfl
  · obtain ⟨a, ns, rfl, hS, hl, k⟩ := h
    refine ⟨_, (pss_cons (ps_set (i := 1) sc_law.nd rfl (.inl rfl) (pe_call (ok__law_draws T) (hr.mono (by decide)) (by rfl) T.g__law_draws T.F__law_draws.kp T.b__law_draws .nil (passes_call (takes_of rfl rfl rfl rfl) (fun _ _ _ _ h => h)) (pa_cons (pv 0) pa_nil)))
      (pss_cons (ps_set (i := 2) sc_law.nd rfl (.inl rfl) (pe_ix (ix_seqK (K := K) rfl) (pe_lst (pa_cons pe_int (pa_cons pe_int (pa_cons pe_int (pa_cons pe_int (pa_cons pe_int (pa_cons pe_int (pa_cons pe_int (pa_cons pe_int (pa_cons pe_int pa_nil)))))))))) (pe_op op_modX (pe_call (ok__law_cell T) (hr.mono (by decide)) (by rfl) T.g__law_cell T.F__law_cell.kp T.b__law_cell .nil (passes_call (takes_of rfl rfl rfl rfl) (fun _ _ _ _ h => h)) (pa_cons (pv 1) (pa_cons pe_int pa_nil))) pe_int) (fun _ _ => rfl)))
      (pss_cons (ps_set (i := 3) sc_law.nd rfl (.inl rfl) (pe_op op_addX pe_int (pe_op op_mulX (pe_callTy call_int1X (by rfl) T.z_int (by decide +kernel) (pa_cons (pe_cmpR op_ltX (pv 2) pe_int (nomark _)) pa_nil)) (pe_op op_modX (pe_op op_fdivX (pe_call (ok__law_cell T) (hr.mono (by decide)) (by rfl) T.g__law_cell T.F__law_cell.kp T.b__law_cell .nil (passes_call (takes_of rfl rfl rfl rfl) (fun _ _ _ _ h => h)) (pa_cons (pv 1) (pa_cons pe_int pa_nil))) pe_int) pe_int))))
      (pss_cons (ps_asg (pe_call (ok__law_tables T) (hr.mono (by decide)) (by rfl) T.g__law_tables T.F__law_tables.kp T.b__law_tables .nil (passes_call (takes_of rfl rfl rfl rfl) (fun _ _ _ _ h => h)) (pa_cons (pv 1) (pa_cons (pv 2) (pa_cons (pv 3) pa_nil)))) (pg_lstK (K := K) (n := 2) rfl rfl (pgs_cons (pg_name (i := 4) sc_law.nd rfl (.inl rfl)) (pgs_cons (pg_name (i := 5) sc_law.nd rfl (.inl rfl)) pgs_nil))))
      (pss_cons (ps_set (i := 6) sc_law.nd rfl (.inl rfl) (pe_call (ok__law_dividends T) (hr.mono (by decide)) (by rfl) T.g__law_dividends T.F__law_dividends.kp T.b__law_dividends .nil (passes_call (takes_of rfl rfl rfl rfl) (fun _ _ _ _ h => h)) (pa_cons (pv 4) pa_nil)))
      (pss_cons (ps_set (i := 7) sc_law.nd rfl (.inl rfl) (pe_lst (pa_cons (pe_callTy (call_listK (K := K) rfl) (by rfl) T.z_list (by decide +kernel) (pa_cons (pv 4) pa_nil)) (pa_cons (pe_callTy (call_listK (K := K) rfl) (by rfl) T.z_list (by decide +kernel) (pa_cons (pv 5) pa_nil)) pa_nil))))
      (pss_cons (ps_set (i := 8) sc_law.nd rfl (.inl rfl) (pe_call (ok_turned T) (hr.mono (by decide)) (by rfl) T.g_turned T.F_turned.kp T.b_turned .nil (passes_call (takes_of rfl rfl rfl rfl) (fun _ _ _ _ h => h)) (pa_cons (pe_callTy (call_listK (K := K) rfl) (by rfl) T.z_list (by decide +kernel) (pa_cons (pv 4) pa_nil)) pa_nil)))
      (pss_cons (ps_if (pt_not (pt_val (pe_call (ok__law_numbers T) (hr.mono (by decide)) (by rfl) T.g__law_numbers T.F__law_numbers.kp T.b__law_numbers .nil (passes_call (takes_of rfl rfl rfl rfl) (fun _ _ _ _ h => h)) (pa_cons (pe_call (ok_turned T) (hr.mono (by decide)) (by rfl) T.g_turned T.F_turned.kp T.b_turned .nil (passes_call (takes_of rfl rfl rfl rfl) (fun _ _ _ _ h => h)) (pa_cons (pe_callTy (call_listK (K := K) rfl) (by rfl) T.z_list (by decide +kernel) (pa_cons (pv 8) pa_nil)) pa_nil)) (pa_cons (pv 4) pa_nil))))) (pss_one (ps_ret pe_bl)) pss_nil)
      (pss_cons (ps_if (pt_not (pt_val (pe_call (ok__law_mean T) (hr.mono (by decide)) (by rfl) T.g__law_mean T.F__law_mean.kp T.b__law_mean .nil (passes_call (takes_of rfl rfl rfl rfl) (fun _ _ _ _ h => h)) (pa_cons (pe_call (ok_mean_shares T) (hr.mono (by decide)) (by rfl) T.g_mean_shares T.F_mean_shares.kp T.b_mean_shares .nil (passes_call (takes_of rfl rfl rfl rfl) (fun _ _ _ _ h => h)) (pa_cons (pe_call (ok_summed T) (hr.mono (by decide)) (by rfl) T.g_summed T.F_summed.kp T.b_summed .nil (passes_call (takes_of rfl rfl rfl rfl) (fun _ _ _ _ h => h)) (pa_cons (pe_callTy (call_listK (K := K) rfl) (by rfl) T.z_list (by decide +kernel) (pa_cons (pv 4) pa_nil)) (pa_cons (pe_callTy (call_listK (K := K) rfl) (by rfl) T.z_list (by decide +kernel) (pa_cons (pv 8) pa_nil)) pa_nil))) pa_nil)) (pa_cons (pe_call (ok__law_sixty T) (hr.mono (by decide)) (by rfl) T.g__law_sixty T.F__law_sixty.kp T.b__law_sixty .nil (passes_call (takes_of rfl rfl rfl rfl) (fun _ _ _ _ h => h)) (pa_cons (pv 6) (pa_cons (pv 2) pa_nil))) (pa_cons pe_int pa_nil)))))) (pss_one (ps_ret pe_bl)) pss_nil)
      (pss_cons (ps_if (pt_not (pt_val (pe_call (ok__law_cut T) (hr.mono (by decide)) (by rfl) T.g__law_cut T.F__law_cut.kp T.b__law_cut .nil (passes_call (takes_of rfl rfl rfl rfl) (fun _ _ _ _ h => h)) (pa_cons (pv 4) (pa_cons (pv 6) (pa_cons (pe_op op_addX pe_int (pe_op op_modX (pe_call (ok__law_cell T) (hr.mono (by decide)) (by rfl) T.g__law_cell T.F__law_cell.kp T.b__law_cell .nil (passes_call (takes_of rfl rfl rfl rfl) (fun _ _ _ _ h => h)) (pa_cons (pv 1) (pa_cons pe_int pa_nil))) (pe_op op_subX (pe_callB (call_lenK (K := K) rfl) (by rfl) T.z_len (by decide +kernel) (pa_cons (pv 4) pa_nil)) pe_int))) pa_nil)))))) (pss_one (ps_ret pe_bl)) pss_nil)
      (pss_cons (ps_if (PW.pt (pw_or (pt_not (pt_val (pe_call (ok__law_beside T) (hr.mono (by decide)) (by rfl) T.g__law_beside T.F__law_beside.kp T.b__law_beside .nil (passes_call (takes_of rfl rfl rfl rfl) (fun _ _ _ _ h => h)) (pa_cons (pv 4) (pa_cons (pv 5) (pa_cons (pv 2) (pa_cons (pv 3) pa_nil))))))) (pw_or1 (pt_not (pt_val (pe_call (ok__law_merged T) (hr.mono (by decide)) (by rfl) T.g__law_merged T.F__law_merged.kp T.b__law_merged .nil (passes_call (takes_of rfl rfl rfl rfl) (fun _ _ _ _ h => h)) (pa_cons (pv 4) (pa_cons (pv 2) (pa_cons (pe_call (ok__law_cell T) (hr.mono (by decide)) (by rfl) T.g__law_cell T.F__law_cell.kp T.b__law_cell .nil (passes_call (takes_of rfl rfl rfl rfl) (fun _ _ _ _ h => h)) (pa_cons (pv 1) (pa_cons pe_int pa_nil))) pa_nil))))))))) (pss_one (ps_ret pe_bl)) pss_nil)
      (pss_one (ps_ret (pe_cmpR (op_eqK (K := K) rfl hr.units) (pv 7) (pe_lst (pa_cons (pv 4) (pa_cons (pv 5) pa_nil))) (nomark _))))))))))))))), ?_⟩
    walk_at "x"
    refine ⟨a, ns, rfl, hS, hl, fun ds dr p1 H1 n1 s1 c1 => ?_⟩
    have w1 : Own H [(p1, .lst (ds.map V.int))] H1 := Own.start.newE n1 s1 c1
    have hd := dr.1
    walk_at "x"
    refine ⟨(by show 9 ≤ sizeLine; decide), fun p2 n2 => ?_⟩
    have w2 := w1.new (o := .lst [.int 1, .int 2, .int 3, .int 3, .int 4, .int 4, .int 4, .int 4, .int 5]) n2
    walk_at "x"
    refine ⟨p1, ds, 0, rfl, w2.sq 1 rfl, fun H3 s3 => ?_⟩
    have w3 := w2.ext s3
    walk_at "x"
    refine x_modP (by decide) ?_
    obtain ⟨m, em, m1, m5⟩ := many_at (r := gi ds ((0 : Nat) : Int) % 9) (Int.emod_nonneg _ (by decide)) (Int.emod_lt_of_pos _ (by decide))
    refine x_ixXL (w3.sq 0 rfl) em ?_
    have w3 := w3.pop
    walk_at "x"
    refine .inr ⟨_, rfl, ?_⟩
    walk_at "x"
    refine ⟨p1, ds, 0, rfl, w3.sq 0 rfl, fun H4 s4 => ?_⟩
    have w4 := w3.ext s4
    walk_at "x"
    refine x_divP (by decide) (by decide) ?_
    walk_at "x"
    refine x_modP (by decide) ?_
    have r0 := Int.emod_nonneg (gi ds ((0 : Nat) : Int) / 9) (show (2 : Int) ≠ 0 by decide)
    have r1 := Int.emod_lt_of_pos (gi ds ((0 : Nat) : Int) / 9) (show (0 : Int) < 2 by decide)
    generalize gi ds ((0 : Nat) : Int) / 9 % 2 = u at r0 r1 ⊢
    refine x_mulI (.of_right (intBits_le_64 (by omega) (by omega))) ?_
    obtain ⟨j, ej, hj1, hj⟩ : ∃ j : Nat, 1 + (if decide ((m : Int) < 5) = true then (1 : Int) else 0) * u = (j : Int) ∧ 1 ≤ j ∧ (m < 5 ∧ j ≤ 2 ∨ m = 5 ∧ j = 1) := by
      by_cases c : m < 5
      · refine ⟨(1 + u).toNat, by rw [if_pos (decide_eq_true (by omega))]; omega, by omega, .inl ⟨c, by omega⟩⟩
      · refine ⟨1, by rw [if_neg (fun e => c (by have := of_decide_eq_true e; omega))]; omega, by decide, .inr ⟨by omega, rfl⟩⟩
    obtain ⟨bo, bs, h6⟩ := oks61 m1 m5 hj1 hj
    walk_at "x"
    rw [ej]
    refine x_asgG ?_
    walk_at "x"
    refine ⟨p1, ds, m, j, rfl, w4.sq 0 rfl, dr.2.1, m1, by omega, hj1, by omega, fun xs ys tx ty bx by_ q0 q1 q2 H5 w5 => ?_⟩
    have w5 := own_join w4 w5
    have px := tx.pos
    have lx := tx.len
    have hdl : (divM xs m).length = xs.length := tl_len _ _
    refine x_gl (w5.sq 0 rfl) rfl ?_
    walk_at "x"
    have w5 := w5.pop
    refine ⟨q1, xs, m, rfl, w5.sq 0 rfl, tx, fun p6 H6 n6 s6 c6 => ?_⟩
    have w6 := w5.newE n6 s6 c6
    walk_at "x"
    refine x_list (w6.sq 1 rfl) (fun p7 n7 => ?_)
    have w7 := w6.new (o := .lst (xs.map V.int)) n7
    walk_at "x"
    refine x_list (w7.sq 3 rfl) (fun p8 n8 => ?_)
    have w8 := w7.new (o := .lst (ys.map V.int)) n8
    refine ⟨(by show 2 ≤ sizeLine; decide), fun p9 n9 => ?_⟩
    have w9 := w8.new (o := .lst [.ref p7, .ref p8]) n9
    walk_at "x"
    refine x_list (w9.sq 4 rfl) (fun p10 n10 => ?_)
    have w10 := w9.new (o := .lst (xs.map V.int)) n10
    walk_at "x"
    refine u_turned (.inl (w10.get 0 rfl)) tx fun p11 H11 n11 s11 c11 => ?_
    have w11 := w10.newE n11 s11 c11
    walk_at "x"
    refine x_list (w11.sq 0 rfl) (fun p12 n12 => ?_)
    have w12 := w11.new (o := .lst ((turnM xs).map V.int)) n12
    walk_at "x"
    refine u_turned (.inl (w12.get 0 rfl)) tx.turn fun p13 H13 n13 s13 c13 => ?_
    rw [turnM_turnM tx] at c13
    have w13 := w12.newE n13 s13 c13
    walk_at "x"
    refine ⟨p13, q1, xs, rfl, .inl (w13.get 0 rfl), w13.sq 8 rfl, fun H14 s14 => ?_⟩
    have w14 := w13.ext s14
    walk_at "x"
    refine iteF ?_
    walk_at "x"
    refine x_list (w14.sq 8 rfl) (fun p15 n15 => ?_)
    have w15 := w14.new (o := .lst (xs.map V.int)) n15
    walk_at "x"
    refine x_list (w15.sq 3 rfl) (fun p16 n16 => ?_)
    have w16 := w15.new (o := .lst ((turnM xs).map V.int)) n16
    walk_at "x"
    refine u_summed (.inl (w16.get 1 rfl)) (.inl (w16.get 0 rfl)) tx tx.turn fun p17 H17 n17 s17 c17 => ?_
    have w17 := w16.newE n17 s17 c17
    have tS := sumT_tab tx tx.turn
    have hbd : Bdd (80 + m) (fn (divM (sumT xs (turnM xs)) m)) := div_bdd tS (bdd_bnd (by decide) (sumT_bnd bx (turn_bnd (by decide) bx)) (by decide))
    walk_at "x"
    refine ⟨p17, _, _, _, rfl, .inl (w17.get 0 rfl), tS, hbd, by omega, fun p18 t18 H18 n18 m18 s18 c18 f18 => ?_⟩
    obtain ⟨B18, b18, f18, w18⟩ := own_newF w17 n18 m18 s18 c18 f18
    rw [mean_two tx] at f18
    walk_at "x"
    refine ⟨p6, _, m, rfl, w18.sq 11 rfl, by omega, by omega, fun p19 H19 n19 s19 c19 => ?_⟩
    rw [tops_sh2 tx] at c19
    have w19 := w18.newE n19 s19 c19
    walk_at "x"
    refine ⟨p18, p19, t18, shM xs m, 2, rfl, .inl (w19.get 1 rfl), f18.same w19.ex, w19.sq 0 rfl, by decide, by decide, fun z hz => ⟨_, sh_bits tS hbd (by omega) (2 * z) (by rw [twice_sh tx]; exact List.mem_map.mpr ⟨z, hz, rfl⟩)⟩, fun H20 s20 => ?_⟩
    have w20 := w19.ext s20
    walk_at "x"
    refine iteF ?_
    walk_at "x"
    refine ⟨p1, ds, 1, rfl, w20.sq 15 rfl, fun H21 s21 => ?_⟩
    have w21 := w20.ext s21
    walk_at "x"
    refine x_lenL (w21.sq 13 rfl) ?_
    rw [List.length_map]
    walk_at "x"
    refine x_modP (by omega) ?_
    have g0 := Int.emod_nonneg (gi ds ((1 : Nat) : Int)) (show (xs.length : Int) - 1 ≠ 0 by omega)
    have g1 := Int.emod_lt_of_pos (gi ds ((1 : Nat) : Int)) (show (0 : Int) < (xs.length : Int) - 1 by omega)
    obtain ⟨g, eg⟩ := Int.eq_ofNat_of_zero_le (show 0 ≤ 1 + gi ds ((1 : Nat) : Int) % ((xs.length : Int) - 1) by omega)
    walk_at "x"
    rw [eg]
    refine ⟨q1, p6, xs, m, g, rfl, .inl (w21.get 13 rfl), w21.sq 12 rfl, tx, by omega, by omega, by omega, fun H22 s22 => ?_⟩
    have w22 := w21.ext s22
    walk_at "x"
    refine iteF ?_
    walk_at "x"
    refine ⟨q1, q2, xs, ys, m, j, rfl, .inl (w22.get 13 rfl), .inl (w22.get 14 rfl), tx, ty, h6, bo, bs, bx, by_, fun H23 s23 => ?_⟩
    have w23 := w22.ext s23
    walk_at "x"
    refine iteF ?_
    walk_at "x"
    refine ⟨p1, ds, 2, rfl, w23.sq 15 rfl, fun H24 s24 => ?_⟩
    have w24 := w23.ext s24
    walk_at "x"
    refine ⟨q1, xs, m, _, rfl, .inl (w24.get 13 rfl), tx, fun H25 s25 => ?_⟩
    have w25 := w24.ext s25
    walk_at "x"
    refine iteF ?_
    walk_at "x"
    refine ⟨(by show 2 ≤ sizeLine; decide), fun p26 n26 => ?_⟩
    have w26 := w25.new (o := .lst [.ref q1, .ref q2]) n26
    refine x_eqD (dp_dd (w26.sq 10 rfl) (w26.sq 12 rfl) (w26.sq 11 rfl)) (dp_dd (w26.sq 0 rfl) (w26.sq 14 rfl) (w26.sq 15 rfl)) (lay_dd _ _) ?_
    exact k _

end
theorem all_mk {l : PySem.W.OpenLaw} {w : World} {K : PySem.W.Frag} {h : Heap} {mg : Str → Option Value} {fa f_is_whole f_divisor f_shortest f_fraction f_look_group f_whole_of f_hands_of f_size_of f_look f_summed f_beside f_hands_spread f_look_group_of f_cut f_merged f_turned f_dividends f_mean_shares f_adds_of f_turns f__law_cell f__law_draws f__law_whole f__law_divisor f__law_fraction f__law_fractions f__law_number f__law_ones f__law_dividends f__law_sixty f__law_numbers f__law_tables f__law_mean f__law_cut f__law_beside f__law_turns f__law_merged f_law C_NoNumber C_NoGroup C_NoTable C_Unlike C_TooMany : Addr} (X : K.In h) (G : h.Ns mainGlobals mg) (hfa : mg "law" = some (.ref fa))
    {t_MOST t_SIXTY : Tok} {od_is_whole an_is_whole od_divisor an_divisor od_shortest an_shortest od_fraction an_fraction od_look_group an_look_group od_whole_of an_whole_of od_hands_of an_hands_of od_size_of an_size_of od_look an_look od_summed an_summed od_beside an_beside od_hands_spread an_hands_spread od_look_group_of an_look_group_of od_cut an_cut od_merged an_merged od_turned an_turned od_dividends an_dividends od_mean_shares an_mean_shares od_adds_of an_adds_of od_turns an_turns od__law_cell an__law_cell od__law_draws an__law_draws od__law_whole an__law_whole od__law_divisor an__law_divisor od__law_fraction an__law_fraction od__law_fractions an__law_fractions od__law_number an__law_number od__law_ones an__law_ones od__law_dividends an__law_dividends od__law_sixty an__law_sixty od__law_numbers an__law_numbers od__law_tables an__law_tables od__law_mean an__law_mean od__law_cut an__law_cut od__law_beside an__law_beside od__law_turns an__law_turns od__law_merged an__law_merged od_law an_law : Option Addr} {sl_is_whole sl_divisor sl_shortest sl_fraction sl_look_group sl_whole_of sl_hands_of sl_size_of sl_look sl_summed sl_beside sl_hands_spread sl_look_group_of sl_cut sl_merged sl_turned sl_dividends sl_mean_shares sl_adds_of sl_turns sl__law_cell sl__law_draws sl__law_whole sl__law_divisor sl__law_fraction sl__law_fractions sl__law_number sl__law_ones sl__law_dividends sl__law_sixty sl__law_numbers sl__law_tables sl__law_mean sl__law_cut sl__law_beside sl__law_turns sl__law_merged sl_law : Array (Option Value)} {oc_is_whole kV_is_whole dc_is_whole pm_is_whole cd_is_whole ct_is_whole oc_divisor kV_divisor dc_divisor pm_divisor cd_divisor ct_divisor oc_shortest kV_shortest dc_shortest pm_shortest cd_shortest ct_shortest oc_fraction kV_fraction dc_fraction pm_fraction cd_fraction ct_fraction oc_look_group kV_look_group dc_look_group pm_look_group cd_look_group ct_look_group oc_whole_of kV_whole_of dc_whole_of pm_whole_of cd_whole_of ct_whole_of oc_hands_of kV_hands_of dc_hands_of pm_hands_of cd_hands_of ct_hands_of oc_size_of kV_size_of dc_size_of pm_size_of cd_size_of ct_size_of oc_look kV_look dc_look pm_look cd_look ct_look oc_summed kV_summed dc_summed pm_summed cd_summed ct_summed oc_beside kV_beside dc_beside pm_beside cd_beside ct_beside oc_hands_spread kV_hands_spread dc_hands_spread pm_hands_spread cd_hands_spread ct_hands_spread oc_look_group_of kV_look_group_of dc_look_group_of pm_look_group_of cd_look_group_of ct_look_group_of oc_cut kV_cut dc_cut pm_cut cd_cut ct_cut oc_merged kV_merged dc_merged pm_merged cd_merged ct_merged oc_turned kV_turned dc_turned pm_turned cd_turned ct_turned oc_dividends kV_dividends dc_dividends pm_dividends cd_dividends ct_dividends oc_mean_shares kV_mean_shares dc_mean_shares pm_mean_shares cd_mean_shares ct_mean_shares oc_adds_of kV_adds_of dc_adds_of pm_adds_of cd_adds_of ct_adds_of oc_turns kV_turns dc_turns pm_turns cd_turns ct_turns oc__law_cell kV__law_cell dc__law_cell pm__law_cell cd__law_cell ct__law_cell oc__law_draws kV__law_draws dc__law_draws pm__law_draws cd__law_draws ct__law_draws oc__law_whole kV__law_whole dc__law_whole pm__law_whole cd__law_whole ct__law_whole oc__law_divisor kV__law_divisor dc__law_divisor pm__law_divisor cd__law_divisor ct__law_divisor oc__law_fraction kV__law_fraction dc__law_fraction pm__law_fraction cd__law_fraction ct__law_fraction oc__law_fractions kV__law_fractions dc__law_fractions pm__law_fractions cd__law_fractions ct__law_fractions oc__law_number kV__law_number dc__law_number pm__law_number cd__law_number ct__law_number oc__law_ones kV__law_ones dc__law_ones pm__law_ones cd__law_ones ct__law_ones oc__law_dividends kV__law_dividends dc__law_dividends pm__law_dividends cd__law_dividends ct__law_dividends oc__law_sixty kV__law_sixty dc__law_sixty pm__law_sixty cd__law_sixty ct__law_sixty oc__law_numbers kV__law_numbers dc__law_numbers pm__law_numbers cd__law_numbers ct__law_numbers oc__law_tables kV__law_tables dc__law_tables pm__law_tables cd__law_tables ct__law_tables oc__law_mean kV__law_mean dc__law_mean pm__law_mean cd__law_mean ct__law_mean oc__law_cut kV__law_cut dc__law_cut pm__law_cut cd__law_cut ct__law_cut oc__law_beside kV__law_beside dc__law_beside pm__law_beside cd__law_beside ct__law_beside oc__law_turns kV__law_turns dc__law_turns pm__law_turns cd__law_turns ct__law_turns oc__law_merged kV__law_merged dc__law_merged pm__law_merged cd__law_merged ct__law_merged oc_law kV_law dc_law pm_law cd_law ct_law : Value}
    (a_is_whole : PySem.W.nsIn K mainGlobals "is_whole" = some (some (.ref f_is_whole)))
    (l_is_whole : K.lookup f_is_whole = some ⟨oc_is_whole, od_is_whole, .func (PySem.W.fnOf "is_whole" "is_whole" (defArgs s_is_whole) (defBody s_is_whole) (defScope s_is_whole) .none kV_is_whole dc_is_whole pm_is_whole an_is_whole cd_is_whole ct_is_whole), sl_is_whole⟩)
    (c_is_whole : PySem.W.codeIn K cd_is_whole "is_whole" = true)
    (k_is_whole : PySem.W.keepIn K (.ref f_is_whole) = true)
    (a_divisor : PySem.W.nsIn K mainGlobals "divisor" = some (some (.ref f_divisor)))
    (l_divisor : K.lookup f_divisor = some ⟨oc_divisor, od_divisor, .func (PySem.W.fnOf "divisor" "divisor" (defArgs s_divisor) (defBody s_divisor) (defScope s_divisor) .none kV_divisor dc_divisor pm_divisor an_divisor cd_divisor ct_divisor), sl_divisor⟩)
    (c_divisor : PySem.W.codeIn K cd_divisor "divisor" = true)
    (k_divisor : PySem.W.keepIn K (.ref f_divisor) = true)
    (a_shortest : PySem.W.nsIn K mainGlobals "shortest" = some (some (.ref f_shortest)))
    (l_shortest : K.lookup f_shortest = some ⟨oc_shortest, od_shortest, .func (PySem.W.fnOf "shortest" "shortest" (defArgs s_shortest) (defBody s_shortest) (defScope s_shortest) .none kV_shortest dc_shortest pm_shortest an_shortest cd_shortest ct_shortest), sl_shortest⟩)
    (c_shortest : PySem.W.codeIn K cd_shortest "shortest" = true)
    (k_shortest : PySem.W.keepIn K (.ref f_shortest) = true)
    (a_fraction : PySem.W.nsIn K mainGlobals "fraction" = some (some (.ref f_fraction)))
    (l_fraction : K.lookup f_fraction = some ⟨oc_fraction, od_fraction, .func (PySem.W.fnOf "fraction" "fraction" (defArgs s_fraction) (defBody s_fraction) (defScope s_fraction) .none kV_fraction dc_fraction pm_fraction an_fraction cd_fraction ct_fraction), sl_fraction⟩)
    (c_fraction : PySem.W.codeIn K cd_fraction "fraction" = true)
    (k_fraction : PySem.W.keepIn K (.ref f_fraction) = true)
    (a_look_group : PySem.W.nsIn K mainGlobals "look_group" = some (some (.ref f_look_group)))
    (l_look_group : K.lookup f_look_group = some ⟨oc_look_group, od_look_group, .func (PySem.W.fnOf "look_group" "look_group" (defArgs s_look_group) (defBody s_look_group) (defScope s_look_group) .none kV_look_group dc_look_group pm_look_group an_look_group cd_look_group ct_look_group), sl_look_group⟩)
    (c_look_group : PySem.W.codeIn K cd_look_group "look_group" = true)
    (k_look_group : PySem.W.keepIn K (.ref f_look_group) = true)
    (a_whole_of : PySem.W.nsIn K mainGlobals "whole_of" = some (some (.ref f_whole_of)))
    (l_whole_of : K.lookup f_whole_of = some ⟨oc_whole_of, od_whole_of, .func (PySem.W.fnOf "whole_of" "whole_of" (defArgs s_whole_of) (defBody s_whole_of) (defScope s_whole_of) .none kV_whole_of dc_whole_of pm_whole_of an_whole_of cd_whole_of ct_whole_of), sl_whole_of⟩)
    (c_whole_of : PySem.W.codeIn K cd_whole_of "whole_of" = true)
    (k_whole_of : PySem.W.keepIn K (.ref f_whole_of) = true)
    (a_hands_of : PySem.W.nsIn K mainGlobals "hands_of" = some (some (.ref f_hands_of)))
    (l_hands_of : K.lookup f_hands_of = some ⟨oc_hands_of, od_hands_of, .func (PySem.W.fnOf "hands_of" "hands_of" (defArgs s_hands_of) (defBody s_hands_of) (defScope s_hands_of) .none kV_hands_of dc_hands_of pm_hands_of an_hands_of cd_hands_of ct_hands_of), sl_hands_of⟩)
    (c_hands_of : PySem.W.codeIn K cd_hands_of "hands_of" = true)
    (k_hands_of : PySem.W.keepIn K (.ref f_hands_of) = true)
    (a_size_of : PySem.W.nsIn K mainGlobals "size_of" = some (some (.ref f_size_of)))
    (l_size_of : K.lookup f_size_of = some ⟨oc_size_of, od_size_of, .func (PySem.W.fnOf "size_of" "size_of" (defArgs s_size_of) (defBody s_size_of) (defScope s_size_of) .none kV_size_of dc_size_of pm_size_of an_size_of cd_size_of ct_size_of), sl_size_of⟩)
    (c_size_of : PySem.W.codeIn K cd_size_of "size_of" = true)
    (k_size_of : PySem.W.keepIn K (.ref f_size_of) = true)
    (a_look : PySem.W.nsIn K mainGlobals "look" = some (some (.ref f_look)))
    (l_look : K.lookup f_look = some ⟨oc_look, od_look, .func (PySem.W.fnOf "look" "look" (defArgs s_look) (defBody s_look) (defScope s_look) .none kV_look dc_look pm_look an_look cd_look ct_look), sl_look⟩)
    (c_look : PySem.W.codeIn K cd_look "look" = true)
    (k_look : PySem.W.keepIn K (.ref f_look) = true)
    (a_summed : PySem.W.nsIn K mainGlobals "summed" = some (some (.ref f_summed)))
    (l_summed : K.lookup f_summed = some ⟨oc_summed, od_summed, .func (PySem.W.fnOf "summed" "summed" (defArgs s_summed) (defBody s_summed) (defScope s_summed) .none kV_summed dc_summed pm_summed an_summed cd_summed ct_summed), sl_summed⟩)
    (c_summed : PySem.W.codeIn K cd_summed "summed" = true)
    (k_summed : PySem.W.keepIn K (.ref f_summed) = true)
    (a_beside : PySem.W.nsIn K mainGlobals "beside" = some (some (.ref f_beside)))
    (l_beside : K.lookup f_beside = some ⟨oc_beside, od_beside, .func (PySem.W.fnOf "beside" "beside" (defArgs s_beside) (defBody s_beside) (defScope s_beside) .none kV_beside dc_beside pm_beside an_beside cd_beside ct_beside), sl_beside⟩)
    (c_beside : PySem.W.codeIn K cd_beside "beside" = true)
    (k_beside : PySem.W.keepIn K (.ref f_beside) = true)
    (a_hands_spread : PySem.W.nsIn K mainGlobals "hands_spread" = some (some (.ref f_hands_spread)))
    (l_hands_spread : K.lookup f_hands_spread = some ⟨oc_hands_spread, od_hands_spread, .func (PySem.W.fnOf "hands_spread" "hands_spread" (defArgs s_hands_spread) (defBody s_hands_spread) (defScope s_hands_spread) .none kV_hands_spread dc_hands_spread pm_hands_spread an_hands_spread cd_hands_spread ct_hands_spread), sl_hands_spread⟩)
    (c_hands_spread : PySem.W.codeIn K cd_hands_spread "hands_spread" = true)
    (k_hands_spread : PySem.W.keepIn K (.ref f_hands_spread) = true)
    (a_look_group_of : PySem.W.nsIn K mainGlobals "look_group_of" = some (some (.ref f_look_group_of)))
    (l_look_group_of : K.lookup f_look_group_of = some ⟨oc_look_group_of, od_look_group_of, .func (PySem.W.fnOf "look_group_of" "look_group_of" (defArgs s_look_group_of) (defBody s_look_group_of) (defScope s_look_group_of) .none kV_look_group_of dc_look_group_of pm_look_group_of an_look_group_of cd_look_group_of ct_look_group_of), sl_look_group_of⟩)
    (c_look_group_of : PySem.W.codeIn K cd_look_group_of "look_group_of" = true)
    (k_look_group_of : PySem.W.keepIn K (.ref f_look_group_of) = true)
    (a_cut : PySem.W.nsIn K mainGlobals "cut" = some (some (.ref f_cut)))
    (l_cut : K.lookup f_cut = some ⟨oc_cut, od_cut, .func (PySem.W.fnOf "cut" "cut" (defArgs s_cut) (defBody s_cut) (defScope s_cut) .none kV_cut dc_cut pm_cut an_cut cd_cut ct_cut), sl_cut⟩)
    (c_cut : PySem.W.codeIn K cd_cut "cut" = true)
    (k_cut : PySem.W.keepIn K (.ref f_cut) = true)
    (a_merged : PySem.W.nsIn K mainGlobals "merged" = some (some (.ref f_merged)))
    (l_merged : K.lookup f_merged = some ⟨oc_merged, od_merged, .func (PySem.W.fnOf "merged" "merged" (defArgs s_merged) (defBody s_merged) (defScope s_merged) .none kV_merged dc_merged pm_merged an_merged cd_merged ct_merged), sl_merged⟩)
    (c_merged : PySem.W.codeIn K cd_merged "merged" = true)
    (k_merged : PySem.W.keepIn K (.ref f_merged) = true)
    (a_turned : PySem.W.nsIn K mainGlobals "turned" = some (some (.ref f_turned)))
    (l_turned : K.lookup f_turned = some ⟨oc_turned, od_turned, .func (PySem.W.fnOf "turned" "turned" (defArgs s_turned) (defBody s_turned) (defScope s_turned) .none kV_turned dc_turned pm_turned an_turned cd_turned ct_turned), sl_turned⟩)
    (c_turned : PySem.W.codeIn K cd_turned "turned" = true)
    (k_turned : PySem.W.keepIn K (.ref f_turned) = true)
    (a_dividends : PySem.W.nsIn K mainGlobals "dividends" = some (some (.ref f_dividends)))
    (l_dividends : K.lookup f_dividends = some ⟨oc_dividends, od_dividends, .func (PySem.W.fnOf "dividends" "dividends" (defArgs s_dividends) (defBody s_dividends) (defScope s_dividends) .none kV_dividends dc_dividends pm_dividends an_dividends cd_dividends ct_dividends), sl_dividends⟩)
    (c_dividends : PySem.W.codeIn K cd_dividends "dividends" = true)
    (k_dividends : PySem.W.keepIn K (.ref f_dividends) = true)
    (a_mean_shares : PySem.W.nsIn K mainGlobals "mean_shares" = some (some (.ref f_mean_shares)))
    (l_mean_shares : K.lookup f_mean_shares = some ⟨oc_mean_shares, od_mean_shares, .func (PySem.W.fnOf "mean_shares" "mean_shares" (defArgs s_mean_shares) (defBody s_mean_shares) (defScope s_mean_shares) .none kV_mean_shares dc_mean_shares pm_mean_shares an_mean_shares cd_mean_shares ct_mean_shares), sl_mean_shares⟩)
    (c_mean_shares : PySem.W.codeIn K cd_mean_shares "mean_shares" = true)
    (k_mean_shares : PySem.W.keepIn K (.ref f_mean_shares) = true)
    (a_adds_of : PySem.W.nsIn K mainGlobals "adds_of" = some (some (.ref f_adds_of)))
    (l_adds_of : K.lookup f_adds_of = some ⟨oc_adds_of, od_adds_of, .func (PySem.W.fnOf "adds_of" "adds_of" (defArgs s_adds_of) (defBody s_adds_of) (defScope s_adds_of) .none kV_adds_of dc_adds_of pm_adds_of an_adds_of cd_adds_of ct_adds_of), sl_adds_of⟩)
    (c_adds_of : PySem.W.codeIn K cd_adds_of "adds_of" = true)
    (k_adds_of : PySem.W.keepIn K (.ref f_adds_of) = true)
    (a_turns : PySem.W.nsIn K mainGlobals "turns" = some (some (.ref f_turns)))
    (l_turns : K.lookup f_turns = some ⟨oc_turns, od_turns, .func (PySem.W.fnOf "turns" "turns" (defArgs s_turns) (defBody s_turns) (defScope s_turns) .none kV_turns dc_turns pm_turns an_turns cd_turns ct_turns), sl_turns⟩)
    (c_turns : PySem.W.codeIn K cd_turns "turns" = true)
    (k_turns : PySem.W.keepIn K (.ref f_turns) = true)
    (a__law_cell : PySem.W.nsIn K mainGlobals "_law_cell" = some (some (.ref f__law_cell)))
    (l__law_cell : K.lookup f__law_cell = some ⟨oc__law_cell, od__law_cell, .func (PySem.W.fnOf "_law_cell" "_law_cell" (defArgs s__law_cell) (defBody s__law_cell) (defScope s__law_cell) .none kV__law_cell dc__law_cell pm__law_cell an__law_cell cd__law_cell ct__law_cell), sl__law_cell⟩)
    (c__law_cell : PySem.W.codeIn K cd__law_cell "_law_cell" = true)
    (k__law_cell : PySem.W.keepIn K (.ref f__law_cell) = true)
    (a__law_draws : PySem.W.nsIn K mainGlobals "_law_draws" = some (some (.ref f__law_draws)))
    (l__law_draws : K.lookup f__law_draws = some ⟨oc__law_draws, od__law_draws, .func (PySem.W.fnOf "_law_draws" "_law_draws" (defArgs s__law_draws) (defBody s__law_draws) (defScope s__law_draws) .none kV__law_draws dc__law_draws pm__law_draws an__law_draws cd__law_draws ct__law_draws), sl__law_draws⟩)
    (c__law_draws : PySem.W.codeIn K cd__law_draws "_law_draws" = true)
    (k__law_draws : PySem.W.keepIn K (.ref f__law_draws) = true)
    (a__law_whole : PySem.W.nsIn K mainGlobals "_law_whole" = some (some (.ref f__law_whole)))
    (l__law_whole : K.lookup f__law_whole = some ⟨oc__law_whole, od__law_whole, .func (PySem.W.fnOf "_law_whole" "_law_whole" (defArgs s__law_whole) (defBody s__law_whole) (defScope s__law_whole) .none kV__law_whole dc__law_whole pm__law_whole an__law_whole cd__law_whole ct__law_whole), sl__law_whole⟩)
    (c__law_whole : PySem.W.codeIn K cd__law_whole "_law_whole" = true)
    (k__law_whole : PySem.W.keepIn K (.ref f__law_whole) = true)
    (a__law_divisor : PySem.W.nsIn K mainGlobals "_law_divisor" = some (some (.ref f__law_divisor)))
    (l__law_divisor : K.lookup f__law_divisor = some ⟨oc__law_divisor, od__law_divisor, .func (PySem.W.fnOf "_law_divisor" "_law_divisor" (defArgs s__law_divisor) (defBody s__law_divisor) (defScope s__law_divisor) .none kV__law_divisor dc__law_divisor pm__law_divisor an__law_divisor cd__law_divisor ct__law_divisor), sl__law_divisor⟩)
    (c__law_divisor : PySem.W.codeIn K cd__law_divisor "_law_divisor" = true)
    (k__law_divisor : PySem.W.keepIn K (.ref f__law_divisor) = true)
    (a__law_fraction : PySem.W.nsIn K mainGlobals "_law_fraction" = some (some (.ref f__law_fraction)))
    (l__law_fraction : K.lookup f__law_fraction = some ⟨oc__law_fraction, od__law_fraction, .func (PySem.W.fnOf "_law_fraction" "_law_fraction" (defArgs s__law_fraction) (defBody s__law_fraction) (defScope s__law_fraction) .none kV__law_fraction dc__law_fraction pm__law_fraction an__law_fraction cd__law_fraction ct__law_fraction), sl__law_fraction⟩)
    (c__law_fraction : PySem.W.codeIn K cd__law_fraction "_law_fraction" = true)
    (k__law_fraction : PySem.W.keepIn K (.ref f__law_fraction) = true)
    (a__law_fractions : PySem.W.nsIn K mainGlobals "_law_fractions" = some (some (.ref f__law_fractions)))
    (l__law_fractions : K.lookup f__law_fractions = some ⟨oc__law_fractions, od__law_fractions, .func (PySem.W.fnOf "_law_fractions" "_law_fractions" (defArgs s__law_fractions) (defBody s__law_fractions) (defScope s__law_fractions) .none kV__law_fractions dc__law_fractions pm__law_fractions an__law_fractions cd__law_fractions ct__law_fractions), sl__law_fractions⟩)
    (c__law_fractions : PySem.W.codeIn K cd__law_fractions "_law_fractions" = true)
    (k__law_fractions : PySem.W.keepIn K (.ref f__law_fractions) = true)
    (a__law_number : PySem.W.nsIn K mainGlobals "_law_number" = some (some (.ref f__law_number)))
    (l__law_number : K.lookup f__law_number = some ⟨oc__law_number, od__law_number, .func (PySem.W.fnOf "_law_number" "_law_number" (defArgs s__law_number) (defBody s__law_number) (defScope s__law_number) .none kV__law_number dc__law_number pm__law_number an__law_number cd__law_number ct__law_number), sl__law_number⟩)
    (c__law_number : PySem.W.codeIn K cd__law_number "_law_number" = true)
    (k__law_number : PySem.W.keepIn K (.ref f__law_number) = true)
    (a__law_ones : PySem.W.nsIn K mainGlobals "_law_ones" = some (some (.ref f__law_ones)))
    (l__law_ones : K.lookup f__law_ones = some ⟨oc__law_ones, od__law_ones, .func (PySem.W.fnOf "_law_ones" "_law_ones" (defArgs s__law_ones) (defBody s__law_ones) (defScope s__law_ones) .none kV__law_ones dc__law_ones pm__law_ones an__law_ones cd__law_ones ct__law_ones), sl__law_ones⟩)
    (c__law_ones : PySem.W.codeIn K cd__law_ones "_law_ones" = true)
    (k__law_ones : PySem.W.keepIn K (.ref f__law_ones) = true)
    (a__law_dividends : PySem.W.nsIn K mainGlobals "_law_dividends" = some (some (.ref f__law_dividends)))
    (l__law_dividends : K.lookup f__law_dividends = some ⟨oc__law_dividends, od__law_dividends, .func (PySem.W.fnOf "_law_dividends" "_law_dividends" (defArgs s__law_dividends) (defBody s__law_dividends) (defScope s__law_dividends) .none kV__law_dividends dc__law_dividends pm__law_dividends an__law_dividends cd__law_dividends ct__law_dividends), sl__law_dividends⟩)
    (c__law_dividends : PySem.W.codeIn K cd__law_dividends "_law_dividends" = true)
    (k__law_dividends : PySem.W.keepIn K (.ref f__law_dividends) = true)
    (a__law_sixty : PySem.W.nsIn K mainGlobals "_law_sixty" = some (some (.ref f__law_sixty)))
    (l__law_sixty : K.lookup f__law_sixty = some ⟨oc__law_sixty, od__law_sixty, .func (PySem.W.fnOf "_law_sixty" "_law_sixty" (defArgs s__law_sixty) (defBody s__law_sixty) (defScope s__law_sixty) .none kV__law_sixty dc__law_sixty pm__law_sixty an__law_sixty cd__law_sixty ct__law_sixty), sl__law_sixty⟩)
    (c__law_sixty : PySem.W.codeIn K cd__law_sixty "_law_sixty" = true)
    (k__law_sixty : PySem.W.keepIn K (.ref f__law_sixty) = true)
    (a__law_numbers : PySem.W.nsIn K mainGlobals "_law_numbers" = some (some (.ref f__law_numbers)))
    (l__law_numbers : K.lookup f__law_numbers = some ⟨oc__law_numbers, od__law_numbers, .func (PySem.W.fnOf "_law_numbers" "_law_numbers" (defArgs s__law_numbers) (defBody s__law_numbers) (defScope s__law_numbers) .none kV__law_numbers dc__law_numbers pm__law_numbers an__law_numbers cd__law_numbers ct__law_numbers), sl__law_numbers⟩)
    (c__law_numbers : PySem.W.codeIn K cd__law_numbers "_law_numbers" = true)
    (k__law_numbers : PySem.W.keepIn K (.ref f__law_numbers) = true)
    (a__law_tables : PySem.W.nsIn K mainGlobals "_law_tables" = some (some (.ref f__law_tables)))
    (l__law_tables : K.lookup f__law_tables = some ⟨oc__law_tables, od__law_tables, .func (PySem.W.fnOf "_law_tables" "_law_tables" (defArgs s__law_tables) (defBody s__law_tables) (defScope s__law_tables) .none kV__law_tables dc__law_tables pm__law_tables an__law_tables cd__law_tables ct__law_tables), sl__law_tables⟩)
    (c__law_tables : PySem.W.codeIn K cd__law_tables "_law_tables" = true)
    (k__law_tables : PySem.W.keepIn K (.ref f__law_tables) = true)
    (a__law_mean : PySem.W.nsIn K mainGlobals "_law_mean" = some (some (.ref f__law_mean)))
    (l__law_mean : K.lookup f__law_mean = some ⟨oc__law_mean, od__law_mean, .func (PySem.W.fnOf "_law_mean" "_law_mean" (defArgs s__law_mean) (defBody s__law_mean) (defScope s__law_mean) .none kV__law_mean dc__law_mean pm__law_mean an__law_mean cd__law_mean ct__law_mean), sl__law_mean⟩)
    (c__law_mean : PySem.W.codeIn K cd__law_mean "_law_mean" = true)
    (k__law_mean : PySem.W.keepIn K (.ref f__law_mean) = true)
    (a__law_cut : PySem.W.nsIn K mainGlobals "_law_cut" = some (some (.ref f__law_cut)))
    (l__law_cut : K.lookup f__law_cut = some ⟨oc__law_cut, od__law_cut, .func (PySem.W.fnOf "_law_cut" "_law_cut" (defArgs s__law_cut) (defBody s__law_cut) (defScope s__law_cut) .none kV__law_cut dc__law_cut pm__law_cut an__law_cut cd__law_cut ct__law_cut), sl__law_cut⟩)
    (c__law_cut : PySem.W.codeIn K cd__law_cut "_law_cut" = true)
    (k__law_cut : PySem.W.keepIn K (.ref f__law_cut) = true)
    (a__law_beside : PySem.W.nsIn K mainGlobals "_law_beside" = some (some (.ref f__law_beside)))
    (l__law_beside : K.lookup f__law_beside = some ⟨oc__law_beside, od__law_beside, .func (PySem.W.fnOf "_law_beside" "_law_beside" (defArgs s__law_beside) (defBody s__law_beside) (defScope s__law_beside) .none kV__law_beside dc__law_beside pm__law_beside an__law_beside cd__law_beside ct__law_beside), sl__law_beside⟩)
    (c__law_beside : PySem.W.codeIn K cd__law_beside "_law_beside" = true)
    (k__law_beside : PySem.W.keepIn K (.ref f__law_beside) = true)
    (a__law_turns : PySem.W.nsIn K mainGlobals "_law_turns" = some (some (.ref f__law_turns)))
    (l__law_turns : K.lookup f__law_turns = some ⟨oc__law_turns, od__law_turns, .func (PySem.W.fnOf "_law_turns" "_law_turns" (defArgs s__law_turns) (defBody s__law_turns) (defScope s__law_turns) .none kV__law_turns dc__law_turns pm__law_turns an__law_turns cd__law_turns ct__law_turns), sl__law_turns⟩)
    (c__law_turns : PySem.W.codeIn K cd__law_turns "_law_turns" = true)
    (k__law_turns : PySem.W.keepIn K (.ref f__law_turns) = true)
    (a__law_merged : PySem.W.nsIn K mainGlobals "_law_merged" = some (some (.ref f__law_merged)))
    (l__law_merged : K.lookup f__law_merged = some ⟨oc__law_merged, od__law_merged, .func (PySem.W.fnOf "_law_merged" "_law_merged" (defArgs s__law_merged) (defBody s__law_merged) (defScope s__law_merged) .none kV__law_merged dc__law_merged pm__law_merged an__law_merged cd__law_merged ct__law_merged), sl__law_merged⟩)
    (c__law_merged : PySem.W.codeIn K cd__law_merged "_law_merged" = true)
    (k__law_merged : PySem.W.keepIn K (.ref f__law_merged) = true)
    (a_law : PySem.W.nsIn K mainGlobals "law" = some (some (.ref f_law)))
    (l_law : K.lookup f_law = some ⟨oc_law, od_law, .func (PySem.W.fnOf "law" "law" (defArgs s_law) (defBody s_law) (defScope s_law) .none kV_law dc_law pm_law an_law cd_law ct_law), sl_law⟩)
    (c_law : PySem.W.codeIn K cd_law "law" = true)
    (k_law : PySem.W.keepIn K (.ref f_law) = true)
    (ac_NoNumber : PySem.W.nsIn K mainGlobals "NoNumber" = some (some (.ref C_NoNumber)))
    (kc_NoNumber : PySem.W.keepIn K (.ref C_NoNumber) = true)
    (ec_NoNumber : PySem.W.subIn K (.ref C_NoNumber) (.type "BaseException") = some true)
    (tc_NoNumber : PySem.W.typeIn K (.ref C_NoNumber) = some (.type "type"))
    (xc_NoNumber : PySem.W.excIn K C_NoNumber [.type "ValueError", .type "Exception", .type "BaseException", .type "object"] "ValueError.__new__" = true)
    (ac_NoGroup : PySem.W.nsIn K mainGlobals "NoGroup" = some (some (.ref C_NoGroup)))
    (kc_NoGroup : PySem.W.keepIn K (.ref C_NoGroup) = true)
    (ec_NoGroup : PySem.W.subIn K (.ref C_NoGroup) (.type "BaseException") = some true)
    (tc_NoGroup : PySem.W.typeIn K (.ref C_NoGroup) = some (.type "type"))
    (xc_NoGroup : PySem.W.excIn K C_NoGroup [.type "ValueError", .type "Exception", .type "BaseException", .type "object"] "ValueError.__new__" = true)
    (ac_NoTable : PySem.W.nsIn K mainGlobals "NoTable" = some (some (.ref C_NoTable)))
    (kc_NoTable : PySem.W.keepIn K (.ref C_NoTable) = true)
    (ec_NoTable : PySem.W.subIn K (.ref C_NoTable) (.type "BaseException") = some true)
    (tc_NoTable : PySem.W.typeIn K (.ref C_NoTable) = some (.type "type"))
    (xc_NoTable : PySem.W.excIn K C_NoTable [.type "ValueError", .type "Exception", .type "BaseException", .type "object"] "ValueError.__new__" = true)
    (ac_Unlike : PySem.W.nsIn K mainGlobals "Unlike" = some (some (.ref C_Unlike)))
    (kc_Unlike : PySem.W.keepIn K (.ref C_Unlike) = true)
    (ec_Unlike : PySem.W.subIn K (.ref C_Unlike) (.type "BaseException") = some true)
    (tc_Unlike : PySem.W.typeIn K (.ref C_Unlike) = some (.type "type"))
    (xc_Unlike : PySem.W.excIn K C_Unlike [.type "ValueError", .type "Exception", .type "BaseException", .type "object"] "ValueError.__new__" = true)
    (ac_TooMany : PySem.W.nsIn K mainGlobals "TooMany" = some (some (.ref C_TooMany)))
    (kc_TooMany : PySem.W.keepIn K (.ref C_TooMany) = true)
    (ec_TooMany : PySem.W.subIn K (.ref C_TooMany) (.type "BaseException") = some true)
    (tc_TooMany : PySem.W.typeIn K (.ref C_TooMany) = some (.type "type"))
    (xc_TooMany : PySem.W.excIn K C_TooMany [.type "ValueError", .type "Exception", .type "BaseException", .type "object"] "ValueError.__new__" = true)
    (cn_MOST : PySem.W.nsIn K mainGlobals "MOST" = some (some (.int 6 t_MOST)))
    (cn_SIXTY : PySem.W.nsIn K mainGlobals "SIXTY" = some (some (.int 60 t_SIXTY)))
    (z_abs : PySem.W.nsIn K mainGlobals "abs" = some none)
    (z_bool : PySem.W.nsIn K mainGlobals "bool" = some none)
    (z_enumerate : PySem.W.nsIn K mainGlobals "enumerate" = some none)
    (z_int : PySem.W.nsIn K mainGlobals "int" = some none)
    (z_isinstance : PySem.W.nsIn K mainGlobals "isinstance" = some none)
    (z_len : PySem.W.nsIn K mainGlobals "len" = some none)
    (z_list : PySem.W.nsIn K mainGlobals "list" = some none)
    (z_max : PySem.W.nsIn K mainGlobals "max" = some none)
    (z_min : PySem.W.nsIn K mainGlobals "min" = some none)
    (z_range : PySem.W.nsIn K mainGlobals "range" = some none)
    (z_sum : PySem.W.nsIn K mainGlobals "sum" = some none)
    (z_tuple : PySem.W.nsIn K mainGlobals "tuple" = some none)
    (z_zip : PySem.W.nsIn K mainGlobals "zip" = some none)
    : ∃ fd : FuncData, (∀ (s : Shared) (v : Value), BindsTo s fd ⟨[v], []⟩ [("_law_script", v)]) ∧ ∀ base : Heap, K.In base → base.Ns mainGlobals mg → FnOk l.prog w K mg base (L2.CX l.prog w) 7 fa fd ["_law_script"] (sp_law K) := by
  have e := hfa.symm.trans (PySem.W.mg_of X G a_law)
  cases e
  have T : Txt K mg ⟨f_is_whole, PySem.W.fnOf "is_whole" "is_whole" (defArgs s_is_whole) (defBody s_is_whole) (defScope s_is_whole) .none kV_is_whole dc_is_whole pm_is_whole an_is_whole cd_is_whole ct_is_whole, f_divisor, PySem.W.fnOf "divisor" "divisor" (defArgs s_divisor) (defBody s_divisor) (defScope s_divisor) .none kV_divisor dc_divisor pm_divisor an_divisor cd_divisor ct_divisor, f_shortest, PySem.W.fnOf "shortest" "shortest" (defArgs s_shortest) (defBody s_shortest) (defScope s_shortest) .none kV_shortest dc_shortest pm_shortest an_shortest cd_shortest ct_shortest, f_fraction, PySem.W.fnOf "fraction" "fraction" (defArgs s_fraction) (defBody s_fraction) (defScope s_fraction) .none kV_fraction dc_fraction pm_fraction an_fraction cd_fraction ct_fraction, f_look_group, PySem.W.fnOf "look_group" "look_group" (defArgs s_look_group) (defBody s_look_group) (defScope s_look_group) .none kV_look_group dc_look_group pm_look_group an_look_group cd_look_group ct_look_group, f_whole_of, PySem.W.fnOf "whole_of" "whole_of" (defArgs s_whole_of) (defBody s_whole_of) (defScope s_whole_of) .none kV_whole_of dc_whole_of pm_whole_of an_whole_of cd_whole_of ct_whole_of, f_hands_of, PySem.W.fnOf "hands_of" "hands_of" (defArgs s_hands_of) (defBody s_hands_of) (defScope s_hands_of) .none kV_hands_of dc_hands_of pm_hands_of an_hands_of cd_hands_of ct_hands_of, f_size_of, PySem.W.fnOf "size_of" "size_of" (defArgs s_size_of) (defBody s_size_of) (defScope s_size_of) .none kV_size_of dc_size_of pm_size_of an_size_of cd_size_of ct_size_of, f_look, PySem.W.fnOf "look" "look" (defArgs s_look) (defBody s_look) (defScope s_look) .none kV_look dc_look pm_look an_look cd_look ct_look, f_summed, PySem.W.fnOf "summed" "summed" (defArgs s_summed) (defBody s_summed) (defScope s_summed) .none kV_summed dc_summed pm_summed an_summed cd_summed ct_summed, f_beside, PySem.W.fnOf "beside" "beside" (defArgs s_beside) (defBody s_beside) (defScope s_beside) .none kV_beside dc_beside pm_beside an_beside cd_beside ct_beside, f_hands_spread, PySem.W.fnOf "hands_spread" "hands_spread" (defArgs s_hands_spread) (defBody s_hands_spread) (defScope s_hands_spread) .none kV_hands_spread dc_hands_spread pm_hands_spread an_hands_spread cd_hands_spread ct_hands_spread, f_look_group_of, PySem.W.fnOf "look_group_of" "look_group_of" (defArgs s_look_group_of) (defBody s_look_group_of) (defScope s_look_group_of) .none kV_look_group_of dc_look_group_of pm_look_group_of an_look_group_of cd_look_group_of ct_look_group_of, f_cut, PySem.W.fnOf "cut" "cut" (defArgs s_cut) (defBody s_cut) (defScope s_cut) .none kV_cut dc_cut pm_cut an_cut cd_cut ct_cut, f_merged, PySem.W.fnOf "merged" "merged" (defArgs s_merged) (defBody s_merged) (defScope s_merged) .none kV_merged dc_merged pm_merged an_merged cd_merged ct_merged, f_turned, PySem.W.fnOf "turned" "turned" (defArgs s_turned) (defBody s_turned) (defScope s_turned) .none kV_turned dc_turned pm_turned an_turned cd_turned ct_turned, f_dividends, PySem.W.fnOf "dividends" "dividends" (defArgs s_dividends) (defBody s_dividends) (defScope s_dividends) .none kV_dividends dc_dividends pm_dividends an_dividends cd_dividends ct_dividends, f_mean_shares, PySem.W.fnOf "mean_shares" "mean_shares" (defArgs s_mean_shares) (defBody s_mean_shares) (defScope s_mean_shares) .none kV_mean_shares dc_mean_shares pm_mean_shares an_mean_shares cd_mean_shares ct_mean_shares, f_adds_of, PySem.W.fnOf "adds_of" "adds_of" (defArgs s_adds_of) (defBody s_adds_of) (defScope s_adds_of) .none kV_adds_of dc_adds_of pm_adds_of an_adds_of cd_adds_of ct_adds_of, f_turns, PySem.W.fnOf "turns" "turns" (defArgs s_turns) (defBody s_turns) (defScope s_turns) .none kV_turns dc_turns pm_turns an_turns cd_turns ct_turns, f__law_cell, PySem.W.fnOf "_law_cell" "_law_cell" (defArgs s__law_cell) (defBody s__law_cell) (defScope s__law_cell) .none kV__law_cell dc__law_cell pm__law_cell an__law_cell cd__law_cell ct__law_cell, f__law_draws, PySem.W.fnOf "_law_draws" "_law_draws" (defArgs s__law_draws) (defBody s__law_draws) (defScope s__law_draws) .none kV__law_draws dc__law_draws pm__law_draws an__law_draws cd__law_draws ct__law_draws, f__law_whole, PySem.W.fnOf "_law_whole" "_law_whole" (defArgs s__law_whole) (defBody s__law_whole) (defScope s__law_whole) .none kV__law_whole dc__law_whole pm__law_whole an__law_whole cd__law_whole ct__law_whole, f__law_divisor, PySem.W.fnOf "_law_divisor" "_law_divisor" (defArgs s__law_divisor) (defBody s__law_divisor) (defScope s__law_divisor) .none kV__law_divisor dc__law_divisor pm__law_divisor an__law_divisor cd__law_divisor ct__law_divisor, f__law_fraction, PySem.W.fnOf "_law_fraction" "_law_fraction" (defArgs s__law_fraction) (defBody s__law_fraction) (defScope s__law_fraction) .none kV__law_fraction dc__law_fraction pm__law_fraction an__law_fraction cd__law_fraction ct__law_fraction, f__law_fractions, PySem.W.fnOf "_law_fractions" "_law_fractions" (defArgs s__law_fractions) (defBody s__law_fractions) (defScope s__law_fractions) .none kV__law_fractions dc__law_fractions pm__law_fractions an__law_fractions cd__law_fractions ct__law_fractions, f__law_number, PySem.W.fnOf "_law_number" "_law_number" (defArgs s__law_number) (defBody s__law_number) (defScope s__law_number) .none kV__law_number dc__law_number pm__law_number an__law_number cd__law_number ct__law_number, f__law_ones, PySem.W.fnOf "_law_ones" "_law_ones" (defArgs s__law_ones) (defBody s__law_ones) (defScope s__law_ones) .none kV__law_ones dc__law_ones pm__law_ones an__law_ones cd__law_ones ct__law_ones, f__law_dividends, PySem.W.fnOf "_law_dividends" "_law_dividends" (defArgs s__law_dividends) (defBody s__law_dividends) (defScope s__law_dividends) .none kV__law_dividends dc__law_dividends pm__law_dividends an__law_dividends cd__law_dividends ct__law_dividends, f__law_sixty, PySem.W.fnOf "_law_sixty" "_law_sixty" (defArgs s__law_sixty) (defBody s__law_sixty) (defScope s__law_sixty) .none kV__law_sixty dc__law_sixty pm__law_sixty an__law_sixty cd__law_sixty ct__law_sixty, f__law_numbers, PySem.W.fnOf "_law_numbers" "_law_numbers" (defArgs s__law_numbers) (defBody s__law_numbers) (defScope s__law_numbers) .none kV__law_numbers dc__law_numbers pm__law_numbers an__law_numbers cd__law_numbers ct__law_numbers, f__law_tables, PySem.W.fnOf "_law_tables" "_law_tables" (defArgs s__law_tables) (defBody s__law_tables) (defScope s__law_tables) .none kV__law_tables dc__law_tables pm__law_tables an__law_tables cd__law_tables ct__law_tables, f__law_mean, PySem.W.fnOf "_law_mean" "_law_mean" (defArgs s__law_mean) (defBody s__law_mean) (defScope s__law_mean) .none kV__law_mean dc__law_mean pm__law_mean an__law_mean cd__law_mean ct__law_mean, f__law_cut, PySem.W.fnOf "_law_cut" "_law_cut" (defArgs s__law_cut) (defBody s__law_cut) (defScope s__law_cut) .none kV__law_cut dc__law_cut pm__law_cut an__law_cut cd__law_cut ct__law_cut, f__law_beside, PySem.W.fnOf "_law_beside" "_law_beside" (defArgs s__law_beside) (defBody s__law_beside) (defScope s__law_beside) .none kV__law_beside dc__law_beside pm__law_beside an__law_beside cd__law_beside ct__law_beside, f__law_turns, PySem.W.fnOf "_law_turns" "_law_turns" (defArgs s__law_turns) (defBody s__law_turns) (defScope s__law_turns) .none kV__law_turns dc__law_turns pm__law_turns an__law_turns cd__law_turns ct__law_turns, f__law_merged, PySem.W.fnOf "_law_merged" "_law_merged" (defArgs s__law_merged) (defBody s__law_merged) (defScope s__law_merged) .none kV__law_merged dc__law_merged pm__law_merged an__law_merged cd__law_merged ct__law_merged, fa, PySem.W.fnOf "law" "law" (defArgs s_law) (defBody s_law) (defScope s_law) .none kV_law dc_law pm_law an_law cd_law ct_law, C_NoNumber, C_NoGroup, C_NoTable, C_Unlike, C_TooMany, t_MOST, t_SIXTY⟩ := {
    F_is_whole := fun_mk (st := s_is_whole) l_is_whole c_is_whole k_is_whole
    b_is_whole := (fun_mk (st := s_is_whole) l_is_whole c_is_whole k_is_whole).binds (ps := ["thing"]) fun _ _ _ _ _ _ us hl => match us, hl with | [_], _ => rfl
    g_is_whole := PySem.W.mg_of X G a_is_whole
    F_divisor := fun_mk (st := s_divisor) l_divisor c_divisor k_divisor
    b_divisor := (fun_mk (st := s_divisor) l_divisor c_divisor k_divisor).binds (ps := ["one", "other"]) fun _ _ _ _ _ _ us hl => match us, hl with | [_, _], _ => rfl
    g_divisor := PySem.W.mg_of X G a_divisor
    F_shortest := fun_mk (st := s_shortest) l_shortest c_shortest k_shortest
    b_shortest := (fun_mk (st := s_shortest) l_shortest c_shortest k_shortest).binds (ps := ["top", "bottom"]) fun _ _ _ _ _ _ us hl => match us, hl with | [_, _], _ => rfl
    g_shortest := PySem.W.mg_of X G a_shortest
    F_fraction := fun_mk (st := s_fraction) l_fraction c_fraction k_fraction
    b_fraction := (fun_mk (st := s_fraction) l_fraction c_fraction k_fraction).binds (ps := ["top", "bottom"]) fun _ _ _ _ _ _ us hl => match us, hl with | [_, _], _ => rfl
    g_fraction := PySem.W.mg_of X G a_fraction
    F_look_group := fun_mk (st := s_look_group) l_look_group c_look_group k_look_group
    b_look_group := (fun_mk (st := s_look_group) l_look_group c_look_group k_look_group).binds (ps := ["group", "least", "greatest"]) fun _ _ _ _ _ _ us hl => match us, hl with | [_, _, _], _ => rfl
    g_look_group := PySem.W.mg_of X G a_look_group
    F_whole_of := fun_mk (st := s_whole_of) l_whole_of c_whole_of k_whole_of
    b_whole_of := (fun_mk (st := s_whole_of) l_whole_of c_whole_of k_whole_of).binds (ps := ["many"]) fun _ _ _ _ _ _ us hl => match us, hl with | [_], _ => rfl
    g_whole_of := PySem.W.mg_of X G a_whole_of
    F_hands_of := fun_mk (st := s_hands_of) l_hands_of c_hands_of k_hands_of
    b_hands_of := (fun_mk (st := s_hands_of) l_hands_of c_hands_of k_hands_of).binds (ps := ["group"]) fun _ _ _ _ _ _ us hl => match us, hl with | [_], _ => rfl
    g_hands_of := PySem.W.mg_of X G a_hands_of
    F_size_of := fun_mk (st := s_size_of) l_size_of c_size_of k_size_of
    b_size_of := (fun_mk (st := s_size_of) l_size_of c_size_of k_size_of).binds (ps := ["group"]) fun _ _ _ _ _ _ us hl => match us, hl with | [_], _ => rfl
    g_size_of := PySem.W.mg_of X G a_size_of
    F_look := fun_mk (st := s_look) l_look c_look k_look
    b_look := (fun_mk (st := s_look) l_look c_look k_look).binds (ps := ["table"]) fun _ _ _ _ _ _ us hl => match us, hl with | [_], _ => rfl
    g_look := PySem.W.mg_of X G a_look
    F_summed := fun_mk (st := s_summed) l_summed c_summed k_summed
    b_summed := (fun_mk (st := s_summed) l_summed c_summed k_summed).binds (ps := ["one", "other"]) fun _ _ _ _ _ _ us hl => match us, hl with | [_, _], _ => rfl
    g_summed := PySem.W.mg_of X G a_summed
    F_beside := fun_mk (st := s_beside) l_beside c_beside k_beside
    b_beside := (fun_mk (st := s_beside) l_beside c_beside k_beside).binds (ps := ["one", "other"]) fun _ _ _ _ _ _ us hl => match us, hl with | [_, _], _ => rfl
    g_beside := PySem.W.mg_of X G a_beside
    F_hands_spread := fun_mk (st := s_hands_spread) l_hands_spread c_hands_spread k_hands_spread
    b_hands_spread := (fun_mk (st := s_hands_spread) l_hands_spread c_hands_spread k_hands_spread).binds (ps := ["group", "blocks"]) fun _ _ _ _ _ _ us hl => match us, hl with | [_, _], _ => rfl
    g_hands_spread := PySem.W.mg_of X G a_hands_spread
    F_look_group_of := fun_mk (st := s_look_group_of) l_look_group_of c_look_group_of k_look_group_of
    b_look_group_of := (fun_mk (st := s_look_group_of) l_look_group_of c_look_group_of k_look_group_of).binds (ps := ["table", "group"]) fun _ _ _ _ _ _ us hl => match us, hl with | [_, _], _ => rfl
    g_look_group_of := PySem.W.mg_of X G a_look_group_of
    F_cut := fun_mk (st := s_cut) l_cut c_cut k_cut
    b_cut := (fun_mk (st := s_cut) l_cut c_cut k_cut).binds (ps := ["table", "group"]) fun _ _ _ _ _ _ us hl => match us, hl with | [_, _], _ => rfl
    g_cut := PySem.W.mg_of X G a_cut
    F_merged := fun_mk (st := s_merged) l_merged c_merged k_merged
    b_merged := (fun_mk (st := s_merged) l_merged c_merged k_merged).binds (ps := ["table", "group"]) fun _ _ _ _ _ _ us hl => match us, hl with | [_, _], _ => rfl
    g_merged := PySem.W.mg_of X G a_merged
    F_turned := fun_mk (st := s_turned) l_turned c_turned k_turned
    b_turned := (fun_mk (st := s_turned) l_turned c_turned k_turned).binds (ps := ["table"]) fun _ _ _ _ _ _ us hl => match us, hl with | [_], _ => rfl
    g_turned := PySem.W.mg_of X G a_turned
    F_dividends := fun_mk (st := s_dividends) l_dividends c_dividends k_dividends
    b_dividends := (fun_mk (st := s_dividends) l_dividends c_dividends k_dividends).binds (ps := ["table"]) fun _ _ _ _ _ _ us hl => match us, hl with | [_], _ => rfl
    g_dividends := PySem.W.mg_of X G a_dividends
    F_mean_shares := fun_mk (st := s_mean_shares) l_mean_shares c_mean_shares k_mean_shares
    b_mean_shares := (fun_mk (st := s_mean_shares) l_mean_shares c_mean_shares k_mean_shares).binds (ps := ["table"]) fun _ _ _ _ _ _ us hl => match us, hl with | [_], _ => rfl
    g_mean_shares := PySem.W.mg_of X G a_mean_shares
    F_adds_of := fun_mk (st := s_adds_of) l_adds_of c_adds_of k_adds_of
    b_adds_of := (fun_mk (st := s_adds_of) l_adds_of c_adds_of k_adds_of).binds (ps := ["table", "hand"]) fun _ _ _ _ _ _ us hl => match us, hl with | [_, _], _ => rfl
    g_adds_of := PySem.W.mg_of X G a_adds_of
    F_turns := fun_mk (st := s_turns) l_turns c_turns k_turns
    b_turns := (fun_mk (st := s_turns) l_turns c_turns k_turns).binds (ps := ["table"]) fun _ _ _ _ _ _ us hl => match us, hl with | [_], _ => rfl
    g_turns := PySem.W.mg_of X G a_turns
    F__law_cell := fun_mk (st := s__law_cell) l__law_cell c__law_cell k__law_cell
    b__law_cell := (fun_mk (st := s__law_cell) l__law_cell c__law_cell k__law_cell).binds (ps := ["_law_script", "_law_k"]) fun _ _ _ _ _ _ us hl => match us, hl with | [_, _], _ => rfl
    g__law_cell := PySem.W.mg_of X G a__law_cell
    F__law_draws := fun_mk (st := s__law_draws) l__law_draws c__law_draws k__law_draws
    b__law_draws := (fun_mk (st := s__law_draws) l__law_draws c__law_draws k__law_draws).binds (ps := ["_law_script"]) fun _ _ _ _ _ _ us hl => match us, hl with | [_], _ => rfl
    g__law_draws := PySem.W.mg_of X G a__law_draws
    F__law_whole := fun_mk (st := s__law_whole) l__law_whole c__law_whole k__law_whole
    b__law_whole := (fun_mk (st := s__law_whole) l__law_whole c__law_whole k__law_whole).binds (ps := ["_law_found"]) fun _ _ _ _ _ _ us hl => match us, hl with | [_], _ => rfl
    g__law_whole := PySem.W.mg_of X G a__law_whole
    F__law_divisor := fun_mk (st := s__law_divisor) l__law_divisor c__law_divisor k__law_divisor
    b__law_divisor := (fun_mk (st := s__law_divisor) l__law_divisor c__law_divisor k__law_divisor).binds (ps := ["_law_one", "_law_other"]) fun _ _ _ _ _ _ us hl => match us, hl with | [_, _], _ => rfl
    g__law_divisor := PySem.W.mg_of X G a__law_divisor
    F__law_fraction := fun_mk (st := s__law_fraction) l__law_fraction c__law_fraction k__law_fraction
    b__law_fraction := (fun_mk (st := s__law_fraction) l__law_fraction c__law_fraction k__law_fraction).binds (ps := ["_law_found"]) fun _ _ _ _ _ _ us hl => match us, hl with | [_], _ => rfl
    g__law_fraction := PySem.W.mg_of X G a__law_fraction
    F__law_fractions := fun_mk (st := s__law_fractions) l__law_fractions c__law_fractions k__law_fractions
    b__law_fractions := (fun_mk (st := s__law_fractions) l__law_fractions c__law_fractions k__law_fractions).binds (ps := ["_law_found", "_law_many"]) fun _ _ _ _ _ _ us hl => match us, hl with | [_, _], _ => rfl
    g__law_fractions := PySem.W.mg_of X G a__law_fractions
    F__law_number := fun_mk (st := s__law_number) l__law_number c__law_number k__law_number
    b__law_number := (fun_mk (st := s__law_number) l__law_number c__law_number k__law_number).binds (ps := ["_law_cell_here"]) fun _ _ _ _ _ _ us hl => match us, hl with | [_], _ => rfl
    g__law_number := PySem.W.mg_of X G a__law_number
    F__law_ones := fun_mk (st := s__law_ones) l__law_ones c__law_ones k__law_ones
    b__law_ones := (fun_mk (st := s__law_ones) l__law_ones c__law_ones k__law_ones).binds (ps := ["_law_number_here"]) fun _ _ _ _ _ _ us hl => match us, hl with | [_], _ => rfl
    g__law_ones := PySem.W.mg_of X G a__law_ones
    F__law_dividends := fun_mk (st := s__law_dividends) l__law_dividends c__law_dividends k__law_dividends
    b__law_dividends := (fun_mk (st := s__law_dividends) l__law_dividends c__law_dividends k__law_dividends).binds (ps := ["_law_table"]) fun _ _ _ _ _ _ us hl => match us, hl with | [_], _ => rfl
    g__law_dividends := PySem.W.mg_of X G a__law_dividends
    F__law_sixty := fun_mk (st := s__law_sixty) l__law_sixty c__law_sixty k__law_sixty
    b__law_sixty := (fun_mk (st := s__law_sixty) l__law_sixty c__law_sixty k__law_sixty).binds (ps := ["_law_due", "_law_many"]) fun _ _ _ _ _ _ us hl => match us, hl with | [_, _], _ => rfl
    g__law_sixty := PySem.W.mg_of X G a__law_sixty
    F__law_numbers := fun_mk (st := s__law_numbers) l__law_numbers c__law_numbers k__law_numbers
    b__law_numbers := (fun_mk (st := s__law_numbers) l__law_numbers c__law_numbers k__law_numbers).binds (ps := ["_law_found", "_law_due"]) fun _ _ _ _ _ _ us hl => match us, hl with | [_, _], _ => rfl
    g__law_numbers := PySem.W.mg_of X G a__law_numbers
    F__law_tables := fun_mk (st := s__law_tables) l__law_tables c__law_tables k__law_tables
    b__law_tables := (fun_mk (st := s__law_tables) l__law_tables c__law_tables k__law_tables).binds (ps := ["_law_script", "_law_many", "_law_few"]) fun _ _ _ _ _ _ us hl => match us, hl with | [_, _, _], _ => rfl
    g__law_tables := PySem.W.mg_of X G a__law_tables
    F__law_mean := fun_mk (st := s__law_mean) l__law_mean c__law_mean k__law_mean
    b__law_mean := (fun_mk (st := s__law_mean) l__law_mean c__law_mean k__law_mean).binds (ps := ["_law_found", "_law_sixty_here", "_law_by"]) fun _ _ _ _ _ _ us hl => match us, hl with | [_, _, _], _ => rfl
    g__law_mean := PySem.W.mg_of X G a__law_mean
    F__law_cut := fun_mk (st := s__law_cut) l__law_cut c__law_cut k__law_cut
    b__law_cut := (fun_mk (st := s__law_cut) l__law_cut c__law_cut k__law_cut).binds (ps := ["_law_table", "_law_due", "_law_group"]) fun _ _ _ _ _ _ us hl => match us, hl with | [_, _, _], _ => rfl
    g__law_cut := PySem.W.mg_of X G a__law_cut
    F__law_beside := fun_mk (st := s__law_beside) l__law_beside c__law_beside k__law_beside
    b__law_beside := (fun_mk (st := s__law_beside) l__law_beside c__law_beside k__law_beside).binds (ps := ["_law_one", "_law_other", "_law_many", "_law_few"]) fun _ _ _ _ _ _ us hl => match us, hl with | [_, _, _, _], _ => rfl
    g__law_beside := PySem.W.mg_of X G a__law_beside
    F__law_turns := fun_mk (st := s__law_turns) l__law_turns c__law_turns k__law_turns
    b__law_turns := (fun_mk (st := s__law_turns) l__law_turns c__law_turns k__law_turns).binds (ps := ["_law_table", "_law_hand"]) fun _ _ _ _ _ _ us hl => match us, hl with | [_, _], _ => rfl
    g__law_turns := PySem.W.mg_of X G a__law_turns
    F__law_merged := fun_mk (st := s__law_merged) l__law_merged c__law_merged k__law_merged
    b__law_merged := (fun_mk (st := s__law_merged) l__law_merged c__law_merged k__law_merged).binds (ps := ["_law_table", "_law_many", "_law_cell_here"]) fun _ _ _ _ _ _ us hl => match us, hl with | [_, _, _], _ => rfl
    g__law_merged := PySem.W.mg_of X G a__law_merged
    F_law := fun_mk (st := s_law) l_law c_law k_law
    b_law := (fun_mk (st := s_law) l_law c_law k_law).binds (ps := ["_law_script"]) fun _ _ _ _ _ _ us hl => match us, hl with | [_], _ => rfl
    g_law := PySem.W.mg_of X G a_law
    g_NoNumber := PySem.W.mg_of X G ac_NoNumber
    k_NoNumber := kc_NoNumber
    e_NoNumber := ec_NoNumber
    t_NoNumber := tc_NoNumber
    x_NoNumber := xc_NoNumber
    g_NoGroup := PySem.W.mg_of X G ac_NoGroup
    k_NoGroup := kc_NoGroup
    e_NoGroup := ec_NoGroup
    t_NoGroup := tc_NoGroup
    x_NoGroup := xc_NoGroup
    g_NoTable := PySem.W.mg_of X G ac_NoTable
    k_NoTable := kc_NoTable
    e_NoTable := ec_NoTable
    t_NoTable := tc_NoTable
    x_NoTable := xc_NoTable
    g_Unlike := PySem.W.mg_of X G ac_Unlike
    k_Unlike := kc_Unlike
    e_Unlike := ec_Unlike
    t_Unlike := tc_Unlike
    x_Unlike := xc_Unlike
    g_TooMany := PySem.W.mg_of X G ac_TooMany
    k_TooMany := kc_TooMany
    e_TooMany := ec_TooMany
    t_TooMany := tc_TooMany
    x_TooMany := xc_TooMany
    c_MOST := PySem.W.mg_of X G cn_MOST
    c_SIXTY := PySem.W.mg_of X G cn_SIXTY
    z_abs := PySem.W.mg_none_of X G z_abs
    z_bool := PySem.W.mg_none_of X G z_bool
    z_enumerate := PySem.W.mg_none_of X G z_enumerate
    z_int := PySem.W.mg_none_of X G z_int
    z_isinstance := PySem.W.mg_none_of X G z_isinstance
    z_len := PySem.W.mg_none_of X G z_len
    z_list := PySem.W.mg_none_of X G z_list
    z_max := PySem.W.mg_none_of X G z_max
    z_min := PySem.W.mg_none_of X G z_min
    z_range := PySem.W.mg_none_of X G z_range
    z_sum := PySem.W.mg_none_of X G z_sum
    z_tuple := PySem.W.mg_none_of X G z_tuple
    z_zip := PySem.W.mg_none_of X G z_zip
  }
  exact ⟨_, fun s v => .of_eq rfl, fun base _ _ => ok_law T⟩
end Lw
open PySem PySem.W PyProof.Rows
set_option maxHeartbeats 0 in
theorem PySem.Challenge.cw_shareparley_k61_whole_smaller_companies_holds : PySem.Challenge.rw_shareparley_k61_whole_smaller_companies.Holds := by
  w_on; o_law; k_head; (case hw => w_witness2)
  k_fill
  refine L2.walk_of (l := PySem.Challenge.rw_shareparley_k61_whole_smaller_companies) (n := 63) (k := 7) (x := "_law_script") (CX := fun w => L2.CX (PySem.Challenge.rw_shareparley_k61_whole_smaller_companies).prog w) (sp := fun w => Lw.sp_law _) rfl (by decide) rfl ⟨rfl, by decide, by decide⟩ (fun w h Y => PySem.W.kIn_of Y) ?F (fun _ _ a ns hl _ hS => ⟨a, ns, rfl, hS, hl, fun _ => rfl⟩) (fun _ _ _ _ _ h => Sp.cx_none h)
  case F =>
    intro w mg fa h KX G hmg
    refine' Lw.all_mk KX G hmg ?a_is_whole ?l_is_whole ?c_is_whole ?k_is_whole ?a_divisor ?l_divisor ?c_divisor ?k_divisor ?a_shortest ?l_shortest ?c_shortest ?k_shortest ?a_fraction ?l_fraction ?c_fraction ?k_fraction ?a_look_group ?l_look_group ?c_look_group ?k_look_group ?a_whole_of ?l_whole_of ?c_whole_of ?k_whole_of ?a_hands_of ?l_hands_of ?c_hands_of ?k_hands_of ?a_size_of ?l_size_of ?c_size_of ?k_size_of ?a_look ?l_look ?c_look ?k_look ?a_summed ?l_summed ?c_summed ?k_summed ?a_beside ?l_beside ?c_beside ?k_beside ?a_hands_spread ?l_hands_spread ?c_hands_spread ?k_hands_spread ?a_look_group_of ?l_look_group_of ?c_look_group_of ?k_look_group_of ?a_cut ?l_cut ?c_cut ?k_cut ?a_merged ?l_merged ?c_merged ?k_merged ?a_turned ?l_turned ?c_turned ?k_turned ?a_dividends ?l_dividends ?c_dividends ?k_dividends ?a_mean_shares ?l_mean_shares ?c_mean_shares ?k_mean_shares ?a_adds_of ?l_adds_of ?c_adds_of ?k_adds_of ?a_turns ?l_turns ?c_turns ?k_turns ?a__law_cell ?l__law_cell ?c__law_cell ?k__law_cell ?a__law_draws ?l__law_draws ?c__law_draws ?k__law_draws ?a__law_whole ?l__law_whole ?c__law_whole ?k__law_whole ?a__law_divisor ?l__law_divisor ?c__law_divisor ?k__law_divisor ?a__law_fraction ?l__law_fraction ?c__law_fraction ?k__law_fraction ?a__law_fractions ?l__law_fractions ?c__law_fractions ?k__law_fractions ?a__law_number ?l__law_number ?c__law_number ?k__law_number ?a__law_ones ?l__law_ones ?c__law_ones ?k__law_ones ?a__law_dividends ?l__law_dividends ?c__law_dividends ?k__law_dividends ?a__law_sixty ?l__law_sixty ?c__law_sixty ?k__law_sixty ?a__law_numbers ?l__law_numbers ?c__law_numbers ?k__law_numbers ?a__law_tables ?l__law_tables ?c__law_tables ?k__law_tables ?a__law_mean ?l__law_mean ?c__law_mean ?k__law_mean ?a__law_cut ?l__law_cut ?c__law_cut ?k__law_cut ?a__law_beside ?l__law_beside ?c__law_beside ?k__law_beside ?a__law_turns ?l__law_turns ?c__law_turns ?k__law_turns ?a__law_merged ?l__law_merged ?c__law_merged ?k__law_merged ?a_law ?l_law ?c_law ?k_law ?ac_NoNumber ?kc_NoNumber ?ec_NoNumber ?tc_NoNumber ?xc_NoNumber ?ac_NoGroup ?kc_NoGroup ?ec_NoGroup ?tc_NoGroup ?xc_NoGroup ?ac_NoTable ?kc_NoTable ?ec_NoTable ?tc_NoTable ?xc_NoTable ?ac_Unlike ?kc_Unlike ?ec_Unlike ?tc_Unlike ?xc_Unlike ?ac_TooMany ?kc_TooMany ?ec_TooMany ?tc_TooMany ?xc_TooMany ?cn_MOST ?cn_SIXTY ?z_abs ?z_bool ?z_enumerate ?z_int ?z_isinstance ?z_len ?z_list ?z_max ?z_min ?z_range ?z_sum ?z_tuple ?z_zip
    (case ac_NoNumber => k_is)
    (case ac_NoGroup => k_is)
    (case ac_NoTable => k_is)
    (case ac_Unlike => k_is)
    (case ac_TooMany => k_is)
    (case a_is_whole => k_is)
    (case l_is_whole => k_is)
    (case c_is_whole => k_is)
    (case k_is_whole => k_is)
    (case a_divisor => k_is)
    (case l_divisor => k_is)
    (case c_divisor => k_is)
    (case k_divisor => k_is)
    (case a_shortest => k_is)
    (case l_shortest => k_is)
    (case c_shortest => k_is)
    (case k_shortest => k_is)
    (case a_fraction => k_is)
    (case l_fraction => k_is)
    (case c_fraction => k_is)
    (case k_fraction => k_is)
    (case a_look_group => k_is)
    (case l_look_group => k_is)
    (case c_look_group => k_is)
    (case k_look_group => k_is)
    (case a_whole_of => k_is)
    (case l_whole_of => k_is)
    (case c_whole_of => k_is)
    (case k_whole_of => k_is)
    (case a_hands_of => k_is)
    (case l_hands_of => k_is)
    (case c_hands_of => k_is)
    (case k_hands_of => k_is)
    (case a_size_of => k_is)
    (case l_size_of => k_is)
    (case c_size_of => k_is)
    (case k_size_of => k_is)
    (case a_look => k_is)
    (case l_look => k_is)
    (case c_look => k_is)
    (case k_look => k_is)
    (case a_summed => k_is)
    (case l_summed => k_is)
    (case c_summed => k_is)
    (case k_summed => k_is)
    (case a_beside => k_is)
    (case l_beside => k_is)
    (case c_beside => k_is)
    (case k_beside => k_is)
    (case a_hands_spread => k_is)
    (case l_hands_spread => k_is)
    (case c_hands_spread => k_is)
    (case k_hands_spread => k_is)
    (case a_look_group_of => k_is)
    (case l_look_group_of => k_is)
    (case c_look_group_of => k_is)
    (case k_look_group_of => k_is)
    (case a_cut => k_is)
    (case l_cut => k_is)
    (case c_cut => k_is)
    (case k_cut => k_is)
    (case a_merged => k_is)
    (case l_merged => k_is)
    (case c_merged => k_is)
    (case k_merged => k_is)
    (case a_turned => k_is)
    (case l_turned => k_is)
    (case c_turned => k_is)
    (case k_turned => k_is)
    (case a_dividends => k_is)
    (case l_dividends => k_is)
    (case c_dividends => k_is)
    (case k_dividends => k_is)
    (case a_mean_shares => k_is)
    (case l_mean_shares => k_is)
    (case c_mean_shares => k_is)
    (case k_mean_shares => k_is)
    (case a_adds_of => k_is)
    (case l_adds_of => k_is)
    (case c_adds_of => k_is)
    (case k_adds_of => k_is)
    (case a_turns => k_is)
    (case l_turns => k_is)
    (case c_turns => k_is)
    (case k_turns => k_is)
    (case a__law_cell => k_is)
    (case l__law_cell => k_is)
    (case c__law_cell => k_is)
    (case k__law_cell => k_is)
    (case a__law_draws => k_is)
    (case l__law_draws => k_is)
    (case c__law_draws => k_is)
    (case k__law_draws => k_is)
    (case a__law_whole => k_is)
    (case l__law_whole => k_is)
    (case c__law_whole => k_is)
    (case k__law_whole => k_is)
    (case a__law_divisor => k_is)
    (case l__law_divisor => k_is)
    (case c__law_divisor => k_is)
    (case k__law_divisor => k_is)
    (case a__law_fraction => k_is)
    (case l__law_fraction => k_is)
    (case c__law_fraction => k_is)
    (case k__law_fraction => k_is)
    (case a__law_fractions => k_is)
    (case l__law_fractions => k_is)
    (case c__law_fractions => k_is)
    (case k__law_fractions => k_is)
    (case a__law_number => k_is)
    (case l__law_number => k_is)
    (case c__law_number => k_is)
    (case k__law_number => k_is)
    (case a__law_ones => k_is)
    (case l__law_ones => k_is)
    (case c__law_ones => k_is)
    (case k__law_ones => k_is)
    (case a__law_dividends => k_is)
    (case l__law_dividends => k_is)
    (case c__law_dividends => k_is)
    (case k__law_dividends => k_is)
    (case a__law_sixty => k_is)
    (case l__law_sixty => k_is)
    (case c__law_sixty => k_is)
    (case k__law_sixty => k_is)
    (case a__law_numbers => k_is)
    (case l__law_numbers => k_is)
    (case c__law_numbers => k_is)
    (case k__law_numbers => k_is)
    (case a__law_tables => k_is)
    (case l__law_tables => k_is)
    (case c__law_tables => k_is)
    (case k__law_tables => k_is)
    (case a__law_mean => k_is)
    (case l__law_mean => k_is)
    (case c__law_mean => k_is)
    (case k__law_mean => k_is)
    (case a__law_cut => k_is)
    (case l__law_cut => k_is)
    (case c__law_cut => k_is)
    (case k__law_cut => k_is)
    (case a__law_beside => k_is)
    (case l__law_beside => k_is)
    (case c__law_beside => k_is)
    (case k__law_beside => k_is)
    (case a__law_turns => k_is)
    (case l__law_turns => k_is)
    (case c__law_turns => k_is)
    (case k__law_turns => k_is)
    (case a__law_merged => k_is)
    (case l__law_merged => k_is)
    (case c__law_merged => k_is)
    (case k__law_merged => k_is)
    (case a_law => k_is)
    (case l_law => k_is)
    (case c_law => k_is)
    (case k_law => k_is)
    (case kc_NoNumber => k_is)
    (case ec_NoNumber => k_is)
    (case tc_NoNumber => k_is)
    (case xc_NoNumber => k_exc)
    (case kc_NoGroup => k_is)
    (case ec_NoGroup => k_is)
    (case tc_NoGroup => k_is)
    (case xc_NoGroup => k_exc)
    (case kc_NoTable => k_is)
    (case ec_NoTable => k_is)
    (case tc_NoTable => k_is)
    (case xc_NoTable => k_exc)
    (case kc_Unlike => k_is)
    (case ec_Unlike => k_is)
    (case tc_Unlike => k_is)
    (case xc_Unlike => k_exc)
    (case kc_TooMany => k_is)
    (case ec_TooMany => k_is)
    (case tc_TooMany => k_is)
    (case xc_TooMany => k_exc)
    (case cn_MOST => k_is)
    (case cn_SIXTY => k_is)
    (case z_abs => k_is)
    (case z_bool => k_is)
    (case z_enumerate => k_is)
    (case z_int => k_is)
    (case z_isinstance => k_is)
    (case z_len => k_is)
    (case z_list => k_is)
    (case z_max => k_is)
    (case z_min => k_is)
    (case z_range => k_is)
    (case z_sum => k_is)
    (case z_tuple => k_is)
    (case z_zip => k_is)
