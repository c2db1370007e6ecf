import PyProof.Rows.All
import Wide.All
import OpenK.AllK
import Wide.FinOn
import HandS.ForMost
import HandS.Exc
import HandS.TryOnly
import HandS.ExcOwn
import HandS.WordsExc
import HandS.IsInst
import HandS.Style
import HandS.Zip
import PySem.Challenge.RW_shareparley_k24_mean_of_all_orders
set_option Elab.async false
set_option linter.all false
set_option maxRecDepth 100000
set_option maxHeartbeats 4000000
/-! Cm: what every text of ours leans on: the carried heap (Own), the readings walked step by step (x_..), own rules. -/
namespace Sp
open PySem L2 PyProof.Rows

/-! ### the carried heap: B is what stands and stays, cs the cells of our own that may still change -/
abbrev Cells := List (Addr × HO)
structure Own (B : Hp) (cs : Cells) (H : Hp) : Prop where
  ex : Same B H
  cell : ∀ p ∈ cs, H p.1 = some p.2 ∧ B p.1 = none
  nd : (cs.map (·.1)).Nodup
theorem same_upd {H : Hp} {p : Addr} {o : HO} (h : H p = none) : Same H (upd H p o) := fun b x e => by
  rw [upd_ne (ne_of_none e h)]
  exact e
theorem Own.start {H : Hp} : Own H [] H := ⟨Same.refl H, fun _ h => (nomatch h), List.nodup_nil⟩
section
variable {B H H' : Hp} {cs : Cells} {p : Addr} {o o' : HO} {K : PySem.W.Frag} {xs : List V}
theorem Own.ext (w : Own B cs H) (e : Same H H') : Own B cs H' := ⟨w.ex.trans e, fun q h => ⟨e _ _ (w.cell q h).1, (w.cell q h).2⟩, w.nd⟩
theorem Own.fresh (w : Own B cs H) (hp : H p = none) : B p = none := w.ex.free hp
theorem Own.off (w : Own B cs H) (hp : H p = none) : p ∉ cs.map (·.1) := fun m => by
  obtain ⟨q, hq, e⟩ := List.mem_map.mp m
  have := (w.cell q hq).1
  rw [e, hp] at this
  cases this
theorem Own.newE (w : Own B cs H) (hp : H p = none) (e : Same H H') (h : H' p = some o) : Own B ((p, o) :: cs) H' :=
  ⟨w.ex.trans e, fun q hq => by
    rcases List.mem_cons.mp hq with r | r
    · rw [r]; exact ⟨h, w.fresh hp⟩
    · exact ⟨e _ _ (w.cell q r).1, (w.cell q r).2⟩, List.nodup_cons.mpr ⟨w.off hp, w.nd⟩⟩
theorem Own.new (w : Own B cs H) (hp : H p = none) : Own B ((p, o) :: cs) (upd H p o) := w.newE hp (same_upd hp) upd_same
theorem Own.get (w : Own B cs H) (i : Nat) (h : cs[i]? = some (p, o)) : H p = some o := (w.cell _ (List.mem_of_getElem? h)).1
theorem Own.none (w : Own B cs H) (i : Nat) (h : cs[i]? = some (p, o)) : B p = none := (w.cell _ (List.mem_of_getElem? h)).2
theorem Own.put (w : Own B cs H) (i : Nat) (h : cs[i]? = some (p, o)) : Own B (cs.set i (p, o')) (upd H p o') := by
  have hi : i < cs.length := (List.getElem?_eq_some_iff.mp h).1
  have hm : (cs.set i (p, o')).map (·.1) = cs.map (·.1) := by
    rw [List.map_set]
    apply List.ext_getElem?
    intro j
    by_cases e : i = j
    · subst e
      rw [List.getElem?_set_self (by rw [List.length_map]; exact hi), List.getElem?_map, h] <;> rfl
    · rw [List.getElem?_set_ne e]
  refine ⟨fun b x e => ?_, fun q hq => ?_, by rw [hm]; exact w.nd⟩
  · rw [upd_ne (ne_of_none e (w.none i h))]
    exact w.ex b x e
  · obtain ⟨j, hj⟩ := List.mem_iff_getElem?.mp hq
    by_cases e : i = j
    · subst e
      rw [List.getElem?_set_self hi] at hj
      cases hj
      exact ⟨upd_same, w.none i h⟩
    · rw [List.getElem?_set_ne e] at hj
      have hq' := w.cell q (List.mem_of_getElem? hj)
      have hne : q.1 ≠ p := fun z => by
        have a1 : (cs.map (·.1))[i]? = some p := by rw [List.getElem?_map, h] <;> rfl
        have a2 : (cs.map (·.1))[j]? = some p := by rw [List.getElem?_map, hj, ← z] <;> rfl
        obtain ⟨l1, e1⟩ := List.getElem?_eq_some_iff.mp a1
        obtain ⟨l2, e2⟩ := List.getElem?_eq_some_iff.mp a2
        exact e ((List.getElem_inj w.nd).mp (e1.trans e2.symm))
      exact ⟨by rw [upd_ne hne]; exact hq'.1, hq'.2⟩
theorem Own.sub {ds : Cells} (w : Own B cs H) (h : ds.Sublist cs) : Own B ds H := ⟨w.ex, fun q hq => w.cell q (h.mem hq), (h.map (·.1)).nodup w.nd⟩
theorem Own.pop (w : Own B ((p, o) :: cs) H) : Own B cs H := w.sub (List.sublist_cons_self _ _)
theorem Own.freeze (w : Own B ((p, o) :: cs) H) : Own (upd B p o) cs H :=
  ⟨fun b x e => by
    by_cases z : b = p
    · subst z; rw [upd_same] at e; rw [← e]; exact w.get 0 rfl
    · rw [upd_ne z] at e; exact w.ex b x e,
   fun q hq => ⟨(w.cell q (List.mem_cons_of_mem _ hq)).1, by
    rw [upd_ne (fun z => ?_)]
    · exact (w.cell q (List.mem_cons_of_mem _ hq)).2
    · have := (List.nodup_cons.mp w.nd).1
      exact this (List.mem_map.mpr ⟨q, hq, z⟩)⟩, (List.nodup_cons.mp w.nd).2⟩
theorem Own.sq (w : Own B cs H) (i : Nat) (h : cs[i]? = some (p, .lst xs)) : SqL K H p xs := SqL.of (w.get i h)
theorem Own.sqT (w : Own B cs H) (i : Nat) (h : cs[i]? = some (p, .tup xs)) : SqT K H p xs := SqT.of (w.get i h)
theorem same_sqT (e : Same H H') (h : SqT K H p xs) : SqT K H' p xs := by
  rcases h with (h | ⟨u, h⟩) | h
  · exact .inl (.inl (e _ _ h))
  · exact .inl (.inr ⟨u, e _ _ h⟩)
  · exact .inr h
theorem Own.seq (w : Own B cs H) (h : SqL K B p xs) : SqL K H p xs := w.ex.seq h
theorem Own.seqT (w : Own B cs H) (h : SqT K B p xs) : SqT K H p xs := same_sqT w.ex h
end

/-! ### own rules -/
section
variable {X : Cx}
/-- a list that is read: ours, or frozen -/
abbrev RdL (H : Hp) (a : Addr) (xs : List V) : Prop := Rd H a (.lst xs)
theorem rd_list {pins : List (Addr × Obj)} {σ : L2.St} {H : Hp} {s : Shared} {p : Addr} {xs : List V} (I : Inv X pins σ H s) (h : RdL H p xs) :
    xs.length ≤ sizeLine ∧ ∃ (its : List Value) (n : Nat), Vals xs its ∧ xs.length = its.length ∧ s.heap.get? p = some { cls := .type "list", data := .seq its.toArray n } := by
  obtain ⟨z, its, n, r, e⟩ := h.ok I.hok
  exact ⟨z, its, n, r, r.length, e⟩
/-- + of lists (ours or frozen) -/
def rCatS : R2 := fun x y H Q => ∃ l b xs zs, x = .ref l ∧ y = .ref b ∧ RdL H l xs ∧ RdL H b zs ∧ xs.length + zs.length ≤ sizeLine ∧ ∀ p, H p = none → Q (.ref p) (upd H p (.lst (xs ++ zs)))
theorem op_catS : OpR X (binaryOp .Add) rCatS := by
  intro pins s σ H x y v u Q I rx ry h
  obtain ⟨l, b, xs, zs, rfl, rfl, hH, hB, hz, q⟩ := h
  cases rx
  cases ry
  obtain ⟨z, its, n, r, hl, e⟩ := rd_list I hH
  obtain ⟨z2, its2, n2, r2, hl2, e2⟩ := rd_list I hB
  refine PySem.P.add_list e e2 ?_ (by rw [List.size_toArray, List.size_toArray]; omega)
  have ea : its.toArray ++ its2.toArray = (its ++ its2).toArray := by simp
  rw [ea]
  exact ⟨.ref _, _, I.lnew (t' := s.toks) (r.append r2) (by rw [List.length_append]; omega), rfl, q _ I.fresh⟩
/-- + of ints, of lists, of texts: which one, the reading says -/
def rAddX : R2 := fun x y H Q => (rI0 (fun i j => .int (i + j))) x y H Q ∨ rCatS x y H Q ∨ (∃ i j, x = .str i ∧ y = .str j ∧ i.length + j.length ≤ sizeLine ∧ Q (.str (i ++ j)) H)
theorem op_addX : OpR X (binaryOp .Add) rAddX := op_add.or (op_catS.or op_add_str)
/-- * of ints (any that the machine multiplies); of a list and an int -/
def rMulI : R2 := rI IntMulOk fun i j => .int (i * j)
theorem op_mulI : OpR X (binaryOp .Mult) rMulI := opI fun _ _ _ _ _ _ _ hc q => mul_int q hc
def rMulX : R2 := fun x y H Q => rMulI x y H Q ∨ rRep x y H Q
theorem op_mulX : OpR X (binaryOp .Mult) rMulX := op_mulI.or op_rep
/-- // by a divisor that is not nought, below 2 ^ 9000 -/
def CDivX (_ j : Int) : Prop := j ≠ 0 ∧ j.natAbs.log2 < 9000
def rDivX : R2 := rI CDivX fun i j => .int (i.fdiv j)
theorem op_fdivX : OpR X (binaryOp .FloorDiv) rDivX := opI fun _ _ _ _ _ _ _ hc q => floordiv_int hc.1 q (.inl (PyProof.noPylong_of_log2 hc.2))
def rModX : R2 := rI (fun _ j => j ≠ 0) fun i j => .int (i.fmod j)
theorem op_modX : OpR X (binaryOp .Mod) rModX := op_modN
/-- ** and << of a small base; >> -/
def rPow : R2 := rI CPow fun i j => .int (i ^ j.toNat)
theorem op_powX : OpR X (binaryOp .Pow) rPow := op_pow
def rShl : R2 := rI CPow fun i j => .int (i * 2 ^ j.toNat)
theorem op_shlX : OpR X (binaryOp .LShift) rShl := op_shl
def rShr : R2 := rI (fun _ j => 0 ≤ j) fun i j => .int (i / 2 ^ j.toNat)
theorem op_shrX : OpR X (binaryOp .RShift) rShr := op_shr
def rSubI : R2 := rI0 fun i j => .int (i - j)
theorem op_subX : OpR X (binaryOp .Sub) rSubI := op_sub
def rAndI : R2 := rI0 fun i j => .int (Builtin.bitAnd i j)
theorem op_andX : OpR X (binaryOp .BitAnd) rAndI := op_and
def rOrI : R2 := rI0 fun i j => .int (Builtin.bitOr i j)
theorem op_orX : OpR X (binaryOp .BitOr) rOrI := op_or
def rXorI : R2 := rI0 fun i j => .int (Builtin.bitXor i j)
theorem op_xorX : OpR X (binaryOp .BitXor) rXorI := op_xor
def rLtI : R2 := rI0 fun i j => .bl (decide (i < j))
theorem op_ltX : OpR X (compareOp .Lt) rLtI := op_lt
def rLeI : R2 := rI0 fun i j => .bl (decide (i ≤ j))
theorem op_leX : OpR X (compareOp .LtE) rLeI := op_le
def rGtI : R2 := rI0 fun i j => .bl (decide (j < i))
theorem op_gtX : OpR X (compareOp .Gt) rGtI := op_gt
def rGeI : R2 := rI0 fun i j => .bl (decide (j ≤ i))
theorem op_geX : OpR X (compareOp .GtE) rGeI := op_ge
/-- == and != of plain values, of data -/
def rEqX (K : PySem.W.Frag) : R2 := fun x y H Q => rEq x y H Q ∨ rEqD K x y H Q
def rNeX (K : PySem.W.Frag) : R2 := fun x y H Q => rNe x y H Q ∨ rNeD K x y H Q
theorem op_eqX (hu : X.A.units + 64 < cLine) : OpR X (compareOp .Eq) (rEqX X.K) := op_eq.or (op_eqD hu)
theorem op_neX (hu : X.A.units + 64 < cLine) : OpR X (compareOp .NotEq) (rNeX X.K) := op_ne.or (op_neD hu)
/-- is, is not, of anything and a truth -/
def rIsX : R2 := fun x y H Q => ∃ b : Bool, y = .bl b ∧ Q (.bl (decide (x = .bl b))) H
/-- is None -/
def rIsNX : R2 := fun x y H Q => y = .non ∧ Q (.bl (decide (x = .non))) H
def rNotNX : R2 := fun x y H Q => y = .non ∧ Q (.bl (!decide (x = .non))) H
theorem op_isNX : OpR X (compareOp .Is) rIsNX := op_isN
theorem op_notNX : OpR X (compareOp .IsNot) rNotNX := op_notN
theorem op_isX : OpR X (compareOp .Is) rIsX := by
  intro pins s σ H x y v u Q I rx ry h
  obtain ⟨b, rfl, q⟩ := h
  cases (show u = Value.bool b from ry)
  cases x with
  | bl a =>
    cases (show v = Value.bool a from rx)
    by_cases e : a = b
    · subst e
      exact wpAny_is_self rfl ⟨.bl true, H, I, rfl, by simpa using q⟩
    · exact wpAny_is_other rfl (fun z => e (Value.bool.inj z)) ⟨.bl false, H, I, rfl, by simpa [e] using q⟩
  | non => cases (show v = Value.none from rx); exact wpAny_is_other rfl (fun z => nomatch z) ⟨.bl false, H, I, rfl, by simpa using q⟩
  | int i => obtain ⟨t, rfl⟩ := rx; exact wpAny_is_other rfl (fun z => nomatch z) ⟨.bl false, H, I, rfl, by simpa using q⟩
  | str i => obtain ⟨t, rfl⟩ := rx; exact wpAny_is_other rfl (fun z => nomatch z) ⟨.bl false, H, I, rfl, by simpa using q⟩
  | byt i => obtain ⟨t, rfl⟩ := rx; exact wpAny_is_other rfl (fun z => nomatch z) ⟨.bl false, H, I, rfl, by simpa using q⟩
  | flt i => obtain ⟨t, rfl⟩ := rx; exact wpAny_is_other rfl (fun z => nomatch z) ⟨.bl false, H, I, rfl, by simpa using q⟩
  | ref a => cases (show v = Value.ref a from rx); exact wpAny_is_other rfl (fun z => nomatch z) ⟨.bl false, H, I, rfl, by simpa using q⟩
  | ty a => cases (show v = Value.type a from rx); exact wpAny_is_other rfl (fun z => nomatch z) ⟨.bl false, H, I, rfl, by simpa using q⟩
/-- the place of a list's item is read, as a store by an operator reads it -/
theorem get_list : PGet X (rIxL X.K) := by
  intro pins s σ H x y v u Q I rx ry h
  obtain ⟨p, xs, i, z, rfl, rfl, hq, he, q⟩ := h
  cases rx
  obtain ⟨t, rfl⟩ := ry
  obtain ⟨its, r, pl, hz⟩ := I.list hq
  obtain ⟨j, h1, h2, h3, h4, h5⟩ := atI_get he
  obtain ⟨w, ew, rw'⟩ := r.get h2
  have hl := r.length
  have hn := line63
  have fin : EP X pins σ Q w s := ⟨z, H, I, rw', q⟩
  by_cases h0 : 0 ≤ i
  · have hj : i.toNat = j := by
      rw [seqIndex_of h0 h5] at h1
      exact Option.some.inj h1
    exact wpAny_getItem_list pl.isList h0 (by omega) (by rw [hj]; simpa using ew) fin
  · have hj : (i + (its.toArray.size : Int)).toNat = j := by
      rw [seqIndex_neg (by omega) h4] at h1
      rw [List.size_toArray, ← hl]
      exact Option.some.inj h1
    exact wpAny_getItem_list_neg pl.isList (by omega) (by rw [List.size_toArray] <;> omega) (by omega) (by rw [hj]; simpa using ew) fin
/-- len, list, sum, .. by names of ours -/
def rLen (K : PySem.W.Frag) : List V → Hp → VK → Prop := fun xs H Q => ∃ x n, xs = [x] ∧ LenV K x H n ∧ Q (.int n) H
theorem call_lenX : CallR X (.builtin "len") (rLen X.K) := call_len
def rList (K : PySem.W.Frag) : List V → Hp → VK → Prop := fun xs H Q => ∃ p ys, xs = [.ref p] ∧ (SqL K H p ys ∨ SqT K H p ys) ∧ ∀ l, H l = none → Q (.ref l) (upd H l (.lst ys))
theorem call_listX : CallR X (.type "list") (rList X.K) := call_list_of
def rAbs : List V → Hp → VK → Prop := fun xs H Q => ∃ i, xs = [.int i] ∧ Q (.int (if i < 0 then -i else i)) H
theorem call_absX : CallR X (.builtin "abs") rAbs := call_abs
def rMax2 : List V → Hp → VK → Prop := fun xs H Q => ∃ i j, xs = [.int i, .int j] ∧ Q (.int (if j > i then j else i)) H
theorem call_max2X (hc : X.calm = true) : CallR X (.builtin "max") rMax2 := call_max2 hc
def rMin2 : List V → Hp → VK → Prop := fun xs H Q => ∃ i j, xs = [.int i, .int j] ∧ Q (.int (if j < i then j else i)) H
theorem call_min2X (hc : X.calm = true) : CallR X (.builtin "min") rMin2 := call_min2 hc
def rInt1 : List V → Hp → VK → Prop := fun xs H Q => (∃ i, xs = [.int i] ∧ Q (.int i) H) ∨ ∃ k, xs = [.bl k] ∧ Q (.int (if k then 1 else 0)) H
theorem call_int1X : CallR X (.type "int") rInt1 := call_int1
end

/-! ### readings, step by step: each of these takes the head of a reading away -/
section
variable {K : PySem.W.Frag} {σ : L2.St} {H : Hp} {D : Ends} {Q : VK} {te ta tb tl th : TE} {t u : TS} {c c2 : TT} {g : TG} {i : Nat} {v x y : V} {r : R2} {QT : Bool → Hp → Prop} {QA : List V → Hp → Prop} {sp : Sp} {dvs vs : List V} {E : XK}
theorem x_seq (h : t { D with nx := u D } σ H) : tSeq t u D σ H := h
theorem x_next (h : D.nx σ H) : tNext D σ H := h
theorem x_asg (h : te σ H fun x H1 => D.nx (σ.set i (some x)) H1) : tAsg te (gName i) D σ H := h
theorem x_asgS {to ti : TE} {s : TSet} (h : te σ H fun x H1 => to σ H1 fun o H2 => ti σ H2 fun k H3 => s o k x H3 fun H4 => D.nx σ H4) : tAsg te (gSub to ti s) D σ H := h
theorem x_augS {to ti : TE} {tg : V → V → Hp → VK → Prop} {tip : TIp} {ts : TSet} (h : to σ H fun o H1 => ti σ H1 fun k H2 => tg o k H2 fun x H3 => te σ H3 fun y H4 => tip x y H4 fun z H5 => ts o k z H5 fun H6 => D.nx σ H6) : tAugS to ti te tg tip ts D σ H := h
theorem x_aug {tip : TIp} (e : σ[i]? = some (some x)) (h : te σ H fun y H1 => tip x y H1 fun z H2 => D.nx (σ.set i (some z)) H2) : tAug i te tip D σ H := ⟨x, e, h⟩
theorem x_gn {QS : L2.St → Hp → Prop} (h : QS (σ.set i (some v)) H) : gName i v σ H QS := h
theorem x_gt {n : Nat} {gs : TGs} {a : Addr} {xs : List V} {QS : L2.St → Hp → Prop} (h : SqT K H a xs) (hn : xs.length = n) (q : gs xs σ H QS) : gTup K n gs (.ref a) σ H QS := ⟨a, xs, rfl, h, hn, q⟩
theorem x_gc {gs : TGs} {r : List V} {QS : L2.St → Hp → Prop} (q : g v σ H fun σ' H' => gs r σ' H' QS) : gCons g gs (v :: r) σ H QS := ⟨v, r, rfl, q⟩
theorem x_g0 {QS : L2.St → Hp → Prop} (q : QS σ H) : gNil [] σ H QS := ⟨rfl, q⟩
theorem x_ret (h : te σ H D.rt) : tRet te D σ H := h
theorem x_retN (h : D.rt .non H) : tRetN D σ H := h
theorem x_drop (h : te σ H fun _ H1 => D.nx σ H1) : tDrop te D σ H := h
theorem x_if (h : c σ H fun b H1 => if b = true then t D σ H1 else u D σ H1) : tIfS c t u D σ H := h
theorem x_brk (h : D.bk σ H) : tBreak D σ H := h
theorem x_ct (h : D.ct σ H) : tCont D σ H := h
theorem x_var (e : σ[i]? = some (some v)) (q : Q v H) : tVar i σ H Q := ⟨v, e, q⟩
theorem x_c (q : Q v H) : tC v σ H Q := q
theorem x_op (h : ta σ H fun x H1 => tb σ H1 fun y H2 => r x y H2 Q) : tOp r ta tb σ H Q := h
theorem x_un {r : V → Hp → VK → Prop} (h : ta σ H fun x H1 => r x H1 Q) : tUn r ta σ H Q := h
theorem x_test (h : te σ H fun x H1 => ∃ k, x = .bl k ∧ QT k H1) : tTest te σ H QT := h
theorem x_B (h : te σ H fun x H1 => ∃ k, x = .bl k ∧ QT k H1) : tB te σ H QT := h
theorem x_ex {b : Bool} {P : Bool → Prop} (q : P b) : ∃ k, V.bl b = .bl k ∧ P k := ⟨b, rfl, q⟩
theorem x_and (h : c σ H fun b H1 => if b = true then c2 σ H1 QT else QT false H1) : tAnd c c2 σ H QT := h
theorem x_or (h : c σ H fun b H1 => if b = true then QT true H1 else c2 σ H1 QT) : tOr c c2 σ H QT := h
theorem x_not (h : c σ H fun b H1 => QT (!b) H1) : tNot c σ H QT := h
theorem x_andV (h : ta σ H fun x H1 => ∃ b, x = .bl b ∧ if b = true then tb σ H1 Q else Q (.bl false) H1) : tAndV ta tb σ H Q := h
theorem x_orV (h : ta σ H fun x H1 => ∃ b, x = .bl b ∧ if b = true then Q (.bl true) H1 else tb σ H1 Q) : tOrV ta tb σ H Q := h
theorem x_notV (h : ta σ H fun x H1 => ∃ b, x = .bl b ∧ Q (.bl (!b)) H1) : tNotV ta σ H Q := h
theorem x_ifE (h : c σ H fun b H1 => if b = true then ta σ H1 Q else tb σ H1 Q) : tIf c ta tb σ H Q := h
theorem x_nil (q : QA [] H) : tNil σ H QA := q
theorem x_cons {tr : TA} (h : te σ H fun v H1 => tr σ H1 fun vs H2 => QA (v :: vs) H2) : tCons te tr σ H QA := h
theorem x_call {tr : TA} (h : tr σ H fun vs H1 => sp (vs ++ dvs) H1 Q E) : tCall sp dvs E tr σ H Q := h
theorem x_cb {tr : TA} {rc : List V → Hp → VK → Prop} (h : tr σ H fun vs H1 => rc vs H1 Q) : tCB rc tr σ H Q := h
theorem x_tup {tr : TA} (h : tr σ H fun xs H1 => xs.length ≤ sizeLine ∧ ∀ p, H1 p = none → Q (.ref p) (upd H1 p (.tup xs))) : tTup tr σ H Q := h
theorem x_lst {tr : TA} (h : tr σ H fun xs H1 => xs.length ≤ sizeLine ∧ ∀ p, H1 p = none → Q (.ref p) (upd H1 p (.lst xs))) : tLst tr σ H Q := h
theorem x_for {wi : TI} (h : wi σ H fun J H1 => ∃ W : Nat → Nat → L2.St → Hp → Prop, (∃ m, W 0 m σ H1) ∧ ∀ i m σ H, W i m σ H →
  (J.stop i H ∧ D.nx σ H) ∨ (J.go i H ∧ ∃ N : L2.St → Hp → Prop, (∀ σ' H', N σ' H' → ∃ m', m' < m ∧ W (i + 1) m' σ' H') ∧ ∀ x H', J.yld i H x H' → g x σ H' fun σ2 H2 => t { D with nx := N, ct := N, bk := D.nx } σ2 H2)) : tFor wi g t D σ H := h
theorem x_iList {R : It → Hp → Prop} (h : tl σ H fun x H1 => ∃ a, x = .ref a ∧ (∃ xs, SqL K H1 a xs) ∧ R (Itl K a) H1) : iList K tl σ H R := h
theorem x_iTup {R : It → Hp → Prop} (h : tl σ H fun x H1 => ∃ a, x = .ref a ∧ (∃ xs, SqT K H1 a xs) ∧ R (Itt K a) H1) : iTup K tl σ H R := h
theorem x_iR1 {R : It → Hp → Prop} {tr : TA} (h : tr σ H fun vs H1 => ∃ j : Int, vs = [.int j] ∧ -(2 ^ 62) ≤ j ∧ j < 2 ^ 62 ∧ R (Itr 0 j.toNat) H1) : iRng1 tr σ H R := h
theorem x_iR2 {R : It → Hp → Prop} {tr : TA} (h : tr σ H fun vs H1 => ∃ i j : Int, vs = [.int i, .int j] ∧ (-(2 ^ 62) ≤ i ∧ i < 2 ^ 62 ∧ -(2 ^ 62) ≤ j ∧ j < 2 ^ 62) ∧ R (Itr i (j - i).toNat) H1) : iRng2 tr σ H R := h
theorem x_iZip {R : It → Hp → Prop} {tr : TA} (h : tr σ H fun vs H1 => ∃ a b xs ys, vs = [.ref a, .ref b] ∧ SqL K H1 a xs ∧ SqL K H1 b ys ∧ R (Itz K a b) H1) : iZip K tr σ H R := h
theorem x_iEnum {R : It → Hp → Prop} {tr : TA} (h : tr σ H fun vs H1 => ∃ a xs, vs = [.ref a] ∧ SqL K H1 a xs ∧ R (Ite K a) H1) : iEnum K tr σ H R := h
theorem x_lc {wi : TI} {tt : TT} {ws : List Nat} (h : wi σ H fun J H1 => ∀ D, H1 D = none → ∃ W : Nat → Nat → Hp → Prop, (∃ m, W 0 m (upd H1 D (.lst []))) ∧ ∀ i m H, W i m H →
  (J.stop i H ∧ Q (.ref D) H) ∨ (J.go i H ∧ ∃ Nx : Hp → Prop, (∀ H', Nx H' → ∃ m', m' < m ∧ W (i + 1) m' H') ∧ ∀ x H', J.yld i H x H' → g x (wipe σ ws) H' fun σ2 H2 => wipe σ2 ws = wipe σ ws ∧ tt σ2 H2 fun b H3 =>
    if b = true then te σ2 H3 fun y H4 => ∃ acc, H4 D = some (.lst acc) ∧ acc.length < sizeLine ∧ Nx (upd H4 D (.lst (acc ++ [y]))) else Nx H3)) : tLc wi g tt te ws σ H Q := h
theorem x_yes (h : QT true H) : tYes σ H QT := h
theorem x_sl {rs : V → Option Int → Option Int → Hp → VK → Prop} {tlo thi : TO} (h : te σ H fun x H1 => tlo σ H1 fun l H2 => thi σ H2 fun u H3 => rs x l u H3 Q) : tSl rs te tlo thi σ H Q := h
theorem x_noPart {QO : Option Int → Hp → Prop} (h : QO none H) : tNoPart σ H QO := h
theorem x_part {QO : Option Int → Hp → Prop} (h : te σ H fun x H1 => ∃ i, x = .int i ∧ QO (some i) H1) : tPart te σ H QO := h
theorem x_exI {j : Int} {P : Int → Prop} (q : P j) : ∃ k, V.int j = .int k ∧ P k := ⟨j, rfl, q⟩
theorem x_bm {T : String} {rm : V → List V → Hp → VK → Prop} {tr : TA} (h : te σ H fun x H1 => tyV K T x H1 ∧ tr σ H1 fun xs H2 => rm x xs H2 Q) : tBM K T rm te tr σ H Q := h
theorem x_bm0 {T : String} {rm : V → List V → Hp → VK → Prop} (h : te σ H fun x H1 => tyV K T x H1 ∧ rm x [] H1 Q) : tBM0 K T rm te σ H Q := h
/- operators by values -/
theorem x_I0 {G : Int → Int → V} {a b : Int} (q : Q (G a b) H) : rI0 G (.int a) (.int b) H Q := ⟨a, b, rfl, rfl, q⟩
theorem x_I {C : Int → Int → Prop} {G : Int → Int → V} {a b : Int} (hc : C a b) (q : Q (G a b) H) : rI C G (.int a) (.int b) H Q := ⟨a, b, rfl, rfl, hc, q⟩
theorem x_U {G : Int → V} {a : Int} (q : Q (G a) H) : rU G (.int a) H Q := ⟨a, rfl, q⟩
theorem x_addI {a b : Int} (q : Q (.int (a + b)) H) : rAddX (.int a) (.int b) H Q := .inl ⟨a, b, rfl, rfl, q⟩
theorem x_addL {l b : Addr} {xs zs : List V} (h1 : RdL H l xs) (h2 : RdL H b zs) (hz : xs.length + zs.length ≤ sizeLine) (q : ∀ p, H p = none → Q (.ref p) (upd H p (.lst (xs ++ zs)))) : rAddX (.ref l) (.ref b) H Q := .inr (.inl ⟨l, b, xs, zs, rfl, rfl, h1, h2, hz, q⟩)
theorem x_addS {a b : Str} (h : a.length + b.length ≤ sizeLine) (q : Q (.str (a ++ b)) H) : rAddX (.str a) (.str b) H Q := .inr (.inr ⟨a, b, rfl, rfl, h, q⟩)
theorem x_subI {a b : Int} (q : Q (.int (a - b)) H) : rSubI (.int a) (.int b) H Q := ⟨a, b, rfl, rfl, q⟩
theorem x_mulI {a b : Int} (h : IntMulOk a b) (q : Q (.int (a * b)) H) : rMulX (.int a) (.int b) H Q := .inl ⟨a, b, rfl, rfl, h, q⟩
theorem x_mulL {l : Addr} {k : Int} {xs : List V} (h1 : H l = some (.lst xs)) (h2 : -(2 ^ 63) ≤ k ∧ k < 2 ^ 63 ∧ xs.length * k.toNat ≤ sizeLine) (q : ∀ p, H p = none → Q (.ref p) (upd H p (.lst (List.replicate k.toNat xs).flatten))) : rMulX (.ref l) (.int k) H Q :=
  .inr ⟨l, k, xs, rfl, rfl, h1, h2.1, h2.2.1, h2.2.2, q⟩
theorem x_divI {a b : Int} (h : b ≠ 0 ∧ b.natAbs.log2 < 9000) (q : Q (.int (a.fdiv b)) H) : rDivX (.int a) (.int b) H Q := ⟨a, b, rfl, rfl, h, q⟩
theorem x_divP {a b : Int} (h0 : 0 < b) (h : b.natAbs.log2 < 9000) (q : Q (.int (a / b)) H) : rDivX (.int a) (.int b) H Q := ⟨a, b, rfl, rfl, ⟨by omega, h⟩, by show Q (.int (a.fdiv b)) H; rw [Int.fdiv_eq_ediv_of_nonneg a (by omega)]; exact q⟩
theorem x_modP {a b : Int} (h0 : 0 < b) (q : Q (.int (a % b)) H) : rModX (.int a) (.int b) H Q := ⟨a, b, rfl, rfl, by omega, by show Q (.int (a.fmod b)) H; rw [Int.fmod_eq_emod_of_nonneg a (by omega)]; exact q⟩
theorem x_powN {a b : Int} (h : CPow a b) (q : Q (.int (a ^ b.toNat)) H) : rPow (.int a) (.int b) H Q := ⟨a, b, rfl, rfl, h, q⟩
theorem x_shl {a b : Int} (h : CPow a b) (q : Q (.int (a * 2 ^ b.toNat)) H) : rShl (.int a) (.int b) H Q := ⟨a, b, rfl, rfl, h, q⟩
theorem x_shr {a b : Int} (h : 0 ≤ b) (q : Q (.int (a / 2 ^ b.toNat)) H) : rShr (.int a) (.int b) H Q := ⟨a, b, rfl, rfl, h, q⟩
theorem x_andI {a b : Int} (q : Q (.int (Builtin.bitAnd a b)) H) : rAndI (.int a) (.int b) H Q := ⟨a, b, rfl, rfl, q⟩
theorem x_orI {a b : Int} (q : Q (.int (Builtin.bitOr a b)) H) : rOrI (.int a) (.int b) H Q := ⟨a, b, rfl, rfl, q⟩
theorem x_xorI {a b : Int} (q : Q (.int (Builtin.bitXor a b)) H) : rXorI (.int a) (.int b) H Q := ⟨a, b, rfl, rfl, q⟩
theorem x_ltI {a b : Int} (q : Q (.bl (decide (a < b))) H) : rLtI (.int a) (.int b) H Q := ⟨a, b, rfl, rfl, q⟩
theorem x_leI {a b : Int} (q : Q (.bl (decide (a ≤ b))) H) : rLeI (.int a) (.int b) H Q := ⟨a, b, rfl, rfl, q⟩
theorem x_gtI {a b : Int} (q : Q (.bl (decide (b < a))) H) : rGtI (.int a) (.int b) H Q := ⟨a, b, rfl, rfl, q⟩
theorem x_geI {a b : Int} (q : Q (.bl (decide (b ≤ a))) H) : rGeI (.int a) (.int b) H Q := ⟨a, b, rfl, rfl, q⟩
theorem dec_int' {a b : Int} : decide (V.int a = V.int b) = decide (a = b) := by
  by_cases e : a = b
  · subst e; simp
  · rw [decide_eq_false e, decide_eq_false (fun z => e (V.int.inj z))]
theorem x_eqI {a b : Int} (q : Q (.bl (decide (a = b))) H) : rEqX K (.int a) (.int b) H Q := .inl ⟨rfl, by rw [dec_int']; exact q⟩
theorem x_neI {a b : Int} (q : Q (.bl (!decide (a = b))) H) : rNeX K (.int a) (.int b) H Q := .inl ⟨rfl, by rw [dec_int']; exact q⟩
theorem x_eqS {a b : Str} (q : Q (.bl (decide (a = b))) H) : rEqX K (.str a) (.str b) H Q := .inl ⟨rfl, by
  have e : decide (V.str a = V.str b) = decide (a = b) := by
    by_cases e : a = b
    · subst e; simp
    · rw [decide_eq_false e, decide_eq_false (fun z => e (V.str.inj z))]
  rw [e]; exact q⟩
theorem x_eqB {a b : Bool} (q : Q (.bl (decide (a = b))) H) : rEqX K (.bl a) (.bl b) H Q := .inl ⟨rfl, by
  have e : decide (V.bl a = V.bl b) = decide (a = b) := by cases a <;> cases b <;> rfl
  rw [e]; exact q⟩
theorem x_isX {b : Bool} (q : Q (.bl (decide (x = .bl b))) H) : rIsX x (.bl b) H Q := ⟨b, rfl, q⟩
theorem x_isN (q : Q (.bl (decide (x = .non))) H) : rIsNX x .non H Q := ⟨rfl, q⟩
theorem x_notN (q : Q (.bl (!decide (x = .non))) H) : rNotNX x .non H Q := ⟨rfl, q⟩
theorem x_ipI {f : Int → Int → Int} {a b : Int} (q : Q (.int (f a b)) H) : ipI f (.int a) (.int b) H Q := ⟨a, b, rfl, rfl, q⟩
/- lists by values -/
theorem x_ixL {p : Addr} {xs : List V} {i : Int} (h : SqL K H p xs) (ha : atI xs i = some v) (q : Q v H) : rIxL K (.ref p) (.int i) H Q := ⟨p, xs, i, v, rfl, rfl, h, ha, q⟩
theorem x_ixT {p : Addr} {xs : List V} {i : Int} (h : SqT K H p xs) (ha : atI xs i = some v) (q : Q v H) : rIxT K (.ref p) (.int i) H Q := ⟨p, xs, i, v, rfl, rfl, h, ha, q⟩
theorem x_ixXL {p : Addr} {xs : List V} {i : Int} (h : SqL K H p xs) (ha : atI xs i = some v) (q : Q v H) : rIx K (.ref p) (.int i) H Q := .inl ⟨p, xs, i, v, rfl, rfl, h, ha, q⟩
theorem x_ixXT {p : Addr} {xs : List V} {i : Int} (h : SqT K H p xs) (ha : atI xs i = some v) (q : Q v H) : rIx K (.ref p) (.int i) H Q := .inr (.inl ⟨p, xs, i, v, rfl, rfl, h, ha, q⟩)
theorem x_lenL {p : Addr} {xs : List V} (h : SqL K H p xs) (q : Q (.int (xs.length : Int)) H) : rLen K [.ref p] H Q := ⟨_, _, rfl, .inl ⟨xs, h, rfl⟩, q⟩
theorem x_lenT {p : Addr} {xs : List V} (h : SqT K H p xs) (q : Q (.int (xs.length : Int)) H) : rLen K [.ref p] H Q := ⟨_, _, rfl, .inr ⟨xs, h, rfl⟩, q⟩
theorem x_lenS {z : Str} (h : z.length ≤ sizeLine) (q : Q (.int (z.length : Int)) H) : rLen K [.str z] H Q := ⟨_, _, rfl, ⟨h, rfl⟩, q⟩
theorem x_list {p : Addr} {xs : List V} (h : SqL K H p xs) (q : ∀ l, H l = none → Q (.ref l) (upd H l (.lst xs))) : rList K [.ref p] H Q := ⟨p, xs, rfl, .inl h, q⟩
theorem x_append {l : Addr} {xs : List V} (h : H l = some (.lst xs)) (hz : xs.length < sizeLine) (q : Q .non (upd H l (.lst (xs ++ [y])))) : rAppend (.ref l) [y] H Q := ⟨l, xs, y, rfl, rfl, h, hz, q⟩
theorem x_setL {p : Addr} {xs : List V} {k : Int} {j : Nat} {QH : Hp → Prop} (h : H p = some (.lst xs)) (hj : ixN xs.length k = some j) (q : QH (upd H p (.lst (xs.set j v)))) : rSetL (.ref p) (.int k) v H QH := ⟨p, xs, k, j, rfl, rfl, h, hj, q⟩
theorem x_tyL {p : Addr} {xs : List V} (h : H p = some (.lst xs)) : tyV K "list" (.ref p) H := .inl ⟨rfl, _, SqL.of h⟩
theorem x_abs {j : Int} (q : Q (.int (if j < 0 then -j else j)) H) : rAbs [.int j] H Q := ⟨j, rfl, q⟩
theorem x_max2 {a b : Int} (q : Q (.int (if b > a then b else a)) H) : rMax2 [.int a, .int b] H Q := ⟨a, b, rfl, q⟩
theorem x_min2 {a b : Int} (q : Q (.int (if b < a then b else a)) H) : rMin2 [.int a, .int b] H Q := ⟨a, b, rfl, q⟩
theorem x_sum {p : Addr} {ns : List Int} (h : SqL K H p (ns.map V.int)) (q : Q (.int ns.sum) H) : rSum K [.ref p] H Q := ⟨p, ns, rfl, h, q⟩
/-- while: W falls; the turn's test is read as it stands -/
theorem x_while (W : Nat → L2.St → Hp → Prop) (m0 : Nat) (h0 : W m0 σ H) (hs : ∀ m σ H, W m σ H → c σ H fun b H1 => if b = true then ∃ N : L2.St → Hp → Prop, (∀ σ' H', N σ' H' → ∃ m', m' < m ∧ W m' σ' H') ∧ t { D with nx := N, ct := N, bk := D.nx } σ H1 else D.nx σ H1) : tWhile c t D σ H := ⟨W, ⟨m0, h0⟩, hs⟩
theorem x_N {m : Nat} {W : Nat → L2.St → Hp → Prop} {B : L2.St → Hp → Prop} (h : t { D with nx := fun σ' H' => ∃ m', m' < m ∧ W m' σ' H', ct := fun σ' H' => ∃ m', m' < m ∧ W m' σ' H', bk := B } σ H) :
    ∃ N : L2.St → Hp → Prop, (∀ σ' H', N σ' H' → ∃ m', m' < m ∧ W m' σ' H') ∧ t { D with nx := N, ct := N, bk := B } σ H := ⟨_, fun _ _ z => z, h⟩
end
/-! ### places in lists of ints -/
def gi (ns : List Int) (i : Int) : Int := ns.getD i.toNat 0
theorem at_int {ns : List Int} {i : Int} (h0 : 0 ≤ i) (h1 : i < ns.length) : atI (ns.map V.int) i = some (.int (gi ns i)) := by
  obtain ⟨n, rfl⟩ := Int.eq_ofNat_of_zero_le h0
  have hn : n < ns.length := by omega
  refine atI_nat ?_
  rw [List.getElem?_map, List.getElem?_eq_getElem hn]
  show some (V.int ns[n]) = some (V.int (ns.getD n 0))
  rw [List.getD_eq_getElem?_getD, List.getElem?_eq_getElem hn] <;> rfl
theorem ixN_int {n : Nat} {i : Int} (h0 : 0 ≤ i) (h1 : i < n) : ixN n i = some i.toNat := by
  unfold ixN
  rw [if_pos h0, if_pos h1]
theorem map_set_int {ns : List Int} {j : Nat} {z : Int} : (ns.map V.int).set j (.int z) = (ns.set j z).map V.int := (List.map_set).symm
theorem map_app_int {ns : List Int} {z : Int} : ns.map V.int ++ [.int z] = (ns ++ [z]).map V.int := by rw [List.map_append] <;> rfl
theorem mulok {a b : Int} {n m : Nat} (ha : a.natAbs < 2 ^ n) (hb : b.natAbs < 2 ^ m) (h0 : 0 < n) (h1 : 0 < m) (h : n + m ≤ 100000000) : IntMulOk a b := by
  have bb : ∀ x : Int, ∀ k, 0 < k → x.natAbs < 2 ^ k → Builtin.Int.intBits x ≤ k := fun x k hk hx => by
    have := PySem.Flt.log2_lt_of hk hx
    unfold Builtin.Int.intBits
    split <;> omega
  have h2 := bb a n h0 ha
  have h3 := bb b m h1 hb
  have e : bitsLine = 134217728 := by decide
  unfold IntMulOk
  intro z
  rw [Bool.and_eq_true] at z
  have z2 := z.2
  unfold Builtin.Int.intTooBig at z2
  have z3 := of_decide_eq_true z2
  rw [e] at z3
  omega

/-! ### things of any kind, as a caller hands them in -/
inductive Thing (H : Hp) : V → Prop
  | non : Thing H .non
  | bl (b : Bool) : Thing H (.bl b)
  | int (i : Int) : Thing H (.int i)
  | str (x : Str) : Thing H (.str x)
  | lst {a : Addr} {xs : List V} (e : Rd H a (.lst xs)) : Thing H (.ref a)
  | tup {a : Addr} {xs : List V} (e : Rd H a (.tup xs)) : Thing H (.ref a)
  | dic {a : Addr} {kvs : List (Key × V)} (e : H a = some (.dK kvs)) : Thing H (.ref a)
def isI : V → Bool
  | .int _ => true
  | _ => false
def isB : V → Bool
  | .bl _ => true
  | _ => false
theorem rd_same {H H' : Hp} {a : Addr} {u : HO} (e : Same H H') (h : Rd H a u) : Rd H' a u := by
  rcases h with h | ⟨o, h⟩
  · exact .inl (e _ _ h)
  · exact .inr ⟨o, e _ _ h⟩
theorem Thing.same {H H' : Hp} {v : V} (e : Same H H') (h : Thing H v) : Thing H' v := by
  cases h with
  | non => exact .non
  | bl b => exact .bl b
  | int i => exact .int i
  | str x => exact .str x
  | lst q => exact .lst (rd_same e q)
  | tup q => exact .tup (rd_same e q)
  | dic q => exact .dic (e _ _ q)
theorem Thing.ty {K : PySem.W.Frag} {H : Hp} {v : V} (h : Thing H v) : ∃ t : String, TyX K H v (.type t) ∧ kitB t "int" = some (isI v || isB v) ∧ kitB t "bool" = some (isB v) := by
  cases h with
  | non => exact ⟨"NoneType", .base .non, by decide +kernel, by decide +kernel⟩
  | bl b => exact ⟨"bool", .base (.bl b), by cases b <;> decide +kernel, by cases b <;> decide +kernel⟩
  | int i => exact ⟨"int", .base (.int i), by show kitB "int" "int" = some true; decide +kernel, by show kitB "int" "bool" = some false; decide +kernel⟩
  | str x => exact ⟨"str", .base (.str x), by show kitB "str" "int" = some false; decide +kernel, by show kitB "str" "bool" = some false; decide +kernel⟩
  | lst q =>
    rcases q with q | ⟨o, q⟩
    · exact ⟨"list", .base (.lst q), by show kitB "list" "int" = some false; decide +kernel, by show kitB "list" "bool" = some false; decide +kernel⟩
    · exact ⟨"list", .base (.frz q), by show kitB "list" "int" = some false; decide +kernel, by show kitB "list" "bool" = some false; decide +kernel⟩
  | tup q =>
    rcases q with q | ⟨o, q⟩
    · exact ⟨"tuple", .base (.tup q), by show kitB "tuple" "int" = some false; decide +kernel, by show kitB "tuple" "bool" = some false; decide +kernel⟩
    · exact ⟨"tuple", .fTuple q, by show kitB "tuple" "int" = some false; decide +kernel, by show kitB "tuple" "bool" = some false; decide +kernel⟩
  | dic q => exact ⟨"dict", .base (.dK q), by show kitB "dict" "int" = some false; decide +kernel, by show kitB "dict" "bool" = some false; decide +kernel⟩
section
variable {K : PySem.W.Frag} {H : Hp} {Q : VK} {v : V}
theorem x_isiInt (h : Thing H v) (q : Q (.bl (isI v || isB v)) H) : rIsi K [v, .ty "int"] H Q := by
  obtain ⟨t, h1, h2, _⟩ := h.ty (K := K)
  exact ⟨v, .ty "int", _, _, _, rfl, .ty _, h1, kit_ty h2, q⟩
theorem x_isiBool (h : Thing H v) (q : Q (.bl (isB v)) H) : rIsi K [v, .ty "bool"] H Q := by
  obtain ⟨t, h1, _, h2⟩ := h.ty (K := K)
  exact ⟨v, .ty "bool", _, _, _, rfl, .ty _, h1, kit_ty h2, q⟩
theorem x_isiListL {a : Addr} {xs : List V} (h : Rd H a (.lst xs)) (q : Q (.bl true) H) : rIsi K [.ref a, .ty "list"] H Q := by
  rcases h with h | ⟨o, h⟩
  · exact ⟨_, .ty "list", _, _, _, rfl, .ty _, .base (.lst h), kit_ty (by decide +kernel), q⟩
  · exact ⟨_, .ty "list", _, _, _, rfl, .ty _, .base (.frz h), kit_ty (by decide +kernel), q⟩
theorem x_isiTupT {a : Addr} {xs : List V} (h : Rd H a (.tup xs)) (q : Q (.bl true) H) : rIsi K [.ref a, .ty "tuple"] H Q := by
  rcases h with h | ⟨o, h⟩
  · exact ⟨_, .ty "tuple", _, _, _, rfl, .ty _, .base (.tup h), kit_ty (by decide +kernel), q⟩
  · exact ⟨_, .ty "tuple", _, _, _, rfl, .ty _, .fTuple h, kit_ty (by decide +kernel), q⟩
end
/-- what a def tells and leaves: a value; a new list -/
def RetV (v : V) (H : Hp) (Q : VK) : Prop := ∀ H', Same H H' → Q v H'
def RetL (xs : List V) (H : Hp) (Q : VK) : Prop := ∀ p H', H p = none → Same H H' → H' p = some (.lst xs) → Q (.ref p) H'
def RetT (xs : List V) (H : Hp) (Q : VK) : Prop := ∀ p H', H p = none → Same H H' → H' p = some (.tup xs) → Q (.ref p) H'
theorem RetV.go {v : V} {H H' : Hp} {Q : VK} (h : RetV v H Q) (e : Same H H') : Q v H' := h H' e
theorem RetL.go {xs : List V} {H H' : Hp} {Q : VK} (h : RetL xs H Q) {p : Addr} (w : Own H ((p, .lst xs) :: []) H') : Q (.ref p) H' := h p H' (w.none 0 rfl) w.ex (w.get 0 rfl)
theorem RetT.go {xs : List V} {H H' : Hp} {Q : VK} (h : RetT xs H Q) {p : Addr} (w : Own H ((p, .tup xs) :: []) H') : Q (.ref p) H' := h p H' (w.none 0 rfl) w.ex (w.get 0 rfl)

/-! ### comprehensions: what the list at D holds behind i turns: F i -/
def PvC (B : Hp) (cs : Cells) (D : Addr) (F : Nat → List V) (i : Nat) (H : Hp) : Prop := Own B ((D, .lst (F i)) :: cs) H
section
variable {K : PySem.W.Frag} {σ : L2.St} {B H : Hp} {cs : Cells} {Q : VK} {te : TE} {g : TG} {tt : TT} {vs : List Nat}
/-- a turn's end: the item goes behind what is there -/
theorem cp_fin {D : Addr} {F : Nat → List V} {i : Nat} {H4 : Hp} {y : V} (w : PvC B cs D F i H4) (e : F (i + 1) = F i ++ [y]) (hl : (F i).length < 1000000) :
    ∃ acc, H4 D = some (.lst acc) ∧ acc.length < sizeLine ∧ PvC B cs D F (i + 1) (upd H4 D (.lst (acc ++ [y]))) := by
  refine ⟨F i, Own.get w 0 rfl, Nat.lt_of_lt_of_le hl (by decide), ?_⟩
  have := Own.put (o' := .lst (F i ++ [y])) w 0 rfl
  rw [← e] at this
  rw [← e]
  exact this
/-- the same where the test says no -/
theorem cp_no {D : Addr} {F : Nat → List V} {i : Nat} {H4 : Hp} (w : PvC B cs D F i H4) (e : F (i + 1) = F i) : PvC B cs D F (i + 1) H4 := by
  unfold PvC at *
  rw [e]
  exact w
theorem cp_range {QD : Addr → Hp → Prop} {lo : Int} {n : Nat} (F : Nat → List V) (w : Own B cs H) (h0 : F 0 = [])
    (hs : ∀ D i H', i < n → PvC B cs D F i H' → g (.int (lo + i)) (wipe σ vs) H' fun σ2 H2 => wipe σ2 vs = wipe σ vs ∧ tt σ2 H2 fun b H3 =>
      if b = true then te σ2 H3 fun y H4 => ∃ acc, H4 D = some (.lst acc) ∧ acc.length < sizeLine ∧ PvC B cs D F (i + 1) (upd H4 D (.lst (acc ++ [y]))) else PvC B cs D F (i + 1) H3)
    (hq : ∀ D H', Own B ((D, .lst (F n)) :: cs) H' → QD D H') : ∀ D, H D = none → ∃ W : Nat → Nat → Hp → Prop, (∃ m, W 0 m (upd H D (.lst []))) ∧ ∀ i m H, W i m H →
      ((Itr lo n).stop i H ∧ QD D H) ∨ ((Itr lo n).go i H ∧ ∃ Nx : Hp → Prop, (∀ H', Nx H' → ∃ m', m' < m ∧ W (i + 1) m' H') ∧ ∀ x H', (Itr lo n).yld i H x H' → g x (wipe σ vs) H' fun σ2 H2 => wipe σ2 vs = wipe σ vs ∧ tt σ2 H2 fun b H3 =>
        if b = true then te σ2 H3 fun y H4 => ∃ acc, H4 D = some (.lst acc) ∧ acc.length < sizeLine ∧ Nx (upd H4 D (.lst (acc ++ [y]))) else Nx H3) := fun D hD =>
  lc_range (PvC B cs D F) (by unfold PvC; rw [h0]; exact w.new hD) (fun i H' hi p => hs D i H' hi p) (fun H' p => hq D H' p)
theorem cp_list {QD : Addr → Hp → Prop} {a : Addr} {xs : List V} (F : Nat → List V) (w : Own B cs H) (hx : SqL K B a xs) (h0 : F 0 = [])
    (hs : ∀ D i x H', xs[i]? = some x → PvC B cs D F i H' → g x (wipe σ vs) H' fun σ2 H2 => wipe σ2 vs = wipe σ vs ∧ tt σ2 H2 fun b H3 =>
      if b = true then te σ2 H3 fun y H4 => ∃ acc, H4 D = some (.lst acc) ∧ acc.length < sizeLine ∧ PvC B cs D F (i + 1) (upd H4 D (.lst (acc ++ [y]))) else PvC B cs D F (i + 1) H3)
    (hq : ∀ D H', Own B ((D, .lst (F xs.length)) :: cs) H' → QD D H') : ∀ D, H D = none → ∃ W : Nat → Nat → Hp → Prop, (∃ m, W 0 m (upd H D (.lst []))) ∧ ∀ i m H, W i m H →
      ((Itl K a).stop i H ∧ QD D H) ∨ ((Itl K a).go i H ∧ ∃ Nx : Hp → Prop, (∀ H', Nx H' → ∃ m', m' < m ∧ W (i + 1) m' H') ∧ ∀ x H', (Itl K a).yld i H x H' → g x (wipe σ vs) H' fun σ2 H2 => wipe σ2 vs = wipe σ vs ∧ tt σ2 H2 fun b H3 =>
        if b = true then te σ2 H3 fun y H4 => ∃ acc, H4 D = some (.lst acc) ∧ acc.length < sizeLine ∧ Nx (upd H4 D (.lst (acc ++ [y]))) else Nx H3) := fun D hD =>
  lc_list (PvC B cs D F) (by unfold PvC; rw [h0]; exact w.new hD) (fun i H' hi p => Own.seq p hx) (fun i x H' hi p => hs D i x H' hi p) (fun H' p => hq D H' p)
/-- behind the first i items of a range: their images -/
theorem range_map {α : Type} (f : Nat → α) (i : Nat) : (List.range (i + 1)).map f = (List.range i).map f ++ [f i] := by rw [List.range_succ, List.map_append] <;> rfl
end

/-! ### the rules with the written part told (a comprehension's block has its own context) -/
section
variable {X : Cx} {K : PySem.W.Frag}
theorem ix_seqK (h : X.K = K) : IxR X (rIx K) := h ▸ ix_seq
theorem get_listK (h : X.K = K) : PGet X (rIxL K) := h ▸ get_list
theorem op_eqK (h : X.K = K) (hu : X.A.units + 64 < cLine) : OpR X (compareOp .Eq) (rEqX K) := h ▸ op_eqX hu
theorem op_neK (h : X.K = K) (hu : X.A.units + 64 < cLine) : OpR X (compareOp .NotEq) (rNeX K) := h ▸ op_neX hu
theorem call_lenK (h : X.K = K) : CallR X (.builtin "len") (rLen K) := h ▸ call_lenX
theorem call_listK (h : X.K = K) : CallR X (.type "list") (rList K) := h ▸ call_listX
theorem cr_sumK (h : X.K = K) (hc : X.calm = true) : CallR X (.builtin "sum") (rSum K) := h ▸ cr_sum hc
theorem cr_anyK (h : X.K = K) (hc : X.calm = true) : CallR X (.builtin "any") (rAny K) := h ▸ cr_any hc
theorem cr_maxK (h : X.K = K) (hc : X.calm = true) : CallR X (.builtin "max") (rMax K) := h ▸ cr_max hc
theorem cr_minK (h : X.K = K) (hc : X.calm = true) : CallR X (.builtin "min") (rMin K) := h ▸ cr_min hc
theorem cr_sortedK (h : X.K = K) : CallR X (.builtin "sorted") (rSorted K) := h ▸ cr_sorted
theorem call_isiX (h : X.K = K) : CallR X (.builtin "isinstance") (rIsi K) := h ▸ call_isi
theorem call_isiTX (h : X.K = K) : CallR X (.builtin "isinstance") (rIsiT K) := h ▸ call_isiT
theorem op_in_seqK (h : X.K = K) : OpR X (compareOp .In) (rIn K false) := h ▸ op_in_seq
theorem op_notIn_seqK (h : X.K = K) : OpR X (compareOp .NotIn) (rIn K true) := h ▸ op_notIn_seq
theorem sl_listK (h : X.K = K) : SlR X (rSlL K) := h ▸ sl_list
theorem sl_tupK (h : X.K = K) : SlR X (rSlT K) := h ▸ sl_tup
theorem pi_listK (h : X.K = K) {tg l : Expr} {tl : TE} (hl : PE X l tl) : PI X tg l (iList K tl) := h ▸ pi_list hl
theorem pi_tupK (h : X.K = K) {tg l : Expr} {tl : TE} (hl : PE X l tl) : PI X tg l (iTup K tl) := h ▸ pi_tup hl
theorem pi_zipK (h : X.K = K) {e e2 : Expr} {ta : TA} {p pos tpos : Pos} {elts : List Expr} {kk : Nat} (hg : Gl X "zip") (hm : X.mg "zip" = none) (ha : PA X [e, e2] ta)
    (hs : starEach [e, e2] X.env = (false, eval e X.env) :: starEach [e2] X.env := by rfl) (hpl : (backTo pos (starEach [e2] X.env)).any (·.1) = false := by rfl) :
    PI X (.Tuple elts kk tpos) (.Call (.Name "zip" p) [e, e2] [] pos) (iZip K ta) := h ▸ pi_zip hg hm ha hs hpl
theorem pi_enumK (h : X.K = K) {e : Expr} {ta : TA} {p pos tpos : Pos} {elts : List Expr} {kk : Nat} (hg : Gl X "enumerate") (hm : X.mg "enumerate" = none) (ha : PA X [e] ta) (hs : starEach [e] X.env = [(false, eval e X.env)] := by rfl) :
    PI X (.Tuple elts kk tpos) (.Call (.Name "enumerate" p) [e] [] pos) (iEnum K ta) := h ▸ pi_enum hg hm ha hs
theorem pi_reversedK (h : X.K = K) {tg e : Expr} {ta : TA} {p pos : Pos} (hg : Gl X "reversed") (hm : X.mg "reversed" = none) (ha : PA X [e] ta) (hs : starEach [e] X.env = [(false, eval e X.env)] := by rfl) :
    PI X tg (.Call (.Name "reversed" p) [e] [] pos) (iRev K ta) := h ▸ pi_reversed hg hm ha hs
theorem pg_tupK (h : X.K = K) {pos : Pos} {es : List Expr} {k : Nat} {t : TGs} {n : Nat} (hc : X.calm = true) (hg : PGs X es t)
    (hn : (assignEach es X.env).length = n := by rfl) (hst : (assignEach es X.env).findIdx? (·.1) = none := by rfl) : PG X (.Tuple es k pos) (gTup K n t) := h ▸ pg_tup hc hg hn hst
theorem pe_bmK (h : X.K = K) {T : String} {name : Str} {id : String} {r : V → List V → Hp → VK → Prop} {o e : Expr} {es : List Expr} {to : TE} {t : TA} {apos cpos : Pos}
    (pa : PlainAttrs T) (slot : Slot T name id) (hty : typeOf (.builtin id) = pure (.type "method_descriptor")) (hm : MtR X id r) (ho : PE X o to) (ha : PA X (e :: es) t)
    (f : PE X (.Call (.Attribute o name apos) (e :: es) [] cpos) (tBM X.K T r to t)) : PE X (.Call (.Attribute o name apos) (e :: es) [] cpos) (tBM K T r to t) := h ▸ f
theorem pe_fldK (h : X.K = K) {e : Expr} {f : Str} {ta : TE} {pos : Pos} (he : PE X e ta) (hb : attributeBase e f X.env (eval e X.env) = eval e X.env) : PE X (.Attribute e f pos) (tFld K ta f) := h ▸ pe_fld he hb
end

/-! ### == of lists of ints -/
theorem dpAll_ints {K : PySem.W.Frag} {H : Hp} : ∀ ns : List Int, DpAll K H (ns.map V.int) (ns.map PyData.int)
  | [] => .nil
  | n :: r => .cons (.int n) (dpAll_ints r)
theorem dp_ints {K : PySem.W.Frag} {H : Hp} {p : Addr} {ns : List Int} (h : SqL K H p (ns.map V.int)) : Dp K H (.ref p) (.list (ns.map PyData.int)) := .lst h (dpAll_ints ns)
theorem canLay_ints : ∀ ns : List Int, PyData.canLayAll0 (ns.map PyData.int) = true
  | [] => by simp [PyData.canLayAll0]
  | n :: r => by simp [PyData.canLayAll0, PyData.canLay0, canLay_ints r]
theorem depth_ints : ∀ ns : List Int, PyData.depthAll (ns.map PyData.int) ≤ 1
  | [] => by simp [PyData.depthAll]
  | n :: r => by
    have := depth_ints r
    simp only [List.map_cons, PyData.depthAll, PyData.depth]
    omega
theorem shaped_ints (ns : List Int) : SeqAt.shaped (.list (ns.map PyData.int)) = true := by
  have := depth_ints ns
  unfold SeqAt.shaped
  rw [Bool.and_eq_true]
  refine ⟨by simp [PyData.canLay0, canLay_ints ns], decide_eq_true ?_⟩
  simp only [PyData.depth]
  omega
theorem eqvAll_ints : ∀ ns ms : List Int, PyData.eqvAll (ns.map PyData.int) (ms.map PyData.int) = decide (ns = ms)
  | [], [] => by simp [PyData.eqvAll]
  | [], m :: r => by simp [PyData.eqvAll]
  | n :: r, [] => by simp [PyData.eqvAll]
  | n :: r, m :: q => by
    simp only [List.map_cons, PyData.eqvAll, PyData.eqv, eqvAll_ints r q, List.cons.injEq]
    by_cases e : n = m
    · subst e; simp
    · simp [e]
theorem eqv_ints (ns ms : List Int) : PyData.eqv (.list (ns.map PyData.int)) (.list (ms.map PyData.int)) = decide (ns = ms) := by
  rw [PyData.eqv, eqvAll_ints]
section
variable {K : PySem.W.Frag} {H : Hp} {Q : VK} {p q : Addr} {ns ms : List Int}
theorem x_eqLI (h1 : SqL K H p (ns.map V.int)) (h2 : SqL K H q (ms.map V.int)) (k : Q (.bl (decide (ns = ms))) H) : rEqX K (.ref p) (.ref q) H Q :=
  .inr ⟨_, _, dp_ints h1, dp_ints h2, shaped_ints ns, shaped_ints ms, by rw [eqv_ints]; exact k⟩
theorem x_neLI (h1 : SqL K H p (ns.map V.int)) (h2 : SqL K H q (ms.map V.int)) (k : Q (.bl (!decide (ns = ms))) H) : rNeX K (.ref p) (.ref q) H Q :=
  .inr ⟨_, _, dp_ints h1, dp_ints h2, shaped_ints ns, shaped_ints ms, by rw [eqv_ints]; exact k⟩
end

theorem cx_none {P : Program} {w : World} {H : Hp} {s : Shared} {e : Value} {s' : Shared} (h : L2.CX P w [] H s (fun _ _ _ => False) e s') : False := by
  obtain ⟨_, _, _, _, _, _, _, _, _, _, _, _, z⟩ := h
  exact z.elim

/-! ### for over range(n), the number told plainly -/
theorem for_r0 {n : Int} {g : TG} {tb : TS} {D : Ends} {σ : L2.St} {H : Hp} (Pv : Nat → L2.St → Hp → Prop) (h0 : Pv 0 σ H)
    (hs : ∀ (i : Nat) σ H, (i : Int) < n → Pv i σ H → g (.int (i : Int)) σ H fun σ2 H2 => tb { D with nx := Pv (i + 1), ct := Pv (i + 1), bk := D.nx } σ2 H2) (hd : ∀ σ H, Pv n.toNat σ H → D.nx σ H) :
    ∃ W : Nat → Nat → L2.St → Hp → Prop, (∃ m, W 0 m σ H) ∧ ∀ i m σ H, W i m σ H →
      ((Itr 0 n.toNat).stop i H ∧ D.nx σ H) ∨ ((Itr 0 n.toNat).go i H ∧ ∃ N : L2.St → Hp → Prop, (∀ σ' H', N σ' H' → ∃ m', m' < m ∧ W (i + 1) m' σ' H') ∧ ∀ x H', (Itr 0 n.toNat).yld i H x H' → g x σ H' fun σ2 H2 => tb { D with nx := N, ct := N, bk := D.nx } σ2 H2) :=
  for_range (lo := 0) (n := n.toNat) Pv h0 (fun i σ H hi p => by rw [Int.zero_add]; exact hs i σ H (by omega) p) hd
theorem cp_r0 {QD : Addr → Hp → Prop} {B : Hp} {cs : Cells} {n : Int} {σ : L2.St} {H : Hp} {te : TE} {g : TG} {tt : TT} {vs : List Nat} (F : Nat → List V) (w : Own B cs H) (h0 : F 0 = [])
    (hs : ∀ D (i : Nat) H', (i : Int) < n → PvC B cs D F i H' → g (.int (i : Int)) (wipe σ vs) H' fun σ2 H2 => wipe σ2 vs = wipe σ vs ∧ tt σ2 H2 fun b H3 =>
      if b = true then te σ2 H3 fun y H4 => ∃ acc, H4 D = some (.lst acc) ∧ acc.length < sizeLine ∧ PvC B cs D F (i + 1) (upd H4 D (.lst (acc ++ [y]))) else PvC B cs D F (i + 1) H3)
    (hq : ∀ D H', Own B ((D, .lst (F n.toNat)) :: cs) H' → QD D H') : ∀ D, H D = none → ∃ W : Nat → Nat → Hp → Prop, (∃ m, W 0 m (upd H D (.lst []))) ∧ ∀ i m H, W i m H →
      ((Itr 0 n.toNat).stop i H ∧ QD D H) ∨ ((Itr 0 n.toNat).go i H ∧ ∃ Nx : Hp → Prop, (∀ H', Nx H' → ∃ m', m' < m ∧ W (i + 1) m' H') ∧ ∀ x H', (Itr 0 n.toNat).yld i H x H' → g x (wipe σ vs) H' fun σ2 H2 => wipe σ2 vs = wipe σ vs ∧ tt σ2 H2 fun b H3 =>
        if b = true then te σ2 H3 fun y H4 => ∃ acc, H4 D = some (.lst acc) ∧ acc.length < sizeLine ∧ Nx (upd H4 D (.lst (acc ++ [y]))) else Nx H3) :=
  cp_range (lo := 0) F w h0 (fun D i H' hi p => by rw [Int.zero_add]; exact hs D i H' (by omega) p) hq

/-! ### enumerate, zip: loops and comprehensions -/
section
variable {K : PySem.W.Frag} {a b : Addr} {xs ys : List V} {g : TG} {tb : TS} {D : Ends} {σ : L2.St} {H B : Hp} {cs : Cells} {te : TE} {tt : TT} {vs : List Nat} {Q : VK}
theorem for_enumL (Pv : Nat → L2.St → Hp → Prop) (h0 : Pv 0 σ H) (hq : ∀ i σ H, Pv i σ H → SqL K H a xs)
    (hs : ∀ (i : Nat) (x : V) (T : Addr) (σ : L2.St) (H : Hp), xs[i]? = some x → Pv i σ H → H T = none → g (.ref T) σ (upd H T (.tup [.int (i : Int), x])) fun σ2 H2 => tb { D with nx := Pv (i + 1), ct := Pv (i + 1), bk := D.nx } σ2 H2) (hd : ∀ σ H, Pv xs.length σ H → D.nx σ H) :
    ∃ W : Nat → Nat → L2.St → Hp → Prop, (∃ m, W 0 m σ H) ∧ ∀ i m σ H, W i m σ H →
      ((Ite K a).stop i H ∧ D.nx σ H) ∨ ((Ite K a).go i H ∧ ∃ N : L2.St → Hp → Prop, (∀ σ' H', N σ' H' → ∃ m', m' < m ∧ W (i + 1) m' σ' H') ∧ ∀ v H', (Ite K a).yld i H v H' → g v σ H' fun σ2 H2 => tb { D with nx := N, ct := N, bk := D.nx } σ2 H2) := by
  refine ⟨fun i m σ H => m = xs.length - i ∧ i ≤ xs.length ∧ Pv i σ H, ⟨xs.length, rfl, Nat.zero_le _, h0⟩, ?_⟩
  rintro i m σ H ⟨rfl, hi, p⟩
  have qx := hq i σ H p
  by_cases hlt : i < xs.length
  · have hx : xs[i]? = some xs[i] := List.getElem?_eq_getElem hlt
    refine .inr ⟨⟨xs, _, qx, hx⟩, Pv (i + 1), fun σ' H' p' => ⟨xs.length - (i + 1), by omega, rfl, hlt, p'⟩, fun v H' y => ?_⟩
    obtain ⟨T, x', rfl, hT, rfl, f1⟩ := y
    exact hs i x' T σ H (f1 xs qx) p hT
  · have e : i = xs.length := by omega
    subst e
    exact .inl ⟨⟨xs, qx, Nat.le_refl _⟩, hd σ H p⟩
theorem cp_enum {QD : Addr → Hp → Prop} (F : Nat → List V) (w : Own B cs H) (hx : SqL K B a xs) (h0 : F 0 = [])
    (hs : ∀ D i x T H', xs[i]? = some x → PvC B cs D F i H' → H' T = none → g (.ref T) (wipe σ vs) (upd H' T (.tup [.int ((i : Nat) : Int), x])) fun σ2 H2 => wipe σ2 vs = wipe σ vs ∧ tt σ2 H2 fun b H3 =>
      if b = true then te σ2 H3 fun y H4 => ∃ acc, H4 D = some (.lst acc) ∧ acc.length < sizeLine ∧ PvC B cs D F (i + 1) (upd H4 D (.lst (acc ++ [y]))) else PvC B cs D F (i + 1) H3)
    (hq : ∀ D H', Own B ((D, .lst (F xs.length)) :: cs) H' → QD D H') : ∀ D, H D = none → ∃ W : Nat → Nat → Hp → Prop, (∃ m, W 0 m (upd H D (.lst []))) ∧ ∀ i m H, W i m H →
      ((Ite K a).stop i H ∧ QD D H) ∨ ((Ite K a).go i H ∧ ∃ Nx : Hp → Prop, (∀ H', Nx H' → ∃ m', m' < m ∧ W (i + 1) m' H') ∧ ∀ x H', (Ite K a).yld i H x H' → g x (wipe σ vs) H' fun σ2 H2 => wipe σ2 vs = wipe σ vs ∧ tt σ2 H2 fun b H3 =>
        if b = true then te σ2 H3 fun y H4 => ∃ acc, H4 D = some (.lst acc) ∧ acc.length < sizeLine ∧ Nx (upd H4 D (.lst (acc ++ [y]))) else Nx H3) := fun D hD => by
  refine ⟨fun i m H => m = xs.length - i ∧ i ≤ xs.length ∧ PvC B cs D F i H, ⟨xs.length, rfl, Nat.zero_le _, by unfold PvC; rw [h0]; exact w.new hD⟩, ?_⟩
  rintro i m H ⟨rfl, hi, p⟩
  have qx : SqL K H a xs := Own.seq p hx
  by_cases hlt : i < xs.length
  · have hxi : xs[i]? = some xs[i] := List.getElem?_eq_getElem hlt
    refine .inr ⟨⟨xs, _, qx, hxi⟩, PvC B cs D F (i + 1), fun H' p' => ⟨xs.length - (i + 1), by omega, rfl, hlt, p'⟩, fun v H' y => ?_⟩
    obtain ⟨T, x', rfl, hT, rfl, f1⟩ := y
    exact hs D i x' T H (f1 xs qx) p hT
  · have e : i = xs.length := by omega
    subst e
    exact .inl ⟨⟨xs, qx, Nat.le_refl _⟩, hq D H p⟩
theorem cp_zip {QD : Addr → Hp → Prop} (F : Nat → List V) (w : Own B cs H) (hl : xs.length = ys.length) (hx : SqL K B a xs) (hy : SqL K B b ys) (h0 : F 0 = [])
    (hs : ∀ D i x y T H', xs[i]? = some x → ys[i]? = some y → PvC B cs D F i H' → H' T = none → g (.ref T) (wipe σ vs) (upd H' T (.tup [x, y])) fun σ2 H2 => wipe σ2 vs = wipe σ vs ∧ tt σ2 H2 fun b H3 =>
      if b = true then te σ2 H3 fun y H4 => ∃ acc, H4 D = some (.lst acc) ∧ acc.length < sizeLine ∧ PvC B cs D F (i + 1) (upd H4 D (.lst (acc ++ [y]))) else PvC B cs D F (i + 1) H3)
    (hq : ∀ D H', Own B ((D, .lst (F xs.length)) :: cs) H' → QD D H') : ∀ D, H D = none → ∃ W : Nat → Nat → Hp → Prop, (∃ m, W 0 m (upd H D (.lst []))) ∧ ∀ i m H, W i m H →
      ((Itz K a b).stop i H ∧ QD D H) ∨ ((Itz K a b).go i H ∧ ∃ Nx : Hp → Prop, (∀ H', Nx H' → ∃ m', m' < m ∧ W (i + 1) m' H') ∧ ∀ x H', (Itz K a b).yld i H x H' → g x (wipe σ vs) H' fun σ2 H2 => wipe σ2 vs = wipe σ vs ∧ tt σ2 H2 fun b H3 =>
        if b = true then te σ2 H3 fun y H4 => ∃ acc, H4 D = some (.lst acc) ∧ acc.length < sizeLine ∧ Nx (upd H4 D (.lst (acc ++ [y]))) else Nx H3) := fun D hD => by
  refine ⟨fun i m H => m = xs.length - i ∧ i ≤ xs.length ∧ PvC B cs D F i H, ⟨xs.length, rfl, Nat.zero_le _, by unfold PvC; rw [h0]; exact w.new hD⟩, ?_⟩
  rintro i m H ⟨rfl, hi, p⟩
  have qx : SqL K H a xs := Own.seq p hx
  have qy : SqL K H b ys := Own.seq p hy
  by_cases hlt : i < xs.length
  · have hxi : xs[i]? = some xs[i] := List.getElem?_eq_getElem hlt
    have hlt2 : i < ys.length := by omega
    have hyi : ys[i]? = some ys[i] := List.getElem?_eq_getElem hlt2
    refine .inr ⟨⟨xs, ys, _, _, qx, qy, hxi, hyi⟩, PvC B cs D F (i + 1), fun H' p' => ⟨xs.length - (i + 1), by omega, rfl, hlt, p'⟩, fun v H' y => ?_⟩
    obtain ⟨T, x', y', rfl, hT, rfl, f1, f2⟩ := y
    exact hs D i x' y' T H (f1 xs qx) (f2 ys qy) p hT
  · have e : i = xs.length := by omega
    subst e
    exact .inl ⟨⟨xs, ys, qx, qy, .inl (Nat.le_refl _)⟩, hq D H p⟩
end

def rStr : List V → Hp → VK → Prop := fun xs H Q => ∃ i, xs = [.int i] ∧ i.natAbs.log2 < 1920 ∧ Q (.str (toString i)) H
theorem call_strX {X : Cx} : CallR X (.type "str") rStr := call_str_int
theorem x_str {H : Hp} {Q : VK} {i : Int} (h : i.natAbs.log2 < 1920) (q : Q (.str (toString i)) H) : rStr [.int i] H Q := ⟨i, rfl, h, q⟩
theorem log2_small {n : Nat} {k : Nat} (h0 : 0 < k) (h : n < 2 ^ k) (hk : k ≤ 1920) : n.log2 < 1920 := Nat.lt_of_lt_of_le (PySem.Flt.log2_lt_of h0 h) hk
end Sp

/-! Ml: tables, bounds: plain words about lists of ints. -/
namespace Sp
open PySem L2 PyProof.Rows
def manyOf (n : Nat) : Nat := if n ≤ 2 then 1 else if n ≤ 4 then 2 else if n ≤ 8 then 3 else if n ≤ 16 then 4 else if n ≤ 32 then 5 else 6
theorem manyOf_lo (n : Nat) : 1 ≤ manyOf n ∧ manyOf n ≤ 6 := by
  unfold manyOf
  repeat' split
  all_goals omega
theorem manyOf_is {n k : Nat} (h1 : 1 ≤ k) (h6 : k ≤ 6) (hlo : k = 1 ∨ 2 ^ (k - 1) < n) (hhi : k = 6 ∨ n ≤ 2 ^ k) : manyOf n = k := by
  unfold manyOf
  have h : k = 1 ∨ k = 2 ∨ k = 3 ∨ k = 4 ∨ k = 5 ∨ k = 6 := by omega
  rcases h with rfl | rfl | rfl | rfl | rfl | rfl <;> simp only [Nat.reducePow, Nat.reduceSub] at hlo hhi <;> repeat' split
  all_goals omega
def lookM (xs : List V) : Option Int := if xs.length = 2 ^ manyOf xs.length ∧ xs.all isI = true ∧ xs[0]? = some (.int 0) then some (manyOf xs.length : Nat) else none
/-- a table of k hands -/
structure Tab (ns : List Int) (k : Nat) : Prop where
  len : ns.length = 2 ^ k
  lo : 1 ≤ k
  hi : k ≤ 6
  zero : ns[0]? = some 0
theorem Tab.look {ns : List Int} {k : Nat} (h : Tab ns k) : lookM (ns.map V.int) = some (k : Int) := by
  have e : manyOf (ns.map V.int).length = k := by
    rw [List.length_map, h.len]
    exact manyOf_is h.lo h.hi (by
      have := h.lo
      by_cases e : k = 1
      · exact .inl e
      · refine .inr (Nat.pow_lt_pow_right (by decide) (by omega))) (.inr (Nat.le_refl _))
  unfold lookM
  rw [e, if_pos]
  refine ⟨by rw [List.length_map]; exact h.len, ?_, ?_⟩
  · rw [List.all_map]; exact List.all_eq_true.mpr fun _ _ => rfl
  · rw [List.getElem?_map, h.zero] <;> rfl
theorem things_int {H : Hp} {ns : List Int} : ∀ v ∈ ns.map V.int, Thing H v := fun v hv => by
  obtain ⟨z, _, rfl⟩ := List.mem_map.mp hv
  exact .int z
theorem look_tab {xs : List V} {n : Int} (h : lookM xs = some n) : ∃ ns k, Tab ns k ∧ xs = ns.map V.int ∧ n = (k : Nat) := by
  unfold lookM at h
  by_cases c : xs.length = 2 ^ manyOf xs.length ∧ xs.all isI = true ∧ xs[0]? = some (.int 0)
  · rw [if_pos c] at h
    obtain ⟨c1, c2, c3⟩ := c
    have hm := manyOf_lo xs.length
    have all : ∀ ys : List V, ys.all isI = true → ∃ ns : List Int, ys = ns.map V.int := by
      intro ys
      induction ys with
      | nil => intro _; exact ⟨[], rfl⟩
      | cons y r ih =>
        intro e
        rw [List.all_cons, Bool.and_eq_true] at e
        obtain ⟨ns, rfl⟩ := ih e.2
        cases y with
        | int z => exact ⟨z :: ns, rfl⟩
        | _ => exact absurd e.1 Bool.false_ne_true
    obtain ⟨ns, rfl⟩ := all xs c2
    refine ⟨ns, manyOf (ns.map V.int).length, ⟨by rw [List.length_map] at c1; rw [List.length_map]; exact c1, hm.1, hm.2, ?_⟩, rfl, (Option.some.inj h).symm⟩
    rw [List.getElem?_map] at c3
    cases e : ns[0]? with
    | none => rw [e] at c3; cases c3
    | some z => rw [e] at c3; exact congrArg some (V.int.inj (Option.some.inj c3))
  · rw [if_neg c] at h; cases h
/-- a number of these laws' tables -/
def Small (z : Int) : Prop := -1000000000000000000 ≤ z ∧ z ≤ 1000000000000000000
/-- bounds of a table's numbers -/
def Bnd (b : Int) (ns : List Int) : Prop := ∀ z ∈ ns, -b ≤ z ∧ z ≤ b
theorem Bnd.app {b : Int} {ns : List Int} {z : Int} (h : Bnd b ns) (h1 : -b ≤ z) (h2 : z ≤ b) : Bnd b (ns ++ [z]) := fun y hy => by
  rcases List.mem_append.mp hy with m | m
  · exact h y m
  · rw [List.mem_singleton.mp m]; exact ⟨h1, h2⟩
theorem Bnd.set {b : Int} {ns : List Int} {j : Nat} {z : Int} (h : Bnd b ns) (h1 : -b ≤ z) (h2 : z ≤ b) : Bnd b (ns.set j z) := fun y hy => by
  rcases List.mem_or_eq_of_mem_set hy with m | rfl
  · exact h y m
  · exact ⟨h1, h2⟩
theorem Bnd.mono {b c : Int} {ns : List Int} (h : Bnd b ns) (hbc : b ≤ c) : Bnd c ns := fun y hy => by
  have := h y hy
  exact ⟨by omega, by omega⟩
theorem Bnd.at {b : Int} {ns : List Int} (hb : 0 ≤ b) (h : Bnd b ns) (i : Int) : -b ≤ gi ns i ∧ gi ns i ≤ b := by
  unfold gi
  rw [List.getD_eq_getElem?_getD]
  cases e : ns[i.toNat]? with
  | none => exact ⟨by show -b ≤ 0; omega, by show (0 : Int) ≤ b; omega⟩
  | some z => exact h z (List.mem_of_getElem? e)
theorem pow_toNat {k : Nat} {i : Int} (h : i = (k : Int)) : (1 : Int) * 2 ^ i.toNat = ((2 ^ k : Nat) : Int) := by
  rw [h, Int.one_mul, Int.toNat_natCast, Int.natCast_pow] <;> rfl
/-- the table turned about -/
def turnM (ns : List Int) : List Int := (List.range ns.length).map fun g : Nat => gi ns ((ns.length : Int) - 1) - gi ns ((ns.length : Int) - 1 - (g : Int))
theorem turnM_len (ns : List Int) : (turnM ns).length = ns.length := by unfold turnM; rw [List.length_map, List.length_range]
theorem gi_map_range {n : Nat} {f : Nat → Int} {i : Int} (h0 : 0 ≤ i) (h : i < n) : gi ((List.range n).map f) i = f i.toNat := by
  unfold gi
  rw [List.getD_eq_getElem?_getD, List.getElem?_map, List.getElem?_range (by omega)] <;> rfl
theorem turnM_at {ns : List Int} {i : Int} (h0 : 0 ≤ i) (h : i < ns.length) : gi (turnM ns) i = gi ns ((ns.length : Int) - 1) - gi ns ((ns.length : Int) - 1 - i) := by
  unfold turnM
  rw [gi_map_range h0 h, Int.toNat_of_nonneg h0]
theorem gi_ext {ns ms : List Int} (hl : ns.length = ms.length) (h : ∀ i : Int, 0 ≤ i → i < ns.length → gi ns i = gi ms i) : ns = ms := by
  apply List.ext_getElem hl
  intro i h1 h2
  have := h (i : Int) (by omega) (by omega)
  unfold gi at this
  rw [Int.toNat_natCast, List.getD_eq_getElem?_getD, List.getD_eq_getElem?_getD, List.getElem?_eq_getElem h1, List.getElem?_eq_getElem h2] at this
  exact this
theorem Tab.pos {ns : List Int} {k : Nat} (h : Tab ns k) : 2 ≤ ns.length ∧ ns.length ≤ 64 := by
  rw [h.len]
  exact ⟨Nat.pow_le_pow_right (n := 2) (by decide) h.lo, Nat.pow_le_pow_right (n := 2) (by decide) h.hi⟩
theorem Tab.gi0 {ns : List Int} {k : Nat} (h : Tab ns k) : gi ns 0 = 0 := by
  unfold gi
  rw [List.getD_eq_getElem?_getD, show (0 : Int).toNat = 0 from rfl, h.zero] <;> rfl
theorem gi_zero {ns : List Int} (h : 0 < ns.length) (e : gi ns 0 = 0) : ns[0]? = some 0 := by
  unfold gi at e
  rw [List.getD_eq_getElem?_getD, show (0 : Int).toNat = 0 from rfl, List.getElem?_eq_getElem h] at e
  rw [List.getElem?_eq_getElem h]
  exact congrArg some e
theorem Tab.turn {ns : List Int} {k : Nat} (h : Tab ns k) : Tab (turnM ns) k := by
  have hp := h.pos
  refine ⟨by rw [turnM_len]; exact h.len, h.lo, h.hi, gi_zero (by rw [turnM_len]; omega) ?_⟩
  rw [turnM_at (by decide) (by omega)]
  simp
theorem turnM_turnM {ns : List Int} {k : Nat} (h : Tab ns k) : turnM (turnM ns) = ns := by
  have hp := h.pos
  refine gi_ext (by rw [turnM_len, turnM_len]) fun i h0 h1 => ?_
  rw [turnM_len, turnM_len] at h1
  rw [turnM_at h0 (by rw [turnM_len]; exact h1), turnM_len, turnM_at (by omega) (by omega), turnM_at (by omega) (by omega)]
  have e1 : (ns.length : Int) - 1 - ((ns.length : Int) - 1) = 0 := by omega
  have e2 : (ns.length : Int) - 1 - ((ns.length : Int) - 1 - i) = i := by omega
  rw [e1, e2, h.gi0]
  omega
theorem Tab.set {ns : List Int} {k : Nat} (h : Tab ns k) {j : Nat} {z : Int} (hj : 0 < j) : Tab (ns.set j z) k :=
  ⟨by rw [List.length_set]; exact h.len, h.lo, h.hi, by rw [List.getElem?_set_ne (by omega)]; exact h.zero⟩
theorem map_int_inj {ns ms : List Int} (h : ns.map V.int = ms.map V.int) : ns = ms := (List.map_inj_right (f := V.int) fun _ _ => V.int.inj).mp h
theorem Tab.same {ns : List Int} {j k : Nat} (h : Tab ns j) (h' : Tab ns k) : j = k := by
  have e : 2 ^ j = 2 ^ k := h.len.symm.trans h'.len
  rcases Nat.lt_trichotomy j k with l | l | l
  · have := Nat.pow_lt_pow_right (a := 2) (by decide) l; omega
  · exact l
  · have := Nat.pow_lt_pow_right (a := 2) (by decide) l; omega
end Sp

/-! Sub: groups as numbers below 64, their parts, sums over parts, dividends. -/
namespace Sp
open PySem L2 PyProof.Rows
/-- hand h stands in group g -/
def bitOn (h g : Nat) : Bool := (g &&& 2 ^ h) != 0
theorem bit_facts : ∀ h, h < 6 → ∀ g, g < 64 → (bitOn h g = true → g ^^^ 2 ^ h < g ∧ bitOn h (g ^^^ 2 ^ h) = false) ∧ (∀ j, j < 6 → j ≠ h → bitOn j (g ^^^ 2 ^ h) = bitOn j g) := by decide +kernel
def stepD (h : Nat) (f : Nat → Int) : Nat → Int := fun g => if bitOn h g = true then f g - f (g ^^^ 2 ^ h) else f g
def stepE (h : Nat) (f : Nat → Int) : Nat → Int := fun g => if bitOn h g = true then f g + f (g ^^^ 2 ^ h) else f g
def allD : Nat → (Nat → Int) → Nat → Int
  | 0, f => f
  | k + 1, f => stepD k (allD k f)
def allE : Nat → (Nat → Int) → Nat → Int
  | 0, f => f
  | k + 1, f => stepE k (allE k f)
def On64 (f f' : Nat → Int) : Prop := ∀ g, g < 64 → f g = f' g
theorem On64.trans {f f' f'' : Nat → Int} (a : On64 f f') (b : On64 f' f'') : On64 f f'' := fun g h => (a g h).trans (b g h)
theorem On64.symm {f f' : Nat → Int} (a : On64 f f') : On64 f' f := fun g h => (a g h).symm
theorem stepD_on {h : Nat} (hh : h < 6) {f f' : Nat → Int} (e : On64 f f') : On64 (stepD h f) (stepD h f') := fun g hg => by
  unfold stepD
  by_cases c : bitOn h g = true
  · have := ((bit_facts h hh g hg).1 c).1
    rw [if_pos c, if_pos c, e g hg, e _ (by omega)]
  · rw [if_neg c, if_neg c, e g hg]
theorem stepE_on {h : Nat} (hh : h < 6) {f f' : Nat → Int} (e : On64 f f') : On64 (stepE h f) (stepE h f') := fun g hg => by
  unfold stepE
  by_cases c : bitOn h g = true
  · have := ((bit_facts h hh g hg).1 c).1
    rw [if_pos c, if_pos c, e g hg, e _ (by omega)]
  · rw [if_neg c, if_neg c, e g hg]
theorem stepED {h : Nat} (hh : h < 6) (f : Nat → Int) : On64 (stepE h (stepD h f)) f := fun g hg => by
  unfold stepE
  by_cases c : bitOn h g = true
  · have b := (bit_facts h hh g hg).1 c
    rw [if_pos c]
    unfold stepD
    rw [if_pos c, if_neg (by rw [b.2]; exact Bool.false_ne_true)]
    omega
  · rw [if_neg c]; unfold stepD; rw [if_neg c]
theorem stepDE {h : Nat} (hh : h < 6) (f : Nat → Int) : On64 (stepD h (stepE h f)) f := fun g hg => by
  unfold stepD
  by_cases c : bitOn h g = true
  · have b := (bit_facts h hh g hg).1 c
    rw [if_pos c]
    unfold stepE
    rw [if_pos c, if_neg (by rw [b.2]; exact Bool.false_ne_true)]
    omega
  · rw [if_neg c]; unfold stepE; rw [if_neg c]
theorem xor_swap (g a b : Nat) : (g ^^^ a) ^^^ b = (g ^^^ b) ^^^ a := by rw [Nat.xor_assoc, Nat.xor_comm a b, ← Nat.xor_assoc]
theorem step_comm {h j : Nat} (hh : h < 6) (hj : j < 6) (hne : j ≠ h) (f : Nat → Int) : On64 (stepE h (stepD j f)) (stepD j (stepE h f)) := fun g hg => by
  have bh := bit_facts h hh g hg
  have bj := bit_facts j hj g hg
  have e1 : bitOn j (g ^^^ 2 ^ h) = bitOn j g := bh.2 j hj hne
  have e2 : bitOn h (g ^^^ 2 ^ j) = bitOn h g := bj.2 h hh (Ne.symm hne)
  unfold stepE stepD
  simp only [e1, e2, xor_swap g (2 ^ j) (2 ^ h)]
  by_cases c : bitOn h g = true <;> by_cases d : bitOn j g = true <;> simp [c, d] <;> omega
theorem allE_comm {j : Nat} (hj : j < 6) (f : Nat → Int) : ∀ k, k ≤ j → On64 (allE k (stepD j f)) (stepD j (allE k f))
  | 0, _ => fun _ _ => rfl
  | k + 1, hk => by
    have ih := allE_comm hj f k (by omega)
    exact (stepE_on (by omega) ih).trans (step_comm (by omega) hj (by omega) (allE k f))
theorem allED (f : Nat → Int) : ∀ k, k ≤ 6 → On64 (allE k (allD k f)) f
  | 0, _ => fun _ _ => rfl
  | k + 1, hk => by
    have ih := allED f k (by omega)
    have c := allE_comm (j := k) (by omega) (allD k f) k (Nat.le_refl k)
    have a : On64 (allE (k + 1) (allD (k + 1) f)) (stepE k (stepD k (allE k (allD k f)))) := stepE_on (by omega) c
    exact (a.trans (stepED (by omega) _)).trans ih
theorem allD_comm {j : Nat} (hj : j < 6) (f : Nat → Int) : ∀ k, k ≤ j → On64 (allD k (stepE j f)) (stepE j (allD k f))
  | 0, _ => fun _ _ => rfl
  | k + 1, hk => by
    have ih := allD_comm hj f k (by omega)
    exact (stepD_on (by omega) ih).trans (step_comm hj (by omega) (by omega) (allD k f)).symm
theorem allDE (f : Nat → Int) : ∀ k, k ≤ 6 → On64 (allD k (allE k f)) f
  | 0, _ => fun _ _ => rfl
  | k + 1, hk => by
    have ih := allDE f k (by omega)
    have c := allD_comm (j := k) (by omega) (allE k f) k (Nat.le_refl k)
    have a : On64 (allD (k + 1) (allE (k + 1) f)) (stepD k (stepE k (allD k (allE k f)))) := stepD_on (by omega) c
    exact (a.trans (stepDE (by omega) _)).trans ih
/-! ### parts of a group, rising -/
def subs (g : Nat) : List Nat := (List.range 64).filter fun q => (q &&& g) == q
def partSum (f : Nat → Int) (g : Nat) : Int := ((subs g).map f).sum
def el : Nat → Nat → List Nat
  | 0, g => [g]
  | k + 1, g => if bitOn k g = true then el k (g ^^^ 2 ^ k) ++ el k g else el k g
theorem el_subs : ∀ k, k < 7 → ∀ g, g < 2 ^ k → el k g = subs g := by decide +kernel
theorem sum_app (a b : List Int) : (a ++ b).sum = a.sum + b.sum := List.sum_append
theorem allE_el (f : Nat → Int) : ∀ k g, allE k f g = ((el k g).map f).sum
  | 0, g => by show f g = ([g].map f).sum; simp
  | k + 1, g => by
    show stepE k (allE k f) g = _
    unfold stepE el
    by_cases c : bitOn k g = true
    · rw [if_pos c, if_pos c, List.map_append, sum_app, allE_el f k g, allE_el f k _]
      omega
    · rw [if_neg c, if_neg c, allE_el f k g]
theorem allE_sum (f : Nat → Int) {k g : Nat} (hk : k ≤ 6) (hg : g < 2 ^ k) : allE k f g = partSum f g := by
  rw [allE_el, el_subs k (by omega) g hg]
  rfl
/-- the parts but nobody, up to p -/
def someSubs (g p : Nat) : List Nat := (List.range (p + 1)).filter fun q => (q &&& g) == q && decide (0 < q)
theorem someSubs_step : ∀ g, g < 64 → ∀ p, p < 64 → (0 < p ∧ p &&& g = p) → someSubs g p = someSubs g ((p - 1) &&& g) ++ [p] ∧ (p - 1) &&& g < p ∧ ((p - 1) &&& g) &&& g = (p - 1) &&& g := by decide +kernel
theorem someSubs_all : ∀ g, g < 64 → subs g = 0 :: someSubs g g := by decide +kernel
theorem someSubs_zero (g : Nat) : someSubs g 0 = [] := by
  unfold someSubs
  rw [show List.range (0 + 1) = [0] from rfl]
  simp
def someSum (f : Nat → Int) (g p : Nat) : Int := ((someSubs g p).map f).sum
theorem someSum_step (f : Nat → Int) {g p : Nat} (hg : g < 64) (hp : p < 64) (h0 : 0 < p) (hs : p &&& g = p) : someSum f g p = someSum f g ((p - 1) &&& g) + f p := by
  unfold someSum
  rw [(someSubs_step g hg p hp ⟨h0, hs⟩).1, List.map_append, sum_app]
  simp
theorem partSum_some (f : Nat → Int) {g : Nat} (hg : g < 64) : partSum f g = f 0 + someSum f g g := by
  unfold partSum someSum
  rw [someSubs_all g hg, List.map_cons, List.sum_cons]
/-! ### lists by their places -/
/-- the list of f's values at 0 .. n - 1 -/
def tl (n : Nat) (f : Nat → Int) : List Int := (List.range n).map f
def fn (ns : List Int) : Nat → Int := fun g => gi ns (g : Int)
theorem tl_len (n : Nat) (f : Nat → Int) : (tl n f).length = n := by unfold tl; rw [List.length_map, List.length_range]
theorem gi_tl {n : Nat} {f : Nat → Int} {i : Int} (h0 : 0 ≤ i) (h : i < n) : gi (tl n f) i = f i.toNat := gi_map_range h0 h
theorem gi_tln {n : Nat} {f : Nat → Int} {i : Nat} (h : i < n) : gi (tl n f) (i : Int) = f i := by rw [gi_tl (by omega) (by omega), Int.toNat_natCast]
theorem tl_fn (ns : List Int) : tl ns.length (fn ns) = ns := by
  refine gi_ext (tl_len _ _) fun i h0 h1 => ?_
  rw [tl_len] at h1
  rw [gi_tl h0 h1]
  unfold fn
  rw [Int.toNat_of_nonneg h0]
theorem tl_congr {n : Nat} {f f' : Nat → Int} (h : ∀ i, i < n → f i = f' i) : tl n f = tl n f' := by
  unfold tl
  exact List.map_congr_left fun i hi => h i (List.mem_range.mp hi)
theorem tl_set {n : Nat} {f : Nat → Int} {j : Nat} {z : Int} (hj : j < n) : (tl n f).set j z = tl n fun i => if i = j then z else f i := by
  apply List.ext_getElem?
  intro i
  unfold tl
  by_cases e : j = i
  · subst e
    rw [List.getElem?_set_self (by rw [List.length_map, List.length_range]; exact hj), List.getElem?_map, List.getElem?_range hj]
    simp
  · rw [List.getElem?_set_ne e, List.getElem?_map, List.getElem?_map]
    cases h : (List.range n)[i]? with
    | none => rfl
    | some x =>
      have : x = i := by
        have hi := (List.getElem?_eq_some_iff.mp h).1
        rw [List.length_range] at hi
        rw [List.getElem?_range hi] at h
        exact (Option.some.inj h).symm
      subst this
      simp [Ne.symm e]
/-! ### bits of Python's ints -/
theorem and_nat (a b : Nat) : Builtin.bitAnd (a : Int) (b : Int) = ((a &&& b : Nat) : Int) := by rw [bitAnd_pp (by omega) (by omega), Int.toNat_natCast, Int.toNat_natCast]
theorem or_nat (a b : Nat) : Builtin.bitOr (a : Int) (b : Int) = ((a ||| b : Nat) : Int) := by rw [Bits.bitOr_pp (by omega) (by omega), Int.toNat_natCast, Int.toNat_natCast]
theorem xor_nat (a b : Nat) : Builtin.bitXor (a : Int) (b : Int) = ((a ^^^ b : Nat) : Int) := by rw [Bits.bitXor_pp (by omega) (by omega), Int.toNat_natCast, Int.toNat_natCast]
theorem shl_nat (h : Nat) : (1 : Int) * 2 ^ ((h : Int)).toNat = ((2 ^ h : Nat) : Int) := pow_toNat rfl
theorem bitOn_iff {h g : Nat} : (!decide (((g &&& 2 ^ h : Nat) : Int) = 0)) = bitOn h g := by
  unfold bitOn
  by_cases e : g &&& 2 ^ h = 0
  · rw [e]; rfl
  · rw [decide_eq_false (by omega), bne_iff_ne.mpr e] <;> rfl
/-- below 2 ^ k only the values below 2 ^ k are asked -/
theorem bit_cut : ∀ k, k < 7 → ∀ h, h < k → ∀ g, g < 2 ^ k → bitOn h g = true → g ^^^ 2 ^ h < 2 ^ k := by decide +kernel
theorem allE_cut' {k : Nat} (hk : k ≤ 6) {f f' : Nat → Int} (e : ∀ i, i < 2 ^ k → f i = f' i) : ∀ j, j ≤ k → ∀ g, g < 2 ^ k → allE j f g = allE j f' g
  | 0, _, g, hg => e g hg
  | j + 1, hj, g, hg => by
    show stepE j (allE j f) g = stepE j (allE j f') g
    unfold stepE
    by_cases c : bitOn j g = true
    · rw [if_pos c, if_pos c, allE_cut' hk e j (by omega) g hg, allE_cut' hk e j (by omega) _ (bit_cut k (by omega) j (by omega) g hg c)]
    · rw [if_neg c, if_neg c, allE_cut' hk e j (by omega) g hg]
theorem allE_cut {k : Nat} (hk : k ≤ 6) {f f' : Nat → Int} (e : ∀ i, i < 2 ^ k → f i = f' i) {g : Nat} (hg : g < 2 ^ k) : allE k f g = allE k f' g := allE_cut' hk e k (Nat.le_refl k) g hg
theorem allD_cut' {k : Nat} (hk : k ≤ 6) {f f' : Nat → Int} (e : ∀ i, i < 2 ^ k → f i = f' i) : ∀ j, j ≤ k → ∀ g, g < 2 ^ k → allD j f g = allD j f' g
  | 0, _, g, hg => e g hg
  | j + 1, hj, g, hg => by
    show stepD j (allD j f) g = stepD j (allD j f') g
    unfold stepD
    by_cases c : bitOn j g = true
    · rw [if_pos c, if_pos c, allD_cut' hk e j (by omega) g hg, allD_cut' hk e j (by omega) _ (bit_cut k (by omega) j (by omega) g hg c)]
    · rw [if_neg c, if_neg c, allD_cut' hk e j (by omega) g hg]
theorem allD_cut {k : Nat} (hk : k ≤ 6) {f f' : Nat → Int} (e : ∀ i, i < 2 ^ k → f i = f' i) {g : Nat} (hg : g < 2 ^ k) : allD k f g = allD k f' g := allD_cut' hk e k (Nat.le_refl k) g hg
/-! ### hands of a group -/
theorem bitOn_div : ∀ h, h < 6 → ∀ g, g < 64 → bitOn h g = decide (g / 2 ^ h % 2 = 1) := by decide +kernel
theorem bit_int {h g : Nat} (hh : h < 6) (hg : g < 64) : decide (Builtin.bitAnd ((g : Int) / 2 ^ ((h : Int)).toNat) 1 = 1) = bitOn h g := by
  rw [bitOn_div h hh g hg, bitAnd_m1, Int.toNat_natCast]
  have e : (g : Int) / 2 ^ h % 2 = ((g / 2 ^ h % 2 : Nat) : Int) := by
    rw [Int.natCast_emod, Int.natCast_ediv, Int.natCast_pow] <;> rfl
  rw [e]
  by_cases c : g / 2 ^ h % 2 = 1
  · rw [c]; rfl
  · rw [decide_eq_false c, decide_eq_false (by omega)]
def handsM (g : Nat) : List Nat := (List.range 6).filter fun h => bitOn h g
theorem filter_yes {p : Nat → Bool} {n : Nat} (h : p n = true) {α : Type} (f : Nat → α) : ((List.range (n + 1)).filter p).map f = ((List.range n).filter p).map f ++ [f n] := by
  rw [List.range_succ, List.filter_append, List.map_append, List.filter_cons, if_pos h] <;> rfl
theorem filter_no {p : Nat → Bool} {n : Nat} (h : p n = false) {α : Type} (f : Nat → α) : ((List.range (n + 1)).filter p).map f = ((List.range n).filter p).map f := by
  rw [List.range_succ, List.filter_append, List.map_append, List.filter_cons, if_neg (by rw [h]; exact Bool.false_ne_true)]
  show _ ++ [] = _
  rw [List.append_nil]
theorem filter_len (p : Nat → Bool) (n : Nat) : ((List.range n).filter p).length ≤ n := by
  have := List.length_filter_le p (List.range n)
  rw [List.length_range] at this
  exact this
/-- a list of naturals as Python's ints -/
abbrev vnat : Nat → V := fun n => .int (n : Int)
theorem vnat_map (l : List Nat) : l.map vnat = (l.map fun n : Nat => (n : Int)).map V.int := by rw [List.map_map] <;> rfl
theorem handsM_lt {g h : Nat} (hm : h ∈ handsM g) : h < 6 := by
  unfold handsM at hm
  exact List.mem_range.mp (List.mem_filter.mp hm).1
/-! ### spread: the hands of a group of blocks -/
def spreadTo (g : Nat) (bs : List Nat) : Nat → Nat
  | 0 => 0
  | i + 1 => if bitOn i g = true then spreadTo g bs i ||| bs.getD i 0 else spreadTo g bs i
def spreadM (g : Nat) (bs : List Nat) : Nat := spreadTo g bs bs.length
theorem spreadTo_step {g : Nat} {bs : List Nat} {i z : Nat} (h : bs[i]? = some z) : spreadTo g bs (i + 1) = if bitOn i g = true then spreadTo g bs i ||| z else spreadTo g bs i := by
  show (if bitOn i g = true then spreadTo g bs i ||| bs.getD i 0 else spreadTo g bs i) = _
  rw [List.getD_eq_getElem?_getD, h] <;> rfl
theorem map_at {α : Type} {f : α → V} {l : List α} {i : Nat} {x : V} (h : (l.map f)[i]? = some x) : ∃ z, l[i]? = some z ∧ x = f z := by
  rw [List.getElem?_map] at h
  cases e : l[i]? with
  | none => rw [e] at h; cases h
  | some z => rw [e] at h; exact ⟨z, rfl, (Option.some.inj h).symm⟩
theorem take_map {α β : Type} {l : List α} {i : Nat} {z : α} (h : l[i]? = some z) (f : α → β) : (l.take (i + 1)).map f = (l.take i).map f ++ [f z] := by
  rw [List.take_add_one, h, List.map_append] <;> rfl
theorem handsM_len (g : Nat) : (handsM g).length ≤ 6 := filter_len _ 6
theorem pow6 {n : Nat} (h : n ≤ 6) : 2 ^ n ≤ 64 := Nat.pow_le_pow_right (n := 2) (by decide) h
/-- the table cut to g -/
def cutM (ns : List Int) (g : Nat) : List Int := (List.range (2 ^ (handsM g).length)).map fun q => gi ns ((spreadM q ((handsM g).map (2 ^ ·)) : Nat) : Int)
theorem spread_le : ∀ {g : Nat}, g < 64 → ∀ q, q < 2 ^ (handsM g).length → spreadM q ((handsM g).map (2 ^ ·)) ≤ g := by decide +kernel
theorem at_mem {xs : List V} {i : Int} (h0 : 0 ≤ i) (h1 : i < xs.length) : ∃ v, atI xs i = some v ∧ v ∈ xs := by
  obtain ⟨n, rfl⟩ := Int.eq_ofNat_of_zero_le h0
  have hn : n < xs.length := by omega
  exact ⟨xs[n], atI_nat (List.getElem?_eq_getElem hn), List.getElem_mem hn⟩
theorem ixN_last {n : Nat} (h : 0 < n) : ixN n (-1) = some (n - 1) := by
  unfold ixN
  rw [if_neg (by decide), if_pos (by omega)]
  congr 1
  omega
theorem at_last {ns : List Int} (h : 0 < ns.length) : atI (ns.map V.int) (-1) = some (.int (gi ns ((ns.length : Int) - 1))) := by
  unfold atI
  rw [List.length_map, ixN_last h, Option.bind_some, List.getElem?_map, List.getElem?_eq_getElem (by omega)]
  unfold gi
  rw [List.getD_eq_getElem?_getD, show ((ns.length : Int) - 1).toNat = ns.length - 1 by omega, List.getElem?_eq_getElem (by omega)]
  rfl
theorem handsM_whole : ∀ k, k < 7 → (handsM (2 ^ k - 1)).length = k := by decide +kernel
theorem handsM_pos : ∀ g, g < 64 → 0 < g → 1 ≤ (handsM g).length := by decide +kernel
theorem spread_whole : ∀ k, k < 7 → ∀ q, q < 2 ^ k → spreadM q ((handsM (2 ^ k - 1)).map (2 ^ ·)) = q := by decide +kernel
theorem spread_nought : ∀ g, g < 64 → spreadM 0 ((handsM g).map (2 ^ ·)) = 0 := by decide +kernel
theorem cutM_len (ns : List Int) (g : Nat) : (cutM ns g).length = 2 ^ (handsM g).length := by unfold cutM; rw [List.length_map, List.length_range]
theorem cutM_tab {ns : List Int} {k g : Nat} (tb : Tab ns k) (h0 : 0 < g) (hg : g < ns.length) : Tab (cutM ns g) (handsM g).length := by
  have hp := tb.pos
  have h64 : g < 64 := by omega
  refine ⟨cutM_len _ _, handsM_pos g h64 h0, handsM_len g, gi_zero (by rw [cutM_len]; exact Nat.two_pow_pos _) ?_⟩
  unfold cutM
  rw [gi_map_range (by decide) (by have := Nat.two_pow_pos (handsM g).length; omega), show (0 : Int).toNat = 0 from rfl, spread_nought g h64]
  exact tb.gi0
theorem cutM_whole {ns : List Int} {k : Nat} (tb : Tab ns k) : cutM ns (ns.length - 1) = ns := by
  have e : (handsM (ns.length - 1)).length = k := by rw [tb.len]; exact handsM_whole k (by have := tb.hi; omega)
  refine gi_ext (by rw [cutM_len, e, tb.len]) fun i h0 h1 => ?_
  rw [cutM_len, e] at h1
  unfold cutM
  rw [gi_map_range h0 (by rw [e]; exact h1), tb.len, spread_whole k (by have := tb.hi; omega) i.toNat (by omega), Int.toNat_of_nonneg h0]
def sumSpread (q : Nat) (bs : List Nat) : Nat := (((List.range bs.length).filter fun j => bitOn j q).map fun j => bs.getD j 0).sum
theorem sumSpread_is : ∀ g, g < 64 → ∀ q, q < 2 ^ (handsM g).length → sumSpread q ((handsM g).map (2 ^ ·)) = spreadM q ((handsM g).map (2 ^ ·)) := by decide +kernel
theorem sum_cast (l : List Nat) : (l.map fun n : Nat => (n : Int)).sum = ((l.sum : Nat) : Int) := by
  induction l with
  | nil => rfl
  | cons x r ih => rw [List.map_cons, List.sum_cons, List.sum_cons, ih, Int.natCast_add]
end Sp

/-! Mg: a table with the hands of a group merged into one. -/
namespace Sp
open PySem PySem.Spec L2 PyProof.Rows
def leastM (g : Nat) : Nat := (handsM g).headD 0
def keepP (g h : Nat) : Bool := h == leastM g || !bitOn h g
def keptM (g k : Nat) : List Nat := (List.range k).filter (keepP g)
def blockOf (g h : Nat) : Nat := if h = leastM g then g else 2 ^ h
def blocksM (g k : Nat) : List Nat := (keptM g k).map (blockOf g)
def mergedM (ns : List Int) (g k : Nat) : List Int := (List.range (2 ^ (keptM g k).length)).map fun q => gi ns ((spreadM q (blocksM g k) : Nat) : Int)
def leftP (g k h : Nat) : Bool := decide (2 ^ h < 2 ^ k) && (h == leastM g || !decide (h ∈ handsM g))
def lawW (g q : Nat) (ls : List Nat) : Nat := if bitOn (leastM g) (sumSpread q (ls.map (2 ^ ·))) = true then sumSpread q (ls.map (2 ^ ·)) - 2 ^ leastM g + g else sumSpread q (ls.map (2 ^ ·))
def mgOne (g k q : Nat) : Bool := decide (spreadM q (blocksM g k) < 2 ^ k) && (lawW g q (keptM g k) == spreadM q (blocksM g k)) && (!bitOn (leastM g) (sumSpread q ((keptM g k).map (2 ^ ·))) || decide (2 ^ leastM g ≤ sumSpread q ((keptM g k).map (2 ^ ·)))) && decide (sumSpread q ((keptM g k).map (2 ^ ·)) < 64)
def mgOk (g k : Nat) : Bool := decide (1 ≤ (keptM g k).length) && ((List.range 6).filter (leftP g k) == keptM g k) && (spreadM 0 (blocksM g k) == 0) && (List.range (2 ^ (keptM g k).length)).all (mgOne g k)
theorem mgOk_all : ∀ k, k < 7 → ∀ g, g < 2 ^ k → 0 < g → mgOk g k = true := by decide +kernel
theorem mgF (k : Nat) (hk : k < 7) (g : Nat) (hg : g < 2 ^ k) (h0 : 0 < g) : 1 ≤ (keptM g k).length ∧ (List.range 6).filter (leftP g k) = keptM g k ∧ spreadM 0 (blocksM g k) = 0 ∧
    ∀ q, q < 2 ^ (keptM g k).length → spreadM q (blocksM g k) < 2 ^ k ∧ lawW g q (keptM g k) = spreadM q (blocksM g k) ∧ (bitOn (leastM g) (sumSpread q ((keptM g k).map (2 ^ ·))) = true → 2 ^ leastM g ≤ sumSpread q ((keptM g k).map (2 ^ ·))) ∧ sumSpread q ((keptM g k).map (2 ^ ·)) < 64 := by
  have h := mgOk_all k hk g hg h0
  unfold mgOk at h
  simp only [Bool.and_eq_true, decide_eq_true_eq, beq_iff_eq, List.all_eq_true] at h
  obtain ⟨⟨⟨a, b⟩, c⟩, d⟩ := h
  refine ⟨a, b, c, fun q hq => ?_⟩
  have h2 := d q (List.mem_range.mpr hq)
  unfold mgOne at h2
  simp only [Bool.and_eq_true, decide_eq_true_eq, beq_iff_eq, Bool.or_eq_true, Bool.not_eq_true'] at h2
  obtain ⟨⟨⟨a2, b2⟩, c2⟩, d2⟩ := h2
  refine ⟨a2, b2, fun e => ?_, d2⟩
  rcases c2 with c2 | c2
  · rw [e] at c2; cases c2
  · exact c2
theorem leastF : ∀ g, g < 64 → 0 < g → (handsM g)[0]? = some (leastM g) ∧ leastM g < 6 := by decide +kernel
theorem mgWhole : ∀ k, k < 7 → 1 ≤ k → keptM (2 ^ k - 1) k = [0] ∧ spreadM 0 (blocksM (2 ^ k - 1) k) = 0 ∧ spreadM 1 (blocksM (2 ^ k - 1) k) = 2 ^ k - 1 := by decide +kernel
theorem handsM_all : ∀ k, k < 7 → handsM (2 ^ k - 1) = List.range k := by decide +kernel
theorem keptM_len (g k : Nat) : (keptM g k).length ≤ k := filter_len _ k
theorem blocksM_len (g k : Nat) : (blocksM g k).length = (keptM g k).length := by unfold blocksM; rw [List.length_map]
theorem mergedM_len (ns : List Int) (g k : Nat) : (mergedM ns g k).length = 2 ^ (keptM g k).length := by unfold mergedM; rw [List.length_map, List.length_range]
theorem mergedM_tab {ns : List Int} {k g : Nat} (tb : Tab ns k) (h0 : 0 < g) (hg : g < ns.length) : Tab (mergedM ns g k) (keptM g k).length := by
  have hp := tb.pos
  obtain ⟨f1, _, f3, _⟩ := mgF k (by have := tb.hi; omega) g (by rw [← tb.len]; exact hg) h0
  refine ⟨mergedM_len _ _ _, f1, Nat.le_trans (keptM_len g k) tb.hi, gi_zero (by rw [mergedM_len]; exact Nat.two_pow_pos _) ?_⟩
  unfold mergedM
  rw [gi_map_range (by decide) (by have := Nat.two_pow_pos (keptM g k).length; omega), show (0 : Int).toNat = 0 from rfl, f3]
  exact tb.gi0
theorem mergedM_whole {ns : List Int} {k : Nat} (tb : Tab ns k) : mergedM ns (ns.length - 1) k = [0, gi ns ((ns.length : Int) - 1)] := by
  have hp := tb.pos
  obtain ⟨f1, f2, f3⟩ := mgWhole k (by have := tb.hi; omega) tb.lo
  unfold mergedM
  rw [tb.len, f1, show List.range (2 ^ [0].length) = [0, 1] from rfl]
  show [gi ns _, gi ns _] = _
  rw [f2, f3, show gi ns ((0 : Nat) : Int) = 0 from tb.gi0]
  have h2 : 1 ≤ 2 ^ k := Nat.two_pow_pos k
  congr 3
  omega
theorem bit_int0 {h g : Nat} (hh : h < 6) (hg : g < 64) : decide (Builtin.bitAnd ((g : Int) / 2 ^ ((h : Int)).toNat) 1 = 0) = !bitOn h g := by
  have e := bit_int hh hg
  rw [← e, bitAnd_m1]
  by_cases c : (g : Int) / 2 ^ ((h : Int)).toNat % 2 = 1
  · rw [c]; rfl
  · rw [decide_eq_false c, decide_eq_true (by omega)] <;> rfl
theorem range_at {n i z : Nat} (h : (List.range n)[i]? = some z) : z = i ∧ i < n := by
  obtain ⟨h1, h2⟩ := List.getElem?_eq_some_iff.mp h
  rw [List.length_range] at h1
  rw [List.getElem_range] at h2
  exact ⟨h2.symm, h1⟩
theorem keep_yes {g i : Nat} (h : keepP g i = true) : (((List.range (i + 1)).filter (keepP g)).map (blockOf g)).map vnat = (((List.range i).filter (keepP g)).map (blockOf g)).map vnat ++ [vnat (blockOf g i)] := by
  rw [List.range_succ, List.filter_append, List.map_append, List.map_append, List.filter_cons, if_pos h] <;> rfl
theorem keep_no {g i : Nat} (h : keepP g i = false) : (((List.range (i + 1)).filter (keepP g)).map (blockOf g)).map vnat = (((List.range i).filter (keepP g)).map (blockOf g)).map vnat := by
  rw [List.range_succ, List.filter_append, List.map_append, List.map_append, List.filter_cons, if_neg (by rw [h]; exact Bool.false_ne_true)]
  show _ ++ [] = _
  rw [List.append_nil]
def offOk (m h g : Nat) : Bool := bitOn h g || (decide (g ||| 2 ^ h = g + 2 ^ h) && decide (g + 2 ^ h < 2 ^ m))
theorem off_all : ∀ m, m < 7 → ∀ h, h < m → ∀ g, g < 2 ^ m → offOk m h g = true := by decide +kernel
theorem off_bit {m h g : Nat} (hm : m < 7) (hh : h < m) (hg : g < 2 ^ m) (hb : bitOn h g = false) : g ||| 2 ^ h = g + 2 ^ h ∧ g + 2 ^ h < 2 ^ m := by
  have e := off_all m hm h hh g hg
  unfold offOk at e
  rw [hb, Bool.false_or, Bool.and_eq_true, decide_eq_true_eq, decide_eq_true_eq] at e
  exact e
theorem bits_len : ∀ m, m < 7 → (List.range 6).filter (fun k => decide (2 ^ k < 2 ^ m)) = List.range m := by decide +kernel
theorem rep_flat (m : Nat) : (List.replicate m [V.int 0]).flatten = (List.replicate m (0 : Int)).map V.int := by
  induction m with
  | zero => rfl
  | succ m ih => rw [List.replicate_succ, List.replicate_succ, List.flatten_cons, List.map_cons, ih] <;> rfl
theorem rep_tl {m : Nat} {f : Nat → Int} (h : ∀ i, i < m → f i = 0) : List.replicate m (0 : Int) = tl m f := by
  unfold tl
  apply List.ext_getElem?
  intro i
  rw [List.getElem?_map, List.getElem?_replicate]
  by_cases hi : i < m
  · rw [if_pos hi, List.getElem?_range hi, Option.map_some, h i hi]
  · rw [if_neg hi, List.getElem?_eq_none (by rw [List.length_range]; omega)] <;> rfl
/-- the comprehension over a list of our own -/
theorem cp_listO {K : PySem.W.Frag} {B : Hp} {cs : Cells} {H : Hp} {σ : L2.St} {te : TE} {g : TG} {tt : TT} {vs : List Nat} {QD : Addr → Hp → Prop} {a : Addr} {xs : List V} (F : Nat → List V) (w : Own B cs H) (j : Nat) (hx : cs[j]? = some (a, .lst xs)) (h0 : F 0 = [])
    (hs : ∀ D i x H', xs[i]? = some x → PvC B cs D F i H' → g x (wipe σ vs) H' fun σ2 H2 => wipe σ2 vs = wipe σ vs ∧ tt σ2 H2 fun b H3 =>
      if b = true then te σ2 H3 fun y H4 => ∃ acc, H4 D = some (.lst acc) ∧ acc.length < sizeLine ∧ PvC B cs D F (i + 1) (upd H4 D (.lst (acc ++ [y]))) else PvC B cs D F (i + 1) H3)
    (hq : ∀ D H', Own B ((D, .lst (F xs.length)) :: cs) H' → QD D H') : ∀ D, H D = none → ∃ W : Nat → Nat → Hp → Prop, (∃ m, W 0 m (upd H D (.lst []))) ∧ ∀ i m H, W i m H →
      ((Itl K a).stop i H ∧ QD D H) ∨ ((Itl K a).go i H ∧ ∃ Nx : Hp → Prop, (∀ H', Nx H' → ∃ m', m' < m ∧ W (i + 1) m' H') ∧ ∀ x H', (Itl K a).yld i H x H' → g x (wipe σ vs) H' fun σ2 H2 => wipe σ2 vs = wipe σ vs ∧ tt σ2 H2 fun b H3 =>
        if b = true then te σ2 H3 fun y H4 => ∃ acc, H4 D = some (.lst acc) ∧ acc.length < sizeLine ∧ Nx (upd H4 D (.lst (acc ++ [y]))) else Nx H3) := fun D hD =>
  lc_list (PvC B cs D F) (by unfold PvC; rw [h0]; exact w.new hD) (fun i H' hi p => Own.sq p (j + 1) hx) (fun i x H' hi p => hs D i x H' hi p) (fun H' p => hq D H' p)
theorem cut_to {xs : List V} {i : Nat} : cutV xs none (some (i : Int)) = xs.take i := by
  unfold cutV
  rw [HT.sIx_none, HT.sIx_nat, List.drop_zero, Nat.sub_zero]
  by_cases h : i ≤ xs.length
  · rw [Nat.min_eq_left h]
  · rw [Nat.min_eq_right (by omega), List.take_of_length_le (Nat.le_refl _), List.take_of_length_le (by omega)]
theorem cut_from {xs : List V} {i : Nat} : cutV xs (some (i : Int)) none = xs.drop i := by
  unfold cutV
  rw [HT.sIx_none, HT.sIx_nat, List.take_of_length_le (by rw [List.length_drop]; omega)]
  by_cases h : i ≤ xs.length
  · rw [Nat.min_eq_left h]
  · rw [Nat.min_eq_right (by omega), List.drop_eq_nil_of_le (Nat.le_refl _), List.drop_eq_nil_of_le (by omega)]
/-- x not in a list of whole numbers -/
theorem inV_nat {h : Nat} : ∀ {ns : List Nat}, inV (.int (h : Int)) (ns.map vnat) = decide (h ∈ ns)
  | [] => rfl
  | n :: ns => by
    have ih := inV_nat (h := h) (ns := ns)
    unfold inV at ih ⊢
    rw [List.map_cons, List.any_cons, ih]
    show (((n : Int) == (h : Int)) || decide (h ∈ ns)) = _
    rw [Bool.eq_iff_iff]
    simp only [Bool.or_eq_true, beq_iff_eq, decide_eq_true_eq, List.mem_cons]
    constructor
    · rintro (e | e)
      · exact .inl (by omega)
      · exact .inr e
    · rintro (e | e)
      · exact .inl (by omega)
      · exact .inr e
theorem all_flat_nat : ∀ ns : List Nat, (ns.map vnat).all flatV = true
  | [] => rfl
  | n :: ns => by rw [List.map_cons, List.all_cons, all_flat_nat ns] <;> rfl
theorem x_notInN {K : PySem.W.Frag} {H : Hp} {Q : VK} {p : Addr} {h : Nat} {ns : List Nat} (hS : SqL K H p (ns.map vnat)) (q : Q (.bl (!decide (h ∈ ns))) H) : rIn K true (.int (h : Int)) (.ref p) H Q :=
  ⟨p, _, rfl, .inl hS, rfl, all_flat_nat ns, by rw [inV_nat]; exact q⟩
end Sp

/-! LinA: sums that are linear in a table's numbers, told by their coefficients. -/
namespace Sp
open PySem PySem.Spec L2 PyProof.Rows
abbrev LinF := List (Int × Nat)
def ev (T : Nat → Int) (L : LinF) : Int := (L.map fun p => p.1 * T p.2).sum
def co (L : LinF) (i : Nat) : Int := (L.map fun p => if p.2 = i then p.1 else 0).sum
theorem ev_cons (T : Nat → Int) (p : Int × Nat) (L : LinF) : ev T (p :: L) = p.1 * T p.2 + ev T L := by unfold ev; rw [List.map_cons, List.sum_cons]
theorem co_cons (p : Int × Nat) (L : LinF) (i : Nat) : co (p :: L) i = (if p.2 = i then p.1 else 0) + co L i := by unfold co; rw [List.map_cons, List.sum_cons]
theorem sum_app2 (a b : List Int) : (a ++ b).sum = a.sum + b.sum := by
  induction a with
  | nil => simp
  | cons x r ih => rw [List.cons_append, List.sum_cons, List.sum_cons, ih, Int.add_assoc]
theorem ev_app (T : Nat → Int) (L L' : LinF) : ev T (L ++ L') = ev T L + ev T L' := by unfold ev; rw [List.map_append, sum_app2]
theorem sum_add (f g : Nat → Int) : ∀ l : List Nat, (l.map fun i => f i + g i).sum = (l.map f).sum + (l.map g).sum
  | [] => rfl
  | x :: l => by rw [List.map_cons, List.map_cons, List.map_cons, List.sum_cons, List.sum_cons, List.sum_cons, sum_add f g l]; omega
theorem sum_zero : ∀ l : List Nat, (l.map fun _ => (0 : Int)).sum = 0
  | [] => rfl
  | x :: l => by rw [List.map_cons, List.sum_cons, sum_zero l] <;> rfl
theorem sum_one (c : Int) (T : Nat → Int) (j : Nat) : ∀ n, ((List.range n).map fun i => (if j = i then c else 0) * T i).sum = if j < n then c * T j else 0
  | 0 => by rw [if_neg (Nat.not_lt_zero j)] <;> rfl
  | n + 1 => by
    rw [List.range_succ, List.map_append, sum_app2, sum_one c T j n, List.map_cons, List.map_nil, List.sum_cons, List.sum_nil]
    by_cases h : j = n
    · subst h; rw [if_neg (Nat.lt_irrefl j), if_pos rfl, if_pos (Nat.lt_succ_self j)]; omega
    · rw [if_neg h]
      by_cases h2 : j < n
      · rw [if_pos h2, if_pos (by omega)]; omega
      · rw [if_neg h2, if_neg (by omega)]; omega
theorem ev_co (T : Nat → Int) (n : Nat) : ∀ L : LinF, (∀ p ∈ L, p.2 < n) → ev T L = ((List.range n).map fun i => co L i * T i).sum
  | [], _ => by
    show (0 : Int) = _
    rw [show ((List.range n).map fun i => co [] i * T i) = (List.range n).map fun _ => (0 : Int) from List.map_congr_left fun i _ => Int.zero_mul _, sum_zero]
  | p :: L, h => by
    rw [ev_cons, ev_co T n L fun q hq => h q (.tail _ hq)]
    rw [show ((List.range n).map fun i => co (p :: L) i * T i) = (List.range n).map fun i => (if p.2 = i then p.1 else 0) * T i + co L i * T i from List.map_congr_left fun i _ => by rw [co_cons, Int.add_mul]]
    rw [sum_add, sum_one, if_pos (h p (.head _))]
def sameL (n : Nat) (L L' : LinF) : Bool := L.all (fun p => decide (p.2 < n)) && L'.all (fun p => decide (p.2 < n)) && (List.range n).all fun i => decide (co L i = co L' i)
theorem ev_same {n : Nat} {L L' : LinF} (h : sameL n L L' = true) (T : Nat → Int) : ev T L = ev T L' := by
  unfold sameL at h
  simp only [Bool.and_eq_true, List.all_eq_true, decide_eq_true_eq] at h
  obtain ⟨⟨h1, h2⟩, h3⟩ := h
  rw [ev_co T n L h1, ev_co T n L' h2]
  congr 1
  exact List.map_congr_left fun i hi => by rw [h3 i hi]
theorem ev_congr {T T' : Nat → Int} {L : LinF} (h : ∀ p ∈ L, T p.2 = T' p.2) : ev T L = ev T' L := by
  unfold ev
  congr 1
  exact List.map_congr_left fun p hp => by rw [h p hp]
theorem ev_bump (T : Nat → Int) (j : Nat) : ∀ L : LinF, ev (fun i => if i = j then T i + 1 else T i) L = ev T L + co L j
  | [] => rfl
  | p :: L => by
    rw [ev_cons, ev_cons, co_cons, ev_bump T j L]
    by_cases h : p.2 = j
    · rw [if_pos h, if_pos h, Int.mul_add]; omega
    · rw [if_neg h, if_neg h]; omega
/-- L, read through s -/
def thr (s : Nat → Nat) (L : LinF) : LinF := L.map fun p => (p.1, s p.2)
theorem ev_thr (T : Nat → Int) (s : Nat → Nat) (L : LinF) : ev T (thr s L) = ev (fun i => T (s i)) L := by unfold ev thr; rw [List.map_map] <;> rfl
end Sp

/-! Dp: == of nested data. -/
namespace Sp
open PySem PySem.Spec L2 PyProof.Rows
mutual
theorem eqv_self : ∀ d : PyData, d.canLay0 = true → PyData.eqv d d = true
  | .none, _ => by simp [PyData.eqv]
  | .bool b, _ => by simp [PyData.eqv]
  | .int i, _ => by simp [PyData.eqv]
  | .str x, _ => by simp [PyData.eqv]
  | .list xs, h => by
    rw [PyData.canLay0] at h
    rw [PyData.eqv]
    exact eqvAll_self xs h
  | .tuple xs, h => by
    rw [PyData.canLay0] at h
    rw [PyData.eqv]
    exact eqvAll_self xs h
  | .dict _, h => by rw [PyData.canLay0] at h; cases h
theorem eqvAll_self : ∀ ds : List PyData, PyData.canLayAll0 ds = true → PyData.eqvAll ds ds = true
  | [], _ => by simp [PyData.eqvAll]
  | d :: ds, h => by
    rw [PyData.canLayAll0, Bool.and_eq_true] at h
    rw [PyData.eqvAll, eqv_self d h.1, eqvAll_self ds h.2] <;> rfl
end
/-- laid without dicts, at most k deep -/
structure LayD (k : Nat) (d : PyData) : Prop where
  lay : d.canLay0 = true
  dep : d.depth ≤ k
theorem layAll : ∀ {k : Nat} {ds : List PyData}, (∀ d ∈ ds, LayD k d) → PyData.canLayAll0 ds = true ∧ PyData.depthAll ds ≤ k
  | k, [], _ => ⟨by simp [PyData.canLayAll0], by simp [PyData.depthAll]⟩
  | k, d :: ds, h => by
    have ⟨h1, h2⟩ := layAll fun x hx => h x (.tail _ hx)
    have h0 := h d (.head _)
    exact ⟨by rw [PyData.canLayAll0, h0.lay, h1] <;> rfl, by have := h0.dep; simp only [PyData.depthAll]; omega⟩
theorem LayD.int {k : Nat} (h : 1 ≤ k) (i : Int) : LayD k (.int i) := ⟨by simp [PyData.canLay0], by simp only [PyData.depth]; omega⟩
theorem LayD.bool {k : Nat} (h : 1 ≤ k) (b : Bool) : LayD k (.bool b) := ⟨by simp [PyData.canLay0], by simp only [PyData.depth]; omega⟩
theorem LayD.none {k : Nat} (h : 1 ≤ k) : LayD k .none := ⟨by simp [PyData.canLay0], by simp only [PyData.depth]; omega⟩
theorem LayD.str {k : Nat} (h : 1 ≤ k) {x : Str} (hx : PyData.strOk x = true) : LayD k (.str x) := ⟨by simpa [PyData.canLay0] using hx, by simp only [PyData.depth]; omega⟩
theorem LayD.list {k : Nat} {ds : List PyData} (h : ∀ d ∈ ds, LayD k d) : LayD (k + 1) (.list ds) := by
  have ⟨h1, h2⟩ := layAll h
  exact ⟨by rw [PyData.canLay0]; exact h1, by simp only [PyData.depth]; omega⟩
theorem LayD.tuple {k : Nat} {ds : List PyData} (h : ∀ d ∈ ds, LayD k d) : LayD (k + 1) (.tuple ds) := by
  have ⟨h1, h2⟩ := layAll h
  exact ⟨by rw [PyData.canLay0]; exact h1, by simp only [PyData.depth]; omega⟩
theorem LayD.ints {ns : List Int} : LayD 2 (.list (ns.map PyData.int)) := LayD.list fun d hd => by
  obtain ⟨n, _, rfl⟩ := List.mem_map.mp hd
  exact LayD.int (by decide) n
theorem LayD.shaped {k : Nat} {d : PyData} (h : LayD k d) (hk : k ≤ 64 := by decide) : SeqAt.shaped d = true := by
  unfold SeqAt.shaped
  rw [Bool.and_eq_true]
  exact ⟨h.lay, decide_eq_true (Nat.le_trans h.dep hk)⟩
section
variable {K : PySem.W.Frag} {H : Hp} {Q : VK} {x y : V} {d : PyData} {k : Nat}
theorem x_eqD (h1 : Dp K H x d) (h2 : Dp K H y d) (l : LayD k d) (q : Q (.bl true) H) (hk : k ≤ 64 := by decide) : rEqX K x y H Q :=
  .inr ⟨_, _, h1, h2, l.shaped hk, l.shaped hk, by rw [eqv_self d l.lay]; exact q⟩
theorem x_neD (h1 : Dp K H x d) (h2 : Dp K H y d) (l : LayD k d) (q : Q (.bl false) H) (hk : k ≤ 64 := by decide) : rNeX K x y H Q :=
  .inr ⟨_, _, h1, h2, l.shaped hk, l.shaped hk, by rw [eqv_self d l.lay]; exact q⟩
end
mutual
theorem Dp.same {K : PySem.W.Frag} {H H' : Hp} (s : Same H H') : ∀ (d : PyData) (v : V), Dp K H v d → Dp K H' v d
  | .none, _, h => by cases h; exact .non
  | .bool b, _, h => by cases h; exact .bl b
  | .int i, _, h => by cases h; exact .int i
  | .str x, _, h => by cases h; exact .str x
  | .list ds, _, h => by
    cases h with
    | lst h1 h2 => exact .lst (s.seq h1) (DpAll.same s ds _ h2)
  | .tuple ds, _, h => by
    cases h with
    | tup h1 h2 => exact .tup (same_sqT s h1) (DpAll.same s ds _ h2)
  | .dict _, _, h => by cases h
theorem DpAll.same {K : PySem.W.Frag} {H H' : Hp} (s : Same H H') : ∀ (ds : List PyData) (vs : List V), DpAll K H vs ds → DpAll K H' vs ds
  | [], _, h => by cases h; exact .nil
  | d :: ds, _, h => by
    cases h with
    | cons h1 h2 => exact .cons (Dp.same s d _ h1) (DpAll.same s ds _ h2)
end
theorem DpAll.app {K : PySem.W.Frag} {H : Hp} : ∀ {vs ws : List V} {ds es : List PyData}, DpAll K H vs ds → DpAll K H ws es → DpAll K H (vs ++ ws) (ds ++ es)
  | _, _, _, _, .nil, h => h
  | _, _, _, _, .cons h1 h2, h => .cons h1 (DpAll.app h2 h)
end Sp

/-! Gcd: the greatest divisor, fractions in their shortest words. -/
namespace Sp
open PySem PySem.Spec L2 PyProof.Rows
theorem x_par {i j : Nat} {ta : TA} {D : Ends} {σ : L2.St} {H : Hp} (h : ta σ H fun vs H1 => ∃ v w, vs = [v, w] ∧ D.nx ((σ.set i (some v)).set j (some w)) H1) : tPar i j ta D σ H := h
/-- numbers of at most B bits -/
def Bits (B : Nat) (a b : Int) : Prop := B ≤ 9000 ∧ a.natAbs < 2 ^ B ∧ b.natAbs < 2 ^ B
def gcdI (a b : Int) : Int := ((Int.gcd a b : Nat) : Int)
def shortM (a b : Int) : Int × Int := if 0 < b then (a / gcdI a b, b / gcdI a b) else (0 - a / gcdI a b, 0 - b / gcdI a b)
theorem gcd_step (x y : Nat) : Nat.gcd y (x % y) = Nat.gcd x y := by rw [Nat.gcd_comm y (x % y), ← Nat.gcd_rec, Nat.gcd_comm]
theorem halve {x y k : Nat} (h0 : 0 < y) (hxy : y ≤ x) (h : x * y < 2 ^ k) : y * (x % y) < 2 ^ (k - 1) ∧ 1 ≤ k := by
  have h1 : 1 ≤ x * y := Nat.mul_pos (by omega) h0
  have hk : 1 ≤ k := by
    rcases Nat.eq_zero_or_pos k with e | e
    · subst e; rw [Nat.pow_zero] at h; omega
    · exact e
  refine ⟨?_, hk⟩
  have e : 2 ^ k = 2 * 2 ^ (k - 1) := by rw [← Nat.pow_succ']; congr 1; omega
  have h2 : 2 * (x % y) ≤ x := by
    have := Nat.mod_lt x h0
    have h3 := Nat.div_add_mod x y
    have h4 : 1 ≤ x / y := (Nat.one_le_div_iff h0).mpr hxy
    have h5 : y * 1 ≤ y * (x / y) := Nat.mul_le_mul_left y h4
    omega
  have h6 : 2 * (y * (x % y)) ≤ x * y := by
    rw [← Nat.mul_assoc, Nat.mul_comm 2 y, Nat.mul_assoc, Nat.mul_comm x y]
    exact Nat.mul_le_mul_left y h2
  omega
theorem last2 (l : List Nat) (x y : Nat) : atI ((l ++ [x, y]).map vnat) (-1) = some (vnat y) ∧ atI ((l ++ [x, y]).map vnat) (-2) = some (vnat x) := by
  have hl : ((l ++ [x, y]).map vnat).length = l.length + 2 := by rw [List.length_map, List.length_append] <;> rfl
  constructor
  · unfold atI
    rw [hl, show ixN (l.length + 2) (-1) = some (l.length + 1) by unfold ixN; rw [if_neg (by decide), if_pos (by omega)]; congr 1; omega]
    rw [Option.bind_some, List.getElem?_map, List.getElem?_append_right (by omega), show l.length + 1 - l.length = 1 by omega] <;> rfl
  · unfold atI
    rw [hl, show ixN (l.length + 2) (-2) = some l.length by unfold ixN; rw [if_neg (by decide), if_pos (by omega)]; congr 1; omega]
    rw [Option.bind_some, List.getElem?_map, List.getElem?_append_right (by omega), Nat.sub_self] <;> rfl
theorem abs_nat (a : Int) : (if a < 0 then -a else a) = ((a.natAbs : Nat) : Int) := by
  by_cases h : a < 0
  · rw [if_pos h]; omega
  · rw [if_neg h]; omega
theorem gcd_pos {a b : Int} (h : b ≠ 0) : 0 < Int.gcd a b := Nat.gcd_pos_of_pos_right _ (by omega)
theorem gcd_le {a b : Int} (h : b ≠ 0) : Int.gcd a b ≤ b.natAbs := Nat.gcd_le_right _ (by omega)
theorem gcd_log {a b : Int} {B : Nat} (h : b ≠ 0) (hb : Bits B a b) : (gcdI a b).natAbs.log2 < 9000 := by
  obtain ⟨h1, _, h3⟩ := hb
  have h4 : B ≠ 0 := fun e => by rw [e, Nat.pow_zero] at h3; omega
  have h5 := gcd_le (a := a) h
  unfold gcdI
  rw [Int.natAbs_natCast]
  exact Nat.lt_of_lt_of_le (PySem.Flt.log2_lt_of (by omega) (Nat.lt_of_le_of_lt h5 h3)) h1
/-! ### what the shortest words are -/
theorem gcd_mul_div {a b : Int} (h : b ≠ 0) : gcdI a b * (a / gcdI a b) = a ∧ gcdI a b * (b / gcdI a b) = b := by
  unfold gcdI
  exact ⟨Int.mul_ediv_cancel' (Int.gcd_dvd_left ..), Int.mul_ediv_cancel' (Int.gcd_dvd_right ..)⟩
/-- a fraction in its shortest words -/
structure Frac (p q : Int) : Prop where
  pos : 0 < q
  one : Int.gcd p q = 1
theorem short_gcd {a b : Int} (h : b ≠ 0) : Int.gcd (a / gcdI a b) (b / gcdI a b) = 1 := by
  unfold gcdI
  exact Int.gcd_ediv_gcd_ediv_gcd (gcd_pos h)
theorem short_frac {a b : Int} (h : b ≠ 0) : Frac (shortM a b).1 (shortM a b).2 := by
  have hg : 0 < gcdI a b := by have := gcd_pos (a := a) h; unfold gcdI; omega
  have e := gcd_mul_div (a := a) h
  have h1 := short_gcd (a := a) h
  unfold shortM
  by_cases hb : 0 < b
  · rw [if_pos hb]
    exact ⟨Int.ediv_pos_of_pos_of_dvd hb (by omega) ⟨_, e.2.symm⟩, h1⟩
  · rw [if_neg hb]
    have h2 : 0 < 0 - b / gcdI a b := by
      have h3 : ¬ 0 ≤ b / gcdI a b := fun h4 => by
        have := Int.mul_nonneg (Int.le_of_lt hg) h4
        omega
      omega
    refine ⟨h2, ?_⟩
    rw [Int.zero_sub, Int.zero_sub, Int.gcd_neg, Int.neg_gcd]
    exact h1
theorem short_cross {a b : Int} (h : b ≠ 0) : (shortM a b).1 * b = a * (shortM a b).2 := by
  have e := gcd_mul_div (a := a) h
  unfold shortM
  have key : a / gcdI a b * b = a * (b / gcdI a b) := by
    have e1 : a / gcdI a b * b = a / gcdI a b * (gcdI a b * (b / gcdI a b)) := by rw [e.2]
    have e2 : a * (b / gcdI a b) = gcdI a b * (a / gcdI a b) * (b / gcdI a b) := by rw [e.1]
    rw [e1, e2, ← Int.mul_assoc, Int.mul_comm (a / gcdI a b) (gcdI a b)]
  by_cases hb : 0 < b
  · rw [if_pos hb]; exact key
  · rw [if_neg hb]
    show (0 - a / gcdI a b) * b = a * (0 - b / gcdI a b)
    rw [Int.sub_mul, Int.mul_sub, Int.zero_mul, Int.mul_zero, key]
theorem dvd_coprime {k m n : Int} (h : k ∣ m * n) (g : Int.gcd m k = 1) : k ∣ n := by
  have h1 : k.natAbs ∣ m.natAbs * n.natAbs := by rw [← Int.natAbs_mul]; exact Int.natAbs_dvd_natAbs.mpr h
  have h2 : Nat.Coprime k.natAbs m.natAbs := by rw [Nat.coprime_comm]; exact g
  exact Int.natAbs_dvd_natAbs.mp (h2.dvd_of_dvd_mul_left h1)
/-- only one pair of shortest words -/
theorem frac_unique {p q p' q' : Int} (f : Frac p q) (f' : Frac p' q') (h : p * q' = p' * q) : p = p' ∧ q = q' := by
  have d1 : q ∣ q' := by
    have : q ∣ p * q' := ⟨p', by rw [h, Int.mul_comm]⟩
    exact dvd_coprime this f.one
  have d2 : q' ∣ q := by
    have : q' ∣ p' * q := ⟨p, by rw [← h, Int.mul_comm]⟩
    exact dvd_coprime this f'.one
  have e : q = q' := Int.dvd_antisymm (Int.le_of_lt f.pos) (Int.le_of_lt f'.pos) d1 d2
  subst e
  exact ⟨Int.eq_of_mul_eq_mul_right (by have := f.pos; omega) h, rfl⟩
theorem short_eq {a b c d : Int} (hb : b ≠ 0) (hd : d ≠ 0) (h : a * d = c * b) : shortM a b = shortM c d := by
  have f1 := short_frac (a := a) hb
  have f2 := short_frac (a := c) hd
  have c1 := short_cross (a := a) hb
  have c2 := short_cross (a := c) hd
  have key : (shortM a b).1 * (shortM c d).2 = (shortM c d).1 * (shortM a b).2 := by
    refine Int.eq_of_mul_eq_mul_right (a := b * d) (Int.mul_ne_zero hb hd) ?_
    have l : (shortM a b).1 * (shortM c d).2 * (b * d) = ((shortM a b).1 * b) * ((shortM c d).2 * d) := by ac_rfl
    have r : (shortM c d).1 * (shortM a b).2 * (b * d) = ((shortM c d).1 * d) * ((shortM a b).2 * b) := by ac_rfl
    rw [l, r, c1, c2]
    have l2 : a * (shortM a b).2 * ((shortM c d).2 * d) = (a * d) * ((shortM a b).2 * (shortM c d).2) := by ac_rfl
    have r2 : c * (shortM c d).2 * ((shortM a b).2 * b) = (c * b) * ((shortM a b).2 * (shortM c d).2) := by ac_rfl
    rw [l2, r2, h]
  obtain ⟨e1, e2⟩ := frac_unique f1 f2 key
  exact Prod.ext e1 e2
end Sp

/-! Fra: lists of fractions, as tuples of their own. -/
namespace Sp
open PySem PySem.Spec L2 PyProof.Rows
abbrev frV (f : Int × Int) : List V := [.int f.1, .int f.2]
/-- ts hold the fractions fs -/
inductive FrAll (H : Hp) : List Addr → List (Int × Int) → Prop
  | nil : FrAll H [] []
  | cons {t : Addr} {ts : List Addr} {f : Int × Int} {fs : List (Int × Int)} : H t = some (.tup (frV f)) → FrAll H ts fs → FrAll H (t :: ts) (f :: fs)
theorem FrAll.same {H H' : Hp} (s : Same H H') : ∀ {ts : List Addr} {fs : List (Int × Int)}, FrAll H ts fs → FrAll H' ts fs
  | _, _, .nil => .nil
  | _, _, .cons h r => .cons (s _ _ h) (r.same s)
theorem FrAll.len {H : Hp} : ∀ {ts : List Addr} {fs : List (Int × Int)}, FrAll H ts fs → ts.length = fs.length
  | _, _, .nil => rfl
  | _, _, .cons _ r => by rw [List.length_cons, List.length_cons, r.len]
theorem FrAll.at {H : Hp} : ∀ {ts : List Addr} {fs : List (Int × Int)}, FrAll H ts fs → ∀ {i : Nat} {t : Addr}, ts[i]? = some t → ∃ f, fs[i]? = some f ∧ H t = some (.tup (frV f))
  | _, _, .nil, i, _, h => by rw [List.getElem?_nil] at h; cases h
  | _, _, .cons (f := f) h r, 0, t, e => ⟨f, rfl, by cases e; exact h⟩
  | _, _, .cons h r, i + 1, t, e => r.at (i := i) (by simpa using e)
theorem FrAll.mem {H : Hp} : ∀ {ts : List Addr} {fs : List (Int × Int)}, FrAll H ts fs → ∀ t ∈ ts, ∃ f, H t = some (.tup (frV f))
  | _, _, .cons (f := f) h r, t, m => by
    cases m with
    | head => exact ⟨f, h⟩
    | tail _ m => exact r.mem t m
theorem FrAll.snoc {H : Hp} {t : Addr} {f : Int × Int} (ht : H t = some (.tup (frV f))) : ∀ {ts : List Addr} {fs : List (Int × Int)}, FrAll H ts fs → FrAll H (ts ++ [t]) (fs ++ [f])
  | _, _, .nil => .cons ht .nil
  | _, _, .cons h r => .cons h (r.snoc ht)
theorem FrAll.congr {H H' : Hp} : ∀ {ts : List Addr} {fs : List (Int × Int)}, (∀ t ∈ ts, H' t = H t) → FrAll H ts fs → FrAll H' ts fs
  | _, _, _, .nil => .nil
  | _, _, e, .cons h r => .cons ((e _ (.head _)).trans h) (r.congr fun t m => e t (.tail _ m))
/-- a list of fractions is told -/
def RetFs (fs : List (Int × Int)) (H : Hp) (Q : VK) : Prop := ∀ (p : Addr) (ts : List Addr) (H' : Hp), H p = none → (∀ t ∈ ts, H t = none) → Same H H' → H' p = some (.lst (ts.map V.ref)) → FrAll H' ts fs → Q (.ref p) H'
/-- the tuples join what stands and stays -/
theorem own_newF {B H H' : Hp} {cs : Cells} {p : Addr} {ts : List Addr} {fs : List (Int × Int)} (w : Own B cs H) (np : H p = none) (nt : ∀ t ∈ ts, H t = none) (s : Same H H') (c : H' p = some (.lst (ts.map V.ref))) (f : FrAll H' ts fs) :
    ∃ B2, Same B B2 ∧ FrAll B2 ts fs ∧ Own B2 ((p, .lst (ts.map V.ref)) :: cs) H' := by
  classical
  have hB : ∀ t, H t = none → B t = none := fun t h => w.fresh h
  have npt : p ∉ ts := fun m => by
    obtain ⟨g, hg⟩ := f.mem p m
    rw [c] at hg; cases hg
  refine ⟨fun a => if a ∈ ts then H' a else B a, ?_, ?_, ?_, ?_, ?_⟩
  · intro a o h
    have : a ∉ ts := fun m => by rw [hB a (nt a m)] at h; cases h
    show (if a ∈ ts then H' a else B a) = some o
    rw [if_neg this]; exact h
  · exact f.congr fun t m => by
      show (if t ∈ ts then H' t else B t) = _
      rw [if_pos m]
  · intro a o h
    dsimp only at h
    by_cases m : a ∈ ts
    · rw [if_pos m] at h; exact h
    · rw [if_neg m] at h; exact s _ _ (w.ex _ _ h)
  · intro q hq
    cases hq with
    | head =>
      refine ⟨c, ?_⟩
      show (if p ∈ ts then H' p else B p) = none
      rw [if_neg npt]; exact hB p np
    | tail _ hq =>
      obtain ⟨h1, h2⟩ := w.cell q hq
      refine ⟨s _ _ h1, ?_⟩
      have : q.1 ∉ ts := fun m => by rw [nt _ m] at h1; cases h1
      show (if q.1 ∈ ts then H' q.1 else B q.1) = none
      rw [if_neg this]; exact h2
  · rw [List.map_cons, List.nodup_cons]
    exact ⟨w.off np, w.nd⟩
/-- what stands in a comprehension that makes fractions, one for each item -/
structure OwnF (B : Hp) (cs : Cells) (D : Addr) (fs : List (Int × Int)) (H : Hp) : Prop where
  own : ∃ ts : List Addr, Own B ((D, .lst (ts.map V.ref)) :: cs) H ∧ (∀ t ∈ ts, B t = none ∧ t ∉ cs.map (·.1)) ∧ FrAll H ts fs
theorem OwnF.ext {B : Hp} {cs : Cells} {D : Addr} {fs : List (Int × Int)} {H H' : Hp} (o : OwnF B cs D fs H) (s : Same H H') : OwnF B cs D fs H' := by
  obtain ⟨ts, w, n, f⟩ := o.own
  exact ⟨ts, w.ext s, n, f.same s⟩
theorem OwnF.cell {B : Hp} {cs : Cells} {D : Addr} {fs : List (Int × Int)} {H : Hp} (o : OwnF B cs D fs H) : Own B cs H := by
  obtain ⟨ts, w, _⟩ := o.own
  exact w.pop
theorem OwnF.step {B : Hp} {cs : Cells} {D t : Addr} {fs : List (Int × Int)} {f : Int × Int} {H H' : Hp} (o : OwnF B cs D fs H) (hl : fs.length < 1000000) (nt : H t = none) (s : Same H H') (c : H' t = some (.tup (frV f))) :
    ∃ acc, H' D = some (.lst acc) ∧ acc.length < sizeLine ∧ OwnF B cs D (fs ++ [f]) (upd H' D (.lst (acc ++ [.ref t]))) := by
  obtain ⟨ts, w, n, fr⟩ := o.own
  have w' := w.ext s
  have fr' := fr.same s
  refine ⟨ts.map V.ref, w'.get 0 rfl, by rw [List.length_map, fr.len]; exact Nat.lt_of_lt_of_le hl (by decide), ts ++ [t], ?_, ?_, ?_⟩
  · have w2 := w'.put (o' := .lst (ts.map V.ref ++ [.ref t])) 0 rfl
    rw [List.map_append]
    exact w2
  · intro a m
    rcases List.mem_append.mp m with m | m
    · exact n a m
    · rw [List.mem_singleton] at m
      subst m
      exact ⟨w.fresh nt, w.pop.off nt⟩
  · have hD : ∀ a, (∃ g, H' a = some (.tup (frV g))) → a ≠ D := fun a ⟨g, hg⟩ e => by
      subst e
      rw [w'.get 0 rfl] at hg; cases hg
    refine (fr'.snoc c).congr fun a m => ?_
    have : ∃ g, H' a = some (.tup (frV g)) := by
      rcases List.mem_append.mp m with m | m
      · exact fr'.mem a m
      · rw [List.mem_singleton] at m
        subst m
        exact ⟨f, c⟩
    exact upd_ne (hD a this)
theorem OwnF.start {B H : Hp} {cs : Cells} {D : Addr} (w : Own B cs H) (n : H D = none) : OwnF B cs D [] (upd H D (.lst [])) := ⟨[], w.new n, fun _ h => (nomatch h), .nil⟩
/-- at the end: told, seen from H -/
theorem OwnF.ret {H H' : Hp} {D : Addr} {fs : List (Int × Int)} {Q : VK} (o : OwnF H [] D fs H') (k : RetFs fs H Q) : Q (.ref D) H' := by
  obtain ⟨ts, w, n, f⟩ := o.own
  exact k D ts H' (w.none 0 rfl) (fun t m => (n t m).1) w.ex (w.get 0 rfl) f
theorem OwnF.next {B : Hp} {cs : Cells} {D t : Addr} {fs : List (Int × Int)} {f : Int × Int} {i : Nat} {H H' : Hp} (o : OwnF B cs D (fs.take i) H) (hf : fs[i]? = some f) (hl : fs.length < 1000000) (nt : H t = none) (s : Same H H') (c : H' t = some (.tup (frV f))) :
    ∃ acc, H' D = some (.lst acc) ∧ acc.length < sizeLine ∧ OwnF B cs D (fs.take (i + 1)) (upd H' D (.lst (acc ++ [.ref t]))) := by
  have e : fs.take (i + 1) = fs.take i ++ [f] := by rw [List.take_add_one, hf] <;> rfl
  rw [e]
  exact o.step (by rw [List.length_take]; omega) nt s c
/-- the comprehension over a list of our own, that makes a fraction of each item -/
theorem cp_frO {K : PySem.W.Frag} {B : Hp} {cs : Cells} {H : Hp} {σ : L2.St} {te : TE} {g : TG} {tt : TT} {vs : List Nat} {QD : Addr → Hp → Prop} {a : Addr} {xs : List V} (fs : List (Int × Int)) (w : Own B cs H) (j : Nat) (hx : cs[j]? = some (a, .lst xs)) (hl : xs.length = fs.length)
    (hs : ∀ D i x f H', xs[i]? = some x → fs[i]? = some f → OwnF B cs D (fs.take i) H' → g x (wipe σ vs) H' fun σ2 H2 => wipe σ2 vs = wipe σ vs ∧ tt σ2 H2 fun b H3 =>
      if b = true then te σ2 H3 fun y H4 => ∃ acc, H4 D = some (.lst acc) ∧ acc.length < sizeLine ∧ OwnF B cs D (fs.take (i + 1)) (upd H4 D (.lst (acc ++ [y]))) else OwnF B cs D (fs.take (i + 1)) H3)
    (hq : ∀ D H', OwnF B cs D fs H' → QD D H') : ∀ D, H D = none → ∃ W : Nat → Nat → Hp → Prop, (∃ m, W 0 m (upd H D (.lst []))) ∧ ∀ i m H, W i m H →
      ((Itl K a).stop i H ∧ QD D H) ∨ ((Itl K a).go i H ∧ ∃ Nx : Hp → Prop, (∀ H', Nx H' → ∃ m', m' < m ∧ W (i + 1) m' H') ∧ ∀ x H', (Itl K a).yld i H x H' → g x (wipe σ vs) H' fun σ2 H2 => wipe σ2 vs = wipe σ vs ∧ tt σ2 H2 fun b H3 =>
        if b = true then te σ2 H3 fun y H4 => ∃ acc, H4 D = some (.lst acc) ∧ acc.length < sizeLine ∧ Nx (upd H4 D (.lst (acc ++ [y]))) else Nx H3) := fun D hD =>
  lc_list (fun i H => OwnF B cs D (fs.take i) H) (OwnF.start w hD) (fun i H' hi p => Own.sq p.cell j hx) (fun i x H' hi p => by
    have hlt : i < fs.length := by rw [← hl]; exact (List.getElem?_eq_some_iff.mp hi).1
    exact hs D i x fs[i] H' hi (List.getElem?_eq_getElem hlt) p) (fun H' p => hq D H' (by rw [hl, List.take_length] at p; exact p))
/-! ### their data -/
def frD (fs : List (Int × Int)) : PyData := .list (fs.map fun f => .tuple [.int f.1, .int f.2])
theorem dpAll_fr {K : PySem.W.Frag} {H : Hp} : ∀ {ts : List Addr} {fs : List (Int × Int)}, FrAll H ts fs → DpAll K H (ts.map V.ref) (fs.map fun f => .tuple [.int f.1, .int f.2])
  | _, _, .nil => .nil
  | _, _, .cons h r => .cons (.tup (SqT.of h) (.cons (.int _) (.cons (.int _) .nil))) (dpAll_fr r)
theorem dp_fr {K : PySem.W.Frag} {H : Hp} {p : Addr} {ts : List Addr} {fs : List (Int × Int)} (h : SqL K H p (ts.map V.ref)) (f : FrAll H ts fs) : Dp K H (.ref p) (frD fs) := .lst h (dpAll_fr f)
theorem lay_fr (fs : List (Int × Int)) : LayD 3 (frD fs) := LayD.list fun d hd => by
  obtain ⟨f, _, rfl⟩ := List.mem_map.mp hd
  refine LayD.tuple fun e he => ?_
  simp only [List.mem_cons, List.not_mem_nil, or_false] at he
  rcases he with rfl | rfl
  · exact LayD.int (by decide) _
  · exact LayD.int (by decide) _
end Sp

/-! Mean: what the hands get of the dividends, each group's shared alike, over sixty. -/
namespace Sp
open PySem PySem.Spec L2 PyProof.Rows
def wt (g : Nat) : Int := ((60 / (handsM g).length : Nat) : Int)
def topsF (ds : List Int) (n h : Nat) : Int := ((List.range n).map fun g => if bitOn h g = true then fn ds g * wt g else 0).sum
theorem topsF_succ (ds : List Int) (n h : Nat) : topsF ds (n + 1) h = topsF ds n h + if bitOn h n = true then fn ds n * wt n else 0 := by
  unfold topsF
  rw [List.range_succ, List.map_append, List.sum_append] <;> simp
theorem topsF_one (ds : List Int) {h : Nat} (hh : h < 6) : topsF ds 1 h = 0 := by
  rw [show (1 : Nat) = 0 + 1 from rfl, topsF_succ]
  have : bitOn h 0 = false := (by decide : ∀ h, h < 6 → bitOn h 0 = false) h hh
  rw [this]
  rfl
/-- within group g, behind the first j hands -/
def topsG (ds : List Int) (g j h : Nat) : Int := topsF ds g h + if h ∈ (handsM g).take j then fn ds g * wt g else 0
theorem mem_hands {g h : Nat} (hh : h < 6) : h ∈ handsM g ↔ bitOn h g = true := by
  unfold handsM
  rw [List.mem_filter, List.mem_range]
  exact ⟨fun z => z.2, fun z => ⟨hh, z⟩⟩
theorem topsG_zero (ds : List Int) (g h : Nat) : topsG ds g 0 h = topsF ds g h := by
  unfold topsG
  rw [List.take_zero, if_neg (by simp)]
  omega
theorem topsG_all (ds : List Int) (g : Nat) {h : Nat} (hh : h < 6) : topsG ds g (handsM g).length h = topsF ds (g + 1) h := by
  unfold topsG
  rw [List.take_length, topsF_succ]
  congr 1
  by_cases c : bitOn h g = true
  · rw [if_pos c, if_pos ((mem_hands hh).mpr c)]
  · rw [if_neg c, if_neg (fun z => c ((mem_hands hh).mp z))]
theorem hands_nodup (g : Nat) : (handsM g).Nodup := List.Sublist.nodup (List.filter_sublist ..) List.nodup_range
theorem topsG_step (ds : List Int) {g j z : Nat} (hz : (handsM g)[j]? = some z) (h : Nat) :
    topsG ds g (j + 1) h = if h = z then topsG ds g j z + fn ds g * wt g else topsG ds g j h := by
  have hn : z ∉ (handsM g).take j := fun hm => by
    have h1 : ((handsM g).take (j + 1)).Nodup := (List.take_sublist _ _).nodup (hands_nodup g)
    rw [List.take_add_one, hz, List.nodup_append] at h1
    exact h1.2.2 z hm z (by simp) rfl
  unfold topsG
  rw [List.take_add_one, hz]
  by_cases e : h = z
  · subst e
    rw [if_pos rfl, if_neg hn, if_pos (by simp)]
    omega
  · rw [if_neg e]
    congr 1
    by_cases c : h ∈ (handsM g).take j
    · rw [if_pos c, if_pos (List.mem_append.mpr (.inl c))]
    · rw [if_neg c, if_neg (fun m => by
        rcases List.mem_append.mp m with m | m
        · exact c m
        · simp at m; exact e m)]
theorem natAbs_sum (M : Nat) : ∀ l : List Int, (∀ x ∈ l, x.natAbs ≤ M) → l.sum.natAbs ≤ l.length * M
  | [], _ => by simp
  | x :: l, h => by
    have h1 := natAbs_sum M l fun y hy => h y (.tail _ hy)
    have h2 := h x (.head _)
    have h3 := Int.natAbs_add_le x l.sum
    rw [List.sum_cons, List.length_cons, Nat.succ_mul]
    omega
theorem hands_cut : ∀ m, m < 7 → ∀ g, g < 2 ^ m → (handsM g).all (fun h => decide (h < m)) = true := by decide +kernel
theorem hands_in {g m z : Nat} (hg : g < 64) (h : m ≤ 6 ∧ g < 2 ^ m) (hz : z ∈ handsM g) : z < m := of_decide_eq_true (List.all_eq_true.mp (hands_cut m (by omega) g h.2) z hz)
/-- all numbers below 2 ^ C, either way -/
def Bdd (C : Nat) (f : Nat → Int) : Prop := ∀ i, (f i).natAbs < 2 ^ C
theorem Bdd.mono {C C' : Nat} {f : Nat → Int} (h : Bdd C f) (hc : C ≤ C') : Bdd C' f := fun i => Nat.lt_of_lt_of_le (h i) (Nat.pow_le_pow_right (by decide) hc)
theorem pow_two (C : Nat) : 2 ^ (C + 1) = 2 ^ C + 2 ^ C := by rw [Nat.pow_succ]; omega
theorem Bdd.add {C : Nat} {f g : Nat → Int} (h : Bdd C f) (h' : Bdd C g) : Bdd (C + 1) fun i => f i + g i := fun i => by
  have h1 := h i
  have h2 := h' i
  have h3 := Int.natAbs_add_le (f i) (g i)
  rw [pow_two]
  show (f i + g i).natAbs < _
  omega
theorem Bdd.allD {C : Nat} {f : Nat → Int} (h : Bdd C f) : ∀ k, Bdd (C + k) (allD k f)
  | 0 => h
  | k + 1 => fun i => by
    have ih := Bdd.allD h k
    show (stepD k (Sp.allD k f) i).natAbs < 2 ^ (C + k + 1)
    unfold stepD
    have h1 := ih i
    have h2 := ih (i ^^^ 2 ^ k)
    rw [pow_two]
    by_cases c : bitOn k i = true
    · rw [if_pos c]; omega
    · rw [if_neg c]; omega
theorem wt_le (g : Nat) : (wt g).natAbs ≤ 64 := by
  unfold wt
  rw [Int.natAbs_natCast]
  exact Nat.le_trans (Nat.div_le_self _ _) (by decide)
theorem topsF_bits {C n : Nat} {ds : List Int} (h : Bdd C (fn ds)) (hn : n ≤ 64) (hC : C + 18 ≤ 9000) (hh : Nat) : Bits (C + 18) (topsF ds n hh) 60 := by
  refine ⟨hC, ?_, ?_⟩
  · have h1 := natAbs_sum (2 ^ C * 64) ((List.range n).map fun g => if bitOn hh g = true then fn ds g * wt g else 0) fun x hx => by
      obtain ⟨g, _, rfl⟩ := List.mem_map.mp hx
      by_cases c : bitOn hh g = true
      · rw [if_pos c, Int.natAbs_mul]
        exact Nat.mul_le_mul (Nat.le_of_lt (h g)) (wt_le g)
      · rw [if_neg c]; exact Nat.zero_le _
    rw [List.length_map, List.length_range] at h1
    unfold topsF
    have h2 : n * (2 ^ C * 64) ≤ 64 * (2 ^ C * 64) := Nat.mul_le_mul_right _ hn
    have h3 : 2 ^ (C + 18) = 2 ^ C * 262144 := by rw [Nat.pow_add]
    have h4 := Nat.two_pow_pos C
    omega
  · have : 2 ^ 18 ≤ 2 ^ (C + 18) := Nat.pow_le_pow_right (by decide) (by omega)
    exact Nat.lt_of_lt_of_le (by decide) this
theorem bdd_bnd {b : Int} {C : Nat} {ns : List Int} (hb : 0 ≤ b) (h : Bnd b ns) (hC : b < ((2 ^ C : Nat) : Int)) : Bdd C (fn ns) := fun i => by
  have := h.at hb (i : Int)
  unfold fn
  omega
/-- made of dividends -/
def sumsM (ns : List Int) (k : Nat) : List Int := tl ns.length (allE k (fn ns))
theorem sums_at {ns : List Int} {k : Nat} (tb : Tab ns k) {g : Nat} (hg : g < ns.length) : allE k (fn ns) g = someSum (fn ns) g g := by
  have hp := tb.pos
  rw [allE_sum (fn ns) tb.hi (by rw [← tb.len]; exact hg), partSum_some _ (by omega), show fn ns 0 = 0 from tb.gi0]
  omega
theorem sumsM_tab {ns : List Int} {k : Nat} (tb : Tab ns k) : Tab (sumsM ns k) k := by
  have hp := tb.pos
  have hl : (sumsM ns k).length = ns.length := tl_len _ _
  refine ⟨by rw [hl]; exact tb.len, tb.lo, tb.hi, gi_zero (by omega) ?_⟩
  unfold sumsM
  rw [gi_tl (by decide) (by omega), show (0 : Int).toNat = 0 from rfl, sums_at tb (by omega)]
  unfold someSum
  rw [someSubs_zero] <;> rfl
theorem div_sums {ns : List Int} {k : Nat} (tb : Tab ns k) : tl (sumsM ns k).length (allD k (fn (sumsM ns k))) = ns := by
  have hp := tb.pos
  have hl : (sumsM ns k).length = ns.length := tl_len _ _
  rw [hl, ← tl_fn ns]
  rw [tl_len]
  refine tl_congr fun i hi => ?_
  rw [tl_fn]
  have h2 : i < 2 ^ k := by rw [← tb.len]; exact hi
  rw [allD_cut tb.hi (f' := allE k (fn ns)) (fun j hj => by unfold fn sumsM; exact gi_tln (by rw [tb.len]; exact hj)) h2]
  exact allDE (fn ns) k tb.hi i (by omega)
def meanFs (ds : List Int) (n m : Nat) : List (Int × Int) := (List.range m).map fun h => shortM (topsF ds n h) 60
end Sp

/-! Ords: all orders of the hands, and what they add up to. -/
namespace Sp
open PySem PySem.Spec L2 PyProof.Rows
/-- ts hold the lists ls -/
inductive LsAll (H : Hp) : List Addr → List (List Nat) → Prop
  | nil : LsAll H [] []
  | cons {t : Addr} {ts : List Addr} {l : List Nat} {ls : List (List Nat)} : H t = some (.lst (l.map vnat)) → LsAll H ts ls → LsAll H (t :: ts) (l :: ls)
theorem LsAll.same {H H' : Hp} (s : Same H H') : ∀ {ts : List Addr} {ls : List (List Nat)}, LsAll H ts ls → LsAll H' ts ls
  | _, _, .nil => .nil
  | _, _, .cons h r => .cons (s _ _ h) (r.same s)
theorem LsAll.len {H : Hp} : ∀ {ts : List Addr} {ls : List (List Nat)}, LsAll H ts ls → ts.length = ls.length
  | _, _, .nil => rfl
  | _, _, .cons _ r => by rw [List.length_cons, List.length_cons, r.len]
theorem LsAll.at {H : Hp} : ∀ {ts : List Addr} {ls : List (List Nat)}, LsAll H ts ls → ∀ {i : Nat} {t : Addr}, ts[i]? = some t → ∃ l, ls[i]? = some l ∧ H t = some (.lst (l.map vnat))
  | _, _, .nil, i, _, h => by rw [List.getElem?_nil] at h; cases h
  | _, _, .cons (l := l) h r, 0, t, e => ⟨l, rfl, by cases e; exact h⟩
  | _, _, .cons h r, i + 1, t, e => r.at (i := i) (by simpa using e)
theorem LsAll.snoc {H : Hp} {t : Addr} {l : List Nat} (ht : H t = some (.lst (l.map vnat))) : ∀ {ts : List Addr} {ls : List (List Nat)}, LsAll H ts ls → LsAll H (ts ++ [t]) (ls ++ [l])
  | _, _, .nil => .cons ht .nil
  | _, _, .cons h r => .cons h (r.snoc ht)
def RetLs (ls : List (List Nat)) (H : Hp) (Q : VK) : Prop := ∀ (p : Addr) (ts : List Addr) (H' : Hp), H p = none → (∀ t ∈ ts, H t = none) → Same H H' → H' p = some (.lst (ts.map V.ref)) → LsAll H' ts ls → p ∉ ts → Q (.ref p) H'
theorem LsAll.mem {H : Hp} : ∀ {ts : List Addr} {ls : List (List Nat)}, LsAll H ts ls → ∀ t ∈ ts, ∃ l : List Nat, H t = some (.lst (l.map vnat))
  | _, _, .cons (l := l) h r, t, m => by
    cases m with
    | head => exact ⟨l, h⟩
    | tail _ m => exact r.mem t m
theorem LsAll.congr {H H' : Hp} : ∀ {ts : List Addr} {ls : List (List Nat)}, (∀ t ∈ ts, H' t = H t) → LsAll H ts ls → LsAll H' ts ls
  | _, _, _, .nil => .nil
  | _, _, e, .cons h r => .cons ((e _ (.head _)).trans h) (r.congr fun t m => e t (.tail _ m))
/-- the lists join what stands and stays; the list of them is not among them -/
theorem own_newL {B H H' : Hp} {cs : Cells} {p : Addr} {ts : List Addr} {ls : List (List Nat)} (w : Own B cs H) (np : H p = none) (nt : ∀ t ∈ ts, H t = none) (npt : p ∉ ts) (s : Same H H') (c : H' p = some (.lst (ts.map V.ref))) (f : LsAll H' ts ls) :
    ∃ B2, Same B B2 ∧ LsAll B2 ts ls ∧ Own B2 ((p, .lst (ts.map V.ref)) :: cs) H' := by
  classical
  have hB : ∀ t, H t = none → B t = none := fun t h => w.fresh h
  refine ⟨fun a => if a ∈ ts then H' a else B a, ?_, ?_, ?_, ?_, ?_⟩
  · intro a o h
    have : a ∉ ts := fun m => by rw [hB a (nt a m)] at h; cases h
    show (if a ∈ ts then H' a else B a) = some o
    rw [if_neg this]; exact h
  · exact f.congr fun t m => by
      show (if t ∈ ts then H' t else B t) = _
      rw [if_pos m]
  · intro a o h
    dsimp only at h
    by_cases m : a ∈ ts
    · rw [if_pos m] at h; exact h
    · rw [if_neg m] at h; exact s _ _ (w.ex _ _ h)
  · intro q hq
    cases hq with
    | head =>
      refine ⟨c, ?_⟩
      show (if p ∈ ts then H' p else B p) = none
      rw [if_neg npt]; exact hB p np
    | tail _ hq =>
      obtain ⟨h1, h2⟩ := w.cell q hq
      refine ⟨s _ _ h1, ?_⟩
      have : q.1 ∉ ts := fun m => by rw [nt _ m] at h1; cases h1
      show (if q.1 ∈ ts then H' q.1 else B q.1) = none
      rw [if_neg this]; exact h2
  · rw [List.map_cons, List.nodup_cons]
    exact ⟨w.off np, w.nd⟩
def insAll (h : Nat) (l : List Nat) : List (List Nat) := (List.range (h + 1)).map fun i => l.take i ++ [h] ++ l.drop i
def ordersM : Nat → List (List Nat)
  | 0 => [[]]
  | n + 1 => (ordersM n).flatMap (insAll n)
/-- behind the first j orders, and i places of the next one -/
def insTo (h : Nat) (ls : List (List Nat)) (j : Nat) : List (List Nat) := (ls.take j).flatMap (insAll h)
def insTo2 (h : Nat) (ls : List (List Nat)) (j : Nat) (l : List Nat) (i : Nat) : List (List Nat) := insTo h ls j ++ (List.range i).map fun i => l.take i ++ [h] ++ l.drop i
theorem insTo2_zero (h : Nat) (ls : List (List Nat)) (j : Nat) (l : List Nat) : insTo2 h ls j l 0 = insTo h ls j := by unfold insTo2; rw [List.range_zero, List.map_nil, List.append_nil]
theorem insTo2_succ (h : Nat) (ls : List (List Nat)) (j : Nat) (l : List Nat) (i : Nat) : insTo2 h ls j l (i + 1) = insTo2 h ls j l i ++ [l.take i ++ [h] ++ l.drop i] := by
  unfold insTo2
  rw [List.range_succ, List.map_append, List.append_assoc] <;> rfl
theorem insTo2_all {h : Nat} {ls : List (List Nat)} {j : Nat} {l : List Nat} (hl : ls[j]? = some l) : insTo2 h ls j l (h + 1) = insTo h ls (j + 1) := by
  unfold insTo2 insTo
  rw [List.take_add_one, hl, List.flatMap_append]
  congr 1
  show _ = [l].flatMap (insAll h)
  rw [List.flatMap_cons, List.flatMap_nil, List.append_nil] <;> rfl
theorem insTo_all (h : Nat) (ls : List (List Nat)) : insTo h ls ls.length = ls.flatMap (insAll h) := by unfold insTo; rw [List.take_length]
theorem insTo2_le {h : Nat} {ls : List (List Nat)} {j : Nat} {l : List Nat} {i : Nat} (hl : ls.length ≤ 24) (hh : h ≤ 4) (hi : i ≤ 5) : (insTo2 h ls j l i).length ≤ 500 := by
  unfold insTo2 insTo
  rw [List.length_append, List.length_map, List.length_range]
  have key : ∀ zs : List (List Nat), (zs.flatMap (insAll h)).length = zs.length * (h + 1) := fun zs => by
    induction zs with
    | nil => simp
    | cons z zs ih => rw [List.flatMap_cons, List.length_append, ih, List.length_cons, Nat.succ_mul]; unfold insAll; rw [List.length_map, List.length_range]; omega
  rw [key, List.length_take]
  have h1 : min j ls.length * (h + 1) ≤ 24 * 5 := Nat.mul_le_mul (by omega) (by omega)
  omega
theorem orders_len : ∀ m, m < 5 → (ordersM m).length ≤ 24 ∧ 0 < (ordersM m).length := by decide +kernel
theorem orders_perm : ∀ m, m < 5 → (ordersM m).all (fun l => decide (l.length = m) && l.all (fun h => decide (h < m))) = true := by decide +kernel
/-! ### what is added -/
/-- the group of the first j hands -/
def ahead (l : List Nat) (j : Nat) : Nat := ((l.take j).map (2 ^ ·)).sum
def addTo (l : List Nat) (j h : Nat) : LinF := (List.range j).flatMap fun i => if l.getD i 0 = h then [(1, ahead l (i + 1)), (-1, ahead l i)] else []
def addAll (ls : List (List Nat)) (h : Nat) : LinF := ls.flatMap fun l => addTo l l.length h
theorem ahead_succ {l : List Nat} {j z : Nat} (h : l[j]? = some z) : ahead l (j + 1) = ahead l j + 2 ^ z := by
  unfold ahead
  rw [List.take_add_one, h, List.map_append, List.sum_append] <;> simp
theorem addTo_succ {l : List Nat} {j z : Nat} (hz : l[j]? = some z) (T : Nat → Int) (h : Nat) : ev T (addTo l (j + 1) h) = ev T (addTo l j h) + if h = z then T (ahead l (j + 1)) - T (ahead l j) else 0 := by
  unfold addTo
  rw [List.range_succ, List.flatMap_append, ev_app, List.flatMap_cons, List.flatMap_nil, List.append_nil]
  congr 1
  rw [List.getD_eq_getElem?_getD, hz]
  show ev T (if z = h then _ else _) = _
  by_cases e : h = z
  · rw [if_pos e.symm, if_pos e, ev_cons, ev_cons, show ev T [] = 0 from rfl]
    show 1 * T (ahead l (j + 1)) + (-1 * T (ahead l j) + 0) = _
    omega
  · rw [if_neg (fun z => e z.symm), if_neg e] <;> rfl
theorem addAll_succ {ls : List (List Nat)} {j : Nat} {l : List Nat} (hl : ls[j]? = some l) (T : Nat → Int) (h : Nat) : ev T (addAll (ls.take (j + 1)) h) = ev T (addAll (ls.take j) h) + ev T (addTo l l.length h) := by
  unfold addAll
  rw [List.take_add_one, hl, List.flatMap_append, ev_app]
  congr 1
  show ev T ([l].flatMap _) = _
  rw [List.flatMap_cons, List.flatMap_nil, List.append_nil]
theorem ahead_lt : ∀ m, m < 5 → (ordersM m).all (fun l => (List.range (m + 1)).all fun j => decide (ahead l j < 2 ^ m)) = true := by decide +kernel
/-! ### the dividends, linear in the table -/
def negL (L : LinF) : LinF := L.map fun p => (-p.1, p.2)
def sclL (c : Int) (L : LinF) : LinF := L.map fun p => (c * p.1, p.2)
theorem ev_neg (T : Nat → Int) : ∀ L : LinF, ev T (negL L) = - ev T L
  | [] => rfl
  | p :: L => by
    show ev T ((-p.1, p.2) :: negL L) = _
    rw [ev_cons, ev_cons, ev_neg T L]
    show -p.1 * T p.2 + _ = _
    rw [Int.neg_mul]
    omega
theorem ev_scl (T : Nat → Int) (c : Int) : ∀ L : LinF, ev T (sclL c L) = c * ev T L
  | [] => by show (0 : Int) = c * 0; omega
  | p :: L => by
    show ev T ((c * p.1, p.2) :: sclL c L) = _
    rw [ev_cons, ev_cons, ev_scl T c L, Int.mul_add, Int.mul_assoc]
def divL : Nat → Nat → LinF
  | 0, g => [(1, g)]
  | k + 1, g => if bitOn k g = true then divL k g ++ negL (divL k (g ^^^ 2 ^ k)) else divL k g
theorem ev_div (f : Nat → Int) : ∀ k g, allD k f g = ev f (divL k g)
  | 0, g => by
    show f g = ev f [(1, g)]
    rw [ev_cons, show ev f [] = 0 from rfl]
    show _ = 1 * f g + 0
    omega
  | k + 1, g => by
    show stepD k (allD k f) g = _
    unfold stepD divL
    by_cases c : bitOn k g = true
    · rw [if_pos c, if_pos c, ev_app, ev_neg, ev_div f k g, ev_div f k _]
      omega
    · rw [if_neg c, if_neg c, ev_div f k g]
def topL (m h : Nat) : LinF := (List.range (2 ^ m)).flatMap fun g => if bitOn h g = true then sclL (wt g) (divL m g) else []
theorem ev_flat (T : Nat → Int) (F : Nat → LinF) : ∀ l : List Nat, ev T (l.flatMap F) = (l.map fun g => ev T (F g)).sum
  | [] => rfl
  | g :: l => by rw [List.flatMap_cons, ev_app, ev_flat T F l, List.map_cons, List.sum_cons]
theorem tops_lin (f : Nat → Int) (m h : Nat) {ds : List Int} (hd : ∀ g, g < 2 ^ m → fn ds g = allD m f g) : topsF ds (2 ^ m) h = ev f (topL m h) := by
  unfold topsF topL
  rw [ev_flat]
  congr 1
  refine List.map_congr_left fun g hg => ?_
  rw [List.mem_range] at hg
  by_cases c : bitOn h g = true
  · rw [if_pos c, if_pos c, ev_scl, ← ev_div, hd g hg, Int.mul_comm]
  · rw [if_neg c, if_neg c] <;> rfl
theorem mean_orders : ∀ m, m < 5 → (List.range m).all (fun h => sameL (2 ^ m) (sclL ((ordersM m).length : Nat) (topL m h)) (sclL 60 (addAll (ordersM m) h))) = true := by decide +kernel
end Sp

namespace Lw
open PySem PySem.Spec PyProof.Rows L2 Sp
def topS (i : Nat) : Stmt := PySem.Challenge.pw_shareparley_k24_mean_of_all_orders.main.body.getD i (.Pass ⟨0, 0, 0, 0⟩)
abbrev s_is_whole : Stmt := topS 6
abbrev N_is_whole : List Str := ["thing"]
theorem sc_is_whole : FnScope N_is_whole ["thing"] (defScope s_is_whole) := ⟨rfl, rfl, rfl, by decide +kernel, rfl, by decide +kernel, by decide +kernel⟩
abbrev s_divisor : Stmt := topS 7
abbrev N_divisor : List Str := ["one", "other", "rests"]
theorem sc_divisor : FnScope N_divisor ["one", "other"] (defScope s_divisor) := ⟨rfl, rfl, rfl, by decide +kernel, rfl, by decide +kernel, by decide +kernel⟩
abbrev s_shortest : Stmt := topS 8
abbrev N_shortest : List Str := ["top", "bottom", "share"]
theorem sc_shortest : FnScope N_shortest ["top", "bottom"] (defScope s_shortest) := ⟨rfl, rfl, rfl, by decide +kernel, rfl, by decide +kernel, by decide +kernel⟩
abbrev s_fraction : Stmt := topS 9
abbrev N_fraction : List Str := ["top", "bottom", "thing"]
theorem sc_fraction : FnScope N_fraction ["top", "bottom"] (defScope s_fraction) := ⟨rfl, rfl, rfl, by decide +kernel, rfl, by decide +kernel, by decide +kernel⟩
abbrev s_look_group : Stmt := topS 12
abbrev N_look_group : List Str := ["group", "least", "greatest"]
theorem sc_look_group : FnScope N_look_group ["group", "least", "greatest"] (defScope s_look_group) := ⟨rfl, rfl, rfl, by decide +kernel, rfl, by decide +kernel, by decide +kernel⟩
abbrev s_whole_of : Stmt := topS 13
abbrev N_whole_of : List Str := ["many"]
theorem sc_whole_of : FnScope N_whole_of ["many"] (defScope s_whole_of) := ⟨rfl, rfl, rfl, by decide +kernel, rfl, by decide +kernel, by decide +kernel⟩
abbrev s_hands_of : Stmt := topS 14
abbrev N_hands_of : List Str := ["group", "hand"]
theorem sc_hands_of : FnScope N_hands_of ["group"] (defScope s_hands_of) := ⟨rfl, rfl, rfl, by decide +kernel, rfl, by decide +kernel, by decide +kernel⟩
abbrev s_size_of : Stmt := topS 15
abbrev N_size_of : List Str := ["group"]
theorem sc_size_of : FnScope N_size_of ["group"] (defScope s_size_of) := ⟨rfl, rfl, rfl, by decide +kernel, rfl, by decide +kernel, by decide +kernel⟩
abbrev s_look : Stmt := topS 17
abbrev N_look : List Str := ["table", "many", "number"]
theorem sc_look : FnScope N_look ["table"] (defScope s_look) := ⟨rfl, rfl, rfl, by decide +kernel, rfl, by decide +kernel, by decide +kernel⟩
abbrev s_dividends : Stmt := topS 19
abbrev N_dividends : List Str := ["table", "many", "found", "hand", "bit", "group"]
theorem sc_dividends : FnScope N_dividends ["table"] (defScope s_dividends) := ⟨rfl, rfl, rfl, by decide +kernel, rfl, by decide +kernel, by decide +kernel⟩
abbrev s_mean_shares : Stmt := topS 22
abbrev N_mean_shares : List Str := ["table", "found", "tops", "group", "share", "hand", "top"]
theorem sc_mean_shares : FnScope N_mean_shares ["table"] (defScope s_mean_shares) := ⟨rfl, rfl, rfl, by decide +kernel, rfl, by decide +kernel, by decide +kernel⟩
abbrev s__law_whole : Stmt := topS 24
abbrev N__law_whole : List Str := ["_law_found"]
theorem sc__law_whole : FnScope N__law_whole ["_law_found"] (defScope s__law_whole) := ⟨rfl, rfl, rfl, by decide +kernel, rfl, by decide +kernel, by decide +kernel⟩
abbrev s__law_cell : Stmt := topS 25
abbrev N__law_cell : List Str := ["_law_script", "_law_k", "_law_number_here"]
theorem sc__law_cell : FnScope N__law_cell ["_law_script", "_law_k"] (defScope s__law_cell) := ⟨rfl, rfl, rfl, by decide +kernel, rfl, by decide +kernel, by decide +kernel⟩
abbrev s__law_number : Stmt := topS 26
abbrev N__law_number : List Str := ["_law_cell_here", "_law_way"]
theorem sc__law_number : FnScope N__law_number ["_law_cell_here", "_law_way"] (defScope s__law_number) := ⟨rfl, rfl, rfl, by decide +kernel, rfl, by decide +kernel, by decide +kernel⟩
abbrev s__law_table : Stmt := topS 27
abbrev N__law_table : List Str := ["_law_script", "_law_head", "_law_size", "_law_table_here", "_law_group", "_law_k"]
theorem sc__law_table : FnScope N__law_table ["_law_script"] (defScope s__law_table) := ⟨rfl, rfl, rfl, by decide +kernel, rfl, by decide +kernel, by decide +kernel⟩
abbrev s__law_orders : Stmt := topS 28
abbrev N__law_orders : List Str := ["_law_many", "_law_orders_here", "_law_hand", "_law_longer", "_law_order", "_law_at"]
theorem sc__law_orders : FnScope N__law_orders ["_law_many"] (defScope s__law_orders) := ⟨rfl, rfl, rfl, by decide +kernel, rfl, by decide +kernel, by decide +kernel⟩
abbrev s__law_sums : Stmt := topS 29
abbrev N__law_sums : List Str := ["_law_table_here", "_law_orders_here", "_law_sums_here", "_law_order", "_law_group", "_law_hand", "_law_ahead"]
theorem sc__law_sums : FnScope N__law_sums ["_law_table_here", "_law_orders_here"] (defScope s__law_sums) := ⟨rfl, rfl, rfl, by decide +kernel, rfl, by decide +kernel, by decide +kernel⟩
abbrev s__law_lowest : Stmt := topS 30
abbrev N__law_lowest : List Str := ["_law_top", "_law_bottom", "_law_one", "_law_other"]
theorem sc__law_lowest : FnScope N__law_lowest ["_law_top", "_law_bottom"] (defScope s__law_lowest) := ⟨rfl, rfl, rfl, by decide +kernel, rfl, by decide +kernel, by decide +kernel⟩
abbrev s__law_alike : Stmt := topS 31
abbrev N__law_alike : List Str := ["_law_found", "_law_table_here", "_law_many", "_law_orders_here", "_law_due", "_law_share", "_law_k", "_law_top"]
theorem sc__law_alike : FnScope N__law_alike ["_law_found", "_law_table_here"] (defScope s__law_alike) := ⟨rfl, rfl, rfl, by decide +kernel, rfl, by decide +kernel, by decide +kernel⟩
abbrev s_law : Stmt := topS 32
abbrev N_law : List Str := ["_law_script", "_law_table_here", "_law_handed", "_law_first", "_law_later", "_law_second", "_law_held"]
theorem sc_law : FnScope N_law ["_law_script"] (defScope s_law) := ⟨rfl, rfl, rfl, by decide +kernel, rfl, by decide +kernel, by decide +kernel⟩
structure Ads where
  a_is_whole : Addr
  d_is_whole : FuncData
  a_divisor : Addr
  d_divisor : FuncData
  a_shortest : Addr
  d_shortest : FuncData
  a_fraction : Addr
  d_fraction : FuncData
  a_look_group : Addr
  d_look_group : FuncData
  a_whole_of : Addr
  d_whole_of : FuncData
  a_hands_of : Addr
  d_hands_of : FuncData
  a_size_of : Addr
  d_size_of : FuncData
  a_look : Addr
  d_look : FuncData
  a_dividends : Addr
  d_dividends : FuncData
  a_mean_shares : Addr
  d_mean_shares : FuncData
  a__law_whole : Addr
  d__law_whole : FuncData
  a__law_cell : Addr
  d__law_cell : FuncData
  a__law_number : Addr
  d__law_number : FuncData
  a__law_table : Addr
  d__law_table : FuncData
  a__law_orders : Addr
  d__law_orders : FuncData
  a__law_sums : Addr
  d__law_sums : FuncData
  a__law_lowest : Addr
  d__law_lowest : FuncData
  a__law_alike : Addr
  d__law_alike : FuncData
  a_law : Addr
  d_law : FuncData
  NoNumber : Addr
  NoGroup : Addr
  NoTable : Addr
  t_MOST : Tok
  t_SIXTY : Tok
/-- what the top has written -/
structure Txt (K : PySem.W.Frag) (mg : Str → Option Value) (A : Ads) : Prop where
  F_is_whole : Fun K "is_whole" "is_whole" s_is_whole A.a_is_whole A.d_is_whole
  b_is_whole : Binds K A.d_is_whole ["thing"] []
  g_is_whole : mg "is_whole" = some (.ref A.a_is_whole)
  F_divisor : Fun K "divisor" "divisor" s_divisor A.a_divisor A.d_divisor
  b_divisor : Binds K A.d_divisor ["one", "other"] []
  g_divisor : mg "divisor" = some (.ref A.a_divisor)
  F_shortest : Fun K "shortest" "shortest" s_shortest A.a_shortest A.d_shortest
  b_shortest : Binds K A.d_shortest ["top", "bottom"] []
  g_shortest : mg "shortest" = some (.ref A.a_shortest)
  F_fraction : Fun K "fraction" "fraction" s_fraction A.a_fraction A.d_fraction
  b_fraction : Binds K A.d_fraction ["top", "bottom"] []
  g_fraction : mg "fraction" = some (.ref A.a_fraction)
  F_look_group : Fun K "look_group" "look_group" s_look_group A.a_look_group A.d_look_group
  b_look_group : Binds K A.d_look_group ["group", "least", "greatest"] []
  g_look_group : mg "look_group" = some (.ref A.a_look_group)
  F_whole_of : Fun K "whole_of" "whole_of" s_whole_of A.a_whole_of A.d_whole_of
  b_whole_of : Binds K A.d_whole_of ["many"] []
  g_whole_of : mg "whole_of" = some (.ref A.a_whole_of)
  F_hands_of : Fun K "hands_of" "hands_of" s_hands_of A.a_hands_of A.d_hands_of
  b_hands_of : Binds K A.d_hands_of ["group"] []
  g_hands_of : mg "hands_of" = some (.ref A.a_hands_of)
  F_size_of : Fun K "size_of" "size_of" s_size_of A.a_size_of A.d_size_of
  b_size_of : Binds K A.d_size_of ["group"] []
  g_size_of : mg "size_of" = some (.ref A.a_size_of)
  F_look : Fun K "look" "look" s_look A.a_look A.d_look
  b_look : Binds K A.d_look ["table"] []
  g_look : mg "look" = some (.ref A.a_look)
  F_dividends : Fun K "dividends" "dividends" s_dividends A.a_dividends A.d_dividends
  b_dividends : Binds K A.d_dividends ["table"] []
  g_dividends : mg "dividends" = some (.ref A.a_dividends)
  F_mean_shares : Fun K "mean_shares" "mean_shares" s_mean_shares A.a_mean_shares A.d_mean_shares
  b_mean_shares : Binds K A.d_mean_shares ["table"] []
  g_mean_shares : mg "mean_shares" = some (.ref A.a_mean_shares)
  F__law_whole : Fun K "_law_whole" "_law_whole" s__law_whole A.a__law_whole A.d__law_whole
  b__law_whole : Binds K A.d__law_whole ["_law_found"] []
  g__law_whole : mg "_law_whole" = some (.ref A.a__law_whole)
  F__law_cell : Fun K "_law_cell" "_law_cell" s__law_cell A.a__law_cell A.d__law_cell
  b__law_cell : Binds K A.d__law_cell ["_law_script", "_law_k"] []
  g__law_cell : mg "_law_cell" = some (.ref A.a__law_cell)
  F__law_number : Fun K "_law_number" "_law_number" s__law_number A.a__law_number A.d__law_number
  b__law_number : Binds K A.d__law_number ["_law_cell_here", "_law_way"] []
  g__law_number : mg "_law_number" = some (.ref A.a__law_number)
  F__law_table : Fun K "_law_table" "_law_table" s__law_table A.a__law_table A.d__law_table
  b__law_table : Binds K A.d__law_table ["_law_script"] []
  g__law_table : mg "_law_table" = some (.ref A.a__law_table)
  F__law_orders : Fun K "_law_orders" "_law_orders" s__law_orders A.a__law_orders A.d__law_orders
  b__law_orders : Binds K A.d__law_orders ["_law_many"] []
  g__law_orders : mg "_law_orders" = some (.ref A.a__law_orders)
  F__law_sums : Fun K "_law_sums" "_law_sums" s__law_sums A.a__law_sums A.d__law_sums
  b__law_sums : Binds K A.d__law_sums ["_law_table_here", "_law_orders_here"] []
  g__law_sums : mg "_law_sums" = some (.ref A.a__law_sums)
  F__law_lowest : Fun K "_law_lowest" "_law_lowest" s__law_lowest A.a__law_lowest A.d__law_lowest
  b__law_lowest : Binds K A.d__law_lowest ["_law_top", "_law_bottom"] []
  g__law_lowest : mg "_law_lowest" = some (.ref A.a__law_lowest)
  F__law_alike : Fun K "_law_alike" "_law_alike" s__law_alike A.a__law_alike A.d__law_alike
  b__law_alike : Binds K A.d__law_alike ["_law_found", "_law_table_here"] []
  g__law_alike : mg "_law_alike" = some (.ref A.a__law_alike)
  F_law : Fun K "law" "law" s_law A.a_law A.d_law
  b_law : Binds K A.d_law ["_law_script"] []
  g_law : mg "law" = some (.ref A.a_law)
  g_NoNumber : mg "NoNumber" = some (.ref A.NoNumber)
  k_NoNumber : PySem.W.keepIn K (.ref A.NoNumber) = true
  e_NoNumber : PySem.W.subIn K (.ref A.NoNumber) (.type "BaseException") = some true
  t_NoNumber : PySem.W.typeIn K (.ref A.NoNumber) = some (.type "type")
  x_NoNumber : PySem.W.excIn K A.NoNumber [.type "ValueError", .type "Exception", .type "BaseException", .type "object"] "ValueError.__new__" = true
  g_NoGroup : mg "NoGroup" = some (.ref A.NoGroup)
  k_NoGroup : PySem.W.keepIn K (.ref A.NoGroup) = true
  e_NoGroup : PySem.W.subIn K (.ref A.NoGroup) (.type "BaseException") = some true
  t_NoGroup : PySem.W.typeIn K (.ref A.NoGroup) = some (.type "type")
  x_NoGroup : PySem.W.excIn K A.NoGroup [.type "ValueError", .type "Exception", .type "BaseException", .type "object"] "ValueError.__new__" = true
  g_NoTable : mg "NoTable" = some (.ref A.NoTable)
  k_NoTable : PySem.W.keepIn K (.ref A.NoTable) = true
  e_NoTable : PySem.W.subIn K (.ref A.NoTable) (.type "BaseException") = some true
  t_NoTable : PySem.W.typeIn K (.ref A.NoTable) = some (.type "type")
  x_NoTable : PySem.W.excIn K A.NoTable [.type "ValueError", .type "Exception", .type "BaseException", .type "object"] "ValueError.__new__" = true
  c_MOST : mg "MOST" = some (.int 6 A.t_MOST)
  c_SIXTY : mg "SIXTY" = some (.int 60 A.t_SIXTY)
  z_abs : mg "abs" = none
  z_bool : mg "bool" = none
  z_int : mg "int" = none
  z_isinstance : mg "isinstance" = none
  z_len : mg "len" = none
  z_list : mg "list" = none
  z_min : mg "min" = none
  z_range : mg "range" = none
  z_tuple : mg "tuple" = none
local macro_rules | `(tactic| walk_at "x") => `(tactic| repeat (first
  | with_reducible refine x_seq ?_ | with_reducible refine x_asg ?_ | with_reducible refine x_op ?_ | with_reducible refine x_un ?_ | ((with_reducible refine' x_var ?e ?_); (case e => rfl)) | with_reducible refine x_c ?_
  | with_reducible refine x_if ?_ | with_reducible refine x_test ?_ | with_reducible refine x_B ?_ | with_reducible refine x_ex ?_ | with_reducible refine x_exI ?_ | with_reducible refine x_ret ?_ | with_reducible refine x_drop ?_
  | with_reducible refine x_rev ?_ | with_reducible refine x_lstRg1 ?_ | with_reducible refine x_dIn ?_ | with_reducible refine x_dPut ?_ | with_reducible refine x_dNew ?_ | with_reducible refine x_par ?_ | with_reducible refine x_call ?_ | with_reducible refine x_callS ?_ | with_reducible refine x_cons ?_ | with_reducible refine x_nil ?_ | with_reducible refine x_cb ?_
  | with_reducible refine x_addI ?_ | with_reducible refine x_subI ?_ | with_reducible refine x_ltI ?_ | with_reducible refine x_leI ?_ | with_reducible refine x_gtI ?_ | with_reducible refine x_geI ?_ | with_reducible refine x_eqI ?_ | with_reducible refine x_neI ?_
  | with_reducible refine x_eqS ?_ | with_reducible refine x_eqB ?_ | with_reducible refine x_isX ?_ | with_reducible refine x_isN ?_ | with_reducible refine x_notN ?_ | with_reducible refine x_ipI ?_
  | with_reducible refine x_andI ?_ | with_reducible refine x_orI ?_ | with_reducible refine x_xorI ?_ | with_reducible refine x_U ?_
  | with_reducible refine x_and ?_ | with_reducible refine x_or ?_ | with_reducible refine x_not ?_ | with_reducible refine x_andV ?_ | with_reducible refine x_orV ?_ | with_reducible refine x_notV ?_ | with_reducible refine x_ifE ?_
  | with_reducible refine x_for ?_ | with_reducible refine x_iList ?_ | with_reducible refine x_iTup ?_ | with_reducible refine x_iR1 ?_ | with_reducible refine x_iR2 ?_ | with_reducible refine x_iZip ?_ | with_reducible refine x_iEnum ?_
  | with_reducible refine x_sl ?_ | with_reducible refine x_noPart ?_ | with_reducible refine x_part ?_ | with_reducible refine x_asgS ?_ | with_reducible refine x_augS ?_ | ((with_reducible refine' x_aug ?e ?_); (case e => rfl))
  | with_reducible refine x_bm ?_ | with_reducible refine x_bm0 ?_ | with_reducible refine x_tup ?_ | with_reducible refine x_lst ?_ | with_reducible refine x_next ?_ | with_reducible refine x_retN ?_ | with_reducible refine x_brk ?_ | with_reducible refine x_ct ?_
  | with_reducible refine x_lc ?_ | with_reducible refine x_yes ?_ | with_reducible refine x_gn ?_ | with_reducible refine x_gc ?_ | with_reducible refine x_g0 ?_ | with_reducible refine x_abs ?_ | with_reducible refine x_max2 ?_ | with_reducible refine x_min2 ?_))
local macro_rules | `(tactic| walk_at "sq") => `(tactic| first
  | assumption | exact .inl (by assumption) | exact Own.sq (by assumption) 0 rfl | exact Own.sq (by assumption) 1 rfl | exact Own.sq (by assumption) 2 rfl | exact Own.sq (by assumption) 3 rfl
  | exact Own.seq (by assumption) (by first | assumption | exact .inl (by assumption)))
section
variable {P : Program} {w : World} {K : PySem.W.Frag} {mg : Str → Option Value} {base : Heap} {A : Ads}
/-! ### is_whole -/
def sp_is_whole : Sp := fun vs H Q _ => ∃ v, vs = [v] ∧ Thing H v ∧ RetV (.bl (isI v)) H Q
theorem ok_is_whole (T : Txt K mg A) : FnOk P w K mg base (L2.CX P w) 1 A.a_is_whole A.d_is_whole ["thing"] sp_is_whole := by
  refine T.F_is_whole.okX sc_is_whole (fun vs H Q E h => ?_) (fun cdv A0 outer s H vs Q E hr h => ?_)
  · obtain ⟨v, rfl, _⟩ := h; rfl
  · obtain ⟨v, rfl, hv, k⟩ := h
    refine ⟨_, (pss_cons (ps_if (PW.pt (pw_or (pt_cmpR op_isX (pv 0) pe_bl (nomark _)) (pw_or1 (pt_cmpR op_isX (pv 0) pe_bl (nomark _))))) (pss_one (ps_ret pe_bl)) pss_nil)
      (pss_one (ps_ret (pe_callB (call_isiX (K := K) rfl) (by rfl) T.z_isinstance (by decide +kernel) (pa_cons (pv 0) (pa_cons (pe_bltn (v := .ty "int") (by rfl) T.z_int (by decide +kernel) rfl) pa_nil)))))), ?_⟩
    walk_at "x"
    have go : isB v = false → rIsi K [v, .ty "int"] H Q := fun e => x_isiInt hv (by rw [e, Bool.or_false]; exact k.go (Same.refl H))
    cases v with
    | bl b =>
      cases b
      · refine iteF ?_
        walk_at "x"
        exact iteT (k.go (Same.refl H))
      · exact iteT (iteT (k.go (Same.refl H)))
    | _ =>
      refine iteF ?_
      walk_at "x"
      refine iteF ?_
      walk_at "x"
      exact go rfl

/-! ### divisor -/
def sp_divisor : Sp := fun vs H Q _ => ∃ (a b : Int) (B : Nat), vs = [.int a, .int b] ∧ Bits B a b ∧ RetV (.int (gcdI a b)) H Q
theorem bigs {n B : Nat} (h : n ≤ 2 * B + 3) (hB : B ≤ 9000) : n < sizeLine := Nat.lt_of_le_of_lt (show n ≤ 18003 by omega) (by decide)
theorem ok_divisor (T : Txt K mg A) : FnOk P w K mg base (L2.CX P w) 1 A.a_divisor A.d_divisor ["one", "other"] sp_divisor := by
  refine T.F_divisor.okX sc_divisor (fun vs H Q E h => ?_) (fun cdv A0 outer s H vs Q E hr h => ?_)
  · obtain ⟨a, b, B, rfl, _⟩ := h; rfl
  · obtain ⟨a, b, B, rfl, ⟨hB, ha, hb⟩, k⟩ := h
    have w := Own.start (H := H)
    refine ⟨_, (pss_cons (ps_set (i := 2) sc_divisor.nd rfl (.inl rfl) (pe_lst (pa_cons (pe_callB call_absX (by rfl) T.z_abs (by decide +kernel) (pa_cons (pv 0) pa_nil)) (pa_cons (pe_callB call_absX (by rfl) T.z_abs (by decide +kernel) (pa_cons (pv 1) pa_nil)) pa_nil))))
      (pss_cons (ps_while (passes_of rfl) (pt_cmpR (op_neK (K := K) rfl hr.units) (pe_ix (ix_seqK (K := K) rfl) (pv 2) (pe_un un_neg pe_int) (fun _ _ => rfl)) pe_int (nomark _)) (pss_one (ps_expr (pe_bm PySem.F.plainAttrs_list PySem.F.slot_list_append PySem.F.type_list_append mt_append (pv 2) (pa_cons (pe_op op_modX (pe_ix (ix_seqK (K := K) rfl) (pv 2) (pe_un un_neg pe_int) (fun _ _ => rfl)) (pe_ix (ix_seqK (K := K) rfl) (pv 2) (pe_un un_neg pe_int) (fun _ _ => rfl))) pa_nil)))))
      (pss_one (ps_ret (pe_ix (ix_seqK (K := K) rfl) (pv 2) (pe_un un_neg pe_int) (fun _ _ => rfl)))))), ?_⟩
    walk_at "x"
    rw [abs_nat, abs_nat]
    refine ⟨(by show 2 ≤ sizeLine; decide), fun p np => ?_⟩
    have w1 := w.new (o := .lst ([a.natAbs, b.natAbs].map vnat)) np
    walk_at "x"
    -- the first rest
    refine x_while (fun m σ' H' => ∃ (l : List Nat) (x y j : Nat), σ' = [some (.int a), some (.int b), some (.ref p)] ∧ Own H [(p, .lst ((l ++ [x, y]).map vnat))] H' ∧ m = y ∧ Nat.gcd x y = Int.gcd a b ∧
      ((l = [] ∧ x < 2 ^ B ∧ y < 2 ^ B) ∨ (y ≤ x ∧ x * y < 2 ^ j ∧ l.length + j ≤ 2 * B + 1))) b.natAbs ⟨[], a.natAbs, b.natAbs, 0, rfl, w1, rfl, rfl, .inl ⟨rfl, ha, hb⟩⟩ ?_
    rintro m σ' H' ⟨l, x, y, j, rfl, w2, rfl, hg, hinv⟩
    obtain ⟨e1, e2⟩ := last2 l x m
    walk_at "x"
    refine x_ixXL (w2.sq 0 rfl) e1 ?_
    walk_at "x"
    cases m with
    | zero =>
      refine iteF ?_
      walk_at "x"
      refine x_ixXL (w2.sq 0 rfl) e2 ?_
      have : gcdI a b = (x : Int) := by unfold gcdI; rw [← hg, Nat.gcd_zero_right]
      rw [this] at k
      exact k.go w2.ex
    | succ m =>
      refine iteT ?_
      refine x_N ?_
      walk_at "x"
      refine ⟨x_tyL (w2.get 0 rfl), ?_⟩
      walk_at "x"
      refine x_ixXL (w2.sq 0 rfl) e2 ?_
      walk_at "x"
      refine x_ixXL (w2.sq 0 rfl) e1 ?_
      refine x_modP (by omega) ?_
      walk_at "x"
      rw [show (x : Int) % ((m + 1 : Nat) : Int) = ((x % (m + 1) : Nat) : Int) from rfl]
      have next : x % (m + 1) < m + 1 := Nat.mod_lt _ (Nat.succ_pos m)
      refine x_append (w2.get 0 rfl) ?_ ?_
      · rw [List.length_map, List.length_append]
        refine bigs (B := B) ?_ hB
        show l.length + 2 ≤ _
        rcases hinv with ⟨rfl, _, _⟩ | ⟨_, _, h⟩
        · show 0 + 2 ≤ _; omega
        · omega
      · have w3 := w2.put (o' := .lst (((l ++ [x]) ++ [m + 1, x % (m + 1)]).map vnat)) 0 rfl
        have el : ((l ++ [x]) ++ [m + 1, x % (m + 1)]).map vnat = (l ++ [x, m + 1]).map vnat ++ [vnat (x % (m + 1))] := by simp
        rw [el] at w3
        have step : ∀ j', l.length + 1 + j' ≤ 2 * B + 1 → (m + 1) * (x % (m + 1)) < 2 ^ j' → ∃ m', m' < m + 1 ∧ ∃ (l' : List Nat) (x' y' j : Nat), [some (V.int a), some (.int b), some (.ref p)] = [some (.int a), some (.int b), some (.ref p)] ∧ Own H [(p, .lst ((l' ++ [x', y']).map vnat))] (upd H' p (.lst ((l ++ [x, m + 1]).map vnat ++ [vnat (x % (m + 1))]))) ∧ m' = y' ∧ Nat.gcd x' y' = Int.gcd a b ∧
          ((l' = [] ∧ x' < 2 ^ B ∧ y' < 2 ^ B) ∨ (y' ≤ x' ∧ x' * y' < 2 ^ j ∧ l'.length + j ≤ 2 * B + 1)) := fun j' h1 h2 =>
          ⟨_, next, l ++ [x], m + 1, x % (m + 1), j', rfl, by rw [el]; exact w3, rfl, by rw [gcd_step, hg], .inr ⟨Nat.le_of_lt next, h2, by rw [List.length_append]; exact h1⟩⟩
        rcases hinv with ⟨rfl, hx, hy⟩ | ⟨hyx, hxy, hj⟩
        · refine step (2 * B) (by show 0 + 1 + 2 * B ≤ _; omega) ?_
          rw [show 2 * B = B + B by omega, Nat.pow_add]
          exact Nat.mul_lt_mul'' hy (Nat.lt_of_le_of_lt (Nat.mod_le _ _) hx)
        · obtain ⟨h1, h2⟩ := halve (Nat.succ_pos m) hyx hxy
          exact step (j - 1) (by omega) h1

/-! ### shortest -/
def sp_shortest : Sp := fun vs H Q _ => ∃ (a b : Int) (B : Nat), vs = [.int a, .int b] ∧ Bits B a b ∧ b ≠ 0 ∧ RetT [.int (shortM a b).1, .int (shortM a b).2] H Q
theorem ok_shortest (T : Txt K mg A) : FnOk P w K mg base (L2.CX P w) 2 A.a_shortest A.d_shortest ["top", "bottom"] sp_shortest := by
  refine T.F_shortest.okX sc_shortest (fun vs H Q E h => ?_) (fun cdv A0 outer s H vs Q E hr h => ?_)
  · obtain ⟨a, b, B, rfl, _⟩ := h; rfl
  · obtain ⟨a, b, B, rfl, hB, h0, k⟩ := h
    have w := Own.start (H := H)
    have hg : 0 < gcdI a b := by have := gcd_pos (a := a) h0; unfold gcdI; omega
    have hl := gcd_log h0 hB
    refine ⟨_, (pss_cons (ps_set (i := 2) sc_shortest.nd rfl (.inl rfl) (pe_call (ok_divisor T) (hr.mono (by decide)) (by rfl) T.g_divisor T.F_divisor.kp T.b_divisor .nil (passes_call (takes_of rfl rfl rfl rfl) (fun _ _ _ _ h => h)) (pa_cons (pv 0) (pa_cons (pv 1) pa_nil))))
      (pss_cons (ps_if (pt_cmpR op_gtX (pv 1) pe_int (nomark _)) (pss_one (ps_ret (pe_tup (pa_cons (pe_op op_fdivX (pv 0) (pv 2)) (pa_cons (pe_op op_fdivX (pv 1) (pv 2)) pa_nil))))) pss_nil)
      (pss_one (ps_ret (pe_tup (pa_cons (pe_op op_subX pe_int (pe_op op_fdivX (pv 0) (pv 2))) (pa_cons (pe_op op_subX pe_int (pe_op op_fdivX (pv 1) (pv 2))) pa_nil))))))), ?_⟩
    walk_at "x"
    refine ⟨a, b, B, rfl, hB, fun H1 s1 => ?_⟩
    have w1 := w.ext s1
    unfold shortM at k
    walk_at "x"
    refine ite2 (fun c => ?_) (fun c => ?_)
    · rw [if_pos (of_decide_eq_true c)] at k
      walk_at "x"
      refine x_divP hg hl ?_
      walk_at "x"
      refine x_divP hg hl ?_
      refine ⟨(by show 2 ≤ sizeLine; decide), fun p np => ?_⟩
      exact k.go (w1.new (o := .tup [.int (a / gcdI a b), .int (b / gcdI a b)]) np)
    · rw [if_neg (fun h => c (decide_eq_true h))] at k
      walk_at "x"
      refine x_divP hg hl ?_
      walk_at "x"
      refine x_divP hg hl ?_
      walk_at "x"
      refine ⟨(by show 2 ≤ sizeLine; decide), fun p np => ?_⟩
      exact k.go (w1.new (o := .tup [.int (0 - a / gcdI a b), .int (0 - b / gcdI a b)]) np)

/-! ### fraction -/
def sp_fraction (A : Ads) : Sp := fun vs H Q E => ∃ (u v : V), vs = [u, v] ∧ Thing H u ∧ Thing H v ∧ (∀ a b, u = .int a → v = .int b → b ≠ 0 → (∃ B, Bits B a b) ∧ RetT [.int (shortM a b).1, .int (shortM a b).2] H Q) ∧
  ((isI u = false ∨ isI v = false ∨ v = .int 0) → ∀ H', Same H H' → E (.ref A.NoNumber) none H')
theorem u_fraction {H : Hp} {Q : VK} {E : XK} {a b : Int} {B : Nat} (hB : Bits B a b) (h0 : b ≠ 0) (q : RetT [.int (shortM a b).1, .int (shortM a b).2] H Q) : sp_fraction A [.int a, .int b] H Q E :=
  ⟨_, _, rfl, .int a, .int b, fun a' b' e1 e2 _ => by
    cases e1; cases e2
    exact ⟨⟨B, hB⟩, q⟩, fun h => by
    rcases h with h | h | h
    · cases h
    · cases h
    · exact absurd (V.int.inj h) h0⟩
theorem isI_int {u : V} (h : isI u = true) : ∃ a, u = .int a := by cases u <;> first | exact ⟨_, rfl⟩ | cases h
theorem ok_fraction (T : Txt K mg A) : FnOk P w K mg base (L2.CX P w) 3 A.a_fraction A.d_fraction ["top", "bottom"] (sp_fraction A) := by
  refine T.F_fraction.okX sc_fraction (fun vs H Q E h => ?_) (fun cdv A0 outer s H vs Q E hr h => ?_)
  · obtain ⟨u, v, rfl, _⟩ := h; rfl
  · obtain ⟨u, v, rfl, hu, hv, k, kE⟩ := h
    have w := Own.start (H := H)
    refine ⟨_, (pss_cons (ps_for (passes_of rfl) rfl (pi_listK (K := K) rfl (pe_lst (pa_cons (pv 0) (pa_cons (pv 1) pa_nil)))) (pg_name (i := 2) sc_fraction.nd rfl (.inl rfl)) (pss_one (ps_if (pt_not (pt_val (pe_call (ok_is_whole T) (hr.mono (by decide)) (by rfl) T.g_is_whole T.F_is_whole.kp T.b_is_whole .nil (passes_call (takes_of rfl rfl rfl rfl) (fun _ _ _ _ h => h)) (pa_cons (pv 2) pa_nil)))) (pss_one (ps_raise rfl (takes_of rfl rfl rfl rfl) (pmk_own PySem.F.excBase_ValueError T.x_NoNumber T.g_NoNumber T.k_NoNumber (raises_own T.e_NoNumber T.t_NoNumber) (by rfl)))) pss_nil)))
      (pss_cons (ps_if (pt_cmpR (op_eqK (K := K) rfl hr.units) (pv 1) pe_int (nomark _)) (pss_one (ps_raise rfl (takes_of rfl rfl rfl rfl) (pmk_own PySem.F.excBase_ValueError T.x_NoNumber T.g_NoNumber T.k_NoNumber (raises_own T.e_NoNumber T.t_NoNumber) (by rfl)))) pss_nil)
      (pss_one (ps_ret (pe_call (ok_shortest T) (hr.mono (by decide)) (by rfl) T.g_shortest T.F_shortest.kp T.b_shortest .nil (passes_call (takes_of rfl rfl rfl rfl) (fun _ _ _ _ h => h)) (pa_cons (pv 0) (pa_cons (pv 1) pa_nil))))))), ?_⟩
    walk_at "x"
    refine ⟨(by show 2 ≤ sizeLine; decide), fun p np => ?_⟩
    have w1 := w.new (o := .lst [u, v]) np
    walk_at "x"
    refine ⟨_, rfl, ⟨_, w1.sq 0 rfl⟩, for_list (xs := [u, v]) (fun i σ' H' => (∃ v1, σ' = [some u, some v, v1]) ∧ Own H [(p, .lst [u, v])] H' ∧ (0 < i → isI u = true) ∧ (1 < i → isI v = true)) ⟨⟨_, rfl⟩, w1, (fun h => absurd h (by decide)), (fun h => absurd h (by decide))⟩ (fun i σ' H' _ h => h.2.1.sq 0 rfl) ?_ ?_⟩
    · rintro i x σ' H' hx ⟨⟨v1, rfl⟩, w2, c0, c1⟩
      have hx2 : (i = 0 ∧ x = u) ∨ (i = 1 ∧ x = v) := by
        match i, hx with
        | 0, hx => exact .inl ⟨rfl, (Option.some.inj hx).symm⟩
        | 1, hx => exact .inr ⟨rfl, (Option.some.inj hx).symm⟩
      have hT : Thing H x := by
        rcases hx2 with ⟨_, rfl⟩ | ⟨_, rfl⟩
        · exact hu
        · exact hv
      walk_at "x"
      refine ⟨x, rfl, hT.same w2.ex, fun H2 s2 => ?_⟩
      have w3 := w2.ext s2
      walk_at "x"
      cases c : isI x with
      | false =>
        refine iteT ?_
        refine kE ?_ _ w3.ex
        rcases hx2 with ⟨_, rfl⟩ | ⟨_, rfl⟩
        · exact .inl c
        · exact .inr (.inl c)
      | true =>
        refine iteF ?_
        walk_at "x"
        refine ⟨⟨_, rfl⟩, w3, fun h => ?_, fun h => ?_⟩
        · rcases hx2 with ⟨_, rfl⟩ | ⟨rfl, rfl⟩
          · exact c
          · exact c0 (by decide)
        · rcases hx2 with ⟨rfl, rfl⟩ | ⟨_, rfl⟩
          · exact absurd h (by decide)
          · exact c
    · rintro σ' H' ⟨⟨v1, rfl⟩, w2, c0, c1⟩
      have d0 := c0 (show 0 < 2 by decide)
      have d1 := c1 (show 1 < 2 by decide)
      obtain ⟨a, rfl⟩ : ∃ a, u = .int a := isI_int d0
      obtain ⟨b, rfl⟩ : ∃ a, v = .int a := isI_int d1
      walk_at "x"
      refine ite2 (fun c => ?_) (fun c => ?_)
      · refine kE (.inr (.inr ?_)) _ w2.ex
        rw [of_decide_eq_true c]
      · have h0 : b ≠ 0 := fun h => c (decide_eq_true h)
        obtain ⟨⟨B, hB⟩, q⟩ := k a b rfl rfl h0
        walk_at "x"
        exact ⟨a, b, B, rfl, hB, h0, fun p2 H2 n2 s2 c2 => q p2 H2 (w2.ex.free n2) (w2.ex.trans s2) c2⟩

/-! ### look_group -/
def inR (v : V) (l g : Int) : Prop := ∃ z, v = .int z ∧ l ≤ z ∧ z ≤ g
def sp_look_group (A : Ads) : Sp := fun vs H Q E => ∃ (v : V) (l g : Int), vs = [v, .int l, .int g] ∧ Thing H v ∧ (inR v l g → RetV .non H Q) ∧ (¬ inR v l g → ∀ H', Same H H' → E (.ref A.NoGroup) none H')
theorem ok_look_group (T : Txt K mg A) : FnOk P w K mg base (L2.CX P w) 2 A.a_look_group A.d_look_group ["group", "least", "greatest"] (sp_look_group A) := by
  refine T.F_look_group.okX sc_look_group (fun vs H Q E h => ?_) (fun cdv A0 outer s H vs Q E hr h => ?_)
  · obtain ⟨v, l, g, rfl, _⟩ := h; rfl
  · obtain ⟨v, l, g, rfl, hT, k, kE⟩ := h
    refine ⟨_, (pss_one (ps_if (PW.pt (pw_or (pt_not (pt_val (pe_call (ok_is_whole T) (hr.mono (by decide)) (by rfl) T.g_is_whole T.F_is_whole.kp T.b_is_whole .nil (passes_call (takes_of rfl rfl rfl rfl) (fun _ _ _ _ h => h)) (pa_cons (pv 0) pa_nil)))) (pw_or (pt_cmpR op_ltX (pv 0) (pv 1) (nomark _)) (pw_or1 (pt_cmpR op_gtX (pv 0) (pv 2) (nomark _)))))) (pss_one (ps_raise rfl (takes_of rfl rfl rfl rfl) (pmk_own PySem.F.excBase_ValueError T.x_NoGroup T.g_NoGroup T.k_NoGroup (raises_own T.e_NoGroup T.t_NoGroup) (by rfl)))) pss_nil)), ?_⟩
    walk_at "x"
    refine ⟨v, rfl, hT, fun H1 s1 => ?_⟩
    walk_at "x"
    cases hI : isI v with
    | false =>
      refine iteT ?_
      refine iteT (kE (fun ⟨z, e, _⟩ => ?_) H1 s1)
      rw [e] at hI; cases hI
    | true =>
      refine iteF ?_
      walk_at "x"
      obtain ⟨z, rfl⟩ : ∃ z, v = .int z := by
        cases v with
        | int z => exact ⟨z, rfl⟩
        | _ => cases hI
      walk_at "x"
      by_cases c1 : z < l
      · rw [decide_eq_true c1]
        refine iteT (iteT (kE (fun ⟨y, e, h1, h2⟩ => ?_) H1 s1))
        obtain rfl := V.int.inj e
        omega
      · rw [decide_eq_false c1]
        refine iteF ?_
        walk_at "x"
        by_cases c2 : g < z
        · rw [decide_eq_true c2]
          refine iteT (kE (fun ⟨y, e, h1, h2⟩ => ?_) H1 s1)
          obtain rfl := V.int.inj e
          omega
        · rw [decide_eq_false c2]
          refine iteF ?_
          walk_at "x"
          exact k ⟨z, rfl, by omega, by omega⟩ H1 s1

/-! ### whole_of -/
def sp_whole_of : Sp := fun vs H Q _ => ∃ k : Nat, vs = [.int (k : Int)] ∧ k ≤ 1000 ∧ RetV (.int (((2 ^ k : Nat) : Int) - 1)) H Q
theorem ok_whole_of (T : Txt K mg A) : FnOk P w K mg base (L2.CX P w) 1 A.a_whole_of A.d_whole_of ["many"] sp_whole_of := by
  refine T.F_whole_of.okX sc_whole_of (fun vs H Q E h => ?_) (fun cdv A0 outer s H vs Q E hr h => ?_)
  · obtain ⟨n, rfl, _⟩ := h; rfl
  · obtain ⟨n, rfl, hn, k⟩ := h
    refine ⟨_, (pss_one (ps_ret (pe_op op_subX (pe_op op_shlX pe_int (pv 0)) pe_int))), ?_⟩
    walk_at "x"
    refine x_shl ⟨by omega, by omega, by decide⟩ ?_
    rw [shl_nat]
    walk_at "x"
    exact k.go (Same.refl H)

/-! ### hands_of -/
def sp_hands_of (A : Ads) : Sp := fun vs H Q E => ∃ v : V, vs = [v] ∧ Thing H v ∧ (∀ g : Nat, v = .int (g : Int) → g < 64 → RetL ((handsM g).map vnat) H Q) ∧ (¬ inR v 0 63 → ∀ H', Same H H' → E (.ref A.NoGroup) none H')
theorem u_hands_of {H : Hp} {Q : VK} {E : XK} {g : Nat} (hg : g < 64) (q : RetL ((handsM g).map vnat) H Q) : sp_hands_of A [.int (g : Int)] H Q E :=
  ⟨_, rfl, .int _, fun g' e _ => by
    have : g = g' := by have := V.int.inj e; omega
    exact this ▸ q, fun h => absurd ⟨_, rfl, by omega, by omega⟩ h⟩
theorem ok_hands_of (T : Txt K mg A) : FnOk P w K mg base (L2.CX P w) 3 A.a_hands_of A.d_hands_of ["group"] (sp_hands_of A) := by
  refine T.F_hands_of.okX sc_hands_of (fun vs H Q E h => ?_) (fun cdv A0 outer s H vs Q E hr h => ?_)
  · obtain ⟨v, rfl, _⟩ := h; rfl
  · obtain ⟨v, rfl, hT, k, kE⟩ := h
    refine ⟨_, (pss_cons (ps_expr (pe_call (ok_look_group T) (hr.mono (by decide)) (by rfl) T.g_look_group T.F_look_group.kp T.b_look_group .nil (passes_call (takes_of rfl rfl rfl rfl) (fun _ _ _ _ h => h)) (pa_cons (pv 0) (pa_cons pe_int (pa_cons (pe_call (ok_whole_of T) (hr.mono (by decide)) (by rfl) T.g_whole_of T.F_whole_of.kp T.b_whole_of .nil (passes_call (takes_of rfl rfl rfl rfl) (fun _ _ _ _ h => h)) (pa_cons (pe_glob (v := .int 6) (by rfl) T.c_MOST ⟨_, rfl⟩) pa_nil)) pa_nil)))))
      (pss_one (ps_ret (pe_lc (own := [("hand", 1)]) rfl sc_hands_of.nd (pi_range1 (by rfl) T.z_range (pa_cons (pe_glob (v := .int 6) (by rfl) T.c_MOST ⟨_, rfl⟩) pa_nil)) (blkOk_by (own := [("hand", 1)]) (N := N_hands_of) (sc := defScope s_hands_of) (by decide +kernel)) (fun _ _ _ _ _ => (pg_name (i := 1) sc_hands_of.nd rfl (.inl rfl))) (fun _ _ _ _ _ => (pts_one (pt_cmpR (op_eqK (K := K) rfl hr.units) (pe_op op_andX (pe_op op_shrX (pv 0) (pv 1)) pe_int) pe_int (nomark _)))) (fun _ _ _ _ _ => (pv 1)))))), ?_⟩
    walk_at "x"
    refine ⟨6, rfl, by decide, fun H1 s1 => ?_⟩
    walk_at "x"
    refine ⟨v, 0, _, rfl, hT.same s1, fun hin H2 s2 => ?_, fun hn H2 s2 => kE hn H2 (s1.trans s2)⟩
    obtain ⟨z, rfl, h0, h1⟩ := hin
    have w : Own H [] H2 := Own.start.ext (s1.trans s2)
    obtain ⟨g, rfl⟩ := Int.eq_ofNat_of_zero_le h0
    have hg : g < 64 := by
      have : (((2 ^ 6 : Nat) : Int) - 1) = 63 := by decide
      omega
    walk_at "x"
    refine ⟨_, rfl, by decide, by decide, cp_r0 (n := 6) (fun i => ((List.range i).filter fun h => bitOn h g).map vnat) w rfl ?_ ?_⟩
    · intro D i H' hi p
      walk_at "x"
      refine ⟨rfl, ?_⟩
      walk_at "x"
      refine x_shr (by omega) ?_
      walk_at "x"
      rw [bit_int (by omega) hg]
      cases c : bitOn i g with
      | true =>
        refine iteT ?_
        walk_at "x"
        exact cp_fin p (filter_yes (p := fun h => bitOn h g) c vnat) (by rw [List.length_map]; have := filter_len (fun h => bitOn h g) i; omega)
      | false =>
        exact iteF (cp_no p (filter_no (p := fun h => bitOn h g) c vnat))
    · intro D H' w2
      exact (k g rfl hg).go w2

/-! ### size_of -/
def sp_size_of : Sp := fun vs H Q _ => ∃ g : Nat, vs = [.int (g : Int)] ∧ g < 64 ∧ RetV (.int (((handsM g).length : Nat) : Int)) H Q
theorem ok_size_of (T : Txt K mg A) : FnOk P w K mg base (L2.CX P w) 4 A.a_size_of A.d_size_of ["group"] sp_size_of := by
  refine T.F_size_of.okX sc_size_of (fun vs H Q E h => ?_) (fun cdv A0 outer s H vs Q E hr h => ?_)
  · obtain ⟨g, rfl, _⟩ := h; rfl
  · obtain ⟨g, rfl, hg, k⟩ := h
    have w := Own.start (H := H)
    refine ⟨_, (pss_one (ps_ret (pe_callB (call_lenK (K := K) rfl) (by rfl) T.z_len (by decide +kernel) (pa_cons (pe_call (ok_hands_of T) (hr.mono (by decide)) (by rfl) T.g_hands_of T.F_hands_of.kp T.b_hands_of .nil (passes_call (takes_of rfl rfl rfl rfl) (fun _ _ _ _ h => h)) (pa_cons (pv 0) pa_nil)) pa_nil)))), ?_⟩
    walk_at "x"
    refine u_hands_of hg fun p H1 n1 s1 c1 => ?_
    have w1 := w.newE n1 s1 c1
    walk_at "x"
    refine x_lenL (w1.sq 0 rfl) ?_
    rw [List.length_map]
    exact k.go w1.ex

/-! ### look -/
def sp_look (A : Ads) : Sp := fun vs H Q E => ∃ (a : Addr) (xs : List V), vs = [.ref a] ∧ Rd H a (.lst xs) ∧ (∀ v ∈ xs, Thing H v) ∧
  (∀ n, lookM xs = some n → RetV (.int n) H Q) ∧ (lookM xs = none → ∀ H', Same H H' → E (.ref A.NoTable) none H')
theorem ok_look (T : Txt K mg A) : FnOk P w K mg base (L2.CX P w) 2 A.a_look A.d_look ["table"] (sp_look A) := by
  refine T.F_look.okX sc_look (fun vs H Q E h => ?_) (fun cdv A0 outer s H vs Q E hr h => ?_)
  · obtain ⟨a, xs, rfl, _⟩ := h; rfl
  · obtain ⟨a, xs, rfl, hR, hT, k, kE⟩ := h
    have hS : SqL K H a xs := .inl hR
    refine ⟨_, (pss_cons (ps_set (i := 1) sc_look.nd rfl (.inl rfl) pe_int)
      (pss_cons (ps_while (passes_of rfl) (PW.pt (pw_and (pt_cmpR op_ltX (pv 1) (pe_glob (v := .int 6) (by rfl) T.c_MOST ⟨_, rfl⟩) (nomark _)) (pw_and1 (pt_cmpR op_ltX (pe_op op_shlX pe_int (pv 1)) (pe_callB (call_lenK (K := K) rfl) (by rfl) T.z_len (by decide +kernel) (pa_cons (pv 0) pa_nil)) (nomark _))))) (pss_one (ps_set (i := 1) sc_look.nd rfl (.inl rfl) (pe_op op_addX (pv 1) pe_int))))
      (pss_cons (ps_if (pt_cmpR (op_neK (K := K) rfl hr.units) (pe_callB (call_lenK (K := K) rfl) (by rfl) T.z_len (by decide +kernel) (pa_cons (pv 0) pa_nil)) (pe_op op_shlX pe_int (pv 1)) (nomark _)) (pss_one (ps_raise rfl (takes_of rfl rfl rfl rfl) (pmk_own PySem.F.excBase_ValueError T.x_NoTable T.g_NoTable T.k_NoTable (raises_own T.e_NoTable T.t_NoTable) (by rfl)))) pss_nil)
      (pss_cons (ps_for (passes_of rfl) rfl (pi_listK (K := K) rfl (pv 0)) (pg_name (i := 2) sc_look.nd rfl (.inl rfl)) (pss_one (ps_if (pt_not (pt_val (pe_call (ok_is_whole T) (hr.mono (by decide)) (by rfl) T.g_is_whole T.F_is_whole.kp T.b_is_whole .nil (passes_call (takes_of rfl rfl rfl rfl) (fun _ _ _ _ h => h)) (pa_cons (pv 2) pa_nil)))) (pss_one (ps_raise rfl (takes_of rfl rfl rfl rfl) (pmk_own PySem.F.excBase_ValueError T.x_NoTable T.g_NoTable T.k_NoTable (raises_own T.e_NoTable T.t_NoTable) (by rfl)))) pss_nil)))
      (pss_cons (ps_if (pt_cmpR (op_neK (K := K) rfl hr.units) (pe_ix (ix_seqK (K := K) rfl) (pv 0) pe_int (fun _ _ => rfl)) pe_int (nomark _)) (pss_one (ps_raise rfl (takes_of rfl rfl rfl rfl) (pmk_own PySem.F.excBase_ValueError T.x_NoTable T.g_NoTable T.k_NoTable (raises_own T.e_NoTable T.t_NoTable) (by rfl)))) pss_nil)
      (pss_one (ps_ret (pv 1)))))))), ?_⟩
    walk_at "x"
    refine x_while (fun m σ' H' => ∃ k : Nat, σ' = [some (.ref a), some (.int k), none] ∧ H' = H ∧ m = 6 - k ∧ 1 ≤ k ∧ k ≤ 6 ∧ (k = 1 ∨ 2 ^ (k - 1) < xs.length)) 5 ⟨1, rfl, rfl, rfl, by decide, by decide, .inl rfl⟩ ?_
    rintro m σ' H' ⟨n, rfl, rfl, rfl, h1, h6, hlo⟩
    have out : (n = 6 ∨ xs.length ≤ 2 ^ n) → manyOf xs.length = n := fun h => manyOf_is h1 h6 hlo h
    walk_at "x"
    -- what stands behind the loop
    have fin : manyOf xs.length = n → tSeq
        (tIfS (tTest (tOp (rNeX K) (tCB (rLen K) (tCons (tVar 0) tNil)) (tOp rShl (tC (V.int 1)) (tVar 1)))) (fun x σ H => E (.ref A.NoTable) none H) tNext) (tSeq
        (tFor (iList K (tVar 0)) (gName 2) (tIfS (tNot (tB (tCall sp_is_whole [] E (tCons (tVar 2) tNil)))) (fun x σ H => E (.ref A.NoTable) none H) tNext)) (tSeq
        (tIfS (tTest (tOp (rNeX K) (tOp (rIx K) (tVar 0) (tC (V.int 0))) (tC (V.int 0)))) (fun x σ H => E (.ref A.NoTable) none H) tNext) (tRet (tVar 1))))
        { nx := fun _ H' => Q .non H', rt := Q } [some (.ref a), some (.int n), none] H' := fun en => by
      have bad' : ∀ H2, Same H' H2 → ¬ (xs.length = 2 ^ manyOf xs.length ∧ xs.all isI = true ∧ xs[0]? = some (.int 0)) → E (.ref A.NoTable) none H2 := fun H2 s2 z => kE (by unfold lookM; rw [if_neg z]) H2 s2
      walk_at "x"
      refine x_lenL hS ?_
      walk_at "x"
      refine x_shl ⟨by omega, by omega, by decide⟩ ?_
      walk_at "x"
      have e1 : (1 : Int) * 2 ^ (n : Int).toNat = ((2 ^ n : Nat) : Int) := by rw [Int.one_mul, Int.toNat_natCast, Int.natCast_pow] <;> rfl
      rw [e1]
      by_cases c1 : xs.length = 2 ^ n
      · rw [decide_eq_true (show (xs.length : Int) = ((2 ^ n : Nat) : Int) by omega)]
        refine iteF ?_
        walk_at "x"
        refine ⟨_, rfl, ⟨_, hS⟩, for_list (xs := xs) (fun i σ' H2 => (∃ v, σ' = [some (.ref a), some (.int n), v]) ∧ Same H' H2 ∧ (xs.take i).all isI = true) ⟨⟨_, rfl⟩, Same.refl _, rfl⟩ (fun i σ' H2 _ p => p.2.1.seq hS) ?_ ?_⟩
        · rintro i x σ' H2 hx ⟨⟨v, rfl⟩, s2, p⟩
          have hxm := List.mem_of_getElem? hx
          walk_at "x"
          refine ⟨x, rfl, (hT x hxm).same s2, fun H3 s3 => ?_⟩
          walk_at "x"
          cases hI : isI x with
          | false =>
            refine iteT (bad' H3 (s2.trans s3) fun z => ?_)
            have := List.all_eq_true.mp z.2.1 x hxm
            rw [hI] at this; cases this
          | true =>
            refine iteF ?_
            walk_at "x"
            refine ⟨⟨_, rfl⟩, s2.trans s3, ?_⟩
            rw [List.take_add_one, hx, List.all_append, p]
            simp [hI]
        · rintro σ' H2 ⟨⟨v, rfl⟩, s2, p⟩
          rw [List.take_length] at p
          walk_at "x"
          have h0 : 0 < xs.length := by rw [c1]; exact Nat.two_pow_pos n
          have hI := List.all_eq_true.mp p xs[0] (List.getElem_mem h0)
          obtain ⟨z, hz⟩ : ∃ z, xs[0] = .int z := by
            cases e : xs[0] with
            | int z => exact ⟨z, rfl⟩
            | _ => rw [e] at hI; cases hI
          have h0' : xs[0]? = some (.int z) := by rw [List.getElem?_eq_getElem h0, hz]
          refine x_ixXL (s2.seq hS) (atI_nat (j := 0) h0') ?_
          walk_at "x"
          by_cases ez : z = 0
          · rw [decide_eq_true ez]
            refine iteF ?_
            walk_at "x"
            refine k n (by unfold lookM; rw [en, if_pos ⟨c1, p, by rw [h0', ez]⟩]) _ s2
          · rw [decide_eq_false ez]
            refine iteT (bad' H2 s2 fun y => ez ?_)
            rw [h0'] at y
            exact V.int.inj (Option.some.inj y.2.2)
      · rw [decide_eq_false (show ¬ (xs.length : Int) = ((2 ^ n : Nat) : Int) by omega)]
        exact iteT (bad' H' (Same.refl _) fun z => c1 (by rw [en] at z; exact z.1))
    by_cases hk : (n : Int) < 6
    · rw [decide_eq_true hk]
      refine iteT ?_
      walk_at "x"
      refine x_shl ⟨by omega, by omega, by decide⟩ ?_
      walk_at "x"
      refine x_lenL hS ?_
      walk_at "x"
      have e1 : (1 : Int) * 2 ^ (n : Int).toNat = ((2 ^ n : Nat) : Int) := by rw [Int.one_mul, Int.toNat_natCast, Int.natCast_pow] <;> rfl
      rw [e1]
      refine ite2 (fun hl => ?_) (fun hl => ?_)
      · have hl := of_decide_eq_true hl
        refine x_N ?_
        walk_at "x"
        exact ⟨6 - (n + 1), by omega, n + 1, by rw [Int.natCast_add] <;> rfl, rfl, rfl, by omega, by omega, .inr (by rw [Nat.add_sub_cancel]; omega)⟩
      · exact fin (out (.inr (by have := mt decide_eq_true hl; omega)))
    · rw [decide_eq_false hk]
      exact iteF (fin (out (.inl (by omega))))

/-! ### dividends -/
def divM (ns : List Int) (k : Nat) : List Int := tl ns.length (allD k (fn ns))
def sp_dividends (A : Ads) : Sp := fun vs H Q E => ∃ (a : Addr) (xs : List V), vs = [.ref a] ∧ Rd H a (.lst xs) ∧ (∀ v ∈ xs, Thing H v) ∧
  (∀ ns k, Tab ns k → xs = ns.map V.int → RetL ((divM ns k).map V.int) H Q) ∧ (lookM xs = none → ∀ H', Same H H' → E (.ref A.NoTable) none H')
theorem u_dividends {H : Hp} {Q : VK} {E : XK} {a : Addr} {ms : List Int} {m : Nat} (R : Rd H a (.lst (ms.map V.int))) (tb : Tab ms m) (q : RetL ((divM ms m).map V.int) H Q) : sp_dividends A [.ref a] H Q E :=
  ⟨a, _, rfl, R, things_int, fun _ _ t e => by
    obtain rfl := map_int_inj e
    obtain rfl := tb.same t
    exact q, fun e => by rw [tb.look] at e; cases e⟩
theorem ok_dividends (T : Txt K mg A) : FnOk P w K mg base (L2.CX P w) 3 A.a_dividends A.d_dividends ["table"] (sp_dividends A) := by
  refine T.F_dividends.okX sc_dividends (fun vs H Q E h => ?_) (fun cdv A0 outer s H vs Q E hr h => ?_)
  · obtain ⟨a, xs, rfl, _⟩ := h; rfl
  · obtain ⟨a, xs, rfl, hR, hT, k, kE⟩ := h
    refine ⟨_, (pss_cons (ps_set (i := 1) sc_dividends.nd rfl (.inl rfl) (pe_call (ok_look T) (hr.mono (by decide)) (by rfl) T.g_look T.F_look.kp T.b_look .nil (passes_call (takes_of rfl rfl rfl rfl) (fun _ _ _ _ h => h)) (pa_cons (pv 0) pa_nil)))
      (pss_cons (ps_set (i := 2) sc_dividends.nd rfl (.inl rfl) (pe_callTy (call_listK (K := K) rfl) (by rfl) T.z_list (by decide +kernel) (pa_cons (pv 0) pa_nil)))
      (pss_cons (ps_for (passes_of rfl) rfl (pi_range1 (by rfl) T.z_range (pa_cons (pv 1) pa_nil)) (pg_name (i := 3) sc_dividends.nd rfl (.inl rfl)) (pss_cons (ps_set (i := 4) sc_dividends.nd rfl (.inl rfl) (pe_op op_shlX pe_int (pv 3)))
      (pss_one (ps_for (passes_of rfl) rfl (pi_range1 (by rfl) T.z_range (pa_cons (pe_callB (call_lenK (K := K) rfl) (by rfl) T.z_len (by decide +kernel) (pa_cons (pv 2) pa_nil)) pa_nil)) (pg_name (i := 5) sc_dividends.nd rfl (.inl rfl)) (pss_one (ps_if (pt_cmpR (op_neK (K := K) rfl hr.units) (pe_op op_andX (pv 5) (pv 4)) pe_int (nomark _)) (pss_one (ps_augS (pv 2) (pv 5) (get_listK (K := K) rfl) (pe_ix (ix_seqK (K := K) rfl) (pv 2) (pe_op op_xorX (pv 5) (pv 4)) (fun _ _ => rfl)) ip_sub set_list)) pss_nil))))))
      (pss_one (ps_ret (pv 2)))))), ?_⟩
    walk_at "x"
    refine ⟨a, xs, rfl, hR, hT, fun n hn H1 s1 => ?_, kE⟩
    obtain ⟨ns, m, tb, rfl, rfl⟩ := look_tab hn
    have w : Own H [] H1 := Own.start.ext s1
    have hS : SqL K H a (ns.map V.int) := .inl hR
    have hb := tb.pos
    have hm := tb.hi
    walk_at "x"
    refine x_list (w.seq hS) fun p np => ?_
    have w1 := w.new (o := .lst (ns.map V.int)) np
    walk_at "x"
    -- for hand in range(many)
    refine ⟨_, rfl, by omega, by omega, for_r0 (n := (m : Int)) (fun i σ H' => ∃ u1 u2 u3 : Option V,
      σ = [some (.ref a), some (.int (m : Int)), some (.ref p), u1, u2, u3] ∧ Own H [(p, .lst ((tl ns.length (allD i (fn ns))).map V.int))] H') ⟨none, none, none, rfl, by rw [show allD 0 (fn ns) = fn ns from rfl, tl_fn]; exact w1⟩ ?_ ?_⟩
    · rintro i σ H' hi ⟨u1, u2, u3, rfl, w2⟩
      have hi6 : i < 6 := by omega
      walk_at "x"
      refine x_shl ⟨by omega, by omega, by decide⟩ ?_
      rw [shl_nat]
      walk_at "x"
      refine x_lenL (w2.sq 0 rfl) ?_
      walk_at "x"
      rw [List.length_map, tl_len]
      refine ⟨_, rfl, by omega, by omega, for_r0 (n := (ns.length : Int)) (fun j σ H' => ∃ u3 : Option V,
        σ = [some (.ref a), some (.int (m : Int)), some (.ref p), some (.int (i : Int)), some (.int ((2 ^ i : Nat) : Int)), u3] ∧
        Own H [(p, .lst ((tl ns.length (fun g => if g < j then stepD i (allD i (fn ns)) g else allD i (fn ns) g)).map V.int))] H') ⟨u3, rfl, w2⟩ ?_ ?_⟩
      · rintro j σ H' hj ⟨u3, rfl, w3⟩
        have hj1 : j < ns.length := by omega
        have bf := bit_facts i hi6 j (by omega)
        walk_at "x"
        rw [and_nat, bitOn_iff]
        cases c : bitOn i j with
        | true =>
          have b := bf.1 c
          refine iteT ?_
          walk_at "x"
          refine x_ixL (w3.sq 0 rfl) (at_int (by omega) (by rw [tl_len]; omega)) ?_
          walk_at "x"
          rw [xor_nat]
          refine x_ixXL (w3.sq 0 rfl) (at_int (by omega) (by rw [tl_len]; omega)) ?_
          walk_at "x"
          refine x_setL (w3.get 0 rfl) (by rw [List.length_map, tl_len]; exact ixN_int (by omega) (by omega)) ?_
          rw [map_set_int, Int.toNat_natCast, gi_tln hj1, gi_tln (by omega), if_neg (by omega), if_pos b.1, tl_set hj1]
          have e : stepD i (allD i (fn ns)) (j ^^^ 2 ^ i) = allD i (fn ns) (j ^^^ 2 ^ i) := by
            unfold stepD
            rw [if_neg (by rw [b.2]; exact Bool.false_ne_true)]
          have e2 : stepD i (allD i (fn ns)) j = allD i (fn ns) j - allD i (fn ns) (j ^^^ 2 ^ i) := by
            unfold stepD
            rw [if_pos c]
          refine ⟨_, rfl, ?_⟩
          have w4 := w3.put (o' := .lst ((tl ns.length (fun g => if g < j + 1 then stepD i (allD i (fn ns)) g else allD i (fn ns) g)).map V.int)) 0 rfl
          have ec : tl ns.length (fun g => if g = j then allD i (fn ns) j - stepD i (allD i (fn ns)) (j ^^^ 2 ^ i) else if g < j then stepD i (allD i (fn ns)) g else allD i (fn ns) g)
              = tl ns.length (fun g => if g < j + 1 then stepD i (allD i (fn ns)) g else allD i (fn ns) g) := tl_congr fun g _ => by
            by_cases g1 : g = j
            · subst g1
              rw [if_pos rfl, if_pos (by omega), e, e2]
            · rw [if_neg g1]
              by_cases g2 : g < j
              · rw [if_pos g2, if_pos (by omega)]
              · rw [if_neg g2, if_neg (by omega)]
          rw [ec]
          exact w4
        | false =>
          refine iteF ?_
          walk_at "x"
          refine ⟨_, rfl, ?_⟩
          have e2 : stepD i (allD i (fn ns)) j = allD i (fn ns) j := by
            unfold stepD
            rw [if_neg (by rw [c]; exact Bool.false_ne_true)]
          have ec : tl ns.length (fun g => if g < j then stepD i (allD i (fn ns)) g else allD i (fn ns) g)
              = tl ns.length (fun g => if g < j + 1 then stepD i (allD i (fn ns)) g else allD i (fn ns) g) := tl_congr fun g _ => by
            by_cases g1 : g = j
            · subst g1
              rw [if_neg (by omega), if_pos (by omega), e2]
            · by_cases g2 : g < j
              · rw [if_pos g2, if_pos (by omega)]
              · rw [if_neg g2, if_neg (by omega)]
          rw [← ec]
          exact w3
      · rintro σ H' ⟨u3, rfl, w3⟩
        refine ⟨_, _, _, rfl, ?_⟩
        have ec : tl ns.length (fun g => if g < ((ns.length : Int)).toNat then stepD i (allD i (fn ns)) g else allD i (fn ns) g) = tl ns.length (allD (i + 1) (fn ns)) := tl_congr fun g hg => by
          rw [if_pos (by omega)]
          rfl
        rw [ec] at w3
        exact w3
    · rintro σ H' ⟨u1, u2, u3, rfl, w3⟩
      walk_at "x"
      rw [Int.toNat_natCast] at w3
      exact (k ns m tb rfl).go w3

/-! ### mean_shares -/
def sp_mean_shares (A : Ads) : Sp := fun vs H Q _ => ∃ (a : Addr) (ms : List Int) (m C : Nat), vs = [.ref a] ∧ Rd H a (.lst (ms.map V.int)) ∧ Tab ms m ∧ Bdd C (fn (divM ms m)) ∧ C + 18 ≤ 9000 ∧ RetFs (meanFs (divM ms m) ms.length m) H Q
theorem ok_mean_shares (T : Txt K mg A) : FnOk P w K mg base (L2.CX P w) 5 A.a_mean_shares A.d_mean_shares ["table"] (sp_mean_shares A) := by
  refine T.F_mean_shares.okX sc_mean_shares (fun vs H Q E h => ?_) (fun cdv A0 outer s H vs Q E hr h => ?_)
  · obtain ⟨a, ms, m, C, rfl, _⟩ := h; rfl
  · obtain ⟨a, ms, m, C, rfl, hR, tb, hB, hC, k⟩ := h
    have hm := tb.hi
    have hp := tb.pos
    have ht := tb.len
    have w := Own.start (H := H)
    refine ⟨_, (pss_cons (ps_set (i := 1) sc_mean_shares.nd rfl (.inl rfl) (pe_call (ok_dividends T) (hr.mono (by decide)) (by rfl) T.g_dividends T.F_dividends.kp T.b_dividends .nil (passes_call (takes_of rfl rfl rfl rfl) (fun _ _ _ _ h => h)) (pa_cons (pv 0) pa_nil)))
      (pss_cons (ps_set (i := 2) sc_mean_shares.nd rfl (.inl rfl) (pe_op op_mulX (pe_lst (pa_cons pe_int pa_nil)) (pe_call (ok_look T) (hr.mono (by decide)) (by rfl) T.g_look T.F_look.kp T.b_look .nil (passes_call (takes_of rfl rfl rfl rfl) (fun _ _ _ _ h => h)) (pa_cons (pv 0) pa_nil))))
      (pss_cons (ps_for (passes_of rfl) rfl (pi_range2 (by rfl) T.z_range (pa_cons pe_int (pa_cons (pe_callB (call_lenK (K := K) rfl) (by rfl) T.z_len (by decide +kernel) (pa_cons (pv 1) pa_nil)) pa_nil))) (pg_name (i := 3) sc_mean_shares.nd rfl (.inl rfl)) (pss_cons (ps_set (i := 4) sc_mean_shares.nd rfl (.inl rfl) (pe_op op_mulX (pe_ix (ix_seqK (K := K) rfl) (pv 1) (pv 3) (fun _ _ => rfl)) (pe_op op_fdivX (pe_glob (v := .int 60) (by rfl) T.c_SIXTY ⟨_, rfl⟩) (pe_call (ok_size_of T) (hr.mono (by decide)) (by rfl) T.g_size_of T.F_size_of.kp T.b_size_of .nil (passes_call (takes_of rfl rfl rfl rfl) (fun _ _ _ _ h => h)) (pa_cons (pv 3) pa_nil)))))
      (pss_one (ps_for (passes_of rfl) rfl (pi_listK (K := K) rfl (pe_call (ok_hands_of T) (hr.mono (by decide)) (by rfl) T.g_hands_of T.F_hands_of.kp T.b_hands_of .nil (passes_call (takes_of rfl rfl rfl rfl) (fun _ _ _ _ h => h)) (pa_cons (pv 3) pa_nil))) (pg_name (i := 5) sc_mean_shares.nd rfl (.inl rfl)) (pss_one (ps_augS (pv 2) (pv 5) (get_listK (K := K) rfl) (pv 4) ip_add set_list))))))
      (pss_one (ps_ret (pe_lc (own := [("top", 6)]) rfl sc_mean_shares.nd (pi_listK (K := K) rfl (pv 2)) (blkOk_by (own := [("top", 6)]) (N := N_mean_shares) (sc := defScope s_mean_shares) (by decide +kernel)) (fun _ _ _ _ _ => (pg_name (i := 6) sc_mean_shares.nd rfl (.inl rfl))) (fun _ _ _ _ _ => pts_nil) (fun _ _ _ _ _ => (pe_call (ok_fraction T) (hr.mono (by decide)) (by rfl) T.g_fraction T.F_fraction.kp T.b_fraction .nil passL (pa_cons (pv 6) (pa_cons (pe_glob (v := .int 60) (by rfl) T.c_SIXTY ⟨_, rfl⟩) pa_nil)))))))))), ?_⟩
    walk_at "x"
    refine u_dividends hR tb fun p1 H1 n1 s1 c1 => ?_
    have w1 := w.newE n1 s1 c1
    have hdl : (divM ms m).length = ms.length := tl_len _ _
    generalize divM ms m = ds at *
    walk_at "x"
    refine ⟨(by show 1 ≤ sizeLine; decide), fun p2 n2 => ?_⟩
    have w2 := w1.new (o := .lst [.int 0]) n2
    walk_at "x"
    refine ⟨a, _, rfl, rd_same w2.ex hR, things_int, fun n hn H3 s3 => ?_, fun hn => by rw [tb.look] at hn; cases hn⟩
    rw [tb.look] at hn
    obtain rfl := (Option.some.inj hn).symm
    have w3 := w2.ext s3
    walk_at "x"
    refine x_mulL (w3.get 0 rfl) ⟨by omega, by omega, ?_⟩ (fun p4 n4 => ?_)
    · rw [Int.toNat_natCast]
      exact Nat.le_trans (show [V.int 0].length * m ≤ 6 by rw [List.length_singleton]; omega) (by decide)
    have e0 : (List.replicate (m : Int).toNat [V.int 0]).flatten = (tl m (topsF ds 1)).map V.int := by
      rw [Int.toNat_natCast, rep_flat]
      congr 1
      exact rep_tl fun h hh => topsF_one ds (by omega)
    rw [e0]
    have w4 := w3.new (o := .lst ((tl m (topsF ds 1)).map V.int)) n4
    have w4 := w4.sub (ds := [(p4, .lst ((tl m (topsF ds 1)).map V.int)), (p1, .lst (ds.map V.int))]) (.cons_cons _ (.cons _ (.cons_cons _ .slnil)))
    walk_at "x"
    refine x_lenL (w4.sq 1 rfl) ?_
    walk_at "x"
    rw [List.length_map, hdl]
    refine ⟨_, _, rfl, ⟨by omega, by omega, by omega, by omega⟩, for_range (lo := 1) (n := ((ms.length : Int) - 1).toNat) (fun i σ' H' => (∃ v1 v2 v3 v4, σ' = [some (.ref a), some (.ref p1), some (.ref p4), v1, v2, v3, v4]) ∧ Own H [(p4, .lst ((tl m (topsF ds (1 + i))).map V.int)), (p1, .lst (ds.map V.int))] H') ⟨⟨_, _, _, _, rfl⟩, w4⟩ ?_ ?_⟩
    · rintro i σ' H5 hi ⟨⟨v1, v2, v3, v4, rfl⟩, w5⟩
      have hg : 1 + i < 64 := by omega
      rw [show (1 : Int) + (i : Int) = ((1 + i : Nat) : Int) by omega]
      generalize hgg : 1 + i = g at *
      walk_at "x"
      refine x_ixXL (w5.sq 1 rfl) (at_int (by omega) (by omega)) ?_
      walk_at "x"
      refine ⟨g, rfl, hg, fun H6 s6 => ?_⟩
      have w6 := w5.ext s6
      have hlen := handsM_pos g hg (by omega)
      have hl6 := handsM_len g
      walk_at "x"
      refine x_divP (by omega) (Nat.lt_of_le_of_lt (Nat.log2_le_self _) (by omega)) ?_
      rw [show (60 : Int) / (((handsM g).length : Nat) : Int) = wt g from rfl]
      have hw := wt_le g
      refine x_mulI (.of_right (intBits_le_64 (by omega) (by omega))) ?_
      walk_at "x"
      refine u_hands_of hg fun p7 H7 n7 s7 c7 => ?_
      have w7 := w6.newE n7 s7 c7
      walk_at "x"
      refine ⟨_, rfl, ⟨_, w7.sq 0 rfl⟩, for_list (xs := (handsM g).map vnat) (fun j σ' H' => (∃ v3 v4, σ' = [some (.ref a), some (.ref p1), some (.ref p4), some (.int (g : Int)), some (.int (gi ds (g : Int) * wt g)), v3, v4]) ∧ Own H [(p7, .lst ((handsM g).map vnat)), (p4, .lst ((tl m (topsG ds g j)).map V.int)), (p1, .lst (ds.map V.int))] H') ⟨⟨_, _, rfl⟩, by rw [show topsG ds g 0 = topsF ds g from funext (topsG_zero ds g)]; exact w7⟩ (fun j σ' H' _ h => h.2.sq 0 rfl) ?_ ?_⟩
      · rintro j x σ' H8 hx ⟨⟨v3, v4, rfl⟩, w8⟩
        obtain ⟨z, hz, rfl⟩ := map_at hx
        have hz6 := handsM_lt (List.mem_of_getElem? hz)
        have hzm : z < m := hands_in hg ⟨hm, by omega⟩ (List.mem_of_getElem? hz)
        have hln : (tl m (topsG ds g j)).length = m := tl_len _ _
        walk_at "x"
        refine x_ixL (w8.sq 1 rfl) (at_int (by omega) (by omega)) ?_
        walk_at "x"
        refine x_setL (w8.get 1 rfl) (by rw [List.length_map]; exact ixN_int (by omega) (by omega)) ?_
        rw [map_set_int, gi_tln hzm, Int.toNat_natCast, tl_set hzm]
        have w9 := w8.put (o' := .lst ((tl m (topsG ds g (j + 1))).map V.int)) 1 rfl
        rw [show topsG ds g (j + 1) = fun h => if h = z then topsG ds g j z + fn ds g * wt g else topsG ds g j h from funext (topsG_step ds hz)] at w9
        exact ⟨⟨_, _, rfl⟩, by rw [show topsG ds g (j + 1) = fun h => if h = z then topsG ds g j z + fn ds g * wt g else topsG ds g j h from funext (topsG_step ds hz)]; exact w9⟩
      · rintro σ' H8 ⟨⟨v3, v4, rfl⟩, w8⟩
        rw [List.length_map] at w8
        refine ⟨⟨_, _, _, _, rfl⟩, ?_⟩
        rw [tl_congr fun h hh => topsG_all ds g (show h < 6 by omega), ← hgg] at w8
        exact w8.pop
    · rintro σ' H5 ⟨⟨v1, v2, v3, v4, rfl⟩, w5⟩
      rw [show 1 + ((ms.length : Int) - 1).toNat = ms.length by omega] at w5
      have hln : (tl m (topsF ds ms.length)).length = m := tl_len _ _
      have hfl : (meanFs ds ms.length m).length = m := by unfold meanFs; rw [List.length_map, List.length_range]
      walk_at "x"
      refine ⟨_, rfl, ⟨_, w5.sq 0 rfl⟩, cp_frO (xs := (tl m (topsF ds ms.length)).map V.int) (meanFs ds ms.length m) w5 0 rfl (by rw [List.length_map, hln, hfl]) ?_ ?_⟩
      · intro D i x f H6 hx hf o
        obtain ⟨y, hy, rfl⟩ := map_at hx
        have him : i < m := by have := (List.getElem?_eq_some_iff.mp hf).1; omega
        have ef : f = shortM (topsF ds ms.length i) 60 := by
          unfold meanFs at hf
          rw [List.getElem?_map, List.getElem?_range him] at hf
          exact (Option.some.inj hf).symm
        have ey : y = topsF ds ms.length i := by
          unfold tl at hy
          rw [List.getElem?_map, List.getElem?_range him] at hy
          exact (Option.some.inj hy).symm
        subst ef ey
        walk_at "x"
        refine ⟨rfl, ?_⟩
        walk_at "x"
        refine iteT ?_
        walk_at "x"
        refine u_fraction (topsF_bits hB hp.2 hC i) (by decide) fun t H7 n7 s7 c7 => ?_
        exact o.next hf (by omega) n7 s7 c7
      · intro D H6 o
        obtain ⟨ts, w6, n6, f6⟩ := o.own
        have w7 := w6.sub (ds := [(D, .lst (ts.map V.ref))]) (.cons_cons _ (.cons _ (.cons _ .slnil)))
        exact k D ts H6 (w7.none 0 rfl) (fun t m => (n6 t m).1) w7.ex (w7.get 0 rfl) f6

/-! ### _law_whole -/
def sp__law_whole : Sp := fun vs H Q _ => ∃ v, vs = [v] ∧ Thing H v ∧ RetV (.bl (isI v)) H Q
theorem ok__law_whole (T : Txt K mg A) : FnOk P w K mg base (L2.CX P w) 1 A.a__law_whole A.d__law_whole ["_law_found"] sp__law_whole := by
  refine T.F__law_whole.okX sc__law_whole (fun vs H Q E h => ?_) (fun cdv A0 outer s H vs Q E hr h => ?_)
  · obtain ⟨v, rfl, _⟩ := h; rfl
  · obtain ⟨v, rfl, hv, k⟩ := h
    refine ⟨_, (pss_one (ps_ret (pe_and (pe_callB (call_isiX (K := K) rfl) (by rfl) T.z_isinstance (by decide +kernel) (pa_cons (pv 0) (pa_cons (pe_bltn (v := .ty "int") (by rfl) T.z_int (by decide +kernel) rfl) pa_nil))) (pe_one (pe_not (pe_callB (call_isiX (K := K) rfl) (by rfl) T.z_isinstance (by decide +kernel) (pa_cons (pv 0) (pa_cons (pe_bltn (v := .ty "bool") (by rfl) T.z_bool (by decide +kernel) rfl) pa_nil)))))))), ?_⟩
    walk_at "x"
    refine x_isiInt hv ?_
    walk_at "x"
    have e : isI v = ((isI v || isB v) && !isB v) := by cases v <;> rfl
    have k' := k.go (Same.refl H)
    rw [e] at k'
    cases c : (isI v || isB v) with
    | false => rw [c, Bool.false_and] at k'; exact iteF k'
    | true =>
      rw [c, Bool.true_and] at k'
      refine iteT ?_
      walk_at "x"
      refine x_isiBool hv ?_
      walk_at "x"
      exact k'

/-! ### _law_cell -/
def sp__law_cell (K : PySem.W.Frag) : Sp := fun vs H Q _ => ∃ (a : Addr) (ns : List Int) (j : Int), vs = [.ref a, .int j] ∧ SqL K H a (ns.map V.int) ∧ ns.length ≤ 63 ∧ 0 ≤ j ∧ j < 2 ^ 20 ∧ ∀ z, RetV (.int z) H Q
theorem ok__law_cell (T : Txt K mg A) : FnOk P w K mg base (L2.CX P w) 1 A.a__law_cell A.d__law_cell ["_law_script", "_law_k"] (sp__law_cell K) := by
  refine T.F__law_cell.okX sc__law_cell (fun vs H Q E h => ?_) (fun cdv A0 outer s H vs Q E hr h => ?_)
  · obtain ⟨a, ns, j, rfl, _⟩ := h; rfl
  · obtain ⟨a, ns, j, rfl, hS, hl, h0, h1, k⟩ := h
    have k' : ∀ z, Q (.int z) H := fun z => (k z).go (Same.refl H)
    refine ⟨_, (pss_cons (ps_if (pt_cmpR op_ltX (pv 1) (pe_callB (call_lenK (K := K) rfl) (by rfl) T.z_len (by decide +kernel) (pa_cons (pv 0) pa_nil)) (nomark _)) (pss_one (ps_ret (pe_ix (ix_seqK (K := K) rfl) (pv 0) (pv 1) (fun _ _ => rfl)))) pss_nil)
      (pss_cons (ps_set (i := 2) sc__law_cell.nd rfl (.inl rfl) (pe_op op_addX (pe_op op_mulX (pe_op op_mulX (pv 1) (pv 1)) pe_int) pe_int))
      (pss_cons (ps_if (pt_cmpR op_gtX (pe_callB (call_lenK (K := K) rfl) (by rfl) T.z_len (by decide +kernel) (pa_cons (pv 0) pa_nil)) pe_int (nomark _)) (pss_one (ps_set (i := 2) sc__law_cell.nd rfl (.inl rfl) (pe_op op_addX (pv 2) (pe_op op_mulX (pe_op op_modX (pe_ix (ix_seqK (K := K) rfl) (pv 0) (pe_op op_modX (pe_op op_mulX (pv 1) pe_int) (pe_callB (call_lenK (K := K) rfl) (by rfl) T.z_len (by decide +kernel) (pa_cons (pv 0) pa_nil))) (fun _ _ => rfl)) pe_int) pe_int)))) pss_nil)
      (pss_one (ps_ret (pe_op op_modX (pe_op op_mulX (pv 2) pe_int) pe_int)))))), ?_⟩
    walk_at "x"
    refine x_lenL hS ?_
    walk_at "x"
    rw [List.length_map]
    refine ite2 (fun c => ?_) (fun c => ?_)
    · have c := of_decide_eq_true c
      walk_at "x"
      exact x_ixXL hS (at_int h0 c) (k' _)
    · walk_at "x"
      refine x_mulI (.of_left (intBits_le_64 (by omega) (by omega))) ?_
      walk_at "x"
      refine x_mulI (.of_right (by decide)) ?_
      walk_at "x"
      refine x_lenL hS ?_
      walk_at "x"
      rw [List.length_map]
      refine ite2 (fun d => ?_) (fun d => ?_)
      · have d := of_decide_eq_true d
        walk_at "x"
        refine x_mulI (.of_right (by decide)) ?_
        walk_at "x"
        refine x_lenL hS ?_
        walk_at "x"
        rw [List.length_map]
        refine x_modP d ?_
        walk_at "x"
        refine x_ixXL hS (at_int (Int.emod_nonneg _ (by omega)) (Int.emod_lt_of_pos _ d)) ?_
        walk_at "x"
        refine x_modP (by decide) ?_
        walk_at "x"
        refine x_mulI (.of_right (by decide)) ?_
        walk_at "x"
        refine x_mulI (.of_right (by decide)) ?_
        walk_at "x"
        exact x_modP (by decide) (k' _)
      · walk_at "x"
        refine x_mulI (.of_right (by decide)) ?_
        walk_at "x"
        exact x_modP (by decide) (k' _)

/-! ### _law_number -/
def sp__law_number : Sp := fun vs H Q _ => ∃ c j : Int, vs = [.int c, .int j] ∧ ∀ z, Small z → RetV (.int z) H Q
theorem ok__law_number (T : Txt K mg A) : FnOk P w K mg base (L2.CX P w) 1 A.a__law_number A.d__law_number ["_law_cell_here", "_law_way"] sp__law_number := by
  refine T.F__law_number.okX sc__law_number (fun vs H Q E h => ?_) (fun cdv A0 outer s H vs Q E hr h => ?_)
  · obtain ⟨c, j, rfl, _⟩ := h; rfl
  · obtain ⟨c, j, rfl, k⟩ := h
    have k' : ∀ z, Small z → Q (.int z) H := fun z hz => (k z hz).go (Same.refl H)
    refine ⟨_, (pss_cons (ps_if (pt_cmpR (op_eqK (K := K) rfl hr.units) (pv 1) pe_int (nomark _)) (pss_one (ps_ret (pe_op op_subX (pe_op op_modX (pv 0) pe_int) pe_int))) pss_nil)
      (pss_cons (ps_if (pt_cmpR (op_eqK (K := K) rfl hr.units) (pv 1) pe_int (nomark _)) (pss_one (ps_ret (pe_op op_subX (pe_op op_modX (pe_op op_mulX (pv 0) pe_int) (pe_op op_addX (pe_op op_mulX pe_int (pe_op op_powX pe_int pe_int)) pe_int)) (pe_op op_powX pe_int pe_int)))) pss_nil)
      (pss_cons (ps_if (pt_cmpR (op_eqK (K := K) rfl hr.units) (pv 1) pe_int (nomark _)) (pss_one (ps_ret (pe_op op_modX (pv 0) pe_int))) pss_nil)
      (pss_one (ps_ret (pe_op op_subX (pe_op op_modX (pv 0) pe_int) pe_int)))))), ?_⟩
    walk_at "x"
    refine ite2 (fun _ => ?_) (fun _ => ?_)
    · walk_at "x"
      refine x_modP (by decide) ?_
      walk_at "x"
      exact k' _ ⟨by omega, by omega⟩
    · walk_at "x"
      refine ite2 (fun _ => ?_) (fun _ => ?_)
      · walk_at "x"
        refine x_mulI (.of_right (by decide)) ?_
        walk_at "x"
        refine x_powN ⟨by decide, by decide, by decide⟩ ?_
        walk_at "x"
        refine x_mulI (.of_left (by decide)) ?_
        walk_at "x"
        have e : (2 : Int) * 10 ^ (18 : Int).toNat + 1 = 2000000000000000001 := by decide
        rw [e]
        refine x_modP (by decide) ?_
        walk_at "x"
        refine x_powN ⟨by decide, by decide, by decide⟩ ?_
        walk_at "x"
        have e2 : (10 : Int) ^ (18 : Int).toNat = 1000000000000000000 := by decide
        rw [e2]
        exact k' _ ⟨by omega, by omega⟩
      · walk_at "x"
        refine ite2 (fun _ => ?_) (fun _ => ?_)
        · walk_at "x"
          exact x_modP (by decide) (k' _ ⟨by omega, by omega⟩)
        · walk_at "x"
          refine x_modP (by decide) ?_
          walk_at "x"
          exact k' _ ⟨by omega, by omega⟩

/-! ### _law_table -/
def sp__law_table (K : PySem.W.Frag) : Sp := fun vs H Q _ => ∃ (a : Addr) (ns : List Int), vs = [.ref a] ∧ SqL K H a (ns.map V.int) ∧ ns.length ≤ 63 ∧ ∀ ms k, Tab ms k → k ≤ 4 → Bnd 200000000000000000000 ms → RetL (ms.map V.int) H Q
theorem ok__law_table (T : Txt K mg A) : FnOk P w K mg base (L2.CX P w) 2 A.a__law_table A.d__law_table ["_law_script"] (sp__law_table K) := by
  refine T.F__law_table.okX sc__law_table (fun vs H Q E h => ?_) (fun cdv A0 outer s H vs Q E hr h => ?_)
  · obtain ⟨a, ns, rfl, _⟩ := h; rfl
  · obtain ⟨a, ns, rfl, hS, hl, k⟩ := h
    refine ⟨_, (pss_cons (ps_set (i := 1) sc__law_table.nd rfl (.inl rfl) (pe_op op_modX (pe_call (ok__law_cell T) (hr.mono (by decide)) (by rfl) T.g__law_cell T.F__law_cell.kp T.b__law_cell .nil (passes_call (takes_of rfl rfl rfl rfl) (fun _ _ _ _ h => h)) (pa_cons (pv 0) (pa_cons pe_int pa_nil))) pe_int))
      (pss_cons (ps_set (i := 2) sc__law_table.nd rfl (.inl rfl) (pe_op op_shlX pe_int (pe_op op_addX pe_int (pe_op op_modX (pv 1) pe_int))))
      (pss_cons (ps_set (i := 3) sc__law_table.nd rfl (.inl rfl) (pe_lst (pa_cons pe_int (pa_cons (pe_call (ok__law_number T) (hr.mono (by decide)) (by rfl) T.g__law_number T.F__law_number.kp T.b__law_number .nil (passes_call (takes_of rfl rfl rfl rfl) (fun _ _ _ _ h => h)) (pa_cons (pe_op op_fdivX (pe_call (ok__law_cell T) (hr.mono (by decide)) (by rfl) T.g__law_cell T.F__law_cell.kp T.b__law_cell .nil (passes_call (takes_of rfl rfl rfl rfl) (fun _ _ _ _ h => h)) (pa_cons (pv 0) (pa_cons pe_int pa_nil))) pe_int) (pa_cons (pe_op op_fdivX (pv 1) pe_int) pa_nil))) pa_nil))))
      (pss_cons (ps_for (passes_of rfl) rfl (pi_range2 (by rfl) T.z_range (pa_cons pe_int (pa_cons (pv 2) pa_nil))) (pg_name (i := 4) sc__law_table.nd rfl (.inl rfl)) (pss_one (ps_expr (pe_bm PySem.F.plainAttrs_list PySem.F.slot_list_append PySem.F.type_list_append mt_append (pv 3) (pa_cons (pe_call (ok__law_number T) (hr.mono (by decide)) (by rfl) T.g__law_number T.F__law_number.kp T.b__law_number .nil (passes_call (takes_of rfl rfl rfl rfl) (fun _ _ _ _ h => h)) (pa_cons (pe_call (ok__law_cell T) (hr.mono (by decide)) (by rfl) T.g__law_cell T.F__law_cell.kp T.b__law_cell .nil (passes_call (takes_of rfl rfl rfl rfl) (fun _ _ _ _ h => h)) (pa_cons (pv 0) (pa_cons (pe_op op_subX (pv 4) pe_int) pa_nil))) (pa_cons (pe_op op_fdivX (pv 1) pe_int) pa_nil))) pa_nil)))))
      (pss_cons (ps_for (passes_of rfl) rfl (pi_range2 (by rfl) T.z_range (pa_cons (pe_op op_subX (pv 2) pe_int) (pa_cons (pe_callB (call_min2X rfl) (by rfl) T.z_min (by decide +kernel) (pa_cons (pe_callB (call_lenK (K := K) rfl) (by rfl) T.z_len (by decide +kernel) (pa_cons (pv 0) pa_nil)) (pa_cons pe_int pa_nil))) pa_nil))) (pg_name (i := 5) sc__law_table.nd rfl (.inl rfl)) (pss_one (ps_augS (pv 3) (pe_op op_addX pe_int (pe_op op_modX (pv 5) (pe_op op_subX (pv 2) pe_int))) (get_listK (K := K) rfl) (pe_call (ok__law_number T) (hr.mono (by decide)) (by rfl) T.g__law_number T.F__law_number.kp T.b__law_number .nil (passes_call (takes_of rfl rfl rfl rfl) (fun _ _ _ _ h => h)) (pa_cons (pe_ix (ix_seqK (K := K) rfl) (pv 0) (pv 5) (fun _ _ => rfl)) (pa_cons (pe_op op_fdivX (pv 1) pe_int) pa_nil))) ip_add set_list)))
      (pss_one (ps_ret (pv 3)))))))), ?_⟩
    walk_at "x"
    refine ⟨a, ns, 0, rfl, hS, hl, by decide, by decide, fun z0 H1 s1 => ?_⟩
    have w1 : Own H [] H1 := Own.start.ext s1
    walk_at "x"
    refine x_modP (by decide) ?_
    walk_at "x"
    refine x_modP (by decide) ?_
    obtain ⟨m, hm⟩ : ∃ m : Nat, (1 : Int) + z0 % 16 % 4 = (m : Int) := ⟨(1 + z0 % 16 % 4).toNat, by omega⟩
    have hm1 : 1 ≤ m ∧ m ≤ 4 := by omega
    have hp : 2 ≤ 2 ^ m ∧ 2 ^ m ≤ 64 := ⟨Nat.pow_le_pow_right (n := 2) (by decide) hm1.1, pow6 (by omega)⟩
    walk_at "x"
    refine x_shl ⟨by omega, by omega, by decide⟩ ?_
    rw [pow_toNat hm]
    walk_at "x"
    refine ⟨a, ns, 0, rfl, w1.seq hS, hl, by decide, by decide, fun z1 H2 s2 => ?_⟩
    have w2 := w1.ext s2
    walk_at "x"
    refine x_divP (by decide) (by decide) ?_
    walk_at "x"
    refine x_divP (by decide) (by decide) ?_
    walk_at "x"
    refine ⟨_, _, rfl, fun z2 hz2 H3 s3 => ?_⟩
    have w3 := w2.ext s3
    walk_at "x"
    refine ⟨by show 2 ≤ sizeLine; decide, fun p np => ?_⟩
    have w4 : Own H [(p, .lst ([0, z2].map V.int))] (upd H3 p (.lst [.int 0, .int z2])) := w3.new np
    walk_at "x"
    -- for group in range(2, size)
    refine ⟨_, _, rfl, ⟨by omega, by omega, by omega, by omega⟩, for_range (lo := 2) (n := (((2 ^ m : Nat) : Int) - 2).toNat) (fun i σ H' => ∃ (ms : List Int) (v : Option V),
      σ = [some (.ref a), some (.int (z0 % 16)), some (.int ((2 ^ m : Nat) : Int)), some (.ref p), v, none] ∧ Own H [(p, .lst (ms.map V.int))] H' ∧ ms.length = i + 2 ∧ ms[0]? = some 0 ∧ Bnd 1000000000000000000 ms)
      ⟨[0, z2], none, rfl, w4, rfl, rfl, fun y hy => by
        rcases List.mem_cons.mp hy with rfl | hy
        · exact ⟨by decide, by decide⟩
        · rw [List.mem_singleton.mp hy]; exact hz2⟩ ?_ ?_⟩
    · rintro i σ H' hi ⟨ms, v, rfl, w, hlen, hz, hb⟩
      walk_at "x"
      refine ⟨x_tyL (w.get 0 rfl), ?_⟩
      walk_at "x"
      refine ⟨a, ns, _, rfl, w.seq hS, hl, by omega, by omega, fun z5 H5 s5 => ?_⟩
      walk_at "x"
      refine x_divP (by decide) (by decide) ?_
      walk_at "x"
      refine ⟨_, _, rfl, fun z6 hz6 H6 s6 => ?_⟩
      have w6 := (w.ext s5).ext s6
      walk_at "x"
      refine x_append (w6.get 0 rfl) (by rw [List.length_map]; exact small1000 (by omega)) ?_
      rw [map_app_int]
      have w7 := w6.put (o' := .lst ((ms ++ [z6]).map V.int)) 0 rfl
      exact ⟨ms ++ [z6], _, rfl, w7, by rw [List.length_append, hlen] <;> rfl, by rw [List.getElem?_append_left (by omega)]; exact hz, hb.app hz6.1 hz6.2⟩
    · rintro σ H' ⟨ms, v, rfl, w, hlen, hz, hb⟩
      have hlm : ms.length = 2 ^ m := by omega
      walk_at "x"
      refine x_lenL (w.seq hS) ?_
      walk_at "x"
      rw [List.length_map]
      have hmn : (if (120 : Int) < (ns.length : Int) then (120 : Int) else (ns.length : Int)) = (ns.length : Int) := if_neg (by omega)
      rw [hmn]
      refine ⟨_, _, rfl, ⟨by omega, by omega, by omega, by omega⟩, for_range (lo := ((2 ^ m : Nat) : Int) - 1) (n := ((ns.length : Int) - (((2 ^ m : Nat) : Int) - 1)).toNat) (fun i σ H' => ∃ (ms : List Int) (v u : Option V),
        σ = [some (.ref a), some (.int (z0 % 16)), some (.int ((2 ^ m : Nat) : Int)), some (.ref p), v, u] ∧ Own H [(p, .lst (ms.map V.int))] H' ∧ ms.length = 2 ^ m ∧ ms[0]? = some 0 ∧ Bnd (1000000000000000000 * (i + 1)) ms)
        ⟨ms, v, none, rfl, w, hlm, hz, by simpa using hb⟩ ?_ ?_⟩
      · rintro i σ H' hi ⟨ms, v, u, rfl, w, hlen, hz, hb⟩
        walk_at "x"
        refine x_modP (by omega) ?_
        walk_at "x"
        have hr0 : 0 ≤ (((2 ^ m : Nat) : Int) - 1 + (i : Int)) % (((2 ^ m : Nat) : Int) - 1) := Int.emod_nonneg _ (by omega)
        have hr1 : (((2 ^ m : Nat) : Int) - 1 + (i : Int)) % (((2 ^ m : Nat) : Int) - 1) < ((2 ^ m : Nat) : Int) - 1 := Int.emod_lt_of_pos _ (by omega)
        refine x_ixL (w.sq 0 rfl) (at_int (i := 1 + (((2 ^ m : Nat) : Int) - 1 + (i : Int)) % (((2 ^ m : Nat) : Int) - 1)) (by omega) (by omega)) ?_
        walk_at "x"
        refine x_ixXL (w.seq hS) (at_int (by omega) (by omega)) ?_
        walk_at "x"
        refine x_divP (by decide) (by decide) ?_
        walk_at "x"
        refine ⟨_, _, rfl, fun z6 hz6 H6 s6 => ?_⟩
        have w6 := w.ext s6
        walk_at "x"
        refine x_setL (w6.get 0 rfl) (by rw [List.length_map]; exact ixN_int (by omega) (by omega)) ?_
        rw [map_set_int]
        have hb6 := Bnd.at (by omega) hb (1 + (((2 ^ m : Nat) : Int) - 1 + (i : Int)) % (((2 ^ m : Nat) : Int) - 1))
        have hz6' : -1000000000000000000 ≤ z6 ∧ z6 ≤ 1000000000000000000 := hz6
        refine ⟨_, _, _, rfl, w6.put (o' := .lst _) 0 rfl, by rw [List.length_set]; exact hlen, ?_, ?_⟩
        · rw [List.getElem?_set_ne (by omega)]; exact hz
        · exact (hb.mono (by omega)).set (by omega) (by omega)
      · rintro σ H' ⟨ms, v, u, rfl, w, hlen, hz, hb⟩
        walk_at "x"
        exact (k ms m ⟨hlen, hm1.1, by omega, hz⟩ hm1.2 (hb.mono (by omega))).go w

/-! ### _law_orders -/
def sp__law_orders (K : PySem.W.Frag) : Sp := fun vs H Q _ => ∃ m : Nat, vs = [.int (m : Int)] ∧ m ≤ 4 ∧ RetLs (ordersM m) H Q
theorem ok__law_orders (T : Txt K mg A) : FnOk P w K mg base (L2.CX P w) 1 A.a__law_orders A.d__law_orders ["_law_many"] (sp__law_orders K) := by
  refine T.F__law_orders.okX sc__law_orders (fun vs H Q E h => ?_) (fun cdv A0 outer s H vs Q E hr h => ?_)
  · obtain ⟨m, rfl, _⟩ := h; rfl
  · obtain ⟨m, rfl, hm, k⟩ := h
    have w := Own.start (H := H)
    refine ⟨_, (pss_cons (ps_set (i := 1) sc__law_orders.nd rfl (.inl rfl) (pe_lst (pa_cons (pe_lst pa_nil) pa_nil)))
      (pss_cons (ps_for (passes_of rfl) rfl (pi_range1 (by rfl) T.z_range (pa_cons (pv 0) pa_nil)) (pg_name (i := 2) sc__law_orders.nd rfl (.inl rfl)) (pss_cons (ps_set (i := 3) sc__law_orders.nd rfl (.inl rfl) (pe_lst pa_nil))
      (pss_cons (ps_for (passes_of rfl) rfl (pi_listK (K := K) rfl (pv 1)) (pg_name (i := 4) sc__law_orders.nd rfl (.inl rfl)) (pss_one (ps_for (passes_of rfl) rfl (pi_range1 (by rfl) T.z_range (pa_cons (pe_op op_addX (pv 2) pe_int) pa_nil)) (pg_name (i := 5) sc__law_orders.nd rfl (.inl rfl)) (pss_one (ps_expr (pe_bm PySem.F.plainAttrs_list PySem.F.slot_list_append PySem.F.type_list_append mt_append (pv 3) (pa_cons (pe_op op_addX (pe_op op_addX (pe_slice (sl_listK (K := K) rfl) (pv 4) po_none (po_some (pv 5))) (pe_lst (pa_cons (pv 2) pa_nil))) (pe_slice (sl_listK (K := K) rfl) (pv 4) (po_some (pv 5)) po_none)) pa_nil)))))))
      (pss_one (ps_set (i := 1) sc__law_orders.nd rfl (.inl rfl) (pv 3))))))
      (pss_one (ps_ret (pv 1))))), ?_⟩
    walk_at "x"
    refine ⟨Nat.zero_le _, fun t0 n0 => ?_⟩
    have w0 := w.new (o := .lst ([].map vnat)) n0
    refine ⟨(by show 1 ≤ sizeLine; decide), fun p1 n1 => ?_⟩
    have w1 := w0.freeze.new (o := .lst ([t0].map V.ref)) n1
    walk_at "x"
    refine ⟨_, rfl, by omega, by omega, for_r0 (fun i σ' H' => ∃ (B : Hp) (p : Addr) (ts : List Addr), Same H B ∧ (∀ t ∈ ts, H t = none) ∧ LsAll B ts (ordersM i) ∧ Own B [(p, .lst (ts.map V.ref))] H' ∧ ∃ v1 v2 v3 v4, σ' = [some (.int (m : Int)), some (.ref p), v1, v2, v3, v4]) ⟨_, p1, [t0], same_upd n0, fun t ht => by rw [List.mem_singleton] at ht; subst ht; exact n0, .cons upd_same .nil, w1, _, _, _, _, rfl⟩ ?_ ?_⟩
    · rintro i σ' H2 hi ⟨B, p, ts, sB, nts, hL, w2, v1, v2, v3, v4, rfl⟩
      have hi5 : i < 5 := by omega
      walk_at "x"
      refine ⟨Nat.zero_le _, fun pl nl => ?_⟩
      have w3 := w2.new (o := .lst ([].map V.ref)) nl
      walk_at "x"
      refine ⟨_, rfl, ⟨_, w3.sq 1 rfl⟩, for_list (xs := ts.map V.ref) (fun j σ' H' => ∃ (B' : Hp) (us : List Addr), Same B B' ∧ (∀ t ∈ us, H t = none) ∧ LsAll B' us (insTo i (ordersM i) j) ∧ Own B' [(pl, .lst (us.map V.ref)), (p, .lst (ts.map V.ref))] H' ∧ ∃ v3 v4, σ' = [some (.int (m : Int)), some (.ref p), some (.int (i : Int)), some (.ref pl), v3, v4]) ⟨B, [], Same.refl B, (fun _ h => nomatch h), .nil, w3, _, _, rfl⟩ (fun j σ' H' _ h => by obtain ⟨_, _, _, _, _, w, _⟩ := h; exact w.sq 1 rfl) ?_ ?_⟩
      · rintro j x σ' H4 hx ⟨B4, us, sB4, nus, hU, w4, v3, v4, rfl⟩
        obtain ⟨t, ht, rfl⟩ : ∃ t, ts[j]? = some t ∧ x = .ref t := by
          rw [List.getElem?_map] at hx
          cases e : ts[j]? with
          | none => rw [e] at hx; cases hx
          | some t => rw [e] at hx; exact ⟨t, rfl, (Option.some.inj hx).symm⟩
        obtain ⟨l, hl, hlB⟩ := hL.at ht
        have hll : l.length = i := by
          have := List.all_eq_true.mp (orders_perm i hi5) l (List.mem_of_getElem? hl)
          rw [Bool.and_eq_true, decide_eq_true_eq] at this
          exact this.1
        walk_at "x"
        refine ⟨_, rfl, by omega, by omega, for_r0 (fun k' σ' H' => ∃ (B' : Hp) (us : List Addr), Same B B' ∧ (∀ t ∈ us, H t = none) ∧ LsAll B' us (insTo2 i (ordersM i) j l k') ∧ Own B' [(pl, .lst (us.map V.ref)), (p, .lst (ts.map V.ref))] H' ∧ ∃ v4, σ' = [some (.int (m : Int)), some (.ref p), some (.int (i : Int)), some (.ref pl), some (.ref t), v4]) ⟨B4, us, sB4, nus, by rw [insTo2_zero]; exact hU, w4, _, rfl⟩ ?_ ?_⟩
        · rintro c σ' H5 hc ⟨B5, us5, sB5, nus5, hU5, w5, v4, rfl⟩
          have hc : c ≤ i := by omega
          have hSt : SqL K B5 t (l.map vnat) := SqL.of (sB5 _ _ hlB)
          have hulen : us5.length ≤ 1000 := by
            have h1 := hU5.len
            have h2 := insTo2_le (h := i) (ls := ordersM i) (j := j) (l := l) (i := c) (orders_len i hi5).1 (by omega) (by omega)
            omega
          walk_at "x"
          refine ⟨x_tyL (w5.get 0 rfl), ?_⟩
          walk_at "x"
          refine ⟨t, _, rfl, w5.seq hSt, fun p6 n6 => ?_⟩
          rw [cut_to]
          have w6 := w5.new (o := .lst ((l.map vnat).take c)) n6
          walk_at "x"
          refine ⟨(by show 1 ≤ sizeLine; decide), fun p7 n7 => ?_⟩
          have w7 := w6.new (o := .lst [vnat i]) n7
          refine x_addL (.inl (w7.get 1 rfl)) (.inl (w7.get 0 rfl)) ?_ (fun p8 n8 => ?_)
          · rw [List.length_take, List.length_map]
            exact Nat.le_trans (show min c l.length + 1 ≤ 5 by omega) (by decide)
          have w8 := w7.new (o := .lst ((l.map vnat).take c ++ [vnat i])) n8
          walk_at "x"
          refine ⟨t, _, rfl, w8.seq hSt, fun p9 n9 => ?_⟩
          rw [cut_from]
          have w9 := w8.new (o := .lst ((l.map vnat).drop c)) n9
          refine x_addL (.inl (w9.get 1 rfl)) (.inl (w9.get 0 rfl)) ?_ (fun p10 n10 => ?_)
          · rw [List.length_append, List.length_take, List.length_drop, List.length_map]
            exact Nat.le_trans (show min c l.length + 1 + (l.length - c) ≤ 9 by omega) (by decide)
          have e10 : (l.map vnat).take c ++ [vnat i] ++ (l.map vnat).drop c = (l.take c ++ [i] ++ l.drop c).map vnat := by
            rw [List.map_append, List.map_append, List.map_take, List.map_drop] <;> rfl
          rw [e10]
          have w10 := w9.new (o := .lst ((l.take c ++ [i] ++ l.drop c).map vnat)) n10
          have w11 := w10.freeze.sub (ds := [(pl, .lst (us5.map V.ref)), (p, .lst (ts.map V.ref))]) (.cons _ (.cons _ (.cons _ (.cons _ (.cons_cons _ (.cons_cons _ .slnil))))))
          have n10' : B5 p10 = none := w9.fresh n10
          walk_at "x"
          refine x_append (w11.get 0 rfl) (by rw [List.length_map]; exact small1000 (by omega)) ?_
          have w12 := w11.put (o' := .lst (us5.map V.ref ++ [.ref p10])) 0 rfl
          rw [show us5.map V.ref ++ [.ref p10] = (us5 ++ [p10]).map V.ref by rw [List.map_append] <;> rfl] at w12 ⊢
          refine ⟨_, us5 ++ [p10], sB5.trans (same_upd n10'), fun t ht => ?_, ?_, w12, _, rfl⟩
          · rcases List.mem_append.mp ht with ht | ht
            · exact nus5 t ht
            · rw [List.mem_singleton] at ht
              subst ht
              exact (sB.trans sB5).free n10'
          · rw [insTo2_succ]
            exact (hU5.same (same_upd n10')).snoc upd_same
        · rintro σ' H5 ⟨B5, us5, sB5, nus5, hU5, w5, v4, rfl⟩
          walk_at "x"
          rw [show ((i : Int) + 1).toNat = i + 1 by omega, insTo2_all hl] at hU5
          exact ⟨B5, us5, sB5, nus5, hU5, w5, _, _, rfl⟩
      · rintro σ' H4 ⟨B4, us, sB4, nus, hU, w4, v3, v4, rfl⟩
        rw [List.length_map, hL.len, insTo_all] at hU
        walk_at "x"
        exact ⟨B4, pl, us, sB.trans sB4, nus, hU, w4.sub (.cons_cons _ (.cons _ .slnil)), _, _, _, _, rfl⟩
    · rintro σ' H2 ⟨B, p, ts, sB, nts, hL, w2, v1, v2, v3, v4, rfl⟩
      rw [Int.toNat_natCast] at hL
      walk_at "x"
      have np := w2.none 0 rfl
      refine k p ts H2 (sB.free np) nts (sB.trans w2.ex) (w2.get 0 rfl) (hL.same w2.ex) fun hm => ?_
      obtain ⟨l, hl⟩ := hL.mem p hm
      rw [np] at hl; cases hl

/-! ### _law_sums -/
def sp__law_sums (K : PySem.W.Frag) : Sp := fun vs H Q _ => ∃ (a b : Addr) (ms : List Int) (m : Nat) (ts : List Addr), vs = [.ref a, .ref b] ∧ SqL K H a (ms.map V.int) ∧ Tab ms m ∧ m ≤ 4 ∧ SqL K H b (ts.map V.ref) ∧ LsAll H ts (ordersM m) ∧ RetL ((tl m fun h => ev (fn ms) (addAll (ordersM m) h)).map V.int) H Q
theorem ok__law_sums (T : Txt K mg A) : FnOk P w K mg base (L2.CX P w) 1 A.a__law_sums A.d__law_sums ["_law_table_here", "_law_orders_here"] (sp__law_sums K) := by
  refine T.F__law_sums.okX sc__law_sums (fun vs H Q E h => ?_) (fun cdv A0 outer s H vs Q E hr h => ?_)
  · obtain ⟨a, b, ms, m, ts, rfl, _⟩ := h; rfl
  · obtain ⟨a, b, ms, m, ts, rfl, hS, tb, hm, hO, hL, k⟩ := h
    have hp := tb.pos
    have ht := tb.len
    have w := Own.start (H := H)
    have ol := orders_len m (by omega)
    have facts : ∀ l, l ∈ ordersM m → l.length = m ∧ (∀ z ∈ l, z < m) ∧ ∀ j, j ≤ m → ahead l j < 2 ^ m := fun l hl => by
      have h1 := List.all_eq_true.mp (orders_perm m (by omega)) l hl
      have h2 := List.all_eq_true.mp (ahead_lt m (by omega)) l hl
      rw [Bool.and_eq_true, decide_eq_true_eq] at h1
      exact ⟨h1.1, fun z hz => of_decide_eq_true (List.all_eq_true.mp h1.2 z hz), fun j hj => of_decide_eq_true (List.all_eq_true.mp h2 j (List.mem_range.mpr (by omega)))⟩
    refine ⟨_, (pss_cons (ps_set (i := 2) sc__law_sums.nd rfl (.inl rfl) (pe_op op_mulX (pe_lst (pa_cons pe_int pa_nil)) (pe_callB (call_lenK (K := K) rfl) (by rfl) T.z_len (by decide +kernel) (pa_cons (pe_ix (ix_seqK (K := K) rfl) (pv 1) pe_int (fun _ _ => rfl)) pa_nil))))
      (pss_cons (ps_for (passes_of rfl) rfl (pi_listK (K := K) rfl (pv 1)) (pg_name (i := 3) sc__law_sums.nd rfl (.inl rfl)) (pss_cons (ps_set (i := 4) sc__law_sums.nd rfl (.inl rfl) pe_int)
      (pss_one (ps_for (passes_of rfl) rfl (pi_listK (K := K) rfl (pv 3)) (pg_name (i := 5) sc__law_sums.nd rfl (.inl rfl)) (pss_cons (ps_set (i := 6) sc__law_sums.nd rfl (.inl rfl) (pe_ix (ix_seqK (K := K) rfl) (pv 0) (pv 4) (fun _ _ => rfl)))
      (pss_cons (ps_set (i := 4) sc__law_sums.nd rfl (.inl rfl) (pe_op op_addX (pv 4) (pe_op op_shlX pe_int (pv 5))))
      (pss_one (ps_augS (pv 2) (pv 5) (get_listK (K := K) rfl) (pe_op op_subX (pe_ix (ix_seqK (K := K) rfl) (pv 0) (pv 4) (fun _ _ => rfl)) (pv 6)) ip_add set_list))))))))
      (pss_one (ps_ret (pv 2))))), ?_⟩
    walk_at "x"
    refine ⟨(by show 1 ≤ sizeLine; decide), fun p1 n1 => ?_⟩
    have w1 := w.new (o := .lst [.int 0]) n1
    walk_at "x"
    obtain ⟨t0, ht0⟩ : ∃ t0, ts[0]? = some t0 := ⟨ts[0]'(by rw [hL.len]; exact ol.2), List.getElem?_eq_getElem _⟩
    obtain ⟨l0, hl0, hb0⟩ := hL.at ht0
    refine x_ixXL (w1.seq hO) (v := .ref t0) (atI_nat (j := 0) (by rw [List.getElem?_map, ht0] <;> rfl)) ?_
    walk_at "x"
    refine x_lenL (w1.seq (SqL.of hb0)) ?_
    walk_at "x"
    rw [List.length_map, (facts l0 (List.mem_of_getElem? hl0)).1]
    refine x_mulL (w1.get 0 rfl) ⟨by omega, by omega, ?_⟩ (fun p4 n4 => ?_)
    · rw [Int.toNat_natCast]
      exact Nat.le_trans (show [V.int 0].length * m ≤ 6 by rw [List.length_singleton]; omega) (by decide)
    have e0 : (List.replicate (m : Int).toNat [V.int 0]).flatten = (tl m fun h => ev (fn ms) (addAll ((ordersM m).take 0) h)).map V.int := by
      rw [Int.toNat_natCast, rep_flat]
      congr 1
      exact rep_tl fun h hh => rfl
    rw [e0]
    have w4 := w1.new (o := .lst ((tl m fun h => ev (fn ms) (addAll ((ordersM m).take 0) h)).map V.int)) n4
    have w4 := w4.sub (ds := [(p4, .lst ((tl m fun h => ev (fn ms) (addAll ((ordersM m).take 0) h)).map V.int))]) (.cons_cons _ (.cons _ .slnil))
    walk_at "x"
    refine ⟨_, rfl, ⟨_, w4.seq hO⟩, for_list (xs := ts.map V.ref) (fun i σ' H' => (∃ v1 v2 v3 v4, σ' = [some (.ref a), some (.ref b), some (.ref p4), v1, v2, v3, v4]) ∧ Own H [(p4, .lst ((tl m fun h => ev (fn ms) (addAll ((ordersM m).take i) h)).map V.int))] H') ⟨⟨_, _, _, _, rfl⟩, w4⟩ (fun i σ' H' _ h => h.2.seq hO) ?_ ?_⟩
    · rintro i x σ' H5 hx ⟨⟨v1, v2, v3, v4, rfl⟩, w5⟩
      obtain ⟨t, ht', rfl⟩ : ∃ t, ts[i]? = some t ∧ x = .ref t := by
        rw [List.getElem?_map] at hx
        cases e : ts[i]? with
        | none => rw [e] at hx; cases hx
        | some t => rw [e] at hx; exact ⟨t, rfl, (Option.some.inj hx).symm⟩
      obtain ⟨l, hl, hlB⟩ := hL.at ht'
      obtain ⟨fl, fz, fa⟩ := facts l (List.mem_of_getElem? hl)
      have hSt : SqL K H t (l.map vnat) := SqL.of hlB
      walk_at "x"
      refine ⟨_, rfl, ⟨_, w5.seq hSt⟩, for_list (xs := l.map vnat) (fun j σ' H' => (∃ v3 v4, σ' = [some (.ref a), some (.ref b), some (.ref p4), some (.ref t), some (.int ((ahead l j : Nat) : Int)), v3, v4]) ∧ Own H [(p4, .lst ((tl m fun h => ev (fn ms) (addAll ((ordersM m).take i) h) + ev (fn ms) (addTo l j h)).map V.int))] H') ⟨⟨_, _, rfl⟩, by rw [show (fun h => ev (fn ms) (addAll ((ordersM m).take i) h) + ev (fn ms) (addTo l 0 h)) = fun h => ev (fn ms) (addAll ((ordersM m).take i) h) from funext fun h => Int.add_zero _]; exact w5⟩ (fun i σ' H' _ h => h.2.seq hSt) ?_ ?_⟩
      · rintro j x σ' H6 hx ⟨⟨v3, v4, rfl⟩, w6⟩
        obtain ⟨z, hz, rfl⟩ := map_at hx
        have hj := (List.getElem?_eq_some_iff.mp hz).1
        have hzm := fz z (List.mem_of_getElem? hz)
        have a1 := fa j (by omega)
        have a2 := fa (j + 1) (by omega)
        have ea := ahead_succ hz
        walk_at "x"
        refine x_ixXL (w6.seq hS) (at_int (by omega) (by omega)) ?_
        walk_at "x"
        refine x_shl ⟨by omega, by omega, by decide⟩ ?_
        rw [shl_nat]
        walk_at "x"
        rw [show ((ahead l j : Nat) : Int) + ((2 ^ z : Nat) : Int) = ((ahead l (j + 1) : Nat) : Int) by rw [ea]; omega]
        have hln : (tl m fun h => ev (fn ms) (addAll ((ordersM m).take i) h) + ev (fn ms) (addTo l j h)).length = m := tl_len _ _
        refine x_ixL (w6.sq 0 rfl) (at_int (by omega) (by omega)) ?_
        walk_at "x"
        refine x_ixXL (w6.seq hS) (at_int (by omega) (by omega)) ?_
        walk_at "x"
        refine x_setL (w6.get 0 rfl) (by rw [List.length_map]; exact ixN_int (by omega) (by omega)) ?_
        rw [map_set_int, gi_tln hzm, Int.toNat_natCast, tl_set hzm]
        have ef : (fun h => if h = z then ev (fn ms) (addAll ((ordersM m).take i) z) + ev (fn ms) (addTo l j z) + (gi ms ((ahead l (j + 1) : Nat) : Int) - gi ms ((ahead l j : Nat) : Int)) else ev (fn ms) (addAll ((ordersM m).take i) h) + ev (fn ms) (addTo l j h)) = fun h => ev (fn ms) (addAll ((ordersM m).take i) h) + ev (fn ms) (addTo l (j + 1) h) := funext fun h => by
          rw [addTo_succ hz]
          by_cases e : h = z
          · subst e
            rw [if_pos rfl, if_pos rfl]
            show _ + (fn ms (ahead l (j + 1)) - fn ms (ahead l j)) = _
            omega
          · rw [if_neg e, if_neg e]; omega
        rw [ef]
        have w7 := w6.put (o' := .lst ((tl m fun h => ev (fn ms) (addAll ((ordersM m).take i) h) + ev (fn ms) (addTo l (j + 1) h)).map V.int)) 0 rfl
        exact ⟨⟨_, _, rfl⟩, w7⟩
      · rintro σ' H6 ⟨⟨v3, v4, rfl⟩, w6⟩
        rw [List.length_map] at w6
        refine ⟨⟨_, _, _, _, rfl⟩, ?_⟩
        rw [show (fun h => ev (fn ms) (addAll ((ordersM m).take i) h) + ev (fn ms) (addTo l l.length h)) = fun h => ev (fn ms) (addAll ((ordersM m).take (i + 1)) h) from funext fun h => (addAll_succ hl (fn ms) h).symm] at w6
        exact w6
    · rintro σ' H5 ⟨⟨v1, v2, v3, v4, rfl⟩, w5⟩
      rw [List.length_map, hL.len, List.take_length] at w5
      walk_at "x"
      exact k.go w5

/-! ### _law_lowest -/
def sp__law_lowest : Sp := fun vs H Q _ => ∃ (a b : Int) (B : Nat), vs = [.int a, .int b] ∧ Bits B a b ∧ 0 < b ∧ RetT (frV (shortM a b)) H Q
theorem ok__law_lowest (T : Txt K mg A) : FnOk P w K mg base (L2.CX P w) 1 A.a__law_lowest A.d__law_lowest ["_law_top", "_law_bottom"] sp__law_lowest := by
  refine T.F__law_lowest.okX sc__law_lowest (fun vs H Q E h => ?_) (fun cdv A0 outer s H vs Q E hr h => ?_)
  · obtain ⟨a, b, B, rfl, _⟩ := h; rfl
  · obtain ⟨a, b, B, rfl, hB, h0, k⟩ := h
    have w := Own.start (H := H)
    have hg : 0 < gcdI a b := by have := gcd_pos (a := a) (show b ≠ 0 by omega); unfold gcdI; omega
    have hl := gcd_log (show b ≠ 0 by omega) hB
    refine ⟨_, (pss_cons (ps_set (i := 2) sc__law_lowest.nd rfl (.inl rfl) (pe_callB call_absX (by rfl) T.z_abs (by decide +kernel) (pa_cons (pv 0) pa_nil)))
      (pss_cons (ps_set (i := 3) sc__law_lowest.nd rfl (.inl rfl) (pv 1))
      (pss_cons (ps_while (passes_of rfl) (pt_cmpR op_gtX (pv 3) pe_int (nomark _)) (pss_one (ps_par (i := 2) (j := 3) rfl sc__law_lowest.nd rfl rfl (by decide) rfl rfl (pa_cons (pv 3) (pa_cons (pe_op op_modX (pv 2) (pv 3)) pa_nil)) (by rfl))))
      (pss_one (ps_ret (pe_tup (pa_cons (pe_op op_fdivX (pv 0) (pv 2)) (pa_cons (pe_op op_fdivX (pv 1) (pv 2)) pa_nil)))))))), ?_⟩
    walk_at "x"
    rw [abs_nat]
    refine x_while (fun m σ' H' => ∃ (x y : Nat), σ' = [some (.int a), some (.int b), some (.int (x : Int)), some (.int (y : Int))] ∧ Own H [] H' ∧ m = y ∧ Nat.gcd x y = Int.gcd a b) b.toNat ⟨a.natAbs, b.toNat, by rw [Int.toNat_of_nonneg (by omega)] <;> rfl, w, rfl, by rw [show b.toNat = b.natAbs by omega] <;> rfl⟩ ?_
    rintro m σ' H' ⟨x, y, rfl, w2, rfl, hgc⟩
    walk_at "x"
    cases m with
    | zero =>
      rw [decide_eq_false (by omega)]
      refine iteF ?_
      have e : (x : Int) = gcdI a b := by unfold gcdI; rw [← hgc, Nat.gcd_zero_right]
      rw [e]
      walk_at "x"
      refine x_divP hg hl ?_
      walk_at "x"
      refine x_divP hg hl ?_
      refine ⟨(by show 2 ≤ sizeLine; decide), fun p np => ?_⟩
      unfold shortM at k
      rw [if_pos h0] at k
      exact k.go (w2.new (o := .tup [.int (a / gcdI a b), .int (b / gcdI a b)]) np)
    | succ m =>
      rw [decide_eq_true (by omega)]
      refine iteT ?_
      refine x_N ?_
      walk_at "x"
      refine x_modP (by omega) ?_
      rw [show (x : Int) % ((m + 1 : Nat) : Int) = ((x % (m + 1) : Nat) : Int) from rfl]
      exact ⟨_, _, rfl, _, Nat.mod_lt x (Nat.succ_pos m), m + 1, x % (m + 1), rfl, w2, rfl, by rw [gcd_step, hgc]⟩

/-! ### _law_alike -/
theorem sums_short {ms : List Int} {m C : Nat} (tb : Tab ms m) (hm : m ≤ 4) (hB : Bdd C (fn (tl ms.length (allD m (fn ms))))) (hC : C + 40 ≤ 9000) {h : Nat} (hh : h < m) :
    Bits (C + 24) (ev (fn ms) (addAll (ordersM m) h)) (((ordersM m).length : Nat) : Int) ∧ shortM (ev (fn ms) (addAll (ordersM m) h)) (((ordersM m).length : Nat) : Int) = shortM (topsF (tl ms.length (allD m (fn ms))) ms.length h) 60 := by
  have hp := tb.pos
  have ol := orders_len m (by omega)
  have he := ev_same (List.all_eq_true.mp (mean_orders m (by omega)) h (List.mem_range.mpr hh)) (fn ms)
  rw [ev_scl, ev_scl, ← tops_lin (fn ms) m h (ds := tl ms.length (allD m (fn ms))) fun g hg => by unfold fn; exact gi_tln (by rw [tb.len]; exact hg)] at he
  have hb := topsF_bits hB (n := ms.length) hp.2 (by omega) h
  rw [← tb.len] at he
  refine ⟨⟨by omega, ?_, ?_⟩, short_eq (by omega) (by decide) ?_⟩
  · obtain ⟨_, h2, _⟩ := hb
    have h3 : (60 * ev (fn ms) (addAll (ordersM m) h)).natAbs = (((ordersM m).length : Nat) : Int).natAbs * (topsF (tl ms.length (allD m (fn ms))) ms.length h).natAbs := by rw [← he, Int.natAbs_mul]
    rw [Int.natAbs_mul, Int.natAbs_natCast] at h3
    have h4 : (ordersM m).length * (topsF (tl ms.length (allD m (fn ms))) ms.length h).natAbs ≤ 24 * (topsF (tl ms.length (allD m (fn ms))) ms.length h).natAbs := Nat.mul_le_mul_right _ ol.1
    have h5 : 2 ^ (C + 24) = 2 ^ (C + 18) * 64 := by rw [show C + 24 = C + 18 + 6 by omega, Nat.pow_add]
    have h6 : (60 : Int).natAbs = 60 := rfl
    rw [h6] at h3
    omega
  · rw [Int.natAbs_natCast]
    have : 2 ^ 24 ≤ 2 ^ (C + 24) := Nat.pow_le_pow_right (by decide) (by omega)
    omega
  · rw [Int.mul_comm, ← he, Int.mul_comm]
def sp__law_alike (K : PySem.W.Frag) : Sp := fun vs H Q _ => ∃ (p q : Addr) (ts : List Addr) (ms : List Int) (m C : Nat), vs = [.ref p, .ref q] ∧ Rd H p (.lst (ts.map V.ref)) ∧ FrAll H ts (meanFs (tl ms.length (allD m (fn ms))) ms.length m) ∧ SqL K H q (ms.map V.int) ∧ Tab ms m ∧ m ≤ 4 ∧ Bdd C (fn (tl ms.length (allD m (fn ms)))) ∧ C + 40 ≤ 9000 ∧ RetV (.bl true) H Q
theorem ok__law_alike (T : Txt K mg A) : FnOk P w K mg base (L2.CX P w) 2 A.a__law_alike A.d__law_alike ["_law_found", "_law_table_here"] (sp__law_alike K) := by
  refine T.F__law_alike.okX sc__law_alike (fun vs H Q E h => ?_) (fun cdv A0 outer s H vs Q E hr h => ?_)
  · obtain ⟨p, q, ts, ms, m, C, rfl, _⟩ := h; rfl
  · obtain ⟨p, q, ts, ms, m, C, rfl, hR, f1, hS, tb, hm, hB, hC, k⟩ := h
    have hp2 := tb.pos
    have hm6 := tb.hi
    have ht := tb.len
    have w := Own.start (H := H)
    have short := fun h (hh : h < m) => sums_short tb hm hB hC hh
    have ol := orders_len m (by omega)
    have efs : meanFs (tl ms.length (allD m (fn ms))) ms.length m = (List.range m).map fun h => shortM (ev (fn ms) (addAll (ordersM m) h)) (((ordersM m).length : Nat) : Int) := List.map_congr_left fun h hh => ((short h (List.mem_range.mp hh)).2).symm
    rw [efs] at f1
    have hfl : ((List.range m).map fun h => shortM (ev (fn ms) (addAll (ordersM m) h)) (((ordersM m).length : Nat) : Int)).length = m := by rw [List.length_map, List.length_range]
    refine ⟨_, (pss_cons (ps_set (i := 2) sc__law_alike.nd rfl (.inl rfl) (pe_callB (call_lenK (K := K) rfl) (by rfl) T.z_len (by decide +kernel) (pa_cons (pe_lc (own := [("_law_k", 6)]) rfl sc__law_alike.nd (pi_range1 (by rfl) T.z_range (pa_cons pe_int pa_nil)) (blkOk_by (own := [("_law_k", 6)]) (N := N__law_alike) (sc := defScope s__law_alike) (by decide +kernel)) (fun _ _ _ _ _ => (pg_name (i := 6) sc__law_alike.nd rfl (.inl rfl))) (fun _ _ _ _ _ => (pts_one (pt_cmpR op_ltX (pe_op op_shlX pe_int (pv 6)) (pe_callB (call_lenK (K := K) rfl) (by rfl) T.z_len (by decide +kernel) (pa_cons (pv 1) pa_nil)) (nomark _)))) (fun _ _ _ _ _ => (pv 6))) pa_nil)))
      (pss_cons (ps_set (i := 3) sc__law_alike.nd rfl (.inr rfl) (pe_call (ok__law_orders T) (hr.mono (by decide)) (by rfl) T.g__law_orders T.F__law_orders.kp T.b__law_orders .nil (passes_call (takes_of rfl rfl rfl rfl) (fun _ _ _ _ h => h)) (pa_cons (pv 2) pa_nil)))
      (pss_cons (ps_setLc (i := 4) (own := [("_law_top", 7)]) rfl sc__law_alike.nd rfl rfl (sw_true rfl rfl rfl (by decide +kernel)) (pi_listK (K := K) rfl (pe_call (ok__law_sums T) (hr.mono (by decide)) (by rfl) T.g__law_sums T.F__law_sums.kp T.b__law_sums .nil (passes_call (takes_of rfl rfl rfl rfl) (fun _ _ _ _ h => h)) (pa_cons (pv 1) (pa_cons (pv 3) pa_nil)))) (blkOk_by (own := [("_law_top", 7)]) (N := N__law_alike) (sc := defScope s__law_alike) (by decide +kernel)) (fun _ _ _ _ _ => (pg_name (i := 7) sc__law_alike.nd rfl (.inl rfl))) (fun _ _ _ _ _ => pts_nil) (fun _ _ _ _ _ => (pe_call (ok__law_lowest T) (hr.mono (by decide)) (by rfl) T.g__law_lowest T.F__law_lowest.kp T.b__law_lowest .nil passL (pa_cons (pv 7) (pa_cons (pe_callB (call_lenK (K := K) rfl) (by rfl) T.z_len (by decide +kernel) (pa_cons (pv 3) pa_nil)) pa_nil)))))
      (pss_cons (ps_if (PW.pt (pw_or (pt_not (pt_val (pe_callB (call_isiX (K := K) rfl) (by rfl) T.z_isinstance (by decide +kernel) (pa_cons (pv 0) (pa_cons (pe_bltn (v := .ty "list") (by rfl) T.z_list (by decide +kernel) rfl) pa_nil))))) (pw_or1 (pt_cmpR (op_neK (K := K) rfl hr.units) (pe_callB (call_lenK (K := K) rfl) (by rfl) T.z_len (by decide +kernel) (pa_cons (pv 0) pa_nil)) (pv 2) (nomark _))))) (pss_one (ps_ret pe_bl)) pss_nil)
      (pss_cons (ps_for (passes_of rfl) rfl (pi_listK (K := K) rfl (pv 0)) (pg_name (i := 5) sc__law_alike.nd rfl (.inl rfl)) (pss_one (ps_if (PW.pt (pw_or (pt_not (pt_val (pe_callB (call_isiX (K := K) rfl) (by rfl) T.z_isinstance (by decide +kernel) (pa_cons (pv 5) (pa_cons (pe_bltn (v := .ty "tuple") (by rfl) T.z_tuple (by decide +kernel) rfl) pa_nil))))) (pw_or (pt_cmpR (op_neK (K := K) rfl hr.units) (pe_callB (call_lenK (K := K) rfl) (by rfl) T.z_len (by decide +kernel) (pa_cons (pv 5) pa_nil)) pe_int (nomark _)) (pw_or (pt_not (pt_val (pe_call (ok__law_whole T) (hr.mono (by decide)) (by rfl) T.g__law_whole T.F__law_whole.kp T.b__law_whole .nil (passes_call (takes_of rfl rfl rfl rfl) (fun _ _ _ _ h => h)) (pa_cons (pe_ix (ix_seqK (K := K) rfl) (pv 5) pe_int (fun _ _ => rfl)) pa_nil)))) (pw_or1 (pt_not (pt_val (pe_call (ok__law_whole T) (hr.mono (by decide)) (by rfl) T.g__law_whole T.F__law_whole.kp T.b__law_whole .nil (passes_call (takes_of rfl rfl rfl rfl) (fun _ _ _ _ h => h)) (pa_cons (pe_ix (ix_seqK (K := K) rfl) (pv 5) pe_int (fun _ _ => rfl)) pa_nil))))))))) (pss_one (ps_ret pe_bl)) pss_nil)))
      (pss_one (ps_ret (pe_cmpR (op_eqK (K := K) rfl hr.units) (pv 0) (pv 4) (nomark _))))))))), ?_⟩
    walk_at "x"
    refine ⟨_, rfl, by decide, by decide, cp_r0 (n := 4) (fun i => ((List.range i).filter fun k => decide (2 ^ k < 2 ^ m)).map vnat) w rfl ?_ ?_⟩
    · intro D i H' hi p
      walk_at "x"
      refine ⟨rfl, ?_⟩
      walk_at "x"
      refine x_shl ⟨by omega, by omega, by decide⟩ ?_
      rw [shl_nat]
      walk_at "x"
      refine x_lenL (Own.seq p hS) ?_
      walk_at "x"
      rw [List.length_map, show decide (((2 ^ i : Nat) : Int) < (ms.length : Int)) = decide (2 ^ i < 2 ^ m) by rw [ht]; exact decide_eq_decide.mpr Int.ofNat_lt]
      cases c : decide (2 ^ i < 2 ^ m) with
      | true =>
        refine iteT ?_
        walk_at "x"
        exact cp_fin p (filter_yes (p := fun k => decide (2 ^ k < 2 ^ m)) c _) (by rw [List.length_map]; have := filter_len (fun k => decide (2 ^ k < 2 ^ m)) i; omega)
      | false => exact iteF (cp_no p (filter_no (p := fun k => decide (2 ^ k < 2 ^ m)) c _))
    intro D H2 w2
    rw [show (List.range (4 : Int).toNat).filter (fun k => decide (2 ^ k < 2 ^ m)) = List.range m from (by decide +kernel : ∀ m, m < 5 → (List.range 4).filter (fun k => decide (2 ^ k < 2 ^ m)) = List.range m) m (by omega)] at w2
    walk_at "x"
    refine x_lenL (w2.sq 0 rfl) ?_
    walk_at "x"
    rw [List.length_map, List.length_range]
    refine ⟨m, rfl, hm, fun p3 t3 H3 n3 m3 s3 c3 l3 np3 => ?_⟩
    obtain ⟨B3, b3, l3, w3⟩ := own_newL w2 n3 m3 np3 s3 c3 l3
    walk_at "x"
    refine ⟨q, p3, ms, m, t3, rfl, w3.seq (b3.seq hS), tb, hm, w3.sq 0 rfl, l3.same w3.ex, fun p4 H4 n4 s4 c4 => ?_⟩
    have w4 := w3.newE n4 s4 c4
    walk_at "x"
    refine ⟨_, rfl, ⟨_, w4.sq 0 rfl⟩, cp_frO (xs := (tl m fun h => ev (fn ms) (addAll (ordersM m) h)).map V.int) ((List.range m).map fun h => shortM (ev (fn ms) (addAll (ordersM m) h)) (((ordersM m).length : Nat) : Int)) w4 0 rfl (by rw [List.length_map, tl_len, hfl]) ?_ ?_⟩
    · intro D i x f H6 hx hf o
      obtain ⟨y, hy, rfl⟩ := map_at hx
      have him : i < m := by have := (List.getElem?_eq_some_iff.mp hf).1; omega
      have ef : f = shortM (ev (fn ms) (addAll (ordersM m) i)) (((ordersM m).length : Nat) : Int) := by
        rw [List.getElem?_map, List.getElem?_range him] at hf
        exact (Option.some.inj hf).symm
      have ey : y = ev (fn ms) (addAll (ordersM m) i) := by
        unfold tl at hy
        rw [List.getElem?_map, List.getElem?_range him] at hy
        exact (Option.some.inj hy).symm
      subst ef ey
      walk_at "x"
      refine ⟨rfl, ?_⟩
      walk_at "x"
      refine iteT ?_
      walk_at "x"
      refine x_lenL (Own.sq o.cell 1 rfl) ?_
      walk_at "x"
      rw [List.length_map, l3.len]
      refine ⟨_, _, _, rfl, (short i him).1, by omega, fun t H7 n7 s7 c7 => ?_⟩
      exact o.next hf (by omega) n7 s7 c7
    intro D5 H5 o
    obtain ⟨us, w5, n5, f5⟩ := o.own
    have b5 : Same H H5 := b3.trans w5.ex
    have f1 := f1.same b5
    have f2 := f5
    have hR := rd_same b5 hR
    have hq : SqL K H5 D5 (us.map V.ref) := w5.sq 0 rfl
    have k : RetV (.bl true) H5 Q := fun H' s' => k H' (b5.trans s')
    have hp : SqL K H5 p (ts.map V.ref) := .inl hR
    clear w5 w4 w3 w2 w
    generalize H5 = H at *
    walk_at "x"
    refine x_isiListL hR ?_
    walk_at "x"
    refine iteF ?_
    walk_at "x"
    refine x_lenL hp ?_
    walk_at "x"
    rw [List.length_map, f1.len, hfl, decide_eq_true rfl]
    refine iteF ?_
    walk_at "x"
    refine ⟨_, rfl, ⟨_, hp⟩, for_list (xs := ts.map V.ref) (fun i σ' H' => (∃ v5 v6 v7, σ' = [some (.ref p), some (.ref q), some (.int (m : Int)), some (.ref p3), some (.ref D5), v5, v6, v7]) ∧ Own H [] H') ⟨⟨_, _, _, rfl⟩, Own.start⟩ (fun i σ' H' _ h => h.2.seq hp) ?_ ?_⟩
    · rintro i x σ' H' hx ⟨⟨v5, v6, v7, rfl⟩, w⟩
      obtain ⟨t, ht, rfl⟩ : ∃ t, ts[i]? = some t ∧ x = .ref t := by
        rw [List.getElem?_map] at hx
        cases e : ts[i]? with
        | none => rw [e] at hx; cases hx
        | some t => rw [e] at hx; exact ⟨t, rfl, (Option.some.inj hx).symm⟩
      obtain ⟨f, _, hf⟩ := f1.at ht
      have hT : Rd H' t (.tup (frV f)) := .inl (w.ex _ _ hf)
      walk_at "x"
      refine x_isiTupT hT ?_
      walk_at "x"
      refine iteF ?_
      walk_at "x"
      refine x_lenT (.inl hT) ?_
      walk_at "x"
      refine iteF ?_
      walk_at "x"
      refine x_ixXT (.inl hT) (v := .int f.1) rfl ?_
      walk_at "x"
      refine ⟨_, rfl, .int _, fun H2 s2 => ?_⟩
      walk_at "x"
      refine iteF ?_
      walk_at "x"
      refine x_ixXT (.inl (rd_same s2 hT)) (v := .int f.2) rfl ?_
      walk_at "x"
      refine ⟨_, rfl, .int _, fun H3 s3 => ?_⟩
      walk_at "x"
      refine iteF ?_
      walk_at "x"
      exact ⟨⟨_, _, _, rfl⟩, (w.ext s2).ext s3⟩
    · rintro σ' H' ⟨⟨v5, v6, v7, rfl⟩, w⟩
      walk_at "x"
      exact x_eqD (dp_fr (w.seq hp) (f1.same w.ex)) (dp_fr (w.seq hq) (f2.same w.ex)) (lay_fr _) (k.go w.ex)

/-! ### law -/
def sp_law (K : PySem.W.Frag) : Sp := fun vs H Q _ => ∃ (a : Addr) (ns : List Int), vs = [.ref a] ∧ SqL K H a (ns.map V.int) ∧ ns.length ≤ 63 ∧ ∀ H', Q (.bl true) H'
theorem u_mean_shares {H : Hp} {Q : VK} {E : XK} {a : Addr} {ms : List Int} {m C : Nat} (R : Rd H a (.lst (ms.map V.int))) (tb : Tab ms m) (hB : Bdd C (fn (divM ms m))) (hC : C + 18 ≤ 9000) (q : RetFs (meanFs (divM ms m) ms.length m) H Q) : sp_mean_shares A [.ref a] H Q E :=
  ⟨a, ms, m, C, rfl, R, tb, hB, hC, q⟩
theorem div_bdd {ms : List Int} {m C : Nat} (tb : Tab ms m) (h : Bdd C (fn ms)) : Bdd (C + 6) (fn (divM ms m)) := fun i => by
  unfold divM
  by_cases hi : i < ms.length
  · unfold fn
    rw [gi_tln hi]
    exact Bdd.mono (Bdd.allD h m) (by have := tb.hi; omega) i
  · unfold fn gi
    rw [List.getD_eq_getElem?_getD, List.getElem?_eq_none (by rw [tl_len]; omega)]
    show (0 : Int).natAbs < _
    exact Nat.two_pow_pos _
theorem ok_law (T : Txt K mg A) : FnOk P w K mg base (L2.CX P w) 6 A.a_law A.d_law ["_law_script"] (sp_law K) := by
  refine T.F_law.okX sc_law (fun vs H Q E h => ?_) (fun cdv A0 outer s H vs Q E hr h => ?_)
  · obtain ⟨a, ns, rfl, _⟩ := h; rfl
  · obtain ⟨a, ns, rfl, hS, hl, k⟩ := h
    refine ⟨_, (pss_cons (ps_set (i := 1) sc_law.nd rfl (.inl rfl) (pe_call (ok__law_table T) (hr.mono (by decide)) (by rfl) T.g__law_table T.F__law_table.kp T.b__law_table .nil (passes_call (takes_of rfl rfl rfl rfl) (fun _ _ _ _ h => h)) (pa_cons (pv 0) pa_nil)))
      (pss_cons (ps_set (i := 2) sc_law.nd rfl (.inl rfl) (pe_callTy (call_listK (K := K) rfl) (by rfl) T.z_list (by decide +kernel) (pa_cons (pv 1) pa_nil)))
      (pss_cons (ps_set (i := 3) sc_law.nd rfl (.inl rfl) (pe_call (ok_mean_shares T) (hr.mono (by decide)) (by rfl) T.g_mean_shares T.F_mean_shares.kp T.b_mean_shares .nil (passes_call (takes_of rfl rfl rfl rfl) (fun _ _ _ _ h => h)) (pa_cons (pv 2) pa_nil)))
      (pss_cons (ps_if (PW.pt (pw_or (pt_cmpR (op_neK (K := K) rfl hr.units) (pv 2) (pv 1) (nomark _)) (pw_or1 (pt_not (pt_val (pe_call (ok__law_alike T) (hr.mono (by decide)) (by rfl) T.g__law_alike T.F__law_alike.kp T.b__law_alike .nil (passes_call (takes_of rfl rfl rfl rfl) (fun _ _ _ _ h => h)) (pa_cons (pv 3) (pa_cons (pv 1) pa_nil)))))))) (pss_one (ps_ret pe_bl)) pss_nil)
      (pss_cons (ps_augS (pv 2) (pe_op op_addX pe_int (pe_op op_modX (pe_call (ok__law_cell T) (hr.mono (by decide)) (by rfl) T.g__law_cell T.F__law_cell.kp T.b__law_cell .nil (passes_call (takes_of rfl rfl rfl rfl) (fun _ _ _ _ h => h)) (pa_cons (pv 0) (pa_cons pe_int pa_nil))) (pe_op op_subX (pe_callB (call_lenK (K := K) rfl) (by rfl) T.z_len (by decide +kernel) (pa_cons (pv 1) pa_nil)) pe_int))) (get_listK (K := K) rfl) (pe_op op_addX pe_int (pe_op op_modX (pe_call (ok__law_cell T) (hr.mono (by decide)) (by rfl) T.g__law_cell T.F__law_cell.kp T.b__law_cell .nil (passes_call (takes_of rfl rfl rfl rfl) (fun _ _ _ _ h => h)) (pa_cons (pv 0) (pa_cons pe_int pa_nil))) pe_int)) ip_add set_list)
      (pss_cons (ps_set (i := 4) sc_law.nd rfl (.inl rfl) (pe_callTy (call_listK (K := K) rfl) (by rfl) T.z_list (by decide +kernel) (pa_cons (pv 2) pa_nil)))
      (pss_cons (ps_set (i := 5) sc_law.nd rfl (.inl rfl) (pe_call (ok_mean_shares T) (hr.mono (by decide)) (by rfl) T.g_mean_shares T.F_mean_shares.kp T.b_mean_shares .nil (passes_call (takes_of rfl rfl rfl rfl) (fun _ _ _ _ h => h)) (pa_cons (pv 2) pa_nil)))
      (pss_cons (ps_set (i := 6) sc_law.nd rfl (.inl rfl) (pe_callTy (call_listK (K := K) rfl) (by rfl) T.z_list (by decide +kernel) (pa_cons (pv 5) pa_nil)))
      (pss_cons (ps_expr (pe_bm PySem.F.plainAttrs_list PySem.F.slot_list_append PySem.F.type_list_append mt_append (pv 3) (pa_cons pe_int pa_nil)))
      (pss_cons (ps_if (PW.pt (pw_or (pt_not (pt_val (pe_call (ok__law_alike T) (hr.mono (by decide)) (by rfl) T.g__law_alike T.F__law_alike.kp T.b__law_alike .nil (passes_call (takes_of rfl rfl rfl rfl) (fun _ _ _ _ h => h)) (pa_cons (pv 5) (pa_cons (pv 4) pa_nil))))) (pw_or1 (pt_cmpR (op_neK (K := K) rfl hr.units) (pv 2) (pv 4) (nomark _))))) (pss_one (ps_ret pe_bl)) pss_nil)
      (pss_one (ps_ret (pe_and (pe_call (ok__law_alike T) (hr.mono (by decide)) (by rfl) T.g__law_alike T.F__law_alike.kp T.b__law_alike .nil (passes_call (takes_of rfl rfl rfl rfl) (fun _ _ _ _ h => h)) (pa_cons (pe_call (ok_mean_shares T) (hr.mono (by decide)) (by rfl) T.g_mean_shares T.F_mean_shares.kp T.b_mean_shares .nil (passes_call (takes_of rfl rfl rfl rfl) (fun _ _ _ _ h => h)) (pa_cons (pv 1) pa_nil)) (pa_cons (pv 1) pa_nil))) (pe_one (pe_cmpR (op_eqK (K := K) rfl hr.units) (pv 5) (pv 6) (nomark _)))))))))))))))), ?_⟩
    walk_at "x"
    refine ⟨a, ns, rfl, hS, hl, fun ms m tb hm4 hbn p1 H1 n1 s1 c1 => ?_⟩
    have w1 : Own H [(p1, .lst (ms.map V.int))] H1 := Own.start.newE n1 s1 c1
    have hp := tb.pos
    have hB : Bdd 76 (fn (divM ms m)) := div_bdd (C := 70) tb (bdd_bnd (by decide) hbn (by decide))
    walk_at "x"
    refine x_list (w1.sq 0 rfl) (fun p3 n3 => ?_)
    have w3 := w1.new (o := .lst (ms.map V.int)) n3
    walk_at "x"
    refine u_mean_shares (.inl (w3.get 0 rfl)) tb hB (by decide) fun p4 t4 H4 n4 m4 s4 c4 f4 => ?_
    obtain ⟨B4, b4, f4, w4⟩ := own_newF w3 n4 m4 s4 c4 f4
    walk_at "x"
    refine x_neLI (w4.sq 1 rfl) (w4.sq 2 rfl) ?_
    rw [decide_eq_true rfl]
    walk_at "x"
    refine iteF ?_
    walk_at "x"
    refine ⟨p4, p1, t4, ms, m, 76, rfl, .inl (w4.get 0 rfl), f4.same w4.ex, w4.sq 2 rfl, tb, hm4, hB, by decide, fun H5 s5 => ?_⟩
    have w5 := w4.ext s5
    walk_at "x"
    refine iteF ?_
    walk_at "x"
    refine ⟨a, ns, 1, rfl, w5.seq (b4.seq hS), hl, by decide, by decide, fun z8 H8 s8 => ?_⟩
    have w8 := w5.ext s8
    walk_at "x"
    refine x_lenL (w8.sq 2 rfl) ?_
    walk_at "x"
    rw [List.length_map]
    refine x_modP (by omega) ?_
    walk_at "x"
    have hr0 : 0 ≤ z8 % ((ms.length : Int) - 1) := Int.emod_nonneg _ (by omega)
    have hr1 : z8 % ((ms.length : Int) - 1) < (ms.length : Int) - 1 := Int.emod_lt_of_pos _ (by omega)
    refine x_ixL (w8.sq 1 rfl) (at_int (i := 1 + z8 % ((ms.length : Int) - 1)) (by omega) (by omega)) ?_
    walk_at "x"
    refine ⟨a, ns, 2, rfl, w8.seq (b4.seq hS), hl, by decide, by decide, fun z9 H9 s9 => ?_⟩
    have w9 := w8.ext s9
    walk_at "x"
    refine x_modP (by decide) ?_
    walk_at "x"
    refine x_setL (w9.get 1 rfl) (by rw [List.length_map]; exact ixN_int (by omega) (by omega)) ?_
    rw [map_set_int]
    have tb2 : Tab (ms.set (1 + z8 % ((ms.length : Int) - 1)).toNat (gi ms (1 + z8 % ((ms.length : Int) - 1)) + (1 + z9 % 1000))) m := tb.set (by omega)
    have bn2 : Bnd 200000000000000001001 (ms.set (1 + z8 % ((ms.length : Int) - 1)).toNat (gi ms (1 + z8 % ((ms.length : Int) - 1)) + (1 + z9 % 1000))) := by
      have := hbn.at (by decide) (1 + z8 % ((ms.length : Int) - 1))
      exact (hbn.mono (by decide)).set (by omega) (by omega)
    generalize ms.set (1 + z8 % ((ms.length : Int) - 1)).toNat (gi ms (1 + z8 % ((ms.length : Int) - 1)) + (1 + z9 % 1000)) = ms2 at tb2 bn2 ⊢
    have w10 := w9.put (o' := .lst (ms2.map V.int)) 1 rfl
    have hB2 : Bdd 76 (fn (divM ms2 m)) := div_bdd (C := 70) tb2 (bdd_bnd (by decide) bn2 (by decide))
    walk_at "x"
    refine x_list (w10.sq 1 rfl) (fun p11 n11 => ?_)
    have w11 := w10.new (o := .lst (ms2.map V.int)) n11
    walk_at "x"
    refine u_mean_shares (.inl (w11.get 2 rfl)) tb2 hB2 (by decide) fun p12 t12 H12 n12 m12 s12 c12 f12 => ?_
    obtain ⟨B12, b12, f12, w12⟩ := own_newF w11 n12 m12 s12 c12 f12
    walk_at "x"
    refine x_list (w12.sq 0 rfl) (fun p13 n13 => ?_)
    have w13 := w12.new (o := .lst (t12.map V.ref)) n13
    walk_at "x"
    refine ⟨x_tyL (w13.get 3 rfl), ?_⟩
    walk_at "x"
    have h4l := f4.len
    have hml : (meanFs (divM ms m) ms.length m).length = m := by unfold meanFs; rw [List.length_map, List.length_range]
    refine x_append (w13.get 3 rfl) (by rw [List.length_map]; exact small1000 (by omega)) ?_
    have w14 := w13.put (o' := .lst (t4.map V.ref ++ [.int 1])) 3 rfl
    walk_at "x"
    refine ⟨p12, p11, t12, ms2, m, 76, rfl, .inl (w14.get 1 rfl), f12.same w14.ex, w14.sq 2 rfl, tb2, hm4, hB2, by decide, fun H15 s15 => ?_⟩
    have w15 := w14.ext s15
    walk_at "x"
    refine iteF ?_
    walk_at "x"
    refine x_neLI (w15.sq 4 rfl) (w15.sq 2 rfl) ?_
    rw [decide_eq_true rfl]
    walk_at "x"
    refine iteF ?_
    walk_at "x"
    refine u_mean_shares (.inl (w15.get 5 rfl)) tb hB (by decide) fun p16 t16 H16 n16 m16 s16 c16 f16 => ?_
    obtain ⟨B16, b16, f16, w16⟩ := own_newF w15 n16 m16 s16 c16 f16
    walk_at "x"
    refine ⟨p16, p1, t16, ms, m, 76, rfl, .inl (w16.get 0 rfl), f16.same w16.ex, w16.sq 6 rfl, tb, hm4, hB, by decide, fun H17 s17 => ?_⟩
    have w17 := w16.ext s17
    have f12' := (f12.same b16).same w17.ex
    walk_at "x"
    refine iteT ?_
    walk_at "x"
    exact x_eqD (dp_fr (w17.sq 2 rfl) f12') (dp_fr (w17.sq 1 rfl) f12') (lay_fr _) (k _)

end
theorem all_mk {l : PySem.W.OpenLaw} {w : World} {K : PySem.W.Frag} {h : Heap} {mg : Str → Option Value} {fa f_is_whole f_divisor f_shortest f_fraction f_look_group f_whole_of f_hands_of f_size_of f_look f_dividends f_mean_shares f__law_whole f__law_cell f__law_number f__law_table f__law_orders f__law_sums f__law_lowest f__law_alike f_law C_NoNumber C_NoGroup C_NoTable : Addr} (X : K.In h) (G : h.Ns mainGlobals mg) (hfa : mg "law" = some (.ref fa))
    {t_MOST t_SIXTY : Tok} {od_is_whole an_is_whole od_divisor an_divisor od_shortest an_shortest od_fraction an_fraction od_look_group an_look_group od_whole_of an_whole_of od_hands_of an_hands_of od_size_of an_size_of od_look an_look od_dividends an_dividends od_mean_shares an_mean_shares od__law_whole an__law_whole od__law_cell an__law_cell od__law_number an__law_number od__law_table an__law_table od__law_orders an__law_orders od__law_sums an__law_sums od__law_lowest an__law_lowest od__law_alike an__law_alike od_law an_law : Option Addr} {sl_is_whole sl_divisor sl_shortest sl_fraction sl_look_group sl_whole_of sl_hands_of sl_size_of sl_look sl_dividends sl_mean_shares sl__law_whole sl__law_cell sl__law_number sl__law_table sl__law_orders sl__law_sums sl__law_lowest sl__law_alike sl_law : Array (Option Value)} {oc_is_whole kV_is_whole dc_is_whole pm_is_whole cd_is_whole ct_is_whole oc_divisor kV_divisor dc_divisor pm_divisor cd_divisor ct_divisor oc_shortest kV_shortest dc_shortest pm_shortest cd_shortest ct_shortest oc_fraction kV_fraction dc_fraction pm_fraction cd_fraction ct_fraction oc_look_group kV_look_group dc_look_group pm_look_group cd_look_group ct_look_group oc_whole_of kV_whole_of dc_whole_of pm_whole_of cd_whole_of ct_whole_of oc_hands_of kV_hands_of dc_hands_of pm_hands_of cd_hands_of ct_hands_of oc_size_of kV_size_of dc_size_of pm_size_of cd_size_of ct_size_of oc_look kV_look dc_look pm_look cd_look ct_look oc_dividends kV_dividends dc_dividends pm_dividends cd_dividends ct_dividends oc_mean_shares kV_mean_shares dc_mean_shares pm_mean_shares cd_mean_shares ct_mean_shares oc__law_whole kV__law_whole dc__law_whole pm__law_whole cd__law_whole ct__law_whole oc__law_cell kV__law_cell dc__law_cell pm__law_cell cd__law_cell ct__law_cell oc__law_number kV__law_number dc__law_number pm__law_number cd__law_number ct__law_number oc__law_table kV__law_table dc__law_table pm__law_table cd__law_table ct__law_table oc__law_orders kV__law_orders dc__law_orders pm__law_orders cd__law_orders ct__law_orders oc__law_sums kV__law_sums dc__law_sums pm__law_sums cd__law_sums ct__law_sums oc__law_lowest kV__law_lowest dc__law_lowest pm__law_lowest cd__law_lowest ct__law_lowest oc__law_alike kV__law_alike dc__law_alike pm__law_alike cd__law_alike ct__law_alike oc_law kV_law dc_law pm_law cd_law ct_law : Value}
    (a_is_whole : PySem.W.nsIn K mainGlobals "is_whole" = some (some (.ref f_is_whole)))
    (l_is_whole : K.lookup f_is_whole = some ⟨oc_is_whole, od_is_whole, .func (PySem.W.fnOf "is_whole" "is_whole" (defArgs s_is_whole) (defBody s_is_whole) (defScope s_is_whole) .none kV_is_whole dc_is_whole pm_is_whole an_is_whole cd_is_whole ct_is_whole), sl_is_whole⟩)
    (c_is_whole : PySem.W.codeIn K cd_is_whole "is_whole" = true)
    (k_is_whole : PySem.W.keepIn K (.ref f_is_whole) = true)
    (a_divisor : PySem.W.nsIn K mainGlobals "divisor" = some (some (.ref f_divisor)))
    (l_divisor : K.lookup f_divisor = some ⟨oc_divisor, od_divisor, .func (PySem.W.fnOf "divisor" "divisor" (defArgs s_divisor) (defBody s_divisor) (defScope s_divisor) .none kV_divisor dc_divisor pm_divisor an_divisor cd_divisor ct_divisor), sl_divisor⟩)
    (c_divisor : PySem.W.codeIn K cd_divisor "divisor" = true)
    (k_divisor : PySem.W.keepIn K (.ref f_divisor) = true)
    (a_shortest : PySem.W.nsIn K mainGlobals "shortest" = some (some (.ref f_shortest)))
    (l_shortest : K.lookup f_shortest = some ⟨oc_shortest, od_shortest, .func (PySem.W.fnOf "shortest" "shortest" (defArgs s_shortest) (defBody s_shortest) (defScope s_shortest) .none kV_shortest dc_shortest pm_shortest an_shortest cd_shortest ct_shortest), sl_shortest⟩)
    (c_shortest : PySem.W.codeIn K cd_shortest "shortest" = true)
    (k_shortest : PySem.W.keepIn K (.ref f_shortest) = true)
    (a_fraction : PySem.W.nsIn K mainGlobals "fraction" = some (some (.ref f_fraction)))
    (l_fraction : K.lookup f_fraction = some ⟨oc_fraction, od_fraction, .func (PySem.W.fnOf "fraction" "fraction" (defArgs s_fraction) (defBody s_fraction) (defScope s_fraction) .none kV_fraction dc_fraction pm_fraction an_fraction cd_fraction ct_fraction), sl_fraction⟩)
    (c_fraction : PySem.W.codeIn K cd_fraction "fraction" = true)
    (k_fraction : PySem.W.keepIn K (.ref f_fraction) = true)
    (a_look_group : PySem.W.nsIn K mainGlobals "look_group" = some (some (.ref f_look_group)))
    (l_look_group : K.lookup f_look_group = some ⟨oc_look_group, od_look_group, .func (PySem.W.fnOf "look_group" "look_group" (defArgs s_look_group) (defBody s_look_group) (defScope s_look_group) .none kV_look_group dc_look_group pm_look_group an_look_group cd_look_group ct_look_group), sl_look_group⟩)
    (c_look_group : PySem.W.codeIn K cd_look_group "look_group" = true)
    (k_look_group : PySem.W.keepIn K (.ref f_look_group) = true)
    (a_whole_of : PySem.W.nsIn K mainGlobals "whole_of" = some (some (.ref f_whole_of)))
    (l_whole_of : K.lookup f_whole_of = some ⟨oc_whole_of, od_whole_of, .func (PySem.W.fnOf "whole_of" "whole_of" (defArgs s_whole_of) (defBody s_whole_of) (defScope s_whole_of) .none kV_whole_of dc_whole_of pm_whole_of an_whole_of cd_whole_of ct_whole_of), sl_whole_of⟩)
    (c_whole_of : PySem.W.codeIn K cd_whole_of "whole_of" = true)
    (k_whole_of : PySem.W.keepIn K (.ref f_whole_of) = true)
    (a_hands_of : PySem.W.nsIn K mainGlobals "hands_of" = some (some (.ref f_hands_of)))
    (l_hands_of : K.lookup f_hands_of = some ⟨oc_hands_of, od_hands_of, .func (PySem.W.fnOf "hands_of" "hands_of" (defArgs s_hands_of) (defBody s_hands_of) (defScope s_hands_of) .none kV_hands_of dc_hands_of pm_hands_of an_hands_of cd_hands_of ct_hands_of), sl_hands_of⟩)
    (c_hands_of : PySem.W.codeIn K cd_hands_of "hands_of" = true)
    (k_hands_of : PySem.W.keepIn K (.ref f_hands_of) = true)
    (a_size_of : PySem.W.nsIn K mainGlobals "size_of" = some (some (.ref f_size_of)))
    (l_size_of : K.lookup f_size_of = some ⟨oc_size_of, od_size_of, .func (PySem.W.fnOf "size_of" "size_of" (defArgs s_size_of) (defBody s_size_of) (defScope s_size_of) .none kV_size_of dc_size_of pm_size_of an_size_of cd_size_of ct_size_of), sl_size_of⟩)
    (c_size_of : PySem.W.codeIn K cd_size_of "size_of" = true)
    (k_size_of : PySem.W.keepIn K (.ref f_size_of) = true)
    (a_look : PySem.W.nsIn K mainGlobals "look" = some (some (.ref f_look)))
    (l_look : K.lookup f_look = some ⟨oc_look, od_look, .func (PySem.W.fnOf "look" "look" (defArgs s_look) (defBody s_look) (defScope s_look) .none kV_look dc_look pm_look an_look cd_look ct_look), sl_look⟩)
    (c_look : PySem.W.codeIn K cd_look "look" = true)
    (k_look : PySem.W.keepIn K (.ref f_look) = true)
    (a_dividends : PySem.W.nsIn K mainGlobals "dividends" = some (some (.ref f_dividends)))
    (l_dividends : K.lookup f_dividends = some ⟨oc_dividends, od_dividends, .func (PySem.W.fnOf "dividends" "dividends" (defArgs s_dividends) (defBody s_dividends) (defScope s_dividends) .none kV_dividends dc_dividends pm_dividends an_dividends cd_dividends ct_dividends), sl_dividends⟩)
    (c_dividends : PySem.W.codeIn K cd_dividends "dividends" = true)
    (k_dividends : PySem.W.keepIn K (.ref f_dividends) = true)
    (a_mean_shares : PySem.W.nsIn K mainGlobals "mean_shares" = some (some (.ref f_mean_shares)))
    (l_mean_shares : K.lookup f_mean_shares = some ⟨oc_mean_shares, od_mean_shares, .func (PySem.W.fnOf "mean_shares" "mean_shares" (defArgs s_mean_shares) (defBody s_mean_shares) (defScope s_mean_shares) .none kV_mean_shares dc_mean_shares pm_mean_shares an_mean_shares cd_mean_shares ct_mean_shares), sl_mean_shares⟩)
    (c_mean_shares : PySem.W.codeIn K cd_mean_shares "mean_shares" = true)
    (k_mean_shares : PySem.W.keepIn K (.ref f_mean_shares) = true)
    (a__law_whole : PySem.W.nsIn K mainGlobals "_law_whole" = some (some (.ref f__law_whole)))
    (l__law_whole : K.lookup f__law_whole = some ⟨oc__law_whole, od__law_whole, .func (PySem.W.fnOf "_law_whole" "_law_whole" (defArgs s__law_whole) (defBody s__law_whole) (defScope s__law_whole) .none kV__law_whole dc__law_whole pm__law_whole an__law_whole cd__law_whole ct__law_whole), sl__law_whole⟩)
    (c__law_whole : PySem.W.codeIn K cd__law_whole "_law_whole" = true)
    (k__law_whole : PySem.W.keepIn K (.ref f__law_whole) = true)
    (a__law_cell : PySem.W.nsIn K mainGlobals "_law_cell" = some (some (.ref f__law_cell)))
    (l__law_cell : K.lookup f__law_cell = some ⟨oc__law_cell, od__law_cell, .func (PySem.W.fnOf "_law_cell" "_law_cell" (defArgs s__law_cell) (defBody s__law_cell) (defScope s__law_cell) .none kV__law_cell dc__law_cell pm__law_cell an__law_cell cd__law_cell ct__law_cell), sl__law_cell⟩)
    (c__law_cell : PySem.W.codeIn K cd__law_cell "_law_cell" = true)
    (k__law_cell : PySem.W.keepIn K (.ref f__law_cell) = true)
    (a__law_number : PySem.W.nsIn K mainGlobals "_law_number" = some (some (.ref f__law_number)))
    (l__law_number : K.lookup f__law_number = some ⟨oc__law_number, od__law_number, .func (PySem.W.fnOf "_law_number" "_law_number" (defArgs s__law_number) (defBody s__law_number) (defScope s__law_number) .none kV__law_number dc__law_number pm__law_number an__law_number cd__law_number ct__law_number), sl__law_number⟩)
    (c__law_number : PySem.W.codeIn K cd__law_number "_law_number" = true)
    (k__law_number : PySem.W.keepIn K (.ref f__law_number) = true)
    (a__law_table : PySem.W.nsIn K mainGlobals "_law_table" = some (some (.ref f__law_table)))
    (l__law_table : K.lookup f__law_table = some ⟨oc__law_table, od__law_table, .func (PySem.W.fnOf "_law_table" "_law_table" (defArgs s__law_table) (defBody s__law_table) (defScope s__law_table) .none kV__law_table dc__law_table pm__law_table an__law_table cd__law_table ct__law_table), sl__law_table⟩)
    (c__law_table : PySem.W.codeIn K cd__law_table "_law_table" = true)
    (k__law_table : PySem.W.keepIn K (.ref f__law_table) = true)
    (a__law_orders : PySem.W.nsIn K mainGlobals "_law_orders" = some (some (.ref f__law_orders)))
    (l__law_orders : K.lookup f__law_orders = some ⟨oc__law_orders, od__law_orders, .func (PySem.W.fnOf "_law_orders" "_law_orders" (defArgs s__law_orders) (defBody s__law_orders) (defScope s__law_orders) .none kV__law_orders dc__law_orders pm__law_orders an__law_orders cd__law_orders ct__law_orders), sl__law_orders⟩)
    (c__law_orders : PySem.W.codeIn K cd__law_orders "_law_orders" = true)
    (k__law_orders : PySem.W.keepIn K (.ref f__law_orders) = true)
    (a__law_sums : PySem.W.nsIn K mainGlobals "_law_sums" = some (some (.ref f__law_sums)))
    (l__law_sums : K.lookup f__law_sums = some ⟨oc__law_sums, od__law_sums, .func (PySem.W.fnOf "_law_sums" "_law_sums" (defArgs s__law_sums) (defBody s__law_sums) (defScope s__law_sums) .none kV__law_sums dc__law_sums pm__law_sums an__law_sums cd__law_sums ct__law_sums), sl__law_sums⟩)
    (c__law_sums : PySem.W.codeIn K cd__law_sums "_law_sums" = true)
    (k__law_sums : PySem.W.keepIn K (.ref f__law_sums) = true)
    (a__law_lowest : PySem.W.nsIn K mainGlobals "_law_lowest" = some (some (.ref f__law_lowest)))
    (l__law_lowest : K.lookup f__law_lowest = some ⟨oc__law_lowest, od__law_lowest, .func (PySem.W.fnOf "_law_lowest" "_law_lowest" (defArgs s__law_lowest) (defBody s__law_lowest) (defScope s__law_lowest) .none kV__law_lowest dc__law_lowest pm__law_lowest an__law_lowest cd__law_lowest ct__law_lowest), sl__law_lowest⟩)
    (c__law_lowest : PySem.W.codeIn K cd__law_lowest "_law_lowest" = true)
    (k__law_lowest : PySem.W.keepIn K (.ref f__law_lowest) = true)
    (a__law_alike : PySem.W.nsIn K mainGlobals "_law_alike" = some (some (.ref f__law_alike)))
    (l__law_alike : K.lookup f__law_alike = some ⟨oc__law_alike, od__law_alike, .func (PySem.W.fnOf "_law_alike" "_law_alike" (defArgs s__law_alike) (defBody s__law_alike) (defScope s__law_alike) .none kV__law_alike dc__law_alike pm__law_alike an__law_alike cd__law_alike ct__law_alike), sl__law_alike⟩)
    (c__law_alike : PySem.W.codeIn K cd__law_alike "_law_alike" = true)
    (k__law_alike : PySem.W.keepIn K (.ref f__law_alike) = true)
    (a_law : PySem.W.nsIn K mainGlobals "law" = some (some (.ref f_law)))
    (l_law : K.lookup f_law = some ⟨oc_law, od_law, .func (PySem.W.fnOf "law" "law" (defArgs s_law) (defBody s_law) (defScope s_law) .none kV_law dc_law pm_law an_law cd_law ct_law), sl_law⟩)
    (c_law : PySem.W.codeIn K cd_law "law" = true)
    (k_law : PySem.W.keepIn K (.ref f_law) = true)
    (ac_NoNumber : PySem.W.nsIn K mainGlobals "NoNumber" = some (some (.ref C_NoNumber)))
    (kc_NoNumber : PySem.W.keepIn K (.ref C_NoNumber) = true)
    (ec_NoNumber : PySem.W.subIn K (.ref C_NoNumber) (.type "BaseException") = some true)
    (tc_NoNumber : PySem.W.typeIn K (.ref C_NoNumber) = some (.type "type"))
    (xc_NoNumber : PySem.W.excIn K C_NoNumber [.type "ValueError", .type "Exception", .type "BaseException", .type "object"] "ValueError.__new__" = true)
    (ac_NoGroup : PySem.W.nsIn K mainGlobals "NoGroup" = some (some (.ref C_NoGroup)))
    (kc_NoGroup : PySem.W.keepIn K (.ref C_NoGroup) = true)
    (ec_NoGroup : PySem.W.subIn K (.ref C_NoGroup) (.type "BaseException") = some true)
    (tc_NoGroup : PySem.W.typeIn K (.ref C_NoGroup) = some (.type "type"))
    (xc_NoGroup : PySem.W.excIn K C_NoGroup [.type "ValueError", .type "Exception", .type "BaseException", .type "object"] "ValueError.__new__" = true)
    (ac_NoTable : PySem.W.nsIn K mainGlobals "NoTable" = some (some (.ref C_NoTable)))
    (kc_NoTable : PySem.W.keepIn K (.ref C_NoTable) = true)
    (ec_NoTable : PySem.W.subIn K (.ref C_NoTable) (.type "BaseException") = some true)
    (tc_NoTable : PySem.W.typeIn K (.ref C_NoTable) = some (.type "type"))
    (xc_NoTable : PySem.W.excIn K C_NoTable [.type "ValueError", .type "Exception", .type "BaseException", .type "object"] "ValueError.__new__" = true)
    (cn_MOST : PySem.W.nsIn K mainGlobals "MOST" = some (some (.int 6 t_MOST)))
    (cn_SIXTY : PySem.W.nsIn K mainGlobals "SIXTY" = some (some (.int 60 t_SIXTY)))
    (z_abs : PySem.W.nsIn K mainGlobals "abs" = some none)
    (z_bool : PySem.W.nsIn K mainGlobals "bool" = some none)
    (z_int : PySem.W.nsIn K mainGlobals "int" = some none)
    (z_isinstance : PySem.W.nsIn K mainGlobals "isinstance" = some none)
    (z_len : PySem.W.nsIn K mainGlobals "len" = some none)
    (z_list : PySem.W.nsIn K mainGlobals "list" = some none)
    (z_min : PySem.W.nsIn K mainGlobals "min" = some none)
    (z_range : PySem.W.nsIn K mainGlobals "range" = some none)
    (z_tuple : PySem.W.nsIn K mainGlobals "tuple" = some none)
    : ∃ fd : FuncData, (∀ (s : Shared) (v : Value), BindsTo s fd ⟨[v], []⟩ [("_law_script", v)]) ∧ ∀ base : Heap, K.In base → base.Ns mainGlobals mg → FnOk l.prog w K mg base (L2.CX l.prog w) 6 fa fd ["_law_script"] (sp_law K) := by
  have e := hfa.symm.trans (PySem.W.mg_of X G a_law)
  cases e
  have T : Txt K mg ⟨f_is_whole, PySem.W.fnOf "is_whole" "is_whole" (defArgs s_is_whole) (defBody s_is_whole) (defScope s_is_whole) .none kV_is_whole dc_is_whole pm_is_whole an_is_whole cd_is_whole ct_is_whole, f_divisor, PySem.W.fnOf "divisor" "divisor" (defArgs s_divisor) (defBody s_divisor) (defScope s_divisor) .none kV_divisor dc_divisor pm_divisor an_divisor cd_divisor ct_divisor, f_shortest, PySem.W.fnOf "shortest" "shortest" (defArgs s_shortest) (defBody s_shortest) (defScope s_shortest) .none kV_shortest dc_shortest pm_shortest an_shortest cd_shortest ct_shortest, f_fraction, PySem.W.fnOf "fraction" "fraction" (defArgs s_fraction) (defBody s_fraction) (defScope s_fraction) .none kV_fraction dc_fraction pm_fraction an_fraction cd_fraction ct_fraction, f_look_group, PySem.W.fnOf "look_group" "look_group" (defArgs s_look_group) (defBody s_look_group) (defScope s_look_group) .none kV_look_group dc_look_group pm_look_group an_look_group cd_look_group ct_look_group, f_whole_of, PySem.W.fnOf "whole_of" "whole_of" (defArgs s_whole_of) (defBody s_whole_of) (defScope s_whole_of) .none kV_whole_of dc_whole_of pm_whole_of an_whole_of cd_whole_of ct_whole_of, f_hands_of, PySem.W.fnOf "hands_of" "hands_of" (defArgs s_hands_of) (defBody s_hands_of) (defScope s_hands_of) .none kV_hands_of dc_hands_of pm_hands_of an_hands_of cd_hands_of ct_hands_of, f_size_of, PySem.W.fnOf "size_of" "size_of" (defArgs s_size_of) (defBody s_size_of) (defScope s_size_of) .none kV_size_of dc_size_of pm_size_of an_size_of cd_size_of ct_size_of, f_look, PySem.W.fnOf "look" "look" (defArgs s_look) (defBody s_look) (defScope s_look) .none kV_look dc_look pm_look an_look cd_look ct_look, f_dividends, PySem.W.fnOf "dividends" "dividends" (defArgs s_dividends) (defBody s_dividends) (defScope s_dividends) .none kV_dividends dc_dividends pm_dividends an_dividends cd_dividends ct_dividends, f_mean_shares, PySem.W.fnOf "mean_shares" "mean_shares" (defArgs s_mean_shares) (defBody s_mean_shares) (defScope s_mean_shares) .none kV_mean_shares dc_mean_shares pm_mean_shares an_mean_shares cd_mean_shares ct_mean_shares, f__law_whole, PySem.W.fnOf "_law_whole" "_law_whole" (defArgs s__law_whole) (defBody s__law_whole) (defScope s__law_whole) .none kV__law_whole dc__law_whole pm__law_whole an__law_whole cd__law_whole ct__law_whole, f__law_cell, PySem.W.fnOf "_law_cell" "_law_cell" (defArgs s__law_cell) (defBody s__law_cell) (defScope s__law_cell) .none kV__law_cell dc__law_cell pm__law_cell an__law_cell cd__law_cell ct__law_cell, f__law_number, PySem.W.fnOf "_law_number" "_law_number" (defArgs s__law_number) (defBody s__law_number) (defScope s__law_number) .none kV__law_number dc__law_number pm__law_number an__law_number cd__law_number ct__law_number, f__law_table, PySem.W.fnOf "_law_table" "_law_table" (defArgs s__law_table) (defBody s__law_table) (defScope s__law_table) .none kV__law_table dc__law_table pm__law_table an__law_table cd__law_table ct__law_table, f__law_orders, PySem.W.fnOf "_law_orders" "_law_orders" (defArgs s__law_orders) (defBody s__law_orders) (defScope s__law_orders) .none kV__law_orders dc__law_orders pm__law_orders an__law_orders cd__law_orders ct__law_orders, f__law_sums, PySem.W.fnOf "_law_sums" "_law_sums" (defArgs s__law_sums) (defBody s__law_sums) (defScope s__law_sums) .none kV__law_sums dc__law_sums pm__law_sums an__law_sums cd__law_sums ct__law_sums, f__law_lowest, PySem.W.fnOf "_law_lowest" "_law_lowest" (defArgs s__law_lowest) (defBody s__law_lowest) (defScope s__law_lowest) .none kV__law_lowest dc__law_lowest pm__law_lowest an__law_lowest cd__law_lowest ct__law_lowest, f__law_alike, PySem.W.fnOf "_law_alike" "_law_alike" (defArgs s__law_alike) (defBody s__law_alike) (defScope s__law_alike) .none kV__law_alike dc__law_alike pm__law_alike an__law_alike cd__law_alike ct__law_alike, fa, PySem.W.fnOf "law" "law" (defArgs s_law) (defBody s_law) (defScope s_law) .none kV_law dc_law pm_law an_law cd_law ct_law, C_NoNumber, C_NoGroup, C_NoTable, t_MOST, t_SIXTY⟩ := {
    F_is_whole := fun_mk (st := s_is_whole) l_is_whole c_is_whole k_is_whole
    b_is_whole := (fun_mk (st := s_is_whole) l_is_whole c_is_whole k_is_whole).binds (ps := ["thing"]) fun _ _ _ _ _ _ us hl => match us, hl with | [_], _ => rfl
    g_is_whole := PySem.W.mg_of X G a_is_whole
    F_divisor := fun_mk (st := s_divisor) l_divisor c_divisor k_divisor
    b_divisor := (fun_mk (st := s_divisor) l_divisor c_divisor k_divisor).binds (ps := ["one", "other"]) fun _ _ _ _ _ _ us hl => match us, hl with | [_, _], _ => rfl
    g_divisor := PySem.W.mg_of X G a_divisor
    F_shortest := fun_mk (st := s_shortest) l_shortest c_shortest k_shortest
    b_shortest := (fun_mk (st := s_shortest) l_shortest c_shortest k_shortest).binds (ps := ["top", "bottom"]) fun _ _ _ _ _ _ us hl => match us, hl with | [_, _], _ => rfl
    g_shortest := PySem.W.mg_of X G a_shortest
    F_fraction := fun_mk (st := s_fraction) l_fraction c_fraction k_fraction
    b_fraction := (fun_mk (st := s_fraction) l_fraction c_fraction k_fraction).binds (ps := ["top", "bottom"]) fun _ _ _ _ _ _ us hl => match us, hl with | [_, _], _ => rfl
    g_fraction := PySem.W.mg_of X G a_fraction
    F_look_group := fun_mk (st := s_look_group) l_look_group c_look_group k_look_group
    b_look_group := (fun_mk (st := s_look_group) l_look_group c_look_group k_look_group).binds (ps := ["group", "least", "greatest"]) fun _ _ _ _ _ _ us hl => match us, hl with | [_, _, _], _ => rfl
    g_look_group := PySem.W.mg_of X G a_look_group
    F_whole_of := fun_mk (st := s_whole_of) l_whole_of c_whole_of k_whole_of
    b_whole_of := (fun_mk (st := s_whole_of) l_whole_of c_whole_of k_whole_of).binds (ps := ["many"]) fun _ _ _ _ _ _ us hl => match us, hl with | [_], _ => rfl
    g_whole_of := PySem.W.mg_of X G a_whole_of
    F_hands_of := fun_mk (st := s_hands_of) l_hands_of c_hands_of k_hands_of
    b_hands_of := (fun_mk (st := s_hands_of) l_hands_of c_hands_of k_hands_of).binds (ps := ["group"]) fun _ _ _ _ _ _ us hl => match us, hl with | [_], _ => rfl
    g_hands_of := PySem.W.mg_of X G a_hands_of
    F_size_of := fun_mk (st := s_size_of) l_size_of c_size_of k_size_of
    b_size_of := (fun_mk (st := s_size_of) l_size_of c_size_of k_size_of).binds (ps := ["group"]) fun _ _ _ _ _ _ us hl => match us, hl with | [_], _ => rfl
    g_size_of := PySem.W.mg_of X G a_size_of
    F_look := fun_mk (st := s_look) l_look c_look k_look
    b_look := (fun_mk (st := s_look) l_look c_look k_look).binds (ps := ["table"]) fun _ _ _ _ _ _ us hl => match us, hl with | [_], _ => rfl
    g_look := PySem.W.mg_of X G a_look
    F_dividends := fun_mk (st := s_dividends) l_dividends c_dividends k_dividends
    b_dividends := (fun_mk (st := s_dividends) l_dividends c_dividends k_dividends).binds (ps := ["table"]) fun _ _ _ _ _ _ us hl => match us, hl with | [_], _ => rfl
    g_dividends := PySem.W.mg_of X G a_dividends
    F_mean_shares := fun_mk (st := s_mean_shares) l_mean_shares c_mean_shares k_mean_shares
    b_mean_shares := (fun_mk (st := s_mean_shares) l_mean_shares c_mean_shares k_mean_shares).binds (ps := ["table"]) fun _ _ _ _ _ _ us hl => match us, hl with | [_], _ => rfl
    g_mean_shares := PySem.W.mg_of X G a_mean_shares
    F__law_whole := fun_mk (st := s__law_whole) l__law_whole c__law_whole k__law_whole
    b__law_whole := (fun_mk (st := s__law_whole) l__law_whole c__law_whole k__law_whole).binds (ps := ["_law_found"]) fun _ _ _ _ _ _ us hl => match us, hl with | [_], _ => rfl
    g__law_whole := PySem.W.mg_of X G a__law_whole
    F__law_cell := fun_mk (st := s__law_cell) l__law_cell c__law_cell k__law_cell
    b__law_cell := (fun_mk (st := s__law_cell) l__law_cell c__law_cell k__law_cell).binds (ps := ["_law_script", "_law_k"]) fun _ _ _ _ _ _ us hl => match us, hl with | [_, _], _ => rfl
    g__law_cell := PySem.W.mg_of X G a__law_cell
    F__law_number := fun_mk (st := s__law_number) l__law_number c__law_number k__law_number
    b__law_number := (fun_mk (st := s__law_number) l__law_number c__law_number k__law_number).binds (ps := ["_law_cell_here", "_law_way"]) fun _ _ _ _ _ _ us hl => match us, hl with | [_, _], _ => rfl
    g__law_number := PySem.W.mg_of X G a__law_number
    F__law_table := fun_mk (st := s__law_table) l__law_table c__law_table k__law_table
    b__law_table := (fun_mk (st := s__law_table) l__law_table c__law_table k__law_table).binds (ps := ["_law_script"]) fun _ _ _ _ _ _ us hl => match us, hl with | [_], _ => rfl
    g__law_table := PySem.W.mg_of X G a__law_table
    F__law_orders := fun_mk (st := s__law_orders) l__law_orders c__law_orders k__law_orders
    b__law_orders := (fun_mk (st := s__law_orders) l__law_orders c__law_orders k__law_orders).binds (ps := ["_law_many"]) fun _ _ _ _ _ _ us hl => match us, hl with | [_], _ => rfl
    g__law_orders := PySem.W.mg_of X G a__law_orders
    F__law_sums := fun_mk (st := s__law_sums) l__law_sums c__law_sums k__law_sums
    b__law_sums := (fun_mk (st := s__law_sums) l__law_sums c__law_sums k__law_sums).binds (ps := ["_law_table_here", "_law_orders_here"]) fun _ _ _ _ _ _ us hl => match us, hl with | [_, _], _ => rfl
    g__law_sums := PySem.W.mg_of X G a__law_sums
    F__law_lowest := fun_mk (st := s__law_lowest) l__law_lowest c__law_lowest k__law_lowest
    b__law_lowest := (fun_mk (st := s__law_lowest) l__law_lowest c__law_lowest k__law_lowest).binds (ps := ["_law_top", "_law_bottom"]) fun _ _ _ _ _ _ us hl => match us, hl with | [_, _], _ => rfl
    g__law_lowest := PySem.W.mg_of X G a__law_lowest
    F__law_alike := fun_mk (st := s__law_alike) l__law_alike c__law_alike k__law_alike
    b__law_alike := (fun_mk (st := s__law_alike) l__law_alike c__law_alike k__law_alike).binds (ps := ["_law_found", "_law_table_here"]) fun _ _ _ _ _ _ us hl => match us, hl with | [_, _], _ => rfl
    g__law_alike := PySem.W.mg_of X G a__law_alike
    F_law := fun_mk (st := s_law) l_law c_law k_law
    b_law := (fun_mk (st := s_law) l_law c_law k_law).binds (ps := ["_law_script"]) fun _ _ _ _ _ _ us hl => match us, hl with | [_], _ => rfl
    g_law := PySem.W.mg_of X G a_law
    g_NoNumber := PySem.W.mg_of X G ac_NoNumber
    k_NoNumber := kc_NoNumber
    e_NoNumber := ec_NoNumber
    t_NoNumber := tc_NoNumber
    x_NoNumber := xc_NoNumber
    g_NoGroup := PySem.W.mg_of X G ac_NoGroup
    k_NoGroup := kc_NoGroup
    e_NoGroup := ec_NoGroup
    t_NoGroup := tc_NoGroup
    x_NoGroup := xc_NoGroup
    g_NoTable := PySem.W.mg_of X G ac_NoTable
    k_NoTable := kc_NoTable
    e_NoTable := ec_NoTable
    t_NoTable := tc_NoTable
    x_NoTable := xc_NoTable
    c_MOST := PySem.W.mg_of X G cn_MOST
    c_SIXTY := PySem.W.mg_of X G cn_SIXTY
    z_abs := PySem.W.mg_none_of X G z_abs
    z_bool := PySem.W.mg_none_of X G z_bool
    z_int := PySem.W.mg_none_of X G z_int
    z_isinstance := PySem.W.mg_none_of X G z_isinstance
    z_len := PySem.W.mg_none_of X G z_len
    z_list := PySem.W.mg_none_of X G z_list
    z_min := PySem.W.mg_none_of X G z_min
    z_range := PySem.W.mg_none_of X G z_range
    z_tuple := PySem.W.mg_none_of X G z_tuple
  }
  exact ⟨_, fun s v => .of_eq rfl, fun base _ _ => ok_law T⟩
end Lw
open PySem PySem.W PyProof.Rows
set_option maxHeartbeats 0 in
theorem PySem.Challenge.cw_shareparley_k24_mean_of_all_orders_holds : PySem.Challenge.rw_shareparley_k24_mean_of_all_orders.Holds := by
  w_on; o_law; k_head; (case hw => w_witness2)
  k_fill
  refine L2.walk_of (l := PySem.Challenge.rw_shareparley_k24_mean_of_all_orders) (n := 63) (k := 6) (x := "_law_script") (CX := fun w => L2.CX (PySem.Challenge.rw_shareparley_k24_mean_of_all_orders).prog w) (sp := fun w => Lw.sp_law _) rfl (by decide) rfl ⟨rfl, by decide, by decide⟩ (fun w h Y => PySem.W.kIn_of Y) ?F (fun _ _ a ns hl _ hS => ⟨a, ns, rfl, hS, hl, fun _ => rfl⟩) (fun _ _ _ _ _ h => Sp.cx_none h)
  case F =>
    intro w mg fa h KX G hmg
    refine' Lw.all_mk KX G hmg ?a_is_whole ?l_is_whole ?c_is_whole ?k_is_whole ?a_divisor ?l_divisor ?c_divisor ?k_divisor ?a_shortest ?l_shortest ?c_shortest ?k_shortest ?a_fraction ?l_fraction ?c_fraction ?k_fraction ?a_look_group ?l_look_group ?c_look_group ?k_look_group ?a_whole_of ?l_whole_of ?c_whole_of ?k_whole_of ?a_hands_of ?l_hands_of ?c_hands_of ?k_hands_of ?a_size_of ?l_size_of ?c_size_of ?k_size_of ?a_look ?l_look ?c_look ?k_look ?a_dividends ?l_dividends ?c_dividends ?k_dividends ?a_mean_shares ?l_mean_shares ?c_mean_shares ?k_mean_shares ?a__law_whole ?l__law_whole ?c__law_whole ?k__law_whole ?a__law_cell ?l__law_cell ?c__law_cell ?k__law_cell ?a__law_number ?l__law_number ?c__law_number ?k__law_number ?a__law_table ?l__law_table ?c__law_table ?k__law_table ?a__law_orders ?l__law_orders ?c__law_orders ?k__law_orders ?a__law_sums ?l__law_sums ?c__law_sums ?k__law_sums ?a__law_lowest ?l__law_lowest ?c__law_lowest ?k__law_lowest ?a__law_alike ?l__law_alike ?c__law_alike ?k__law_alike ?a_law ?l_law ?c_law ?k_law ?ac_NoNumber ?kc_NoNumber ?ec_NoNumber ?tc_NoNumber ?xc_NoNumber ?ac_NoGroup ?kc_NoGroup ?ec_NoGroup ?tc_NoGroup ?xc_NoGroup ?ac_NoTable ?kc_NoTable ?ec_NoTable ?tc_NoTable ?xc_NoTable ?cn_MOST ?cn_SIXTY ?z_abs ?z_bool ?z_int ?z_isinstance ?z_len ?z_list ?z_min ?z_range ?z_tuple
    (case a_is_whole => k_is)
    (case l_is_whole => k_is)
    (case c_is_whole => k_is)
    (case k_is_whole => k_is)
    (case a_divisor => k_is)
    (case l_divisor => k_is)
    (case c_divisor => k_is)
    (case k_divisor => k_is)
    (case a_shortest => k_is)
    (case l_shortest => k_is)
    (case c_shortest => k_is)
    (case k_shortest => k_is)
    (case a_fraction => k_is)
    (case l_fraction => k_is)
    (case c_fraction => k_is)
    (case k_fraction => k_is)
    (case a_look_group => k_is)
    (case l_look_group => k_is)
    (case c_look_group => k_is)
    (case k_look_group => k_is)
    (case a_whole_of => k_is)
    (case l_whole_of => k_is)
    (case c_whole_of => k_is)
    (case k_whole_of => k_is)
    (case a_hands_of => k_is)
    (case l_hands_of => k_is)
    (case c_hands_of => k_is)
    (case k_hands_of => k_is)
    (case a_size_of => k_is)
    (case l_size_of => k_is)
    (case c_size_of => k_is)
    (case k_size_of => k_is)
    (case a_look => k_is)
    (case l_look => k_is)
    (case c_look => k_is)
    (case k_look => k_is)
    (case a_dividends => k_is)
    (case l_dividends => k_is)
    (case c_dividends => k_is)
    (case k_dividends => k_is)
    (case a_mean_shares => k_is)
    (case l_mean_shares => k_is)
    (case c_mean_shares => k_is)
    (case k_mean_shares => k_is)
    (case a__law_whole => k_is)
    (case l__law_whole => k_is)
    (case c__law_whole => k_is)
    (case k__law_whole => k_is)
    (case a__law_cell => k_is)
    (case l__law_cell => k_is)
    (case c__law_cell => k_is)
    (case k__law_cell => k_is)
    (case a__law_number => k_is)
    (case l__law_number => k_is)
    (case c__law_number => k_is)
    (case k__law_number => k_is)
    (case a__law_table => k_is)
    (case l__law_table => k_is)
    (case c__law_table => k_is)
    (case k__law_table => k_is)
    (case a__law_orders => k_is)
    (case l__law_orders => k_is)
    (case c__law_orders => k_is)
    (case k__law_orders => k_is)
    (case a__law_sums => k_is)
    (case l__law_sums => k_is)
    (case c__law_sums => k_is)
    (case k__law_sums => k_is)
    (case a__law_lowest => k_is)
    (case l__law_lowest => k_is)
    (case c__law_lowest => k_is)
    (case k__law_lowest => k_is)
    (case a__law_alike => k_is)
    (case l__law_alike => k_is)
    (case c__law_alike => k_is)
    (case k__law_alike => k_is)
    (case a_law => k_is)
    (case l_law => k_is)
    (case c_law => k_is)
    (case k_law => k_is)
    (case ac_NoNumber => k_is)
    (case kc_NoNumber => k_is)
    (case ec_NoNumber => k_is)
    (case tc_NoNumber => k_is)
    (case xc_NoNumber => k_exc)
    (case ac_NoGroup => k_is)
    (case kc_NoGroup => k_is)
    (case ec_NoGroup => k_is)
    (case tc_NoGroup => k_is)
    (case xc_NoGroup => k_exc)
    (case ac_NoTable => k_is)
    (case kc_NoTable => k_is)
    (case ec_NoTable => k_is)
    (case tc_NoTable => k_is)
    (case xc_NoTable => k_exc)
    (case cn_MOST => k_is)
    (case cn_SIXTY => k_is)
    (case z_abs => k_is)
    (case z_bool => k_is)
    (case z_int => k_is)
    (case z_isinstance => k_is)
    (case z_len => k_is)
    (case z_list => k_is)
    (case z_min => k_is)
    (case z_range => k_is)
    (case z_tuple => k_is)
