import PyProof.Rows.All
import Wide.All
import OpenK.AllK
import Wide.FinOn
import HandS.ForMost
import HandS.Exc
import HandS.TryOnly
import HandS.ExcOwn
import HandS.WordsExc
import HandS.IsInst
import HandS.Style
import HandS.Zip
import HandS.Conv
import HandS.WordsDict
import HandS.ExcIs
import PySem.Challenge.RW_shareparley_k30_orders_refused
set_option Elab.async false
set_option linter.all false
set_option maxRecDepth 100000
set_option maxHeartbeats 4000000
/-! Cm: what every text of ours leans on: the carried heap (Own), the readings walked step by step (x_..), own rules. -/
namespace Sp
open PySem L2 PyProof.Rows

/-! ### the carried heap: B is what stands and stays, cs the cells of our own that may still change -/
abbrev Cells := List (Addr × HO)
structure Own (B : Hp) (cs : Cells) (H : Hp) : Prop where
  ex : Same B H
  cell : ∀ p ∈ cs, H p.1 = some p.2 ∧ B p.1 = none
  nd : (cs.map (·.1)).Nodup
theorem same_upd {H : Hp} {p : Addr} {o : HO} (h : H p = none) : Same H (upd H p o) := fun b x e => by
  rw [upd_ne (ne_of_none e h)]
  exact e
theorem Own.start {H : Hp} : Own H [] H := ⟨Same.refl H, fun _ h => (nomatch h), List.nodup_nil⟩
section
variable {B H H' : Hp} {cs : Cells} {p : Addr} {o o' : HO} {K : PySem.W.Frag} {xs : List V}
theorem Own.ext (w : Own B cs H) (e : Same H H') : Own B cs H' := ⟨w.ex.trans e, fun q h => ⟨e _ _ (w.cell q h).1, (w.cell q h).2⟩, w.nd⟩
theorem Own.fresh (w : Own B cs H) (hp : H p = none) : B p = none := w.ex.free hp
theorem Own.off (w : Own B cs H) (hp : H p = none) : p ∉ cs.map (·.1) := fun m => by
  obtain ⟨q, hq, e⟩ := List.mem_map.mp m
  have := (w.cell q hq).1
  rw [e, hp] at this
  cases this
theorem Own.newE (w : Own B cs H) (hp : H p = none) (e : Same H H') (h : H' p = some o) : Own B ((p, o) :: cs) H' :=
  ⟨w.ex.trans e, fun q hq => by
    rcases List.mem_cons.mp hq with r | r
    · rw [r]; exact ⟨h, w.fresh hp⟩
    · exact ⟨e _ _ (w.cell q r).1, (w.cell q r).2⟩, List.nodup_cons.mpr ⟨w.off hp, w.nd⟩⟩
theorem Own.new (w : Own B cs H) (hp : H p = none) : Own B ((p, o) :: cs) (upd H p o) := w.newE hp (same_upd hp) upd_same
theorem Own.get (w : Own B cs H) (i : Nat) (h : cs[i]? = some (p, o)) : H p = some o := (w.cell _ (List.mem_of_getElem? h)).1
theorem Own.none (w : Own B cs H) (i : Nat) (h : cs[i]? = some (p, o)) : B p = none := (w.cell _ (List.mem_of_getElem? h)).2
theorem Own.put (w : Own B cs H) (i : Nat) (h : cs[i]? = some (p, o)) : Own B (cs.set i (p, o')) (upd H p o') := by
  have hi : i < cs.length := (List.getElem?_eq_some_iff.mp h).1
  have hm : (cs.set i (p, o')).map (·.1) = cs.map (·.1) := by
    rw [List.map_set]
    apply List.ext_getElem?
    intro j
    by_cases e : i = j
    · subst e
      rw [List.getElem?_set_self (by rw [List.length_map]; exact hi), List.getElem?_map, h] <;> rfl
    · rw [List.getElem?_set_ne e]
  refine ⟨fun b x e => ?_, fun q hq => ?_, by rw [hm]; exact w.nd⟩
  · rw [upd_ne (ne_of_none e (w.none i h))]
    exact w.ex b x e
  · obtain ⟨j, hj⟩ := List.mem_iff_getElem?.mp hq
    by_cases e : i = j
    · subst e
      rw [List.getElem?_set_self hi] at hj
      cases hj
      exact ⟨upd_same, w.none i h⟩
    · rw [List.getElem?_set_ne e] at hj
      have hq' := w.cell q (List.mem_of_getElem? hj)
      have hne : q.1 ≠ p := fun z => by
        have a1 : (cs.map (·.1))[i]? = some p := by rw [List.getElem?_map, h] <;> rfl
        have a2 : (cs.map (·.1))[j]? = some p := by rw [List.getElem?_map, hj, ← z] <;> rfl
        obtain ⟨l1, e1⟩ := List.getElem?_eq_some_iff.mp a1
        obtain ⟨l2, e2⟩ := List.getElem?_eq_some_iff.mp a2
        exact e ((List.getElem_inj w.nd).mp (e1.trans e2.symm))
      exact ⟨by rw [upd_ne hne]; exact hq'.1, hq'.2⟩
theorem Own.sub {ds : Cells} (w : Own B cs H) (h : ds.Sublist cs) : Own B ds H := ⟨w.ex, fun q hq => w.cell q (h.mem hq), (h.map (·.1)).nodup w.nd⟩
theorem Own.pop (w : Own B ((p, o) :: cs) H) : Own B cs H := w.sub (List.sublist_cons_self _ _)
theorem Own.freeze (w : Own B ((p, o) :: cs) H) : Own (upd B p o) cs H :=
  ⟨fun b x e => by
    by_cases z : b = p
    · subst z; rw [upd_same] at e; rw [← e]; exact w.get 0 rfl
    · rw [upd_ne z] at e; exact w.ex b x e,
   fun q hq => ⟨(w.cell q (List.mem_cons_of_mem _ hq)).1, by
    rw [upd_ne (fun z => ?_)]
    · exact (w.cell q (List.mem_cons_of_mem _ hq)).2
    · have := (List.nodup_cons.mp w.nd).1
      exact this (List.mem_map.mpr ⟨q, hq, z⟩)⟩, (List.nodup_cons.mp w.nd).2⟩
theorem Own.sq (w : Own B cs H) (i : Nat) (h : cs[i]? = some (p, .lst xs)) : SqL K H p xs := SqL.of (w.get i h)
theorem Own.sqT (w : Own B cs H) (i : Nat) (h : cs[i]? = some (p, .tup xs)) : SqT K H p xs := SqT.of (w.get i h)
theorem same_sqT (e : Same H H') (h : SqT K H p xs) : SqT K H' p xs := by
  rcases h with (h | ⟨u, h⟩) | h
  · exact .inl (.inl (e _ _ h))
  · exact .inl (.inr ⟨u, e _ _ h⟩)
  · exact .inr h
theorem Own.seq (w : Own B cs H) (h : SqL K B p xs) : SqL K H p xs := w.ex.seq h
theorem Own.seqT (w : Own B cs H) (h : SqT K B p xs) : SqT K H p xs := same_sqT w.ex h
end

/-! ### own rules -/
section
variable {X : Cx}
/-- a list that is read: ours, or frozen -/
abbrev RdL (H : Hp) (a : Addr) (xs : List V) : Prop := Rd H a (.lst xs)
theorem rd_list {pins : List (Addr × Obj)} {σ : L2.St} {H : Hp} {s : Shared} {p : Addr} {xs : List V} (I : Inv X pins σ H s) (h : RdL H p xs) :
    xs.length ≤ sizeLine ∧ ∃ (its : List Value) (n : Nat), Vals xs its ∧ xs.length = its.length ∧ s.heap.get? p = some { cls := .type "list", data := .seq its.toArray n } := by
  obtain ⟨z, its, n, r, e⟩ := h.ok I.hok
  exact ⟨z, its, n, r, r.length, e⟩
/-- + of lists (ours or frozen) -/
def rCatS : R2 := fun x y H Q => ∃ l b xs zs, x = .ref l ∧ y = .ref b ∧ RdL H l xs ∧ RdL H b zs ∧ xs.length + zs.length ≤ sizeLine ∧ ∀ p, H p = none → Q (.ref p) (upd H p (.lst (xs ++ zs)))
theorem op_catS : OpR X (binaryOp .Add) rCatS := by
  intro pins s σ H x y v u Q I rx ry h
  obtain ⟨l, b, xs, zs, rfl, rfl, hH, hB, hz, q⟩ := h
  cases rx
  cases ry
  obtain ⟨z, its, n, r, hl, e⟩ := rd_list I hH
  obtain ⟨z2, its2, n2, r2, hl2, e2⟩ := rd_list I hB
  refine PySem.P.add_list e e2 ?_ (by rw [List.size_toArray, List.size_toArray]; omega)
  have ea : its.toArray ++ its2.toArray = (its ++ its2).toArray := by simp
  rw [ea]
  exact ⟨.ref _, _, I.lnew (t' := s.toks) (r.append r2) (by rw [List.length_append]; omega), rfl, q _ I.fresh⟩
/-- + of ints, of lists, of texts: which one, the reading says -/
def rAddX : R2 := fun x y H Q => (rI0 (fun i j => .int (i + j))) x y H Q ∨ rCatS x y H Q ∨ (∃ i j, x = .str i ∧ y = .str j ∧ i.length + j.length ≤ sizeLine ∧ Q (.str (i ++ j)) H)
theorem op_addX : OpR X (binaryOp .Add) rAddX := op_add.or (op_catS.or op_add_str)
/-- * of ints (any that the machine multiplies); of a list and an int -/
def rMulI : R2 := rI IntMulOk fun i j => .int (i * j)
theorem op_mulI : OpR X (binaryOp .Mult) rMulI := opI fun _ _ _ _ _ _ _ hc q => mul_int q hc
def rMulX : R2 := fun x y H Q => rMulI x y H Q ∨ rRep x y H Q
theorem op_mulX : OpR X (binaryOp .Mult) rMulX := op_mulI.or op_rep
/-- // by a divisor that is not nought, below 2 ^ 9000 -/
def CDivX (_ j : Int) : Prop := j ≠ 0 ∧ j.natAbs.log2 < 9000
def rDivX : R2 := rI CDivX fun i j => .int (i.fdiv j)
theorem op_fdivX : OpR X (binaryOp .FloorDiv) rDivX := opI fun _ _ _ _ _ _ _ hc q => floordiv_int hc.1 q (.inl (PyProof.noPylong_of_log2 hc.2))
def rModX : R2 := rI (fun _ j => j ≠ 0) fun i j => .int (i.fmod j)
theorem op_modX : OpR X (binaryOp .Mod) rModX := op_modN
/-- ** and << of a small base; >> -/
def rPow : R2 := rI CPow fun i j => .int (i ^ j.toNat)
theorem op_powX : OpR X (binaryOp .Pow) rPow := op_pow
def rShl : R2 := rI CPow fun i j => .int (i * 2 ^ j.toNat)
theorem op_shlX : OpR X (binaryOp .LShift) rShl := op_shl
def rShr : R2 := rI (fun _ j => 0 ≤ j) fun i j => .int (i / 2 ^ j.toNat)
theorem op_shrX : OpR X (binaryOp .RShift) rShr := op_shr
def rSubI : R2 := rI0 fun i j => .int (i - j)
theorem op_subX : OpR X (binaryOp .Sub) rSubI := op_sub
def rAndI : R2 := rI0 fun i j => .int (Builtin.bitAnd i j)
theorem op_andX : OpR X (binaryOp .BitAnd) rAndI := op_and
def rOrI : R2 := rI0 fun i j => .int (Builtin.bitOr i j)
theorem op_orX : OpR X (binaryOp .BitOr) rOrI := op_or
def rXorI : R2 := rI0 fun i j => .int (Builtin.bitXor i j)
theorem op_xorX : OpR X (binaryOp .BitXor) rXorI := op_xor
def rLtI : R2 := rI0 fun i j => .bl (decide (i < j))
theorem op_ltX : OpR X (compareOp .Lt) rLtI := op_lt
def rLeI : R2 := rI0 fun i j => .bl (decide (i ≤ j))
theorem op_leX : OpR X (compareOp .LtE) rLeI := op_le
def rGtI : R2 := rI0 fun i j => .bl (decide (j < i))
theorem op_gtX : OpR X (compareOp .Gt) rGtI := op_gt
def rGeI : R2 := rI0 fun i j => .bl (decide (j ≤ i))
theorem op_geX : OpR X (compareOp .GtE) rGeI := op_ge
/-- == and != of plain values, of data -/
def rEqX (K : PySem.W.Frag) : R2 := fun x y H Q => rEq x y H Q ∨ rEqD K x y H Q
def rNeX (K : PySem.W.Frag) : R2 := fun x y H Q => rNe x y H Q ∨ rNeD K x y H Q
theorem op_eqX (hu : X.A.units + 64 < cLine) : OpR X (compareOp .Eq) (rEqX X.K) := op_eq.or (op_eqD hu)
theorem op_neX (hu : X.A.units + 64 < cLine) : OpR X (compareOp .NotEq) (rNeX X.K) := op_ne.or (op_neD hu)
/-- is, is not, of anything and a truth -/
def rIsX : R2 := fun x y H Q => ∃ b : Bool, y = .bl b ∧ Q (.bl (decide (x = .bl b))) H
/-- is None -/
def rIsNX : R2 := fun x y H Q => y = .non ∧ Q (.bl (decide (x = .non))) H
def rNotNX : R2 := fun x y H Q => y = .non ∧ Q (.bl (!decide (x = .non))) H
theorem op_isNX : OpR X (compareOp .Is) rIsNX := op_isN
theorem op_notNX : OpR X (compareOp .IsNot) rNotNX := op_notN
theorem op_isX : OpR X (compareOp .Is) rIsX := by
  intro pins s σ H x y v u Q I rx ry h
  obtain ⟨b, rfl, q⟩ := h
  cases (show u = Value.bool b from ry)
  cases x with
  | bl a =>
    cases (show v = Value.bool a from rx)
    by_cases e : a = b
    · subst e
      exact wpAny_is_self rfl ⟨.bl true, H, I, rfl, by simpa using q⟩
    · exact wpAny_is_other rfl (fun z => e (Value.bool.inj z)) ⟨.bl false, H, I, rfl, by simpa [e] using q⟩
  | non => cases (show v = Value.none from rx); exact wpAny_is_other rfl (fun z => nomatch z) ⟨.bl false, H, I, rfl, by simpa using q⟩
  | int i => obtain ⟨t, rfl⟩ := rx; exact wpAny_is_other rfl (fun z => nomatch z) ⟨.bl false, H, I, rfl, by simpa using q⟩
  | str i => obtain ⟨t, rfl⟩ := rx; exact wpAny_is_other rfl (fun z => nomatch z) ⟨.bl false, H, I, rfl, by simpa using q⟩
  | byt i => obtain ⟨t, rfl⟩ := rx; exact wpAny_is_other rfl (fun z => nomatch z) ⟨.bl false, H, I, rfl, by simpa using q⟩
  | flt i => obtain ⟨t, rfl⟩ := rx; exact wpAny_is_other rfl (fun z => nomatch z) ⟨.bl false, H, I, rfl, by simpa using q⟩
  | ref a => cases (show v = Value.ref a from rx); exact wpAny_is_other rfl (fun z => nomatch z) ⟨.bl false, H, I, rfl, by simpa using q⟩
  | ty a => cases (show v = Value.type a from rx); exact wpAny_is_other rfl (fun z => nomatch z) ⟨.bl false, H, I, rfl, by simpa using q⟩
/-- the place of a list's item is read, as a store by an operator reads it -/
theorem get_list : PGet X (rIxL X.K) := by
  intro pins s σ H x y v u Q I rx ry h
  obtain ⟨p, xs, i, z, rfl, rfl, hq, he, q⟩ := h
  cases rx
  obtain ⟨t, rfl⟩ := ry
  obtain ⟨its, r, pl, hz⟩ := I.list hq
  obtain ⟨j, h1, h2, h3, h4, h5⟩ := atI_get he
  obtain ⟨w, ew, rw'⟩ := r.get h2
  have hl := r.length
  have hn := line63
  have fin : EP X pins σ Q w s := ⟨z, H, I, rw', q⟩
  by_cases h0 : 0 ≤ i
  · have hj : i.toNat = j := by
      rw [seqIndex_of h0 h5] at h1
      exact Option.some.inj h1
    exact wpAny_getItem_list pl.isList h0 (by omega) (by rw [hj]; simpa using ew) fin
  · have hj : (i + (its.toArray.size : Int)).toNat = j := by
      rw [seqIndex_neg (by omega) h4] at h1
      rw [List.size_toArray, ← hl]
      exact Option.some.inj h1
    exact wpAny_getItem_list_neg pl.isList (by omega) (by rw [List.size_toArray] <;> omega) (by omega) (by rw [hj]; simpa using ew) fin
/-- len, list, sum, .. by names of ours -/
def rLen (K : PySem.W.Frag) : List V → Hp → VK → Prop := fun xs H Q => ∃ x n, xs = [x] ∧ LenV K x H n ∧ Q (.int n) H
theorem call_lenX : CallR X (.builtin "len") (rLen X.K) := call_len
def rList (K : PySem.W.Frag) : List V → Hp → VK → Prop := fun xs H Q => ∃ p ys, xs = [.ref p] ∧ (SqL K H p ys ∨ SqT K H p ys) ∧ ∀ l, H l = none → Q (.ref l) (upd H l (.lst ys))
theorem call_listX : CallR X (.type "list") (rList X.K) := call_list_of
def rAbs : List V → Hp → VK → Prop := fun xs H Q => ∃ i, xs = [.int i] ∧ Q (.int (if i < 0 then -i else i)) H
theorem call_absX : CallR X (.builtin "abs") rAbs := call_abs
def rMax2 : List V → Hp → VK → Prop := fun xs H Q => ∃ i j, xs = [.int i, .int j] ∧ Q (.int (if j > i then j else i)) H
theorem call_max2X (hc : X.calm = true) : CallR X (.builtin "max") rMax2 := call_max2 hc
def rMin2 : List V → Hp → VK → Prop := fun xs H Q => ∃ i j, xs = [.int i, .int j] ∧ Q (.int (if j < i then j else i)) H
theorem call_min2X (hc : X.calm = true) : CallR X (.builtin "min") rMin2 := call_min2 hc
def rInt1 : List V → Hp → VK → Prop := fun xs H Q => (∃ i, xs = [.int i] ∧ Q (.int i) H) ∨ ∃ k, xs = [.bl k] ∧ Q (.int (if k then 1 else 0)) H
theorem call_int1X : CallR X (.type "int") rInt1 := call_int1
end

/-! ### readings, step by step: each of these takes the head of a reading away -/
section
variable {K : PySem.W.Frag} {σ : L2.St} {H : Hp} {D : Ends} {Q : VK} {te ta tb tl th : TE} {t u : TS} {c c2 : TT} {g : TG} {i : Nat} {v x y : V} {r : R2} {QT : Bool → Hp → Prop} {QA : List V → Hp → Prop} {sp : Sp} {dvs vs : List V} {E : XK}
theorem x_seq (h : t { D with nx := u D } σ H) : tSeq t u D σ H := h
theorem x_next (h : D.nx σ H) : tNext D σ H := h
theorem x_asg (h : te σ H fun x H1 => D.nx (σ.set i (some x)) H1) : tAsg te (gName i) D σ H := h
theorem x_asgS {to ti : TE} {s : TSet} (h : te σ H fun x H1 => to σ H1 fun o H2 => ti σ H2 fun k H3 => s o k x H3 fun H4 => D.nx σ H4) : tAsg te (gSub to ti s) D σ H := h
theorem x_augS {to ti : TE} {tg : V → V → Hp → VK → Prop} {tip : TIp} {ts : TSet} (h : to σ H fun o H1 => ti σ H1 fun k H2 => tg o k H2 fun x H3 => te σ H3 fun y H4 => tip x y H4 fun z H5 => ts o k z H5 fun H6 => D.nx σ H6) : tAugS to ti te tg tip ts D σ H := h
theorem x_aug {tip : TIp} (e : σ[i]? = some (some x)) (h : te σ H fun y H1 => tip x y H1 fun z H2 => D.nx (σ.set i (some z)) H2) : tAug i te tip D σ H := ⟨x, e, h⟩
theorem x_gn {QS : L2.St → Hp → Prop} (h : QS (σ.set i (some v)) H) : gName i v σ H QS := h
theorem x_gt {n : Nat} {gs : TGs} {a : Addr} {xs : List V} {QS : L2.St → Hp → Prop} (h : SqT K H a xs) (hn : xs.length = n) (q : gs xs σ H QS) : gTup K n gs (.ref a) σ H QS := ⟨a, xs, rfl, h, hn, q⟩
theorem x_gc {gs : TGs} {r : List V} {QS : L2.St → Hp → Prop} (q : g v σ H fun σ' H' => gs r σ' H' QS) : gCons g gs (v :: r) σ H QS := ⟨v, r, rfl, q⟩
theorem x_g0 {QS : L2.St → Hp → Prop} (q : QS σ H) : gNil [] σ H QS := ⟨rfl, q⟩
theorem x_ret (h : te σ H D.rt) : tRet te D σ H := h
theorem x_retN (h : D.rt .non H) : tRetN D σ H := h
theorem x_drop (h : te σ H fun _ H1 => D.nx σ H1) : tDrop te D σ H := h
theorem x_if (h : c σ H fun b H1 => if b = true then t D σ H1 else u D σ H1) : tIfS c t u D σ H := h
theorem x_brk (h : D.bk σ H) : tBreak D σ H := h
theorem x_ct (h : D.ct σ H) : tCont D σ H := h
theorem x_var (e : σ[i]? = some (some v)) (q : Q v H) : tVar i σ H Q := ⟨v, e, q⟩
theorem x_c (q : Q v H) : tC v σ H Q := q
theorem x_op (h : ta σ H fun x H1 => tb σ H1 fun y H2 => r x y H2 Q) : tOp r ta tb σ H Q := h
theorem x_un {r : V → Hp → VK → Prop} (h : ta σ H fun x H1 => r x H1 Q) : tUn r ta σ H Q := h
theorem x_test (h : te σ H fun x H1 => ∃ k, x = .bl k ∧ QT k H1) : tTest te σ H QT := h
theorem x_B (h : te σ H fun x H1 => ∃ k, x = .bl k ∧ QT k H1) : tB te σ H QT := h
theorem x_ex {b : Bool} {P : Bool → Prop} (q : P b) : ∃ k, V.bl b = .bl k ∧ P k := ⟨b, rfl, q⟩
theorem x_and (h : c σ H fun b H1 => if b = true then c2 σ H1 QT else QT false H1) : tAnd c c2 σ H QT := h
theorem x_or (h : c σ H fun b H1 => if b = true then QT true H1 else c2 σ H1 QT) : tOr c c2 σ H QT := h
theorem x_not (h : c σ H fun b H1 => QT (!b) H1) : tNot c σ H QT := h
theorem x_andV (h : ta σ H fun x H1 => ∃ b, x = .bl b ∧ if b = true then tb σ H1 Q else Q (.bl false) H1) : tAndV ta tb σ H Q := h
theorem x_orV (h : ta σ H fun x H1 => ∃ b, x = .bl b ∧ if b = true then Q (.bl true) H1 else tb σ H1 Q) : tOrV ta tb σ H Q := h
theorem x_notV (h : ta σ H fun x H1 => ∃ b, x = .bl b ∧ Q (.bl (!b)) H1) : tNotV ta σ H Q := h
theorem x_ifE (h : c σ H fun b H1 => if b = true then ta σ H1 Q else tb σ H1 Q) : tIf c ta tb σ H Q := h
theorem x_nil (q : QA [] H) : tNil σ H QA := q
theorem x_cons {tr : TA} (h : te σ H fun v H1 => tr σ H1 fun vs H2 => QA (v :: vs) H2) : tCons te tr σ H QA := h
theorem x_call {tr : TA} (h : tr σ H fun vs H1 => sp (vs ++ dvs) H1 Q E) : tCall sp dvs E tr σ H Q := h
theorem x_cb {tr : TA} {rc : List V → Hp → VK → Prop} (h : tr σ H fun vs H1 => rc vs H1 Q) : tCB rc tr σ H Q := h
theorem x_tup {tr : TA} (h : tr σ H fun xs H1 => xs.length ≤ sizeLine ∧ ∀ p, H1 p = none → Q (.ref p) (upd H1 p (.tup xs))) : tTup tr σ H Q := h
theorem x_lst {tr : TA} (h : tr σ H fun xs H1 => xs.length ≤ sizeLine ∧ ∀ p, H1 p = none → Q (.ref p) (upd H1 p (.lst xs))) : tLst tr σ H Q := h
theorem x_for {wi : TI} (h : wi σ H fun J H1 => ∃ W : Nat → Nat → L2.St → Hp → Prop, (∃ m, W 0 m σ H1) ∧ ∀ i m σ H, W i m σ H →
  (J.stop i H ∧ D.nx σ H) ∨ (J.go i H ∧ ∃ N : L2.St → Hp → Prop, (∀ σ' H', N σ' H' → ∃ m', m' < m ∧ W (i + 1) m' σ' H') ∧ ∀ x H', J.yld i H x H' → g x σ H' fun σ2 H2 => t { D with nx := N, ct := N, bk := D.nx } σ2 H2)) : tFor wi g t D σ H := h
theorem x_iList {R : It → Hp → Prop} (h : tl σ H fun x H1 => ∃ a, x = .ref a ∧ (∃ xs, SqL K H1 a xs) ∧ R (Itl K a) H1) : iList K tl σ H R := h
theorem x_iTup {R : It → Hp → Prop} (h : tl σ H fun x H1 => ∃ a, x = .ref a ∧ (∃ xs, SqT K H1 a xs) ∧ R (Itt K a) H1) : iTup K tl σ H R := h
theorem x_iR1 {R : It → Hp → Prop} {tr : TA} (h : tr σ H fun vs H1 => ∃ j : Int, vs = [.int j] ∧ -(2 ^ 62) ≤ j ∧ j < 2 ^ 62 ∧ R (Itr 0 j.toNat) H1) : iRng1 tr σ H R := h
theorem x_iR2 {R : It → Hp → Prop} {tr : TA} (h : tr σ H fun vs H1 => ∃ i j : Int, vs = [.int i, .int j] ∧ (-(2 ^ 62) ≤ i ∧ i < 2 ^ 62 ∧ -(2 ^ 62) ≤ j ∧ j < 2 ^ 62) ∧ R (Itr i (j - i).toNat) H1) : iRng2 tr σ H R := h
theorem x_iZip {R : It → Hp → Prop} {tr : TA} (h : tr σ H fun vs H1 => ∃ a b xs ys, vs = [.ref a, .ref b] ∧ SqL K H1 a xs ∧ SqL K H1 b ys ∧ R (Itz K a b) H1) : iZip K tr σ H R := h
theorem x_iEnum {R : It → Hp → Prop} {tr : TA} (h : tr σ H fun vs H1 => ∃ a xs, vs = [.ref a] ∧ SqL K H1 a xs ∧ R (Ite K a) H1) : iEnum K tr σ H R := h
theorem x_lc {wi : TI} {tt : TT} {ws : List Nat} (h : wi σ H fun J H1 => ∀ D, H1 D = none → ∃ W : Nat → Nat → Hp → Prop, (∃ m, W 0 m (upd H1 D (.lst []))) ∧ ∀ i m H, W i m H →
  (J.stop i H ∧ Q (.ref D) H) ∨ (J.go i H ∧ ∃ Nx : Hp → Prop, (∀ H', Nx H' → ∃ m', m' < m ∧ W (i + 1) m' H') ∧ ∀ x H', J.yld i H x H' → g x (wipe σ ws) H' fun σ2 H2 => wipe σ2 ws = wipe σ ws ∧ tt σ2 H2 fun b H3 =>
    if b = true then te σ2 H3 fun y H4 => ∃ acc, H4 D = some (.lst acc) ∧ acc.length < sizeLine ∧ Nx (upd H4 D (.lst (acc ++ [y]))) else Nx H3)) : tLc wi g tt te ws σ H Q := h
theorem x_yes (h : QT true H) : tYes σ H QT := h
theorem x_sl {rs : V → Option Int → Option Int → Hp → VK → Prop} {tlo thi : TO} (h : te σ H fun x H1 => tlo σ H1 fun l H2 => thi σ H2 fun u H3 => rs x l u H3 Q) : tSl rs te tlo thi σ H Q := h
theorem x_noPart {QO : Option Int → Hp → Prop} (h : QO none H) : tNoPart σ H QO := h
theorem x_part {QO : Option Int → Hp → Prop} (h : te σ H fun x H1 => ∃ i, x = .int i ∧ QO (some i) H1) : tPart te σ H QO := h
theorem x_exI {j : Int} {P : Int → Prop} (q : P j) : ∃ k, V.int j = .int k ∧ P k := ⟨j, rfl, q⟩
theorem x_bm {T : String} {rm : V → List V → Hp → VK → Prop} {tr : TA} (h : te σ H fun x H1 => tyV K T x H1 ∧ tr σ H1 fun xs H2 => rm x xs H2 Q) : tBM K T rm te tr σ H Q := h
theorem x_bm0 {T : String} {rm : V → List V → Hp → VK → Prop} (h : te σ H fun x H1 => tyV K T x H1 ∧ rm x [] H1 Q) : tBM0 K T rm te σ H Q := h
/- operators by values -/
theorem x_I0 {G : Int → Int → V} {a b : Int} (q : Q (G a b) H) : rI0 G (.int a) (.int b) H Q := ⟨a, b, rfl, rfl, q⟩
theorem x_I {C : Int → Int → Prop} {G : Int → Int → V} {a b : Int} (hc : C a b) (q : Q (G a b) H) : rI C G (.int a) (.int b) H Q := ⟨a, b, rfl, rfl, hc, q⟩
theorem x_U {G : Int → V} {a : Int} (q : Q (G a) H) : rU G (.int a) H Q := ⟨a, rfl, q⟩
theorem x_addI {a b : Int} (q : Q (.int (a + b)) H) : rAddX (.int a) (.int b) H Q := .inl ⟨a, b, rfl, rfl, q⟩
theorem x_addL {l b : Addr} {xs zs : List V} (h1 : RdL H l xs) (h2 : RdL H b zs) (hz : xs.length + zs.length ≤ sizeLine) (q : ∀ p, H p = none → Q (.ref p) (upd H p (.lst (xs ++ zs)))) : rAddX (.ref l) (.ref b) H Q := .inr (.inl ⟨l, b, xs, zs, rfl, rfl, h1, h2, hz, q⟩)
theorem x_addS {a b : Str} (h : a.length + b.length ≤ sizeLine) (q : Q (.str (a ++ b)) H) : rAddX (.str a) (.str b) H Q := .inr (.inr ⟨a, b, rfl, rfl, h, q⟩)
theorem x_subI {a b : Int} (q : Q (.int (a - b)) H) : rSubI (.int a) (.int b) H Q := ⟨a, b, rfl, rfl, q⟩
theorem x_mulI {a b : Int} (h : IntMulOk a b) (q : Q (.int (a * b)) H) : rMulX (.int a) (.int b) H Q := .inl ⟨a, b, rfl, rfl, h, q⟩
theorem x_mulL {l : Addr} {k : Int} {xs : List V} (h1 : H l = some (.lst xs)) (h2 : -(2 ^ 63) ≤ k ∧ k < 2 ^ 63 ∧ xs.length * k.toNat ≤ sizeLine) (q : ∀ p, H p = none → Q (.ref p) (upd H p (.lst (List.replicate k.toNat xs).flatten))) : rMulX (.ref l) (.int k) H Q :=
  .inr ⟨l, k, xs, rfl, rfl, h1, h2.1, h2.2.1, h2.2.2, q⟩
theorem x_divI {a b : Int} (h : b ≠ 0 ∧ b.natAbs.log2 < 9000) (q : Q (.int (a.fdiv b)) H) : rDivX (.int a) (.int b) H Q := ⟨a, b, rfl, rfl, h, q⟩
theorem x_divP {a b : Int} (h0 : 0 < b) (h : b.natAbs.log2 < 9000) (q : Q (.int (a / b)) H) : rDivX (.int a) (.int b) H Q := ⟨a, b, rfl, rfl, ⟨by omega, h⟩, by show Q (.int (a.fdiv b)) H; rw [Int.fdiv_eq_ediv_of_nonneg a (by omega)]; exact q⟩
theorem x_modP {a b : Int} (h0 : 0 < b) (q : Q (.int (a % b)) H) : rModX (.int a) (.int b) H Q := ⟨a, b, rfl, rfl, by omega, by show Q (.int (a.fmod b)) H; rw [Int.fmod_eq_emod_of_nonneg a (by omega)]; exact q⟩
theorem x_powN {a b : Int} (h : CPow a b) (q : Q (.int (a ^ b.toNat)) H) : rPow (.int a) (.int b) H Q := ⟨a, b, rfl, rfl, h, q⟩
theorem x_shl {a b : Int} (h : CPow a b) (q : Q (.int (a * 2 ^ b.toNat)) H) : rShl (.int a) (.int b) H Q := ⟨a, b, rfl, rfl, h, q⟩
theorem x_shr {a b : Int} (h : 0 ≤ b) (q : Q (.int (a / 2 ^ b.toNat)) H) : rShr (.int a) (.int b) H Q := ⟨a, b, rfl, rfl, h, q⟩
theorem x_andI {a b : Int} (q : Q (.int (Builtin.bitAnd a b)) H) : rAndI (.int a) (.int b) H Q := ⟨a, b, rfl, rfl, q⟩
theorem x_orI {a b : Int} (q : Q (.int (Builtin.bitOr a b)) H) : rOrI (.int a) (.int b) H Q := ⟨a, b, rfl, rfl, q⟩
theorem x_xorI {a b : Int} (q : Q (.int (Builtin.bitXor a b)) H) : rXorI (.int a) (.int b) H Q := ⟨a, b, rfl, rfl, q⟩
theorem x_ltI {a b : Int} (q : Q (.bl (decide (a < b))) H) : rLtI (.int a) (.int b) H Q := ⟨a, b, rfl, rfl, q⟩
theorem x_leI {a b : Int} (q : Q (.bl (decide (a ≤ b))) H) : rLeI (.int a) (.int b) H Q := ⟨a, b, rfl, rfl, q⟩
theorem x_gtI {a b : Int} (q : Q (.bl (decide (b < a))) H) : rGtI (.int a) (.int b) H Q := ⟨a, b, rfl, rfl, q⟩
theorem x_geI {a b : Int} (q : Q (.bl (decide (b ≤ a))) H) : rGeI (.int a) (.int b) H Q := ⟨a, b, rfl, rfl, q⟩
theorem dec_int' {a b : Int} : decide (V.int a = V.int b) = decide (a = b) := by
  by_cases e : a = b
  · subst e; simp
  · rw [decide_eq_false e, decide_eq_false (fun z => e (V.int.inj z))]
theorem x_eqI {a b : Int} (q : Q (.bl (decide (a = b))) H) : rEqX K (.int a) (.int b) H Q := .inl ⟨rfl, by rw [dec_int']; exact q⟩
theorem x_neI {a b : Int} (q : Q (.bl (!decide (a = b))) H) : rNeX K (.int a) (.int b) H Q := .inl ⟨rfl, by rw [dec_int']; exact q⟩
theorem x_eqS {a b : Str} (q : Q (.bl (decide (a = b))) H) : rEqX K (.str a) (.str b) H Q := .inl ⟨rfl, by
  have e : decide (V.str a = V.str b) = decide (a = b) := by
    by_cases e : a = b
    · subst e; simp
    · rw [decide_eq_false e, decide_eq_false (fun z => e (V.str.inj z))]
  rw [e]; exact q⟩
theorem x_eqB {a b : Bool} (q : Q (.bl (decide (a = b))) H) : rEqX K (.bl a) (.bl b) H Q := .inl ⟨rfl, by
  have e : decide (V.bl a = V.bl b) = decide (a = b) := by cases a <;> cases b <;> rfl
  rw [e]; exact q⟩
theorem x_isX {b : Bool} (q : Q (.bl (decide (x = .bl b))) H) : rIsX x (.bl b) H Q := ⟨b, rfl, q⟩
theorem x_isN (q : Q (.bl (decide (x = .non))) H) : rIsNX x .non H Q := ⟨rfl, q⟩
theorem x_notN (q : Q (.bl (!decide (x = .non))) H) : rNotNX x .non H Q := ⟨rfl, q⟩
theorem x_ipI {f : Int → Int → Int} {a b : Int} (q : Q (.int (f a b)) H) : ipI f (.int a) (.int b) H Q := ⟨a, b, rfl, rfl, q⟩
/- lists by values -/
theorem x_ixL {p : Addr} {xs : List V} {i : Int} (h : SqL K H p xs) (ha : atI xs i = some v) (q : Q v H) : rIxL K (.ref p) (.int i) H Q := ⟨p, xs, i, v, rfl, rfl, h, ha, q⟩
theorem x_ixT {p : Addr} {xs : List V} {i : Int} (h : SqT K H p xs) (ha : atI xs i = some v) (q : Q v H) : rIxT K (.ref p) (.int i) H Q := ⟨p, xs, i, v, rfl, rfl, h, ha, q⟩
theorem x_ixXL {p : Addr} {xs : List V} {i : Int} (h : SqL K H p xs) (ha : atI xs i = some v) (q : Q v H) : rIx K (.ref p) (.int i) H Q := .inl ⟨p, xs, i, v, rfl, rfl, h, ha, q⟩
theorem x_ixXT {p : Addr} {xs : List V} {i : Int} (h : SqT K H p xs) (ha : atI xs i = some v) (q : Q v H) : rIx K (.ref p) (.int i) H Q := .inr (.inl ⟨p, xs, i, v, rfl, rfl, h, ha, q⟩)
theorem x_lenL {p : Addr} {xs : List V} (h : SqL K H p xs) (q : Q (.int (xs.length : Int)) H) : rLen K [.ref p] H Q := ⟨_, _, rfl, .inl ⟨xs, h, rfl⟩, q⟩
theorem x_lenT {p : Addr} {xs : List V} (h : SqT K H p xs) (q : Q (.int (xs.length : Int)) H) : rLen K [.ref p] H Q := ⟨_, _, rfl, .inr ⟨xs, h, rfl⟩, q⟩
theorem x_lenS {z : Str} (h : z.length ≤ sizeLine) (q : Q (.int (z.length : Int)) H) : rLen K [.str z] H Q := ⟨_, _, rfl, ⟨h, rfl⟩, q⟩
theorem x_list {p : Addr} {xs : List V} (h : SqL K H p xs) (q : ∀ l, H l = none → Q (.ref l) (upd H l (.lst xs))) : rList K [.ref p] H Q := ⟨p, xs, rfl, .inl h, q⟩
theorem x_append {l : Addr} {xs : List V} (h : H l = some (.lst xs)) (hz : xs.length < sizeLine) (q : Q .non (upd H l (.lst (xs ++ [y])))) : rAppend (.ref l) [y] H Q := ⟨l, xs, y, rfl, rfl, h, hz, q⟩
theorem x_setL {p : Addr} {xs : List V} {k : Int} {j : Nat} {QH : Hp → Prop} (h : H p = some (.lst xs)) (hj : ixN xs.length k = some j) (q : QH (upd H p (.lst (xs.set j v)))) : rSetL (.ref p) (.int k) v H QH := ⟨p, xs, k, j, rfl, rfl, h, hj, q⟩
theorem x_tyL {p : Addr} {xs : List V} (h : H p = some (.lst xs)) : tyV K "list" (.ref p) H := .inl ⟨rfl, _, SqL.of h⟩
theorem x_abs {j : Int} (q : Q (.int (if j < 0 then -j else j)) H) : rAbs [.int j] H Q := ⟨j, rfl, q⟩
theorem x_max2 {a b : Int} (q : Q (.int (if b > a then b else a)) H) : rMax2 [.int a, .int b] H Q := ⟨a, b, rfl, q⟩
theorem x_min2 {a b : Int} (q : Q (.int (if b < a then b else a)) H) : rMin2 [.int a, .int b] H Q := ⟨a, b, rfl, q⟩
theorem x_sum {p : Addr} {ns : List Int} (h : SqL K H p (ns.map V.int)) (q : Q (.int ns.sum) H) : rSum K [.ref p] H Q := ⟨p, ns, rfl, h, q⟩
/-- while: W falls; the turn's test is read as it stands -/
theorem x_while (W : Nat → L2.St → Hp → Prop) (m0 : Nat) (h0 : W m0 σ H) (hs : ∀ m σ H, W m σ H → c σ H fun b H1 => if b = true then ∃ N : L2.St → Hp → Prop, (∀ σ' H', N σ' H' → ∃ m', m' < m ∧ W m' σ' H') ∧ t { D with nx := N, ct := N, bk := D.nx } σ H1 else D.nx σ H1) : tWhile c t D σ H := ⟨W, ⟨m0, h0⟩, hs⟩
theorem x_N {m : Nat} {W : Nat → L2.St → Hp → Prop} {B : L2.St → Hp → Prop} (h : t { D with nx := fun σ' H' => ∃ m', m' < m ∧ W m' σ' H', ct := fun σ' H' => ∃ m', m' < m ∧ W m' σ' H', bk := B } σ H) :
    ∃ N : L2.St → Hp → Prop, (∀ σ' H', N σ' H' → ∃ m', m' < m ∧ W m' σ' H') ∧ t { D with nx := N, ct := N, bk := B } σ H := ⟨_, fun _ _ z => z, h⟩
end
/-! ### places in lists of ints -/
def gi (ns : List Int) (i : Int) : Int := ns.getD i.toNat 0
theorem at_int {ns : List Int} {i : Int} (h0 : 0 ≤ i) (h1 : i < ns.length) : atI (ns.map V.int) i = some (.int (gi ns i)) := by
  obtain ⟨n, rfl⟩ := Int.eq_ofNat_of_zero_le h0
  have hn : n < ns.length := by omega
  refine atI_nat ?_
  rw [List.getElem?_map, List.getElem?_eq_getElem hn]
  show some (V.int ns[n]) = some (V.int (ns.getD n 0))
  rw [List.getD_eq_getElem?_getD, List.getElem?_eq_getElem hn] <;> rfl
theorem ixN_int {n : Nat} {i : Int} (h0 : 0 ≤ i) (h1 : i < n) : ixN n i = some i.toNat := by
  unfold ixN
  rw [if_pos h0, if_pos h1]
theorem map_set_int {ns : List Int} {j : Nat} {z : Int} : (ns.map V.int).set j (.int z) = (ns.set j z).map V.int := (List.map_set).symm
theorem map_app_int {ns : List Int} {z : Int} : ns.map V.int ++ [.int z] = (ns ++ [z]).map V.int := by rw [List.map_append] <;> rfl
theorem mulok {a b : Int} {n m : Nat} (ha : a.natAbs < 2 ^ n) (hb : b.natAbs < 2 ^ m) (h0 : 0 < n) (h1 : 0 < m) (h : n + m ≤ 100000000) : IntMulOk a b := by
  have bb : ∀ x : Int, ∀ k, 0 < k → x.natAbs < 2 ^ k → Builtin.Int.intBits x ≤ k := fun x k hk hx => by
    have := PySem.Flt.log2_lt_of hk hx
    unfold Builtin.Int.intBits
    split <;> omega
  have h2 := bb a n h0 ha
  have h3 := bb b m h1 hb
  have e : bitsLine = 134217728 := by decide
  unfold IntMulOk
  intro z
  rw [Bool.and_eq_true] at z
  have z2 := z.2
  unfold Builtin.Int.intTooBig at z2
  have z3 := of_decide_eq_true z2
  rw [e] at z3
  omega

/-! ### things of any kind, as a caller hands them in -/
inductive Thing (H : Hp) : V → Prop
  | non : Thing H .non
  | bl (b : Bool) : Thing H (.bl b)
  | int (i : Int) : Thing H (.int i)
  | str (x : Str) : Thing H (.str x)
  | lst {a : Addr} {xs : List V} (e : Rd H a (.lst xs)) : Thing H (.ref a)
  | tup {a : Addr} {xs : List V} (e : Rd H a (.tup xs)) : Thing H (.ref a)
  | dic {a : Addr} {kvs : List (Key × V)} (e : H a = some (.dK kvs)) : Thing H (.ref a)
/-- v is a whole number from l to g -/
def inR (v : V) (l g : Int) : Prop := ∃ z, v = .int z ∧ l ≤ z ∧ z ≤ g
def isI : V → Bool
  | .int _ => true
  | _ => false
def isB : V → Bool
  | .bl _ => true
  | _ => false
theorem rd_same {H H' : Hp} {a : Addr} {u : HO} (e : Same H H') (h : Rd H a u) : Rd H' a u := by
  rcases h with h | ⟨o, h⟩
  · exact .inl (e _ _ h)
  · exact .inr ⟨o, e _ _ h⟩
theorem Thing.same {H H' : Hp} {v : V} (e : Same H H') (h : Thing H v) : Thing H' v := by
  cases h with
  | non => exact .non
  | bl b => exact .bl b
  | int i => exact .int i
  | str x => exact .str x
  | lst q => exact .lst (rd_same e q)
  | tup q => exact .tup (rd_same e q)
  | dic q => exact .dic (e _ _ q)
theorem Thing.ty {K : PySem.W.Frag} {H : Hp} {v : V} (h : Thing H v) : ∃ t : String, TyX K H v (.type t) ∧ kitB t "int" = some (isI v || isB v) ∧ kitB t "bool" = some (isB v) := by
  cases h with
  | non => exact ⟨"NoneType", .base .non, by decide +kernel, by decide +kernel⟩
  | bl b => exact ⟨"bool", .base (.bl b), by cases b <;> decide +kernel, by cases b <;> decide +kernel⟩
  | int i => exact ⟨"int", .base (.int i), by show kitB "int" "int" = some true; decide +kernel, by show kitB "int" "bool" = some false; decide +kernel⟩
  | str x => exact ⟨"str", .base (.str x), by show kitB "str" "int" = some false; decide +kernel, by show kitB "str" "bool" = some false; decide +kernel⟩
  | lst q =>
    rcases q with q | ⟨o, q⟩
    · exact ⟨"list", .base (.lst q), by show kitB "list" "int" = some false; decide +kernel, by show kitB "list" "bool" = some false; decide +kernel⟩
    · exact ⟨"list", .base (.frz q), by show kitB "list" "int" = some false; decide +kernel, by show kitB "list" "bool" = some false; decide +kernel⟩
  | tup q =>
    rcases q with q | ⟨o, q⟩
    · exact ⟨"tuple", .base (.tup q), by show kitB "tuple" "int" = some false; decide +kernel, by show kitB "tuple" "bool" = some false; decide +kernel⟩
    · exact ⟨"tuple", .fTuple q, by show kitB "tuple" "int" = some false; decide +kernel, by show kitB "tuple" "bool" = some false; decide +kernel⟩
  | dic q => exact ⟨"dict", .base (.dK q), by show kitB "dict" "int" = some false; decide +kernel, by show kitB "dict" "bool" = some false; decide +kernel⟩
section
variable {K : PySem.W.Frag} {H : Hp} {Q : VK} {v : V}
theorem x_isiInt (h : Thing H v) (q : Q (.bl (isI v || isB v)) H) : rIsi K [v, .ty "int"] H Q := by
  obtain ⟨t, h1, h2, _⟩ := h.ty (K := K)
  exact ⟨v, .ty "int", _, _, _, rfl, .ty _, h1, kit_ty h2, q⟩
theorem x_isiBool (h : Thing H v) (q : Q (.bl (isB v)) H) : rIsi K [v, .ty "bool"] H Q := by
  obtain ⟨t, h1, _, h2⟩ := h.ty (K := K)
  exact ⟨v, .ty "bool", _, _, _, rfl, .ty _, h1, kit_ty h2, q⟩
theorem x_isiListL {a : Addr} {xs : List V} (h : Rd H a (.lst xs)) (q : Q (.bl true) H) : rIsi K [.ref a, .ty "list"] H Q := by
  rcases h with h | ⟨o, h⟩
  · exact ⟨_, .ty "list", _, _, _, rfl, .ty _, .base (.lst h), kit_ty (by decide +kernel), q⟩
  · exact ⟨_, .ty "list", _, _, _, rfl, .ty _, .base (.frz h), kit_ty (by decide +kernel), q⟩
theorem x_isiTupT {a : Addr} {xs : List V} (h : Rd H a (.tup xs)) (q : Q (.bl true) H) : rIsi K [.ref a, .ty "tuple"] H Q := by
  rcases h with h | ⟨o, h⟩
  · exact ⟨_, .ty "tuple", _, _, _, rfl, .ty _, .base (.tup h), kit_ty (by decide +kernel), q⟩
  · exact ⟨_, .ty "tuple", _, _, _, rfl, .ty _, .fTuple h, kit_ty (by decide +kernel), q⟩
end
/-- what a def tells and leaves: a value; a new list -/
def RetV (v : V) (H : Hp) (Q : VK) : Prop := ∀ H', Same H H' → Q v H'
def RetL (xs : List V) (H : Hp) (Q : VK) : Prop := ∀ p H', H p = none → Same H H' → H' p = some (.lst xs) → Q (.ref p) H'
def RetT (xs : List V) (H : Hp) (Q : VK) : Prop := ∀ p H', H p = none → Same H H' → H' p = some (.tup xs) → Q (.ref p) H'
theorem RetV.go {v : V} {H H' : Hp} {Q : VK} (h : RetV v H Q) (e : Same H H') : Q v H' := h H' e
theorem RetL.go {xs : List V} {H H' : Hp} {Q : VK} (h : RetL xs H Q) {p : Addr} (w : Own H ((p, .lst xs) :: []) H') : Q (.ref p) H' := h p H' (w.none 0 rfl) w.ex (w.get 0 rfl)
theorem RetT.go {xs : List V} {H H' : Hp} {Q : VK} (h : RetT xs H Q) {p : Addr} (w : Own H ((p, .tup xs) :: []) H') : Q (.ref p) H' := h p H' (w.none 0 rfl) w.ex (w.get 0 rfl)

/-! ### comprehensions: what the list at D holds behind i turns: F i -/
def PvC (B : Hp) (cs : Cells) (D : Addr) (F : Nat → List V) (i : Nat) (H : Hp) : Prop := Own B ((D, .lst (F i)) :: cs) H
section
variable {K : PySem.W.Frag} {σ : L2.St} {B H : Hp} {cs : Cells} {Q : VK} {te : TE} {g : TG} {tt : TT} {vs : List Nat}
/-- a turn's end: the item goes behind what is there -/
theorem cp_fin {D : Addr} {F : Nat → List V} {i : Nat} {H4 : Hp} {y : V} (w : PvC B cs D F i H4) (e : F (i + 1) = F i ++ [y]) (hl : (F i).length < 1000000) :
    ∃ acc, H4 D = some (.lst acc) ∧ acc.length < sizeLine ∧ PvC B cs D F (i + 1) (upd H4 D (.lst (acc ++ [y]))) := by
  refine ⟨F i, Own.get w 0 rfl, Nat.lt_of_lt_of_le hl (by decide), ?_⟩
  have := Own.put (o' := .lst (F i ++ [y])) w 0 rfl
  rw [← e] at this
  rw [← e]
  exact this
/-- the same where the test says no -/
theorem cp_no {D : Addr} {F : Nat → List V} {i : Nat} {H4 : Hp} (w : PvC B cs D F i H4) (e : F (i + 1) = F i) : PvC B cs D F (i + 1) H4 := by
  unfold PvC at *
  rw [e]
  exact w
theorem cp_range {QD : Addr → Hp → Prop} {lo : Int} {n : Nat} (F : Nat → List V) (w : Own B cs H) (h0 : F 0 = [])
    (hs : ∀ D i H', i < n → PvC B cs D F i H' → g (.int (lo + i)) (wipe σ vs) H' fun σ2 H2 => wipe σ2 vs = wipe σ vs ∧ tt σ2 H2 fun b H3 =>
      if b = true then te σ2 H3 fun y H4 => ∃ acc, H4 D = some (.lst acc) ∧ acc.length < sizeLine ∧ PvC B cs D F (i + 1) (upd H4 D (.lst (acc ++ [y]))) else PvC B cs D F (i + 1) H3)
    (hq : ∀ D H', Own B ((D, .lst (F n)) :: cs) H' → QD D H') : ∀ D, H D = none → ∃ W : Nat → Nat → Hp → Prop, (∃ m, W 0 m (upd H D (.lst []))) ∧ ∀ i m H, W i m H →
      ((Itr lo n).stop i H ∧ QD D H) ∨ ((Itr lo n).go i H ∧ ∃ Nx : Hp → Prop, (∀ H', Nx H' → ∃ m', m' < m ∧ W (i + 1) m' H') ∧ ∀ x H', (Itr lo n).yld i H x H' → g x (wipe σ vs) H' fun σ2 H2 => wipe σ2 vs = wipe σ vs ∧ tt σ2 H2 fun b H3 =>
        if b = true then te σ2 H3 fun y H4 => ∃ acc, H4 D = some (.lst acc) ∧ acc.length < sizeLine ∧ Nx (upd H4 D (.lst (acc ++ [y]))) else Nx H3) := fun D hD =>
  lc_range (PvC B cs D F) (by unfold PvC; rw [h0]; exact w.new hD) (fun i H' hi p => hs D i H' hi p) (fun H' p => hq D H' p)
theorem cp_list {QD : Addr → Hp → Prop} {a : Addr} {xs : List V} (F : Nat → List V) (w : Own B cs H) (hx : SqL K B a xs) (h0 : F 0 = [])
    (hs : ∀ D i x H', xs[i]? = some x → PvC B cs D F i H' → g x (wipe σ vs) H' fun σ2 H2 => wipe σ2 vs = wipe σ vs ∧ tt σ2 H2 fun b H3 =>
      if b = true then te σ2 H3 fun y H4 => ∃ acc, H4 D = some (.lst acc) ∧ acc.length < sizeLine ∧ PvC B cs D F (i + 1) (upd H4 D (.lst (acc ++ [y]))) else PvC B cs D F (i + 1) H3)
    (hq : ∀ D H', Own B ((D, .lst (F xs.length)) :: cs) H' → QD D H') : ∀ D, H D = none → ∃ W : Nat → Nat → Hp → Prop, (∃ m, W 0 m (upd H D (.lst []))) ∧ ∀ i m H, W i m H →
      ((Itl K a).stop i H ∧ QD D H) ∨ ((Itl K a).go i H ∧ ∃ Nx : Hp → Prop, (∀ H', Nx H' → ∃ m', m' < m ∧ W (i + 1) m' H') ∧ ∀ x H', (Itl K a).yld i H x H' → g x (wipe σ vs) H' fun σ2 H2 => wipe σ2 vs = wipe σ vs ∧ tt σ2 H2 fun b H3 =>
        if b = true then te σ2 H3 fun y H4 => ∃ acc, H4 D = some (.lst acc) ∧ acc.length < sizeLine ∧ Nx (upd H4 D (.lst (acc ++ [y]))) else Nx H3) := fun D hD =>
  lc_list (PvC B cs D F) (by unfold PvC; rw [h0]; exact w.new hD) (fun i H' hi p => Own.seq p hx) (fun i x H' hi p => hs D i x H' hi p) (fun H' p => hq D H' p)
/-- behind the first i items of a range: their images -/
theorem range_map {α : Type} (f : Nat → α) (i : Nat) : (List.range (i + 1)).map f = (List.range i).map f ++ [f i] := by rw [List.range_succ, List.map_append] <;> rfl
end

/-! ### the rules with the written part told (a comprehension's block has its own context) -/
section
variable {X : Cx} {K : PySem.W.Frag}
theorem ix_seqK (h : X.K = K) : IxR X (rIx K) := h ▸ ix_seq
theorem get_listK (h : X.K = K) : PGet X (rIxL K) := h ▸ get_list
theorem op_eqK (h : X.K = K) (hu : X.A.units + 64 < cLine) : OpR X (compareOp .Eq) (rEqX K) := h ▸ op_eqX hu
theorem op_neK (h : X.K = K) (hu : X.A.units + 64 < cLine) : OpR X (compareOp .NotEq) (rNeX K) := h ▸ op_neX hu
theorem call_lenK (h : X.K = K) : CallR X (.builtin "len") (rLen K) := h ▸ call_lenX
theorem call_listK (h : X.K = K) : CallR X (.type "list") (rList K) := h ▸ call_listX
theorem cr_sumK (h : X.K = K) (hc : X.calm = true) : CallR X (.builtin "sum") (rSum K) := h ▸ cr_sum hc
theorem cr_anyK (h : X.K = K) (hc : X.calm = true) : CallR X (.builtin "any") (rAny K) := h ▸ cr_any hc
theorem cr_maxK (h : X.K = K) (hc : X.calm = true) : CallR X (.builtin "max") (rMax K) := h ▸ cr_max hc
theorem cr_minK (h : X.K = K) (hc : X.calm = true) : CallR X (.builtin "min") (rMin K) := h ▸ cr_min hc
theorem cr_sortedK (h : X.K = K) : CallR X (.builtin "sorted") (rSorted K) := h ▸ cr_sorted
theorem call_isiX (h : X.K = K) : CallR X (.builtin "isinstance") (rIsi K) := h ▸ call_isi
theorem call_isiTX (h : X.K = K) : CallR X (.builtin "isinstance") (rIsiT K) := h ▸ call_isiT
theorem op_in_seqK (h : X.K = K) : OpR X (compareOp .In) (rIn K false) := h ▸ op_in_seq
theorem op_notIn_seqK (h : X.K = K) : OpR X (compareOp .NotIn) (rIn K true) := h ▸ op_notIn_seq
theorem sl_listK (h : X.K = K) : SlR X (rSlL K) := h ▸ sl_list
theorem sl_tupK (h : X.K = K) : SlR X (rSlT K) := h ▸ sl_tup
theorem pi_listK (h : X.K = K) {tg l : Expr} {tl : TE} (hl : PE X l tl) : PI X tg l (iList K tl) := h ▸ pi_list hl
theorem pi_tupK (h : X.K = K) {tg l : Expr} {tl : TE} (hl : PE X l tl) : PI X tg l (iTup K tl) := h ▸ pi_tup hl
theorem pi_zipK (h : X.K = K) {e e2 : Expr} {ta : TA} {p pos tpos : Pos} {elts : List Expr} {kk : Nat} (hg : Gl X "zip") (hm : X.mg "zip" = none) (ha : PA X [e, e2] ta)
    (hs : starEach [e, e2] X.env = (false, eval e X.env) :: starEach [e2] X.env := by rfl) (hpl : (backTo pos (starEach [e2] X.env)).any (·.1) = false := by rfl) :
    PI X (.Tuple elts kk tpos) (.Call (.Name "zip" p) [e, e2] [] pos) (iZip K ta) := h ▸ pi_zip hg hm ha hs hpl
theorem pi_enumK (h : X.K = K) {e : Expr} {ta : TA} {p pos tpos : Pos} {elts : List Expr} {kk : Nat} (hg : Gl X "enumerate") (hm : X.mg "enumerate" = none) (ha : PA X [e] ta) (hs : starEach [e] X.env = [(false, eval e X.env)] := by rfl) :
    PI X (.Tuple elts kk tpos) (.Call (.Name "enumerate" p) [e] [] pos) (iEnum K ta) := h ▸ pi_enum hg hm ha hs
theorem pi_reversedK (h : X.K = K) {tg e : Expr} {ta : TA} {p pos : Pos} (hg : Gl X "reversed") (hm : X.mg "reversed" = none) (ha : PA X [e] ta) (hs : starEach [e] X.env = [(false, eval e X.env)] := by rfl) :
    PI X tg (.Call (.Name "reversed" p) [e] [] pos) (iRev K ta) := h ▸ pi_reversed hg hm ha hs
theorem pg_tupK (h : X.K = K) {pos : Pos} {es : List Expr} {k : Nat} {t : TGs} {n : Nat} (hc : X.calm = true) (hg : PGs X es t)
    (hn : (assignEach es X.env).length = n := by rfl) (hst : (assignEach es X.env).findIdx? (·.1) = none := by rfl) : PG X (.Tuple es k pos) (gTup K n t) := h ▸ pg_tup hc hg hn hst
theorem pe_bmK (h : X.K = K) {T : String} {name : Str} {id : String} {r : V → List V → Hp → VK → Prop} {o e : Expr} {es : List Expr} {to : TE} {t : TA} {apos cpos : Pos}
    (pa : PlainAttrs T) (slot : Slot T name id) (hty : typeOf (.builtin id) = pure (.type "method_descriptor")) (hm : MtR X id r) (ho : PE X o to) (ha : PA X (e :: es) t)
    (f : PE X (.Call (.Attribute o name apos) (e :: es) [] cpos) (tBM X.K T r to t)) : PE X (.Call (.Attribute o name apos) (e :: es) [] cpos) (tBM K T r to t) := h ▸ f
theorem pe_fldK (h : X.K = K) {e : Expr} {f : Str} {ta : TE} {pos : Pos} (he : PE X e ta) (hb : attributeBase e f X.env (eval e X.env) = eval e X.env) : PE X (.Attribute e f pos) (tFld K ta f) := h ▸ pe_fld he hb
end

/-! ### == of lists of ints -/
theorem dpAll_ints {K : PySem.W.Frag} {H : Hp} : ∀ ns : List Int, DpAll K H (ns.map V.int) (ns.map PyData.int)
  | [] => .nil
  | n :: r => .cons (.int n) (dpAll_ints r)
theorem dp_ints {K : PySem.W.Frag} {H : Hp} {p : Addr} {ns : List Int} (h : SqL K H p (ns.map V.int)) : Dp K H (.ref p) (.list (ns.map PyData.int)) := .lst h (dpAll_ints ns)
theorem canLay_ints : ∀ ns : List Int, PyData.canLayAll0 (ns.map PyData.int) = true
  | [] => by simp [PyData.canLayAll0]
  | n :: r => by simp [PyData.canLayAll0, PyData.canLay0, canLay_ints r]
theorem depth_ints : ∀ ns : List Int, PyData.depthAll (ns.map PyData.int) ≤ 1
  | [] => by simp [PyData.depthAll]
  | n :: r => by
    have := depth_ints r
    simp only [List.map_cons, PyData.depthAll, PyData.depth]
    omega
theorem shaped_ints (ns : List Int) : SeqAt.shaped (.list (ns.map PyData.int)) = true := by
  have := depth_ints ns
  unfold SeqAt.shaped
  rw [Bool.and_eq_true]
  refine ⟨by simp [PyData.canLay0, canLay_ints ns], decide_eq_true ?_⟩
  simp only [PyData.depth]
  omega
theorem eqvAll_ints : ∀ ns ms : List Int, PyData.eqvAll (ns.map PyData.int) (ms.map PyData.int) = decide (ns = ms)
  | [], [] => by simp [PyData.eqvAll]
  | [], m :: r => by simp [PyData.eqvAll]
  | n :: r, [] => by simp [PyData.eqvAll]
  | n :: r, m :: q => by
    simp only [List.map_cons, PyData.eqvAll, PyData.eqv, eqvAll_ints r q, List.cons.injEq]
    by_cases e : n = m
    · subst e; simp
    · simp [e]
theorem eqv_ints (ns ms : List Int) : PyData.eqv (.list (ns.map PyData.int)) (.list (ms.map PyData.int)) = decide (ns = ms) := by
  rw [PyData.eqv, eqvAll_ints]
section
variable {K : PySem.W.Frag} {H : Hp} {Q : VK} {p q : Addr} {ns ms : List Int}
theorem x_eqLI (h1 : SqL K H p (ns.map V.int)) (h2 : SqL K H q (ms.map V.int)) (k : Q (.bl (decide (ns = ms))) H) : rEqX K (.ref p) (.ref q) H Q :=
  .inr ⟨_, _, dp_ints h1, dp_ints h2, shaped_ints ns, shaped_ints ms, by rw [eqv_ints]; exact k⟩
theorem x_neLI (h1 : SqL K H p (ns.map V.int)) (h2 : SqL K H q (ms.map V.int)) (k : Q (.bl (!decide (ns = ms))) H) : rNeX K (.ref p) (.ref q) H Q :=
  .inr ⟨_, _, dp_ints h1, dp_ints h2, shaped_ints ns, shaped_ints ms, by rw [eqv_ints]; exact k⟩
end

theorem cx_none {P : Program} {w : World} {H : Hp} {s : Shared} {e : Value} {s' : Shared} (h : L2.CX P w [] H s (fun _ _ _ => False) e s') : False := by
  obtain ⟨_, _, _, _, _, _, _, _, _, _, _, _, z⟩ := h
  exact z.elim

/-! ### for over range(n), the number told plainly -/
theorem for_r0 {n : Int} {g : TG} {tb : TS} {D : Ends} {σ : L2.St} {H : Hp} (Pv : Nat → L2.St → Hp → Prop) (h0 : Pv 0 σ H)
    (hs : ∀ (i : Nat) σ H, (i : Int) < n → Pv i σ H → g (.int (i : Int)) σ H fun σ2 H2 => tb { D with nx := Pv (i + 1), ct := Pv (i + 1), bk := D.nx } σ2 H2) (hd : ∀ σ H, Pv n.toNat σ H → D.nx σ H) :
    ∃ W : Nat → Nat → L2.St → Hp → Prop, (∃ m, W 0 m σ H) ∧ ∀ i m σ H, W i m σ H →
      ((Itr 0 n.toNat).stop i H ∧ D.nx σ H) ∨ ((Itr 0 n.toNat).go i H ∧ ∃ N : L2.St → Hp → Prop, (∀ σ' H', N σ' H' → ∃ m', m' < m ∧ W (i + 1) m' σ' H') ∧ ∀ x H', (Itr 0 n.toNat).yld i H x H' → g x σ H' fun σ2 H2 => tb { D with nx := N, ct := N, bk := D.nx } σ2 H2) :=
  for_range (lo := 0) (n := n.toNat) Pv h0 (fun i σ H hi p => by rw [Int.zero_add]; exact hs i σ H (by omega) p) hd
theorem cp_r0 {QD : Addr → Hp → Prop} {B : Hp} {cs : Cells} {n : Int} {σ : L2.St} {H : Hp} {te : TE} {g : TG} {tt : TT} {vs : List Nat} (F : Nat → List V) (w : Own B cs H) (h0 : F 0 = [])
    (hs : ∀ D (i : Nat) H', (i : Int) < n → PvC B cs D F i H' → g (.int (i : Int)) (wipe σ vs) H' fun σ2 H2 => wipe σ2 vs = wipe σ vs ∧ tt σ2 H2 fun b H3 =>
      if b = true then te σ2 H3 fun y H4 => ∃ acc, H4 D = some (.lst acc) ∧ acc.length < sizeLine ∧ PvC B cs D F (i + 1) (upd H4 D (.lst (acc ++ [y]))) else PvC B cs D F (i + 1) H3)
    (hq : ∀ D H', Own B ((D, .lst (F n.toNat)) :: cs) H' → QD D H') : ∀ D, H D = none → ∃ W : Nat → Nat → Hp → Prop, (∃ m, W 0 m (upd H D (.lst []))) ∧ ∀ i m H, W i m H →
      ((Itr 0 n.toNat).stop i H ∧ QD D H) ∨ ((Itr 0 n.toNat).go i H ∧ ∃ Nx : Hp → Prop, (∀ H', Nx H' → ∃ m', m' < m ∧ W (i + 1) m' H') ∧ ∀ x H', (Itr 0 n.toNat).yld i H x H' → g x (wipe σ vs) H' fun σ2 H2 => wipe σ2 vs = wipe σ vs ∧ tt σ2 H2 fun b H3 =>
        if b = true then te σ2 H3 fun y H4 => ∃ acc, H4 D = some (.lst acc) ∧ acc.length < sizeLine ∧ Nx (upd H4 D (.lst (acc ++ [y]))) else Nx H3) :=
  cp_range (lo := 0) F w h0 (fun D i H' hi p => by rw [Int.zero_add]; exact hs D i H' (by omega) p) hq

/-! ### enumerate, zip: loops and comprehensions -/
section
variable {K : PySem.W.Frag} {a b : Addr} {xs ys : List V} {g : TG} {tb : TS} {D : Ends} {σ : L2.St} {H B : Hp} {cs : Cells} {te : TE} {tt : TT} {vs : List Nat} {Q : VK}
theorem for_enumL (Pv : Nat → L2.St → Hp → Prop) (h0 : Pv 0 σ H) (hq : ∀ i σ H, Pv i σ H → SqL K H a xs)
    (hs : ∀ (i : Nat) (x : V) (T : Addr) (σ : L2.St) (H : Hp), xs[i]? = some x → Pv i σ H → H T = none → g (.ref T) σ (upd H T (.tup [.int (i : Int), x])) fun σ2 H2 => tb { D with nx := Pv (i + 1), ct := Pv (i + 1), bk := D.nx } σ2 H2) (hd : ∀ σ H, Pv xs.length σ H → D.nx σ H) :
    ∃ W : Nat → Nat → L2.St → Hp → Prop, (∃ m, W 0 m σ H) ∧ ∀ i m σ H, W i m σ H →
      ((Ite K a).stop i H ∧ D.nx σ H) ∨ ((Ite K a).go i H ∧ ∃ N : L2.St → Hp → Prop, (∀ σ' H', N σ' H' → ∃ m', m' < m ∧ W (i + 1) m' σ' H') ∧ ∀ v H', (Ite K a).yld i H v H' → g v σ H' fun σ2 H2 => tb { D with nx := N, ct := N, bk := D.nx } σ2 H2) := by
  refine ⟨fun i m σ H => m = xs.length - i ∧ i ≤ xs.length ∧ Pv i σ H, ⟨xs.length, rfl, Nat.zero_le _, h0⟩, ?_⟩
  rintro i m σ H ⟨rfl, hi, p⟩
  have qx := hq i σ H p
  by_cases hlt : i < xs.length
  · have hx : xs[i]? = some xs[i] := List.getElem?_eq_getElem hlt
    refine .inr ⟨⟨xs, _, qx, hx⟩, Pv (i + 1), fun σ' H' p' => ⟨xs.length - (i + 1), by omega, rfl, hlt, p'⟩, fun v H' y => ?_⟩
    obtain ⟨T, x', rfl, hT, rfl, f1⟩ := y
    exact hs i x' T σ H (f1 xs qx) p hT
  · have e : i = xs.length := by omega
    subst e
    exact .inl ⟨⟨xs, qx, Nat.le_refl _⟩, hd σ H p⟩
theorem cp_enum {QD : Addr → Hp → Prop} (F : Nat → List V) (w : Own B cs H) (hx : SqL K B a xs) (h0 : F 0 = [])
    (hs : ∀ D i x T H', xs[i]? = some x → PvC B cs D F i H' → H' T = none → g (.ref T) (wipe σ vs) (upd H' T (.tup [.int ((i : Nat) : Int), x])) fun σ2 H2 => wipe σ2 vs = wipe σ vs ∧ tt σ2 H2 fun b H3 =>
      if b = true then te σ2 H3 fun y H4 => ∃ acc, H4 D = some (.lst acc) ∧ acc.length < sizeLine ∧ PvC B cs D F (i + 1) (upd H4 D (.lst (acc ++ [y]))) else PvC B cs D F (i + 1) H3)
    (hq : ∀ D H', Own B ((D, .lst (F xs.length)) :: cs) H' → QD D H') : ∀ D, H D = none → ∃ W : Nat → Nat → Hp → Prop, (∃ m, W 0 m (upd H D (.lst []))) ∧ ∀ i m H, W i m H →
      ((Ite K a).stop i H ∧ QD D H) ∨ ((Ite K a).go i H ∧ ∃ Nx : Hp → Prop, (∀ H', Nx H' → ∃ m', m' < m ∧ W (i + 1) m' H') ∧ ∀ x H', (Ite K a).yld i H x H' → g x (wipe σ vs) H' fun σ2 H2 => wipe σ2 vs = wipe σ vs ∧ tt σ2 H2 fun b H3 =>
        if b = true then te σ2 H3 fun y H4 => ∃ acc, H4 D = some (.lst acc) ∧ acc.length < sizeLine ∧ Nx (upd H4 D (.lst (acc ++ [y]))) else Nx H3) := fun D hD => by
  refine ⟨fun i m H => m = xs.length - i ∧ i ≤ xs.length ∧ PvC B cs D F i H, ⟨xs.length, rfl, Nat.zero_le _, by unfold PvC; rw [h0]; exact w.new hD⟩, ?_⟩
  rintro i m H ⟨rfl, hi, p⟩
  have qx : SqL K H a xs := Own.seq p hx
  by_cases hlt : i < xs.length
  · have hxi : xs[i]? = some xs[i] := List.getElem?_eq_getElem hlt
    refine .inr ⟨⟨xs, _, qx, hxi⟩, PvC B cs D F (i + 1), fun H' p' => ⟨xs.length - (i + 1), by omega, rfl, hlt, p'⟩, fun v H' y => ?_⟩
    obtain ⟨T, x', rfl, hT, rfl, f1⟩ := y
    exact hs D i x' T H (f1 xs qx) p hT
  · have e : i = xs.length := by omega
    subst e
    exact .inl ⟨⟨xs, qx, Nat.le_refl _⟩, hq D H p⟩
theorem cp_zip {QD : Addr → Hp → Prop} (F : Nat → List V) (w : Own B cs H) (hl : xs.length = ys.length) (hx : SqL K B a xs) (hy : SqL K B b ys) (h0 : F 0 = [])
    (hs : ∀ D i x y T H', xs[i]? = some x → ys[i]? = some y → PvC B cs D F i H' → H' T = none → g (.ref T) (wipe σ vs) (upd H' T (.tup [x, y])) fun σ2 H2 => wipe σ2 vs = wipe σ vs ∧ tt σ2 H2 fun b H3 =>
      if b = true then te σ2 H3 fun y H4 => ∃ acc, H4 D = some (.lst acc) ∧ acc.length < sizeLine ∧ PvC B cs D F (i + 1) (upd H4 D (.lst (acc ++ [y]))) else PvC B cs D F (i + 1) H3)
    (hq : ∀ D H', Own B ((D, .lst (F xs.length)) :: cs) H' → QD D H') : ∀ D, H D = none → ∃ W : Nat → Nat → Hp → Prop, (∃ m, W 0 m (upd H D (.lst []))) ∧ ∀ i m H, W i m H →
      ((Itz K a b).stop i H ∧ QD D H) ∨ ((Itz K a b).go i H ∧ ∃ Nx : Hp → Prop, (∀ H', Nx H' → ∃ m', m' < m ∧ W (i + 1) m' H') ∧ ∀ x H', (Itz K a b).yld i H x H' → g x (wipe σ vs) H' fun σ2 H2 => wipe σ2 vs = wipe σ vs ∧ tt σ2 H2 fun b H3 =>
        if b = true then te σ2 H3 fun y H4 => ∃ acc, H4 D = some (.lst acc) ∧ acc.length < sizeLine ∧ Nx (upd H4 D (.lst (acc ++ [y]))) else Nx H3) := fun D hD => by
  refine ⟨fun i m H => m = xs.length - i ∧ i ≤ xs.length ∧ PvC B cs D F i H, ⟨xs.length, rfl, Nat.zero_le _, by unfold PvC; rw [h0]; exact w.new hD⟩, ?_⟩
  rintro i m H ⟨rfl, hi, p⟩
  have qx : SqL K H a xs := Own.seq p hx
  have qy : SqL K H b ys := Own.seq p hy
  by_cases hlt : i < xs.length
  · have hxi : xs[i]? = some xs[i] := List.getElem?_eq_getElem hlt
    have hlt2 : i < ys.length := by omega
    have hyi : ys[i]? = some ys[i] := List.getElem?_eq_getElem hlt2
    refine .inr ⟨⟨xs, ys, _, _, qx, qy, hxi, hyi⟩, PvC B cs D F (i + 1), fun H' p' => ⟨xs.length - (i + 1), by omega, rfl, hlt, p'⟩, fun v H' y => ?_⟩
    obtain ⟨T, x', y', rfl, hT, rfl, f1, f2⟩ := y
    exact hs D i x' y' T H (f1 xs qx) (f2 ys qy) p hT
  · have e : i = xs.length := by omega
    subst e
    exact .inl ⟨⟨xs, ys, qx, qy, .inl (Nat.le_refl _)⟩, hq D H p⟩
end

def rStr : List V → Hp → VK → Prop := fun xs H Q => ∃ i, xs = [.int i] ∧ i.natAbs.log2 < 1920 ∧ Q (.str (toString i)) H
theorem call_strX {X : Cx} : CallR X (.type "str") rStr := call_str_int
theorem x_str {H : Hp} {Q : VK} {i : Int} (h : i.natAbs.log2 < 1920) (q : Q (.str (toString i)) H) : rStr [.int i] H Q := ⟨i, rfl, h, q⟩
theorem log2_small {n : Nat} {k : Nat} (h0 : 0 < k) (h : n < 2 ^ k) (hk : k ≤ 1920) : n.log2 < 1920 := Nat.lt_of_lt_of_le (PySem.Flt.log2_lt_of h0 h) hk
end Sp

/-! Jn: a join: what follows a statement is shown once. -/
namespace Sp
open PySem PySem.Spec L2 PyProof.Rows
theorem x_seqJ {t u : TS} {D : Ends} {σ : L2.St} {H : Hp} (P : L2.St → Hp → Prop) (hP : ∀ σ H, P σ H → u D σ H) (h : (∀ σ H, P σ H → u D σ H) → t { D with nx := u D } σ H) : tSeq t u D σ H := h hP
section
variable {X : Cx} {K : PySem.W.Frag} {T : String} {name : Str} {id : String} {r : V → List V → Hp → VK → Prop} {o e : Expr} {es : List Expr} {to : TE} {t : TA} {apos cpos : Pos}
theorem pe_bm0KK (h : X.K = K) (pa : PlainAttrs T) (slot : Slot T name id) (hty : typeOf (.builtin id) = pure (.type "method_descriptor")) (hm : MtR X id r) (ho : PE X o to)
    (hbase : attributeBase o name X.env (eval o X.env) = eval o X.env := by rfl) (hline : (apos.endLine == cpos.line) = true := by rfl) : PE X (.Call (.Attribute o name apos) [] [] cpos) (tBM0 K T r to) := h ▸ pe_bm0 pa slot hty hm ho hbase hline
theorem pe_bmKK (h : X.K = K) (pa : PlainAttrs T) (slot : Slot T name id) (hty : typeOf (.builtin id) = pure (.type "method_descriptor")) (hm : MtR X id r) (ho : PE X o to) (ha : PA X (e :: es) t)
    (hbase : attributeBase o name X.env (eval o X.env) = eval o X.env := by rfl)
    (hfew : ((backTo cpos (starEach (e :: es) X.env)).all (fun x => !x.1) && (backToKw cpos (keywordEach [] X.env)).all (fun x => x.1.isSome)
      && decide ((e :: es).length + ([] : List Keyword).length + (if ([] : List Keyword).isEmpty then 0 else 1) < 30)) = true := by rfl)
    (hline : (apos.endLine == cpos.line) = true := by rfl) (hs : starEach (e :: es) X.env = (false, eval e X.env) :: starEach es X.env := by rfl) (hplain : (backTo cpos (starEach es X.env)).any (·.1) = false := by rfl) :
    PE X (.Call (.Attribute o name apos) (e :: es) [] cpos) (tBM K T r to t) := h ▸ pe_bm pa slot hty hm ho ha hbase hfew hline hs hplain
end
end Sp

/-! Ml: tables, bounds: plain words about lists of ints. -/
namespace Sp
open PySem L2 PyProof.Rows
def manyOf (n : Nat) : Nat := if n ≤ 2 then 1 else if n ≤ 4 then 2 else if n ≤ 8 then 3 else if n ≤ 16 then 4 else if n ≤ 32 then 5 else 6
theorem manyOf_lo (n : Nat) : 1 ≤ manyOf n ∧ manyOf n ≤ 6 := by
  unfold manyOf
  repeat' split
  all_goals omega
theorem manyOf_is {n k : Nat} (h1 : 1 ≤ k) (h6 : k ≤ 6) (hlo : k = 1 ∨ 2 ^ (k - 1) < n) (hhi : k = 6 ∨ n ≤ 2 ^ k) : manyOf n = k := by
  unfold manyOf
  have h : k = 1 ∨ k = 2 ∨ k = 3 ∨ k = 4 ∨ k = 5 ∨ k = 6 := by omega
  rcases h with rfl | rfl | rfl | rfl | rfl | rfl <;> simp only [Nat.reducePow, Nat.reduceSub] at hlo hhi <;> repeat' split
  all_goals omega
def lookM (xs : List V) : Option Int := if xs.length = 2 ^ manyOf xs.length ∧ xs.all isI = true ∧ xs[0]? = some (.int 0) then some (manyOf xs.length : Nat) else none
/-- a table of k hands -/
structure Tab (ns : List Int) (k : Nat) : Prop where
  len : ns.length = 2 ^ k
  lo : 1 ≤ k
  hi : k ≤ 6
  zero : ns[0]? = some 0
theorem Tab.look {ns : List Int} {k : Nat} (h : Tab ns k) : lookM (ns.map V.int) = some (k : Int) := by
  have e : manyOf (ns.map V.int).length = k := by
    rw [List.length_map, h.len]
    exact manyOf_is h.lo h.hi (by
      have := h.lo
      by_cases e : k = 1
      · exact .inl e
      · refine .inr (Nat.pow_lt_pow_right (by decide) (by omega))) (.inr (Nat.le_refl _))
  unfold lookM
  rw [e, if_pos]
  refine ⟨by rw [List.length_map]; exact h.len, ?_, ?_⟩
  · rw [List.all_map]; exact List.all_eq_true.mpr fun _ _ => rfl
  · rw [List.getElem?_map, h.zero] <;> rfl
theorem things_int {H : Hp} {ns : List Int} : ∀ v ∈ ns.map V.int, Thing H v := fun v hv => by
  obtain ⟨z, _, rfl⟩ := List.mem_map.mp hv
  exact .int z
theorem look_tab {xs : List V} {n : Int} (h : lookM xs = some n) : ∃ ns k, Tab ns k ∧ xs = ns.map V.int ∧ n = (k : Nat) := by
  unfold lookM at h
  by_cases c : xs.length = 2 ^ manyOf xs.length ∧ xs.all isI = true ∧ xs[0]? = some (.int 0)
  · rw [if_pos c] at h
    obtain ⟨c1, c2, c3⟩ := c
    have hm := manyOf_lo xs.length
    have all : ∀ ys : List V, ys.all isI = true → ∃ ns : List Int, ys = ns.map V.int := by
      intro ys
      induction ys with
      | nil => intro _; exact ⟨[], rfl⟩
      | cons y r ih =>
        intro e
        rw [List.all_cons, Bool.and_eq_true] at e
        obtain ⟨ns, rfl⟩ := ih e.2
        cases y with
        | int z => exact ⟨z :: ns, rfl⟩
        | _ => exact absurd e.1 Bool.false_ne_true
    obtain ⟨ns, rfl⟩ := all xs c2
    refine ⟨ns, manyOf (ns.map V.int).length, ⟨by rw [List.length_map] at c1; rw [List.length_map]; exact c1, hm.1, hm.2, ?_⟩, rfl, (Option.some.inj h).symm⟩
    rw [List.getElem?_map] at c3
    cases e : ns[0]? with
    | none => rw [e] at c3; cases c3
    | some z => rw [e] at c3; exact congrArg some (V.int.inj (Option.some.inj c3))
  · rw [if_neg c] at h; cases h
/-- a number of these laws' tables -/
def Small (z : Int) : Prop := -1000000000000000000 ≤ z ∧ z ≤ 1000000000000000000
/-- bounds of a table's numbers -/
def Bnd (b : Int) (ns : List Int) : Prop := ∀ z ∈ ns, -b ≤ z ∧ z ≤ b
theorem Bnd.app {b : Int} {ns : List Int} {z : Int} (h : Bnd b ns) (h1 : -b ≤ z) (h2 : z ≤ b) : Bnd b (ns ++ [z]) := fun y hy => by
  rcases List.mem_append.mp hy with m | m
  · exact h y m
  · rw [List.mem_singleton.mp m]; exact ⟨h1, h2⟩
theorem Bnd.set {b : Int} {ns : List Int} {j : Nat} {z : Int} (h : Bnd b ns) (h1 : -b ≤ z) (h2 : z ≤ b) : Bnd b (ns.set j z) := fun y hy => by
  rcases List.mem_or_eq_of_mem_set hy with m | rfl
  · exact h y m
  · exact ⟨h1, h2⟩
theorem Bnd.mono {b c : Int} {ns : List Int} (h : Bnd b ns) (hbc : b ≤ c) : Bnd c ns := fun y hy => by
  have := h y hy
  exact ⟨by omega, by omega⟩
theorem Bnd.at {b : Int} {ns : List Int} (hb : 0 ≤ b) (h : Bnd b ns) (i : Int) : -b ≤ gi ns i ∧ gi ns i ≤ b := by
  unfold gi
  rw [List.getD_eq_getElem?_getD]
  cases e : ns[i.toNat]? with
  | none => exact ⟨by show -b ≤ 0; omega, by show (0 : Int) ≤ b; omega⟩
  | some z => exact h z (List.mem_of_getElem? e)
theorem pow_toNat {k : Nat} {i : Int} (h : i = (k : Int)) : (1 : Int) * 2 ^ i.toNat = ((2 ^ k : Nat) : Int) := by
  rw [h, Int.one_mul, Int.toNat_natCast, Int.natCast_pow] <;> rfl
/-- the table turned about -/
def turnM (ns : List Int) : List Int := (List.range ns.length).map fun g : Nat => gi ns ((ns.length : Int) - 1) - gi ns ((ns.length : Int) - 1 - (g : Int))
theorem turnM_len (ns : List Int) : (turnM ns).length = ns.length := by unfold turnM; rw [List.length_map, List.length_range]
theorem gi_map_range {n : Nat} {f : Nat → Int} {i : Int} (h0 : 0 ≤ i) (h : i < n) : gi ((List.range n).map f) i = f i.toNat := by
  unfold gi
  rw [List.getD_eq_getElem?_getD, List.getElem?_map, List.getElem?_range (by omega)] <;> rfl
theorem turnM_at {ns : List Int} {i : Int} (h0 : 0 ≤ i) (h : i < ns.length) : gi (turnM ns) i = gi ns ((ns.length : Int) - 1) - gi ns ((ns.length : Int) - 1 - i) := by
  unfold turnM
  rw [gi_map_range h0 h, Int.toNat_of_nonneg h0]
theorem gi_ext {ns ms : List Int} (hl : ns.length = ms.length) (h : ∀ i : Int, 0 ≤ i → i < ns.length → gi ns i = gi ms i) : ns = ms := by
  apply List.ext_getElem hl
  intro i h1 h2
  have := h (i : Int) (by omega) (by omega)
  unfold gi at this
  rw [Int.toNat_natCast, List.getD_eq_getElem?_getD, List.getD_eq_getElem?_getD, List.getElem?_eq_getElem h1, List.getElem?_eq_getElem h2] at this
  exact this
theorem Tab.pos {ns : List Int} {k : Nat} (h : Tab ns k) : 2 ≤ ns.length ∧ ns.length ≤ 64 := by
  rw [h.len]
  exact ⟨Nat.pow_le_pow_right (n := 2) (by decide) h.lo, Nat.pow_le_pow_right (n := 2) (by decide) h.hi⟩
theorem Tab.gi0 {ns : List Int} {k : Nat} (h : Tab ns k) : gi ns 0 = 0 := by
  unfold gi
  rw [List.getD_eq_getElem?_getD, show (0 : Int).toNat = 0 from rfl, h.zero] <;> rfl
theorem gi_zero {ns : List Int} (h : 0 < ns.length) (e : gi ns 0 = 0) : ns[0]? = some 0 := by
  unfold gi at e
  rw [List.getD_eq_getElem?_getD, show (0 : Int).toNat = 0 from rfl, List.getElem?_eq_getElem h] at e
  rw [List.getElem?_eq_getElem h]
  exact congrArg some e
theorem Tab.turn {ns : List Int} {k : Nat} (h : Tab ns k) : Tab (turnM ns) k := by
  have hp := h.pos
  refine ⟨by rw [turnM_len]; exact h.len, h.lo, h.hi, gi_zero (by rw [turnM_len]; omega) ?_⟩
  rw [turnM_at (by decide) (by omega)]
  simp
theorem turnM_turnM {ns : List Int} {k : Nat} (h : Tab ns k) : turnM (turnM ns) = ns := by
  have hp := h.pos
  refine gi_ext (by rw [turnM_len, turnM_len]) fun i h0 h1 => ?_
  rw [turnM_len, turnM_len] at h1
  rw [turnM_at h0 (by rw [turnM_len]; exact h1), turnM_len, turnM_at (by omega) (by omega), turnM_at (by omega) (by omega)]
  have e1 : (ns.length : Int) - 1 - ((ns.length : Int) - 1) = 0 := by omega
  have e2 : (ns.length : Int) - 1 - ((ns.length : Int) - 1 - i) = i := by omega
  rw [e1, e2, h.gi0]
  omega
theorem Tab.set {ns : List Int} {k : Nat} (h : Tab ns k) {j : Nat} {z : Int} (hj : 0 < j) : Tab (ns.set j z) k :=
  ⟨by rw [List.length_set]; exact h.len, h.lo, h.hi, by rw [List.getElem?_set_ne (by omega)]; exact h.zero⟩
theorem map_int_inj {ns ms : List Int} (h : ns.map V.int = ms.map V.int) : ns = ms := (List.map_inj_right (f := V.int) fun _ _ => V.int.inj).mp h
theorem Tab.same {ns : List Int} {j k : Nat} (h : Tab ns j) (h' : Tab ns k) : j = k := by
  have e : 2 ^ j = 2 ^ k := h.len.symm.trans h'.len
  rcases Nat.lt_trichotomy j k with l | l | l
  · have := Nat.pow_lt_pow_right (a := 2) (by decide) l; omega
  · exact l
  · have := Nat.pow_lt_pow_right (a := 2) (by decide) l; omega
end Sp

/-! Sub: groups as numbers below 64, their parts, sums over parts, dividends. -/
namespace Sp
open PySem L2 PyProof.Rows
/-- hand h stands in group g -/
def bitOn (h g : Nat) : Bool := (g &&& 2 ^ h) != 0
theorem bit_facts : ∀ h, h < 6 → ∀ g, g < 64 → (bitOn h g = true → g ^^^ 2 ^ h < g ∧ bitOn h (g ^^^ 2 ^ h) = false) ∧ (∀ j, j < 6 → j ≠ h → bitOn j (g ^^^ 2 ^ h) = bitOn j g) := by decide +kernel
def stepD (h : Nat) (f : Nat → Int) : Nat → Int := fun g => if bitOn h g = true then f g - f (g ^^^ 2 ^ h) else f g
def stepE (h : Nat) (f : Nat → Int) : Nat → Int := fun g => if bitOn h g = true then f g + f (g ^^^ 2 ^ h) else f g
def allD : Nat → (Nat → Int) → Nat → Int
  | 0, f => f
  | k + 1, f => stepD k (allD k f)
def allE : Nat → (Nat → Int) → Nat → Int
  | 0, f => f
  | k + 1, f => stepE k (allE k f)
def On64 (f f' : Nat → Int) : Prop := ∀ g, g < 64 → f g = f' g
theorem On64.trans {f f' f'' : Nat → Int} (a : On64 f f') (b : On64 f' f'') : On64 f f'' := fun g h => (a g h).trans (b g h)
theorem On64.symm {f f' : Nat → Int} (a : On64 f f') : On64 f' f := fun g h => (a g h).symm
theorem stepD_on {h : Nat} (hh : h < 6) {f f' : Nat → Int} (e : On64 f f') : On64 (stepD h f) (stepD h f') := fun g hg => by
  unfold stepD
  by_cases c : bitOn h g = true
  · have := ((bit_facts h hh g hg).1 c).1
    rw [if_pos c, if_pos c, e g hg, e _ (by omega)]
  · rw [if_neg c, if_neg c, e g hg]
theorem stepE_on {h : Nat} (hh : h < 6) {f f' : Nat → Int} (e : On64 f f') : On64 (stepE h f) (stepE h f') := fun g hg => by
  unfold stepE
  by_cases c : bitOn h g = true
  · have := ((bit_facts h hh g hg).1 c).1
    rw [if_pos c, if_pos c, e g hg, e _ (by omega)]
  · rw [if_neg c, if_neg c, e g hg]
theorem stepED {h : Nat} (hh : h < 6) (f : Nat → Int) : On64 (stepE h (stepD h f)) f := fun g hg => by
  unfold stepE
  by_cases c : bitOn h g = true
  · have b := (bit_facts h hh g hg).1 c
    rw [if_pos c]
    unfold stepD
    rw [if_pos c, if_neg (by rw [b.2]; exact Bool.false_ne_true)]
    omega
  · rw [if_neg c]; unfold stepD; rw [if_neg c]
theorem stepDE {h : Nat} (hh : h < 6) (f : Nat → Int) : On64 (stepD h (stepE h f)) f := fun g hg => by
  unfold stepD
  by_cases c : bitOn h g = true
  · have b := (bit_facts h hh g hg).1 c
    rw [if_pos c]
    unfold stepE
    rw [if_pos c, if_neg (by rw [b.2]; exact Bool.false_ne_true)]
    omega
  · rw [if_neg c]; unfold stepE; rw [if_neg c]
theorem xor_swap (g a b : Nat) : (g ^^^ a) ^^^ b = (g ^^^ b) ^^^ a := by rw [Nat.xor_assoc, Nat.xor_comm a b, ← Nat.xor_assoc]
theorem step_comm {h j : Nat} (hh : h < 6) (hj : j < 6) (hne : j ≠ h) (f : Nat → Int) : On64 (stepE h (stepD j f)) (stepD j (stepE h f)) := fun g hg => by
  have bh := bit_facts h hh g hg
  have bj := bit_facts j hj g hg
  have e1 : bitOn j (g ^^^ 2 ^ h) = bitOn j g := bh.2 j hj hne
  have e2 : bitOn h (g ^^^ 2 ^ j) = bitOn h g := bj.2 h hh (Ne.symm hne)
  unfold stepE stepD
  simp only [e1, e2, xor_swap g (2 ^ j) (2 ^ h)]
  by_cases c : bitOn h g = true <;> by_cases d : bitOn j g = true <;> simp [c, d] <;> omega
theorem allE_comm {j : Nat} (hj : j < 6) (f : Nat → Int) : ∀ k, k ≤ j → On64 (allE k (stepD j f)) (stepD j (allE k f))
  | 0, _ => fun _ _ => rfl
  | k + 1, hk => by
    have ih := allE_comm hj f k (by omega)
    exact (stepE_on (by omega) ih).trans (step_comm (by omega) hj (by omega) (allE k f))
theorem allED (f : Nat → Int) : ∀ k, k ≤ 6 → On64 (allE k (allD k f)) f
  | 0, _ => fun _ _ => rfl
  | k + 1, hk => by
    have ih := allED f k (by omega)
    have c := allE_comm (j := k) (by omega) (allD k f) k (Nat.le_refl k)
    have a : On64 (allE (k + 1) (allD (k + 1) f)) (stepE k (stepD k (allE k (allD k f)))) := stepE_on (by omega) c
    exact (a.trans (stepED (by omega) _)).trans ih
theorem allD_comm {j : Nat} (hj : j < 6) (f : Nat → Int) : ∀ k, k ≤ j → On64 (allD k (stepE j f)) (stepE j (allD k f))
  | 0, _ => fun _ _ => rfl
  | k + 1, hk => by
    have ih := allD_comm hj f k (by omega)
    exact (stepD_on (by omega) ih).trans (step_comm hj (by omega) (by omega) (allD k f)).symm
theorem allDE (f : Nat → Int) : ∀ k, k ≤ 6 → On64 (allD k (allE k f)) f
  | 0, _ => fun _ _ => rfl
  | k + 1, hk => by
    have ih := allDE f k (by omega)
    have c := allD_comm (j := k) (by omega) (allE k f) k (Nat.le_refl k)
    have a : On64 (allD (k + 1) (allE (k + 1) f)) (stepD k (stepE k (allD k (allE k f)))) := stepD_on (by omega) c
    exact (a.trans (stepDE (by omega) _)).trans ih
/-! ### parts of a group, rising -/
def subs (g : Nat) : List Nat := (List.range 64).filter fun q => (q &&& g) == q
def partSum (f : Nat → Int) (g : Nat) : Int := ((subs g).map f).sum
def el : Nat → Nat → List Nat
  | 0, g => [g]
  | k + 1, g => if bitOn k g = true then el k (g ^^^ 2 ^ k) ++ el k g else el k g
theorem el_subs : ∀ k, k < 7 → ∀ g, g < 2 ^ k → el k g = subs g := by decide +kernel
theorem sum_app (a b : List Int) : (a ++ b).sum = a.sum + b.sum := List.sum_append
theorem allE_el (f : Nat → Int) : ∀ k g, allE k f g = ((el k g).map f).sum
  | 0, g => by show f g = ([g].map f).sum; simp
  | k + 1, g => by
    show stepE k (allE k f) g = _
    unfold stepE el
    by_cases c : bitOn k g = true
    · rw [if_pos c, if_pos c, List.map_append, sum_app, allE_el f k g, allE_el f k _]
      omega
    · rw [if_neg c, if_neg c, allE_el f k g]
theorem allE_sum (f : Nat → Int) {k g : Nat} (hk : k ≤ 6) (hg : g < 2 ^ k) : allE k f g = partSum f g := by
  rw [allE_el, el_subs k (by omega) g hg]
  rfl
/-- the parts but nobody, up to p -/
def someSubs (g p : Nat) : List Nat := (List.range (p + 1)).filter fun q => (q &&& g) == q && decide (0 < q)
theorem someSubs_step : ∀ g, g < 64 → ∀ p, p < 64 → (0 < p ∧ p &&& g = p) → someSubs g p = someSubs g ((p - 1) &&& g) ++ [p] ∧ (p - 1) &&& g < p ∧ ((p - 1) &&& g) &&& g = (p - 1) &&& g := by decide +kernel
theorem someSubs_all : ∀ g, g < 64 → subs g = 0 :: someSubs g g := by decide +kernel
theorem someSubs_zero (g : Nat) : someSubs g 0 = [] := by
  unfold someSubs
  rw [show List.range (0 + 1) = [0] from rfl]
  simp
def someSum (f : Nat → Int) (g p : Nat) : Int := ((someSubs g p).map f).sum
theorem someSum_step (f : Nat → Int) {g p : Nat} (hg : g < 64) (hp : p < 64) (h0 : 0 < p) (hs : p &&& g = p) : someSum f g p = someSum f g ((p - 1) &&& g) + f p := by
  unfold someSum
  rw [(someSubs_step g hg p hp ⟨h0, hs⟩).1, List.map_append, sum_app]
  simp
theorem partSum_some (f : Nat → Int) {g : Nat} (hg : g < 64) : partSum f g = f 0 + someSum f g g := by
  unfold partSum someSum
  rw [someSubs_all g hg, List.map_cons, List.sum_cons]
/-! ### lists by their places -/
/-- the list of f's values at 0 .. n - 1 -/
def tl (n : Nat) (f : Nat → Int) : List Int := (List.range n).map f
def fn (ns : List Int) : Nat → Int := fun g => gi ns (g : Int)
theorem tl_len (n : Nat) (f : Nat → Int) : (tl n f).length = n := by unfold tl; rw [List.length_map, List.length_range]
theorem gi_tl {n : Nat} {f : Nat → Int} {i : Int} (h0 : 0 ≤ i) (h : i < n) : gi (tl n f) i = f i.toNat := gi_map_range h0 h
theorem gi_tln {n : Nat} {f : Nat → Int} {i : Nat} (h : i < n) : gi (tl n f) (i : Int) = f i := by rw [gi_tl (by omega) (by omega), Int.toNat_natCast]
theorem tl_fn (ns : List Int) : tl ns.length (fn ns) = ns := by
  refine gi_ext (tl_len _ _) fun i h0 h1 => ?_
  rw [tl_len] at h1
  rw [gi_tl h0 h1]
  unfold fn
  rw [Int.toNat_of_nonneg h0]
theorem tl_congr {n : Nat} {f f' : Nat → Int} (h : ∀ i, i < n → f i = f' i) : tl n f = tl n f' := by
  unfold tl
  exact List.map_congr_left fun i hi => h i (List.mem_range.mp hi)
theorem tl_set {n : Nat} {f : Nat → Int} {j : Nat} {z : Int} (hj : j < n) : (tl n f).set j z = tl n fun i => if i = j then z else f i := by
  apply List.ext_getElem?
  intro i
  unfold tl
  by_cases e : j = i
  · subst e
    rw [List.getElem?_set_self (by rw [List.length_map, List.length_range]; exact hj), List.getElem?_map, List.getElem?_range hj]
    simp
  · rw [List.getElem?_set_ne e, List.getElem?_map, List.getElem?_map]
    cases h : (List.range n)[i]? with
    | none => rfl
    | some x =>
      have : x = i := by
        have hi := (List.getElem?_eq_some_iff.mp h).1
        rw [List.length_range] at hi
        rw [List.getElem?_range hi] at h
        exact (Option.some.inj h).symm
      subst this
      simp [Ne.symm e]
/-! ### bits of Python's ints -/
theorem and_nat (a b : Nat) : Builtin.bitAnd (a : Int) (b : Int) = ((a &&& b : Nat) : Int) := by rw [bitAnd_pp (by omega) (by omega), Int.toNat_natCast, Int.toNat_natCast]
theorem or_nat (a b : Nat) : Builtin.bitOr (a : Int) (b : Int) = ((a ||| b : Nat) : Int) := by rw [Bits.bitOr_pp (by omega) (by omega), Int.toNat_natCast, Int.toNat_natCast]
theorem xor_nat (a b : Nat) : Builtin.bitXor (a : Int) (b : Int) = ((a ^^^ b : Nat) : Int) := by rw [Bits.bitXor_pp (by omega) (by omega), Int.toNat_natCast, Int.toNat_natCast]
theorem shl_nat (h : Nat) : (1 : Int) * 2 ^ ((h : Int)).toNat = ((2 ^ h : Nat) : Int) := pow_toNat rfl
theorem bitOn_iff {h g : Nat} : (!decide (((g &&& 2 ^ h : Nat) : Int) = 0)) = bitOn h g := by
  unfold bitOn
  by_cases e : g &&& 2 ^ h = 0
  · rw [e]; rfl
  · rw [decide_eq_false (by omega), bne_iff_ne.mpr e] <;> rfl
/-- below 2 ^ k only the values below 2 ^ k are asked -/
theorem bit_cut : ∀ k, k < 7 → ∀ h, h < k → ∀ g, g < 2 ^ k → bitOn h g = true → g ^^^ 2 ^ h < 2 ^ k := by decide +kernel
theorem allE_cut' {k : Nat} (hk : k ≤ 6) {f f' : Nat → Int} (e : ∀ i, i < 2 ^ k → f i = f' i) : ∀ j, j ≤ k → ∀ g, g < 2 ^ k → allE j f g = allE j f' g
  | 0, _, g, hg => e g hg
  | j + 1, hj, g, hg => by
    show stepE j (allE j f) g = stepE j (allE j f') g
    unfold stepE
    by_cases c : bitOn j g = true
    · rw [if_pos c, if_pos c, allE_cut' hk e j (by omega) g hg, allE_cut' hk e j (by omega) _ (bit_cut k (by omega) j (by omega) g hg c)]
    · rw [if_neg c, if_neg c, allE_cut' hk e j (by omega) g hg]
theorem allE_cut {k : Nat} (hk : k ≤ 6) {f f' : Nat → Int} (e : ∀ i, i < 2 ^ k → f i = f' i) {g : Nat} (hg : g < 2 ^ k) : allE k f g = allE k f' g := allE_cut' hk e k (Nat.le_refl k) g hg
theorem allD_cut' {k : Nat} (hk : k ≤ 6) {f f' : Nat → Int} (e : ∀ i, i < 2 ^ k → f i = f' i) : ∀ j, j ≤ k → ∀ g, g < 2 ^ k → allD j f g = allD j f' g
  | 0, _, g, hg => e g hg
  | j + 1, hj, g, hg => by
    show stepD j (allD j f) g = stepD j (allD j f') g
    unfold stepD
    by_cases c : bitOn j g = true
    · rw [if_pos c, if_pos c, allD_cut' hk e j (by omega) g hg, allD_cut' hk e j (by omega) _ (bit_cut k (by omega) j (by omega) g hg c)]
    · rw [if_neg c, if_neg c, allD_cut' hk e j (by omega) g hg]
theorem allD_cut {k : Nat} (hk : k ≤ 6) {f f' : Nat → Int} (e : ∀ i, i < 2 ^ k → f i = f' i) {g : Nat} (hg : g < 2 ^ k) : allD k f g = allD k f' g := allD_cut' hk e k (Nat.le_refl k) g hg
/-! ### hands of a group -/
theorem bitOn_div : ∀ h, h < 6 → ∀ g, g < 64 → bitOn h g = decide (g / 2 ^ h % 2 = 1) := by decide +kernel
theorem bit_int {h g : Nat} (hh : h < 6) (hg : g < 64) : decide (Builtin.bitAnd ((g : Int) / 2 ^ ((h : Int)).toNat) 1 = 1) = bitOn h g := by
  rw [bitOn_div h hh g hg, bitAnd_m1, Int.toNat_natCast]
  have e : (g : Int) / 2 ^ h % 2 = ((g / 2 ^ h % 2 : Nat) : Int) := by
    rw [Int.natCast_emod, Int.natCast_ediv, Int.natCast_pow] <;> rfl
  rw [e]
  by_cases c : g / 2 ^ h % 2 = 1
  · rw [c]; rfl
  · rw [decide_eq_false c, decide_eq_false (by omega)]
def handsM (g : Nat) : List Nat := (List.range 6).filter fun h => bitOn h g
theorem filter_yes {p : Nat → Bool} {n : Nat} (h : p n = true) {α : Type} (f : Nat → α) : ((List.range (n + 1)).filter p).map f = ((List.range n).filter p).map f ++ [f n] := by
  rw [List.range_succ, List.filter_append, List.map_append, List.filter_cons, if_pos h] <;> rfl
theorem filter_no {p : Nat → Bool} {n : Nat} (h : p n = false) {α : Type} (f : Nat → α) : ((List.range (n + 1)).filter p).map f = ((List.range n).filter p).map f := by
  rw [List.range_succ, List.filter_append, List.map_append, List.filter_cons, if_neg (by rw [h]; exact Bool.false_ne_true)]
  show _ ++ [] = _
  rw [List.append_nil]
theorem filter_len (p : Nat → Bool) (n : Nat) : ((List.range n).filter p).length ≤ n := by
  have := List.length_filter_le p (List.range n)
  rw [List.length_range] at this
  exact this
/-- a list of naturals as Python's ints -/
abbrev vnat : Nat → V := fun n => .int (n : Int)
theorem vnat_map (l : List Nat) : l.map vnat = (l.map fun n : Nat => (n : Int)).map V.int := by rw [List.map_map] <;> rfl
theorem handsM_lt {g h : Nat} (hm : h ∈ handsM g) : h < 6 := by
  unfold handsM at hm
  exact List.mem_range.mp (List.mem_filter.mp hm).1
/-! ### spread: the hands of a group of blocks -/
def spreadTo (g : Nat) (bs : List Nat) : Nat → Nat
  | 0 => 0
  | i + 1 => if bitOn i g = true then spreadTo g bs i ||| bs.getD i 0 else spreadTo g bs i
def spreadM (g : Nat) (bs : List Nat) : Nat := spreadTo g bs bs.length
theorem spreadTo_step {g : Nat} {bs : List Nat} {i z : Nat} (h : bs[i]? = some z) : spreadTo g bs (i + 1) = if bitOn i g = true then spreadTo g bs i ||| z else spreadTo g bs i := by
  show (if bitOn i g = true then spreadTo g bs i ||| bs.getD i 0 else spreadTo g bs i) = _
  rw [List.getD_eq_getElem?_getD, h] <;> rfl
theorem map_at {α : Type} {f : α → V} {l : List α} {i : Nat} {x : V} (h : (l.map f)[i]? = some x) : ∃ z, l[i]? = some z ∧ x = f z := by
  rw [List.getElem?_map] at h
  cases e : l[i]? with
  | none => rw [e] at h; cases h
  | some z => rw [e] at h; exact ⟨z, rfl, (Option.some.inj h).symm⟩
theorem take_map {α β : Type} {l : List α} {i : Nat} {z : α} (h : l[i]? = some z) (f : α → β) : (l.take (i + 1)).map f = (l.take i).map f ++ [f z] := by
  rw [List.take_add_one, h, List.map_append] <;> rfl
theorem handsM_len (g : Nat) : (handsM g).length ≤ 6 := filter_len _ 6
theorem pow6 {n : Nat} (h : n ≤ 6) : 2 ^ n ≤ 64 := Nat.pow_le_pow_right (n := 2) (by decide) h
/-- the table cut to g -/
def cutM (ns : List Int) (g : Nat) : List Int := (List.range (2 ^ (handsM g).length)).map fun q => gi ns ((spreadM q ((handsM g).map (2 ^ ·)) : Nat) : Int)
theorem spread_le : ∀ {g : Nat}, g < 64 → ∀ q, q < 2 ^ (handsM g).length → spreadM q ((handsM g).map (2 ^ ·)) ≤ g := by decide +kernel
theorem at_mem {xs : List V} {i : Int} (h0 : 0 ≤ i) (h1 : i < xs.length) : ∃ v, atI xs i = some v ∧ v ∈ xs := by
  obtain ⟨n, rfl⟩ := Int.eq_ofNat_of_zero_le h0
  have hn : n < xs.length := by omega
  exact ⟨xs[n], atI_nat (List.getElem?_eq_getElem hn), List.getElem_mem hn⟩
theorem ixN_last {n : Nat} (h : 0 < n) : ixN n (-1) = some (n - 1) := by
  unfold ixN
  rw [if_neg (by decide), if_pos (by omega)]
  congr 1
  omega
theorem at_last {ns : List Int} (h : 0 < ns.length) : atI (ns.map V.int) (-1) = some (.int (gi ns ((ns.length : Int) - 1))) := by
  unfold atI
  rw [List.length_map, ixN_last h, Option.bind_some, List.getElem?_map, List.getElem?_eq_getElem (by omega)]
  unfold gi
  rw [List.getD_eq_getElem?_getD, show ((ns.length : Int) - 1).toNat = ns.length - 1 by omega, List.getElem?_eq_getElem (by omega)]
  rfl
theorem handsM_whole : ∀ k, k < 7 → (handsM (2 ^ k - 1)).length = k := by decide +kernel
theorem handsM_pos : ∀ g, g < 64 → 0 < g → 1 ≤ (handsM g).length := by decide +kernel
theorem spread_whole : ∀ k, k < 7 → ∀ q, q < 2 ^ k → spreadM q ((handsM (2 ^ k - 1)).map (2 ^ ·)) = q := by decide +kernel
theorem spread_nought : ∀ g, g < 64 → spreadM 0 ((handsM g).map (2 ^ ·)) = 0 := by decide +kernel
theorem cutM_len (ns : List Int) (g : Nat) : (cutM ns g).length = 2 ^ (handsM g).length := by unfold cutM; rw [List.length_map, List.length_range]
theorem cutM_tab {ns : List Int} {k g : Nat} (tb : Tab ns k) (h0 : 0 < g) (hg : g < ns.length) : Tab (cutM ns g) (handsM g).length := by
  have hp := tb.pos
  have h64 : g < 64 := by omega
  refine ⟨cutM_len _ _, handsM_pos g h64 h0, handsM_len g, gi_zero (by rw [cutM_len]; exact Nat.two_pow_pos _) ?_⟩
  unfold cutM
  rw [gi_map_range (by decide) (by have := Nat.two_pow_pos (handsM g).length; omega), show (0 : Int).toNat = 0 from rfl, spread_nought g h64]
  exact tb.gi0
theorem cutM_whole {ns : List Int} {k : Nat} (tb : Tab ns k) : cutM ns (ns.length - 1) = ns := by
  have e : (handsM (ns.length - 1)).length = k := by rw [tb.len]; exact handsM_whole k (by have := tb.hi; omega)
  refine gi_ext (by rw [cutM_len, e, tb.len]) fun i h0 h1 => ?_
  rw [cutM_len, e] at h1
  unfold cutM
  rw [gi_map_range h0 (by rw [e]; exact h1), tb.len, spread_whole k (by have := tb.hi; omega) i.toNat (by omega), Int.toNat_of_nonneg h0]
def sumSpread (q : Nat) (bs : List Nat) : Nat := (((List.range bs.length).filter fun j => bitOn j q).map fun j => bs.getD j 0).sum
theorem sumSpread_is : ∀ g, g < 64 → ∀ q, q < 2 ^ (handsM g).length → sumSpread q ((handsM g).map (2 ^ ·)) = spreadM q ((handsM g).map (2 ^ ·)) := by decide +kernel
theorem sum_cast (l : List Nat) : (l.map fun n : Nat => (n : Int)).sum = ((l.sum : Nat) : Int) := by
  induction l with
  | nil => rfl
  | cons x r ih => rw [List.map_cons, List.sum_cons, List.sum_cons, ih, Int.natCast_add]
end Sp

/-! Mg: a table with the hands of a group merged into one. -/
namespace Sp
open PySem PySem.Spec L2 PyProof.Rows
def leastM (g : Nat) : Nat := (handsM g).headD 0
def keepP (g h : Nat) : Bool := h == leastM g || !bitOn h g
def keptM (g k : Nat) : List Nat := (List.range k).filter (keepP g)
def blockOf (g h : Nat) : Nat := if h = leastM g then g else 2 ^ h
def blocksM (g k : Nat) : List Nat := (keptM g k).map (blockOf g)
def mergedM (ns : List Int) (g k : Nat) : List Int := (List.range (2 ^ (keptM g k).length)).map fun q => gi ns ((spreadM q (blocksM g k) : Nat) : Int)
def leftP (g k h : Nat) : Bool := decide (2 ^ h < 2 ^ k) && (h == leastM g || !decide (h ∈ handsM g))
def lawW (g q : Nat) (ls : List Nat) : Nat := if bitOn (leastM g) (sumSpread q (ls.map (2 ^ ·))) = true then sumSpread q (ls.map (2 ^ ·)) - 2 ^ leastM g + g else sumSpread q (ls.map (2 ^ ·))
def mgOne (g k q : Nat) : Bool := decide (spreadM q (blocksM g k) < 2 ^ k) && (lawW g q (keptM g k) == spreadM q (blocksM g k)) && (!bitOn (leastM g) (sumSpread q ((keptM g k).map (2 ^ ·))) || decide (2 ^ leastM g ≤ sumSpread q ((keptM g k).map (2 ^ ·)))) && decide (sumSpread q ((keptM g k).map (2 ^ ·)) < 64)
def mgOk (g k : Nat) : Bool := decide (1 ≤ (keptM g k).length) && ((List.range 6).filter (leftP g k) == keptM g k) && (spreadM 0 (blocksM g k) == 0) && (List.range (2 ^ (keptM g k).length)).all (mgOne g k)
theorem mgOk_all : ∀ k, k < 7 → ∀ g, g < 2 ^ k → 0 < g → mgOk g k = true := by decide +kernel
theorem mgF (k : Nat) (hk : k < 7) (g : Nat) (hg : g < 2 ^ k) (h0 : 0 < g) : 1 ≤ (keptM g k).length ∧ (List.range 6).filter (leftP g k) = keptM g k ∧ spreadM 0 (blocksM g k) = 0 ∧
    ∀ q, q < 2 ^ (keptM g k).length → spreadM q (blocksM g k) < 2 ^ k ∧ lawW g q (keptM g k) = spreadM q (blocksM g k) ∧ (bitOn (leastM g) (sumSpread q ((keptM g k).map (2 ^ ·))) = true → 2 ^ leastM g ≤ sumSpread q ((keptM g k).map (2 ^ ·))) ∧ sumSpread q ((keptM g k).map (2 ^ ·)) < 64 := by
  have h := mgOk_all k hk g hg h0
  unfold mgOk at h
  simp only [Bool.and_eq_true, decide_eq_true_eq, beq_iff_eq, List.all_eq_true] at h
  obtain ⟨⟨⟨a, b⟩, c⟩, d⟩ := h
  refine ⟨a, b, c, fun q hq => ?_⟩
  have h2 := d q (List.mem_range.mpr hq)
  unfold mgOne at h2
  simp only [Bool.and_eq_true, decide_eq_true_eq, beq_iff_eq, Bool.or_eq_true, Bool.not_eq_true'] at h2
  obtain ⟨⟨⟨a2, b2⟩, c2⟩, d2⟩ := h2
  refine ⟨a2, b2, fun e => ?_, d2⟩
  rcases c2 with c2 | c2
  · rw [e] at c2; cases c2
  · exact c2
theorem leastF : ∀ g, g < 64 → 0 < g → (handsM g)[0]? = some (leastM g) ∧ leastM g < 6 := by decide +kernel
theorem mgWhole : ∀ k, k < 7 → 1 ≤ k → keptM (2 ^ k - 1) k = [0] ∧ spreadM 0 (blocksM (2 ^ k - 1) k) = 0 ∧ spreadM 1 (blocksM (2 ^ k - 1) k) = 2 ^ k - 1 := by decide +kernel
theorem handsM_all : ∀ k, k < 7 → handsM (2 ^ k - 1) = List.range k := by decide +kernel
theorem keptM_len (g k : Nat) : (keptM g k).length ≤ k := filter_len _ k
theorem blocksM_len (g k : Nat) : (blocksM g k).length = (keptM g k).length := by unfold blocksM; rw [List.length_map]
theorem mergedM_len (ns : List Int) (g k : Nat) : (mergedM ns g k).length = 2 ^ (keptM g k).length := by unfold mergedM; rw [List.length_map, List.length_range]
theorem mergedM_tab {ns : List Int} {k g : Nat} (tb : Tab ns k) (h0 : 0 < g) (hg : g < ns.length) : Tab (mergedM ns g k) (keptM g k).length := by
  have hp := tb.pos
  obtain ⟨f1, _, f3, _⟩ := mgF k (by have := tb.hi; omega) g (by rw [← tb.len]; exact hg) h0
  refine ⟨mergedM_len _ _ _, f1, Nat.le_trans (keptM_len g k) tb.hi, gi_zero (by rw [mergedM_len]; exact Nat.two_pow_pos _) ?_⟩
  unfold mergedM
  rw [gi_map_range (by decide) (by have := Nat.two_pow_pos (keptM g k).length; omega), show (0 : Int).toNat = 0 from rfl, f3]
  exact tb.gi0
theorem mergedM_whole {ns : List Int} {k : Nat} (tb : Tab ns k) : mergedM ns (ns.length - 1) k = [0, gi ns ((ns.length : Int) - 1)] := by
  have hp := tb.pos
  obtain ⟨f1, f2, f3⟩ := mgWhole k (by have := tb.hi; omega) tb.lo
  unfold mergedM
  rw [tb.len, f1, show List.range (2 ^ [0].length) = [0, 1] from rfl]
  show [gi ns _, gi ns _] = _
  rw [f2, f3, show gi ns ((0 : Nat) : Int) = 0 from tb.gi0]
  have h2 : 1 ≤ 2 ^ k := Nat.two_pow_pos k
  congr 3
  omega
theorem bit_int0 {h g : Nat} (hh : h < 6) (hg : g < 64) : decide (Builtin.bitAnd ((g : Int) / 2 ^ ((h : Int)).toNat) 1 = 0) = !bitOn h g := by
  have e := bit_int hh hg
  rw [← e, bitAnd_m1]
  by_cases c : (g : Int) / 2 ^ ((h : Int)).toNat % 2 = 1
  · rw [c]; rfl
  · rw [decide_eq_false c, decide_eq_true (by omega)] <;> rfl
theorem range_at {n i z : Nat} (h : (List.range n)[i]? = some z) : z = i ∧ i < n := by
  obtain ⟨h1, h2⟩ := List.getElem?_eq_some_iff.mp h
  rw [List.length_range] at h1
  rw [List.getElem_range] at h2
  exact ⟨h2.symm, h1⟩
theorem keep_yes {g i : Nat} (h : keepP g i = true) : (((List.range (i + 1)).filter (keepP g)).map (blockOf g)).map vnat = (((List.range i).filter (keepP g)).map (blockOf g)).map vnat ++ [vnat (blockOf g i)] := by
  rw [List.range_succ, List.filter_append, List.map_append, List.map_append, List.filter_cons, if_pos h] <;> rfl
theorem keep_no {g i : Nat} (h : keepP g i = false) : (((List.range (i + 1)).filter (keepP g)).map (blockOf g)).map vnat = (((List.range i).filter (keepP g)).map (blockOf g)).map vnat := by
  rw [List.range_succ, List.filter_append, List.map_append, List.map_append, List.filter_cons, if_neg (by rw [h]; exact Bool.false_ne_true)]
  show _ ++ [] = _
  rw [List.append_nil]
def offOk (m h g : Nat) : Bool := bitOn h g || (decide (g ||| 2 ^ h = g + 2 ^ h) && decide (g + 2 ^ h < 2 ^ m))
theorem off_all : ∀ m, m < 7 → ∀ h, h < m → ∀ g, g < 2 ^ m → offOk m h g = true := by decide +kernel
theorem off_bit {m h g : Nat} (hm : m < 7) (hh : h < m) (hg : g < 2 ^ m) (hb : bitOn h g = false) : g ||| 2 ^ h = g + 2 ^ h ∧ g + 2 ^ h < 2 ^ m := by
  have e := off_all m hm h hh g hg
  unfold offOk at e
  rw [hb, Bool.false_or, Bool.and_eq_true, decide_eq_true_eq, decide_eq_true_eq] at e
  exact e
theorem bits_len : ∀ m, m < 7 → (List.range 6).filter (fun k => decide (2 ^ k < 2 ^ m)) = List.range m := by decide +kernel
theorem rep_flat (m : Nat) : (List.replicate m [V.int 0]).flatten = (List.replicate m (0 : Int)).map V.int := by
  induction m with
  | zero => rfl
  | succ m ih => rw [List.replicate_succ, List.replicate_succ, List.flatten_cons, List.map_cons, ih] <;> rfl
theorem rep_tl {m : Nat} {f : Nat → Int} (h : ∀ i, i < m → f i = 0) : List.replicate m (0 : Int) = tl m f := by
  unfold tl
  apply List.ext_getElem?
  intro i
  rw [List.getElem?_map, List.getElem?_replicate]
  by_cases hi : i < m
  · rw [if_pos hi, List.getElem?_range hi, Option.map_some, h i hi]
  · rw [if_neg hi, List.getElem?_eq_none (by rw [List.length_range]; omega)] <;> rfl
/-- the comprehension over a list of our own -/
theorem cp_listO {K : PySem.W.Frag} {B : Hp} {cs : Cells} {H : Hp} {σ : L2.St} {te : TE} {g : TG} {tt : TT} {vs : List Nat} {QD : Addr → Hp → Prop} {a : Addr} {xs : List V} (F : Nat → List V) (w : Own B cs H) (j : Nat) (hx : cs[j]? = some (a, .lst xs)) (h0 : F 0 = [])
    (hs : ∀ D i x H', xs[i]? = some x → PvC B cs D F i H' → g x (wipe σ vs) H' fun σ2 H2 => wipe σ2 vs = wipe σ vs ∧ tt σ2 H2 fun b H3 =>
      if b = true then te σ2 H3 fun y H4 => ∃ acc, H4 D = some (.lst acc) ∧ acc.length < sizeLine ∧ PvC B cs D F (i + 1) (upd H4 D (.lst (acc ++ [y]))) else PvC B cs D F (i + 1) H3)
    (hq : ∀ D H', Own B ((D, .lst (F xs.length)) :: cs) H' → QD D H') : ∀ D, H D = none → ∃ W : Nat → Nat → Hp → Prop, (∃ m, W 0 m (upd H D (.lst []))) ∧ ∀ i m H, W i m H →
      ((Itl K a).stop i H ∧ QD D H) ∨ ((Itl K a).go i H ∧ ∃ Nx : Hp → Prop, (∀ H', Nx H' → ∃ m', m' < m ∧ W (i + 1) m' H') ∧ ∀ x H', (Itl K a).yld i H x H' → g x (wipe σ vs) H' fun σ2 H2 => wipe σ2 vs = wipe σ vs ∧ tt σ2 H2 fun b H3 =>
        if b = true then te σ2 H3 fun y H4 => ∃ acc, H4 D = some (.lst acc) ∧ acc.length < sizeLine ∧ Nx (upd H4 D (.lst (acc ++ [y]))) else Nx H3) := fun D hD =>
  lc_list (PvC B cs D F) (by unfold PvC; rw [h0]; exact w.new hD) (fun i H' hi p => Own.sq p (j + 1) hx) (fun i x H' hi p => hs D i x H' hi p) (fun H' p => hq D H' p)
theorem cut_to {xs : List V} {i : Nat} : cutV xs none (some (i : Int)) = xs.take i := by
  unfold cutV
  rw [HT.sIx_none, HT.sIx_nat, List.drop_zero, Nat.sub_zero]
  by_cases h : i ≤ xs.length
  · rw [Nat.min_eq_left h]
  · rw [Nat.min_eq_right (by omega), List.take_of_length_le (Nat.le_refl _), List.take_of_length_le (by omega)]
theorem cut_from {xs : List V} {i : Nat} : cutV xs (some (i : Int)) none = xs.drop i := by
  unfold cutV
  rw [HT.sIx_none, HT.sIx_nat, List.take_of_length_le (by rw [List.length_drop]; omega)]
  by_cases h : i ≤ xs.length
  · rw [Nat.min_eq_left h]
  · rw [Nat.min_eq_right (by omega), List.drop_eq_nil_of_le (Nat.le_refl _), List.drop_eq_nil_of_le (by omega)]
/-- x not in a list of whole numbers -/
theorem inV_nat {h : Nat} : ∀ {ns : List Nat}, inV (.int (h : Int)) (ns.map vnat) = decide (h ∈ ns)
  | [] => rfl
  | n :: ns => by
    have ih := inV_nat (h := h) (ns := ns)
    unfold inV at ih ⊢
    rw [List.map_cons, List.any_cons, ih]
    show (((n : Int) == (h : Int)) || decide (h ∈ ns)) = _
    rw [Bool.eq_iff_iff]
    simp only [Bool.or_eq_true, beq_iff_eq, decide_eq_true_eq, List.mem_cons]
    constructor
    · rintro (e | e)
      · exact .inl (by omega)
      · exact .inr e
    · rintro (e | e)
      · exact .inl (by omega)
      · exact .inr e
theorem all_flat_nat : ∀ ns : List Nat, (ns.map vnat).all flatV = true
  | [] => rfl
  | n :: ns => by rw [List.map_cons, List.all_cons, all_flat_nat ns] <;> rfl
theorem x_notInN {K : PySem.W.Frag} {H : Hp} {Q : VK} {p : Addr} {h : Nat} {ns : List Nat} (hS : SqL K H p (ns.map vnat)) (q : Q (.bl (!decide (h ∈ ns))) H) : rIn K true (.int (h : Int)) (.ref p) H Q :=
  ⟨p, _, rfl, .inl hS, rfl, all_flat_nat ns, by rw [inV_nat]; exact q⟩
end Sp

/-! LinA: sums that are linear in a table's numbers, told by their coefficients. -/
namespace Sp
open PySem PySem.Spec L2 PyProof.Rows
abbrev LinF := List (Int × Nat)
def ev (T : Nat → Int) (L : LinF) : Int := (L.map fun p => p.1 * T p.2).sum
def co (L : LinF) (i : Nat) : Int := (L.map fun p => if p.2 = i then p.1 else 0).sum
theorem ev_cons (T : Nat → Int) (p : Int × Nat) (L : LinF) : ev T (p :: L) = p.1 * T p.2 + ev T L := by unfold ev; rw [List.map_cons, List.sum_cons]
theorem co_cons (p : Int × Nat) (L : LinF) (i : Nat) : co (p :: L) i = (if p.2 = i then p.1 else 0) + co L i := by unfold co; rw [List.map_cons, List.sum_cons]
theorem sum_app2 (a b : List Int) : (a ++ b).sum = a.sum + b.sum := by
  induction a with
  | nil => simp
  | cons x r ih => rw [List.cons_append, List.sum_cons, List.sum_cons, ih, Int.add_assoc]
theorem ev_app (T : Nat → Int) (L L' : LinF) : ev T (L ++ L') = ev T L + ev T L' := by unfold ev; rw [List.map_append, sum_app2]
theorem sum_add (f g : Nat → Int) : ∀ l : List Nat, (l.map fun i => f i + g i).sum = (l.map f).sum + (l.map g).sum
  | [] => rfl
  | x :: l => by rw [List.map_cons, List.map_cons, List.map_cons, List.sum_cons, List.sum_cons, List.sum_cons, sum_add f g l]; omega
theorem sum_zero : ∀ l : List Nat, (l.map fun _ => (0 : Int)).sum = 0
  | [] => rfl
  | x :: l => by rw [List.map_cons, List.sum_cons, sum_zero l] <;> rfl
theorem sum_one (c : Int) (T : Nat → Int) (j : Nat) : ∀ n, ((List.range n).map fun i => (if j = i then c else 0) * T i).sum = if j < n then c * T j else 0
  | 0 => by rw [if_neg (Nat.not_lt_zero j)] <;> rfl
  | n + 1 => by
    rw [List.range_succ, List.map_append, sum_app2, sum_one c T j n, List.map_cons, List.map_nil, List.sum_cons, List.sum_nil]
    by_cases h : j = n
    · subst h; rw [if_neg (Nat.lt_irrefl j), if_pos rfl, if_pos (Nat.lt_succ_self j)]; omega
    · rw [if_neg h]
      by_cases h2 : j < n
      · rw [if_pos h2, if_pos (by omega)]; omega
      · rw [if_neg h2, if_neg (by omega)]; omega
theorem ev_co (T : Nat → Int) (n : Nat) : ∀ L : LinF, (∀ p ∈ L, p.2 < n) → ev T L = ((List.range n).map fun i => co L i * T i).sum
  | [], _ => by
    show (0 : Int) = _
    rw [show ((List.range n).map fun i => co [] i * T i) = (List.range n).map fun _ => (0 : Int) from List.map_congr_left fun i _ => Int.zero_mul _, sum_zero]
  | p :: L, h => by
    rw [ev_cons, ev_co T n L fun q hq => h q (.tail _ hq)]
    rw [show ((List.range n).map fun i => co (p :: L) i * T i) = (List.range n).map fun i => (if p.2 = i then p.1 else 0) * T i + co L i * T i from List.map_congr_left fun i _ => by rw [co_cons, Int.add_mul]]
    rw [sum_add, sum_one, if_pos (h p (.head _))]
def sameL (n : Nat) (L L' : LinF) : Bool := L.all (fun p => decide (p.2 < n)) && L'.all (fun p => decide (p.2 < n)) && (List.range n).all fun i => decide (co L i = co L' i)
theorem ev_same {n : Nat} {L L' : LinF} (h : sameL n L L' = true) (T : Nat → Int) : ev T L = ev T L' := by
  unfold sameL at h
  simp only [Bool.and_eq_true, List.all_eq_true, decide_eq_true_eq] at h
  obtain ⟨⟨h1, h2⟩, h3⟩ := h
  rw [ev_co T n L h1, ev_co T n L' h2]
  congr 1
  exact List.map_congr_left fun i hi => by rw [h3 i hi]
theorem ev_congr {T T' : Nat → Int} {L : LinF} (h : ∀ p ∈ L, T p.2 = T' p.2) : ev T L = ev T' L := by
  unfold ev
  congr 1
  exact List.map_congr_left fun p hp => by rw [h p hp]
theorem ev_bump (T : Nat → Int) (j : Nat) : ∀ L : LinF, ev (fun i => if i = j then T i + 1 else T i) L = ev T L + co L j
  | [] => rfl
  | p :: L => by
    rw [ev_cons, ev_cons, co_cons, ev_bump T j L]
    by_cases h : p.2 = j
    · rw [if_pos h, if_pos h, Int.mul_add]; omega
    · rw [if_neg h, if_neg h]; omega
/-- L, read through s -/
def thr (s : Nat → Nat) (L : LinF) : LinF := L.map fun p => (p.1, s p.2)
theorem ev_thr (T : Nat → Int) (s : Nat → Nat) (L : LinF) : ev T (thr s L) = ev (fun i => T (s i)) L := by unfold ev thr; rw [List.map_map] <;> rfl
def offs (h n : Nat) : List Nat := (List.range n).filter fun g => !bitOn h g
def addsM (ms : List Int) (h : Nat) : List Int := (offs h ms.length).map fun g => fn ms (g + 2 ^ h) - fn ms g
end Sp

/-! Dp: == of nested data. -/
namespace Sp
open PySem PySem.Spec L2 PyProof.Rows
mutual
theorem eqv_self : ∀ d : PyData, d.canLay0 = true → PyData.eqv d d = true
  | .none, _ => by simp [PyData.eqv]
  | .bool b, _ => by simp [PyData.eqv]
  | .int i, _ => by simp [PyData.eqv]
  | .str x, _ => by simp [PyData.eqv]
  | .list xs, h => by
    rw [PyData.canLay0] at h
    rw [PyData.eqv]
    exact eqvAll_self xs h
  | .tuple xs, h => by
    rw [PyData.canLay0] at h
    rw [PyData.eqv]
    exact eqvAll_self xs h
  | .dict _, h => by rw [PyData.canLay0] at h; cases h
theorem eqvAll_self : ∀ ds : List PyData, PyData.canLayAll0 ds = true → PyData.eqvAll ds ds = true
  | [], _ => by simp [PyData.eqvAll]
  | d :: ds, h => by
    rw [PyData.canLayAll0, Bool.and_eq_true] at h
    rw [PyData.eqvAll, eqv_self d h.1, eqvAll_self ds h.2] <;> rfl
end
/-- laid without dicts, at most k deep -/
structure LayD (k : Nat) (d : PyData) : Prop where
  lay : d.canLay0 = true
  dep : d.depth ≤ k
theorem layAll : ∀ {k : Nat} {ds : List PyData}, (∀ d ∈ ds, LayD k d) → PyData.canLayAll0 ds = true ∧ PyData.depthAll ds ≤ k
  | k, [], _ => ⟨by simp [PyData.canLayAll0], by simp [PyData.depthAll]⟩
  | k, d :: ds, h => by
    have ⟨h1, h2⟩ := layAll fun x hx => h x (.tail _ hx)
    have h0 := h d (.head _)
    exact ⟨by rw [PyData.canLayAll0, h0.lay, h1] <;> rfl, by have := h0.dep; simp only [PyData.depthAll]; omega⟩
theorem LayD.int {k : Nat} (h : 1 ≤ k) (i : Int) : LayD k (.int i) := ⟨by simp [PyData.canLay0], by simp only [PyData.depth]; omega⟩
theorem LayD.bool {k : Nat} (h : 1 ≤ k) (b : Bool) : LayD k (.bool b) := ⟨by simp [PyData.canLay0], by simp only [PyData.depth]; omega⟩
theorem LayD.none {k : Nat} (h : 1 ≤ k) : LayD k .none := ⟨by simp [PyData.canLay0], by simp only [PyData.depth]; omega⟩
theorem LayD.str {k : Nat} (h : 1 ≤ k) {x : Str} (hx : PyData.strOk x = true) : LayD k (.str x) := ⟨by simpa [PyData.canLay0] using hx, by simp only [PyData.depth]; omega⟩
theorem LayD.list {k : Nat} {ds : List PyData} (h : ∀ d ∈ ds, LayD k d) : LayD (k + 1) (.list ds) := by
  have ⟨h1, h2⟩ := layAll h
  exact ⟨by rw [PyData.canLay0]; exact h1, by simp only [PyData.depth]; omega⟩
theorem LayD.tuple {k : Nat} {ds : List PyData} (h : ∀ d ∈ ds, LayD k d) : LayD (k + 1) (.tuple ds) := by
  have ⟨h1, h2⟩ := layAll h
  exact ⟨by rw [PyData.canLay0]; exact h1, by simp only [PyData.depth]; omega⟩
theorem LayD.ints {ns : List Int} : LayD 2 (.list (ns.map PyData.int)) := LayD.list fun d hd => by
  obtain ⟨n, _, rfl⟩ := List.mem_map.mp hd
  exact LayD.int (by decide) n
theorem LayD.shaped {k : Nat} {d : PyData} (h : LayD k d) (hk : k ≤ 64 := by decide) : SeqAt.shaped d = true := by
  unfold SeqAt.shaped
  rw [Bool.and_eq_true]
  exact ⟨h.lay, decide_eq_true (Nat.le_trans h.dep hk)⟩
section
variable {K : PySem.W.Frag} {H : Hp} {Q : VK} {x y : V} {d : PyData} {k : Nat}
theorem x_eqD (h1 : Dp K H x d) (h2 : Dp K H y d) (l : LayD k d) (q : Q (.bl true) H) (hk : k ≤ 64 := by decide) : rEqX K x y H Q :=
  .inr ⟨_, _, h1, h2, l.shaped hk, l.shaped hk, by rw [eqv_self d l.lay]; exact q⟩
theorem x_neD (h1 : Dp K H x d) (h2 : Dp K H y d) (l : LayD k d) (q : Q (.bl false) H) (hk : k ≤ 64 := by decide) : rNeX K x y H Q :=
  .inr ⟨_, _, h1, h2, l.shaped hk, l.shaped hk, by rw [eqv_self d l.lay]; exact q⟩
end
mutual
theorem Dp.same {K : PySem.W.Frag} {H H' : Hp} (s : Same H H') : ∀ (d : PyData) (v : V), Dp K H v d → Dp K H' v d
  | .none, _, h => by cases h; exact .non
  | .bool b, _, h => by cases h; exact .bl b
  | .int i, _, h => by cases h; exact .int i
  | .str x, _, h => by cases h; exact .str x
  | .list ds, _, h => by
    cases h with
    | lst h1 h2 => exact .lst (s.seq h1) (DpAll.same s ds _ h2)
  | .tuple ds, _, h => by
    cases h with
    | tup h1 h2 => exact .tup (same_sqT s h1) (DpAll.same s ds _ h2)
  | .dict _, _, h => by cases h
theorem DpAll.same {K : PySem.W.Frag} {H H' : Hp} (s : Same H H') : ∀ (ds : List PyData) (vs : List V), DpAll K H vs ds → DpAll K H' vs ds
  | [], _, h => by cases h; exact .nil
  | d :: ds, _, h => by
    cases h with
    | cons h1 h2 => exact .cons (Dp.same s d _ h1) (DpAll.same s ds _ h2)
end
theorem DpAll.app {K : PySem.W.Frag} {H : Hp} : ∀ {vs ws : List V} {ds es : List PyData}, DpAll K H vs ds → DpAll K H ws es → DpAll K H (vs ++ ws) (ds ++ es)
  | _, _, _, _, .nil, h => h
  | _, _, _, _, .cons h1 h2, h => .cons h1 (DpAll.app h2 h)
end Sp

/-! Gcd: the greatest divisor, fractions in their shortest words. -/
namespace Sp
open PySem PySem.Spec L2 PyProof.Rows
theorem x_par {i j : Nat} {ta : TA} {D : Ends} {σ : L2.St} {H : Hp} (h : ta σ H fun vs H1 => ∃ v w, vs = [v, w] ∧ D.nx ((σ.set i (some v)).set j (some w)) H1) : tPar i j ta D σ H := h
/-- numbers of at most B bits -/
def Bits (B : Nat) (a b : Int) : Prop := B ≤ 9000 ∧ a.natAbs < 2 ^ B ∧ b.natAbs < 2 ^ B
def gcdI (a b : Int) : Int := ((Int.gcd a b : Nat) : Int)
def shortM (a b : Int) : Int × Int := if 0 < b then (a / gcdI a b, b / gcdI a b) else (0 - a / gcdI a b, 0 - b / gcdI a b)
theorem gcd_step (x y : Nat) : Nat.gcd y (x % y) = Nat.gcd x y := by rw [Nat.gcd_comm y (x % y), ← Nat.gcd_rec, Nat.gcd_comm]
theorem halve {x y k : Nat} (h0 : 0 < y) (hxy : y ≤ x) (h : x * y < 2 ^ k) : y * (x % y) < 2 ^ (k - 1) ∧ 1 ≤ k := by
  have h1 : 1 ≤ x * y := Nat.mul_pos (by omega) h0
  have hk : 1 ≤ k := by
    rcases Nat.eq_zero_or_pos k with e | e
    · subst e; rw [Nat.pow_zero] at h; omega
    · exact e
  refine ⟨?_, hk⟩
  have e : 2 ^ k = 2 * 2 ^ (k - 1) := by rw [← Nat.pow_succ']; congr 1; omega
  have h2 : 2 * (x % y) ≤ x := by
    have := Nat.mod_lt x h0
    have h3 := Nat.div_add_mod x y
    have h4 : 1 ≤ x / y := (Nat.one_le_div_iff h0).mpr hxy
    have h5 : y * 1 ≤ y * (x / y) := Nat.mul_le_mul_left y h4
    omega
  have h6 : 2 * (y * (x % y)) ≤ x * y := by
    rw [← Nat.mul_assoc, Nat.mul_comm 2 y, Nat.mul_assoc, Nat.mul_comm x y]
    exact Nat.mul_le_mul_left y h2
  omega
theorem last2 (l : List Nat) (x y : Nat) : atI ((l ++ [x, y]).map vnat) (-1) = some (vnat y) ∧ atI ((l ++ [x, y]).map vnat) (-2) = some (vnat x) := by
  have hl : ((l ++ [x, y]).map vnat).length = l.length + 2 := by rw [List.length_map, List.length_append] <;> rfl
  constructor
  · unfold atI
    rw [hl, show ixN (l.length + 2) (-1) = some (l.length + 1) by unfold ixN; rw [if_neg (by decide), if_pos (by omega)]; congr 1; omega]
    rw [Option.bind_some, List.getElem?_map, List.getElem?_append_right (by omega), show l.length + 1 - l.length = 1 by omega] <;> rfl
  · unfold atI
    rw [hl, show ixN (l.length + 2) (-2) = some l.length by unfold ixN; rw [if_neg (by decide), if_pos (by omega)]; congr 1; omega]
    rw [Option.bind_some, List.getElem?_map, List.getElem?_append_right (by omega), Nat.sub_self] <;> rfl
theorem abs_nat (a : Int) : (if a < 0 then -a else a) = ((a.natAbs : Nat) : Int) := by
  by_cases h : a < 0
  · rw [if_pos h]; omega
  · rw [if_neg h]; omega
theorem gcd_pos {a b : Int} (h : b ≠ 0) : 0 < Int.gcd a b := Nat.gcd_pos_of_pos_right _ (by omega)
theorem gcd_le {a b : Int} (h : b ≠ 0) : Int.gcd a b ≤ b.natAbs := Nat.gcd_le_right _ (by omega)
theorem gcd_log {a b : Int} {B : Nat} (h : b ≠ 0) (hb : Bits B a b) : (gcdI a b).natAbs.log2 < 9000 := by
  obtain ⟨h1, _, h3⟩ := hb
  have h4 : B ≠ 0 := fun e => by rw [e, Nat.pow_zero] at h3; omega
  have h5 := gcd_le (a := a) h
  unfold gcdI
  rw [Int.natAbs_natCast]
  exact Nat.lt_of_lt_of_le (PySem.Flt.log2_lt_of (by omega) (Nat.lt_of_le_of_lt h5 h3)) h1
/-! ### what the shortest words are -/
theorem gcd_mul_div {a b : Int} (h : b ≠ 0) : gcdI a b * (a / gcdI a b) = a ∧ gcdI a b * (b / gcdI a b) = b := by
  unfold gcdI
  exact ⟨Int.mul_ediv_cancel' (Int.gcd_dvd_left ..), Int.mul_ediv_cancel' (Int.gcd_dvd_right ..)⟩
/-- a fraction in its shortest words -/
structure Frac (p q : Int) : Prop where
  pos : 0 < q
  one : Int.gcd p q = 1
theorem short_gcd {a b : Int} (h : b ≠ 0) : Int.gcd (a / gcdI a b) (b / gcdI a b) = 1 := by
  unfold gcdI
  exact Int.gcd_ediv_gcd_ediv_gcd (gcd_pos h)
theorem short_frac {a b : Int} (h : b ≠ 0) : Frac (shortM a b).1 (shortM a b).2 := by
  have hg : 0 < gcdI a b := by have := gcd_pos (a := a) h; unfold gcdI; omega
  have e := gcd_mul_div (a := a) h
  have h1 := short_gcd (a := a) h
  unfold shortM
  by_cases hb : 0 < b
  · rw [if_pos hb]
    exact ⟨Int.ediv_pos_of_pos_of_dvd hb (by omega) ⟨_, e.2.symm⟩, h1⟩
  · rw [if_neg hb]
    have h2 : 0 < 0 - b / gcdI a b := by
      have h3 : ¬ 0 ≤ b / gcdI a b := fun h4 => by
        have := Int.mul_nonneg (Int.le_of_lt hg) h4
        omega
      omega
    refine ⟨h2, ?_⟩
    rw [Int.zero_sub, Int.zero_sub, Int.gcd_neg, Int.neg_gcd]
    exact h1
theorem short_cross {a b : Int} (h : b ≠ 0) : (shortM a b).1 * b = a * (shortM a b).2 := by
  have e := gcd_mul_div (a := a) h
  unfold shortM
  have key : a / gcdI a b * b = a * (b / gcdI a b) := by
    have e1 : a / gcdI a b * b = a / gcdI a b * (gcdI a b * (b / gcdI a b)) := by rw [e.2]
    have e2 : a * (b / gcdI a b) = gcdI a b * (a / gcdI a b) * (b / gcdI a b) := by rw [e.1]
    rw [e1, e2, ← Int.mul_assoc, Int.mul_comm (a / gcdI a b) (gcdI a b)]
  by_cases hb : 0 < b
  · rw [if_pos hb]; exact key
  · rw [if_neg hb]
    show (0 - a / gcdI a b) * b = a * (0 - b / gcdI a b)
    rw [Int.sub_mul, Int.mul_sub, Int.zero_mul, Int.mul_zero, key]
theorem dvd_coprime {k m n : Int} (h : k ∣ m * n) (g : Int.gcd m k = 1) : k ∣ n := by
  have h1 : k.natAbs ∣ m.natAbs * n.natAbs := by rw [← Int.natAbs_mul]; exact Int.natAbs_dvd_natAbs.mpr h
  have h2 : Nat.Coprime k.natAbs m.natAbs := by rw [Nat.coprime_comm]; exact g
  exact Int.natAbs_dvd_natAbs.mp (h2.dvd_of_dvd_mul_left h1)
/-- only one pair of shortest words -/
theorem frac_unique {p q p' q' : Int} (f : Frac p q) (f' : Frac p' q') (h : p * q' = p' * q) : p = p' ∧ q = q' := by
  have d1 : q ∣ q' := by
    have : q ∣ p * q' := ⟨p', by rw [h, Int.mul_comm]⟩
    exact dvd_coprime this f.one
  have d2 : q' ∣ q := by
    have : q' ∣ p' * q := ⟨p, by rw [← h, Int.mul_comm]⟩
    exact dvd_coprime this f'.one
  have e : q = q' := Int.dvd_antisymm (Int.le_of_lt f.pos) (Int.le_of_lt f'.pos) d1 d2
  subst e
  exact ⟨Int.eq_of_mul_eq_mul_right (by have := f.pos; omega) h, rfl⟩
theorem short_eq {a b c d : Int} (hb : b ≠ 0) (hd : d ≠ 0) (h : a * d = c * b) : shortM a b = shortM c d := by
  have f1 := short_frac (a := a) hb
  have f2 := short_frac (a := c) hd
  have c1 := short_cross (a := a) hb
  have c2 := short_cross (a := c) hd
  have key : (shortM a b).1 * (shortM c d).2 = (shortM c d).1 * (shortM a b).2 := by
    refine Int.eq_of_mul_eq_mul_right (a := b * d) (Int.mul_ne_zero hb hd) ?_
    have l : (shortM a b).1 * (shortM c d).2 * (b * d) = ((shortM a b).1 * b) * ((shortM c d).2 * d) := by ac_rfl
    have r : (shortM c d).1 * (shortM a b).2 * (b * d) = ((shortM c d).1 * d) * ((shortM a b).2 * b) := by ac_rfl
    rw [l, r, c1, c2]
    have l2 : a * (shortM a b).2 * ((shortM c d).2 * d) = (a * d) * ((shortM a b).2 * (shortM c d).2) := by ac_rfl
    have r2 : c * (shortM c d).2 * ((shortM a b).2 * b) = (c * b) * ((shortM a b).2 * (shortM c d).2) := by ac_rfl
    rw [l2, r2, h]
  obtain ⟨e1, e2⟩ := frac_unique f1 f2 key
  exact Prod.ext e1 e2
end Sp

/-! Fra: lists of fractions, as tuples of their own. -/
namespace Sp
open PySem PySem.Spec L2 PyProof.Rows
abbrev frV (f : Int × Int) : List V := [.int f.1, .int f.2]
/-- ts hold the fractions fs -/
inductive FrAll (H : Hp) : List Addr → List (Int × Int) → Prop
  | nil : FrAll H [] []
  | cons {t : Addr} {ts : List Addr} {f : Int × Int} {fs : List (Int × Int)} : H t = some (.tup (frV f)) → FrAll H ts fs → FrAll H (t :: ts) (f :: fs)
theorem FrAll.same {H H' : Hp} (s : Same H H') : ∀ {ts : List Addr} {fs : List (Int × Int)}, FrAll H ts fs → FrAll H' ts fs
  | _, _, .nil => .nil
  | _, _, .cons h r => .cons (s _ _ h) (r.same s)
theorem FrAll.len {H : Hp} : ∀ {ts : List Addr} {fs : List (Int × Int)}, FrAll H ts fs → ts.length = fs.length
  | _, _, .nil => rfl
  | _, _, .cons _ r => by rw [List.length_cons, List.length_cons, r.len]
theorem FrAll.at {H : Hp} : ∀ {ts : List Addr} {fs : List (Int × Int)}, FrAll H ts fs → ∀ {i : Nat} {t : Addr}, ts[i]? = some t → ∃ f, fs[i]? = some f ∧ H t = some (.tup (frV f))
  | _, _, .nil, i, _, h => by rw [List.getElem?_nil] at h; cases h
  | _, _, .cons (f := f) h r, 0, t, e => ⟨f, rfl, by cases e; exact h⟩
  | _, _, .cons h r, i + 1, t, e => r.at (i := i) (by simpa using e)
theorem FrAll.mem {H : Hp} : ∀ {ts : List Addr} {fs : List (Int × Int)}, FrAll H ts fs → ∀ t ∈ ts, ∃ f, H t = some (.tup (frV f))
  | _, _, .cons (f := f) h r, t, m => by
    cases m with
    | head => exact ⟨f, h⟩
    | tail _ m => exact r.mem t m
theorem FrAll.snoc {H : Hp} {t : Addr} {f : Int × Int} (ht : H t = some (.tup (frV f))) : ∀ {ts : List Addr} {fs : List (Int × Int)}, FrAll H ts fs → FrAll H (ts ++ [t]) (fs ++ [f])
  | _, _, .nil => .cons ht .nil
  | _, _, .cons h r => .cons h (r.snoc ht)
theorem FrAll.congr {H H' : Hp} : ∀ {ts : List Addr} {fs : List (Int × Int)}, (∀ t ∈ ts, H' t = H t) → FrAll H ts fs → FrAll H' ts fs
  | _, _, _, .nil => .nil
  | _, _, e, .cons h r => .cons ((e _ (.head _)).trans h) (r.congr fun t m => e t (.tail _ m))
/-- a list of fractions is told -/
def RetFs (fs : List (Int × Int)) (H : Hp) (Q : VK) : Prop := ∀ (p : Addr) (ts : List Addr) (H' : Hp), H p = none → (∀ t ∈ ts, H t = none) → Same H H' → H' p = some (.lst (ts.map V.ref)) → FrAll H' ts fs → Q (.ref p) H'
/-- the tuples join what stands and stays -/
theorem own_newF {B H H' : Hp} {cs : Cells} {p : Addr} {ts : List Addr} {fs : List (Int × Int)} (w : Own B cs H) (np : H p = none) (nt : ∀ t ∈ ts, H t = none) (s : Same H H') (c : H' p = some (.lst (ts.map V.ref))) (f : FrAll H' ts fs) :
    ∃ B2, Same B B2 ∧ FrAll B2 ts fs ∧ Own B2 ((p, .lst (ts.map V.ref)) :: cs) H' := by
  classical
  have hB : ∀ t, H t = none → B t = none := fun t h => w.fresh h
  have npt : p ∉ ts := fun m => by
    obtain ⟨g, hg⟩ := f.mem p m
    rw [c] at hg; cases hg
  refine ⟨fun a => if a ∈ ts then H' a else B a, ?_, ?_, ?_, ?_, ?_⟩
  · intro a o h
    have : a ∉ ts := fun m => by rw [hB a (nt a m)] at h; cases h
    show (if a ∈ ts then H' a else B a) = some o
    rw [if_neg this]; exact h
  · exact f.congr fun t m => by
      show (if t ∈ ts then H' t else B t) = _
      rw [if_pos m]
  · intro a o h
    dsimp only at h
    by_cases m : a ∈ ts
    · rw [if_pos m] at h; exact h
    · rw [if_neg m] at h; exact s _ _ (w.ex _ _ h)
  · intro q hq
    cases hq with
    | head =>
      refine ⟨c, ?_⟩
      show (if p ∈ ts then H' p else B p) = none
      rw [if_neg npt]; exact hB p np
    | tail _ hq =>
      obtain ⟨h1, h2⟩ := w.cell q hq
      refine ⟨s _ _ h1, ?_⟩
      have : q.1 ∉ ts := fun m => by rw [nt _ m] at h1; cases h1
      show (if q.1 ∈ ts then H' q.1 else B q.1) = none
      rw [if_neg this]; exact h2
  · rw [List.map_cons, List.nodup_cons]
    exact ⟨w.off np, w.nd⟩
/-- what stands in a comprehension that makes fractions, one for each item -/
structure OwnF (B : Hp) (cs : Cells) (D : Addr) (fs : List (Int × Int)) (H : Hp) : Prop where
  own : ∃ ts : List Addr, Own B ((D, .lst (ts.map V.ref)) :: cs) H ∧ (∀ t ∈ ts, B t = none ∧ t ∉ cs.map (·.1)) ∧ FrAll H ts fs
theorem OwnF.ext {B : Hp} {cs : Cells} {D : Addr} {fs : List (Int × Int)} {H H' : Hp} (o : OwnF B cs D fs H) (s : Same H H') : OwnF B cs D fs H' := by
  obtain ⟨ts, w, n, f⟩ := o.own
  exact ⟨ts, w.ext s, n, f.same s⟩
theorem OwnF.cell {B : Hp} {cs : Cells} {D : Addr} {fs : List (Int × Int)} {H : Hp} (o : OwnF B cs D fs H) : Own B cs H := by
  obtain ⟨ts, w, _⟩ := o.own
  exact w.pop
theorem OwnF.step {B : Hp} {cs : Cells} {D t : Addr} {fs : List (Int × Int)} {f : Int × Int} {H H' : Hp} (o : OwnF B cs D fs H) (hl : fs.length < 1000000) (nt : H t = none) (s : Same H H') (c : H' t = some (.tup (frV f))) :
    ∃ acc, H' D = some (.lst acc) ∧ acc.length < sizeLine ∧ OwnF B cs D (fs ++ [f]) (upd H' D (.lst (acc ++ [.ref t]))) := by
  obtain ⟨ts, w, n, fr⟩ := o.own
  have w' := w.ext s
  have fr' := fr.same s
  refine ⟨ts.map V.ref, w'.get 0 rfl, by rw [List.length_map, fr.len]; exact Nat.lt_of_lt_of_le hl (by decide), ts ++ [t], ?_, ?_, ?_⟩
  · have w2 := w'.put (o' := .lst (ts.map V.ref ++ [.ref t])) 0 rfl
    rw [List.map_append]
    exact w2
  · intro a m
    rcases List.mem_append.mp m with m | m
    · exact n a m
    · rw [List.mem_singleton] at m
      subst m
      exact ⟨w.fresh nt, w.pop.off nt⟩
  · have hD : ∀ a, (∃ g, H' a = some (.tup (frV g))) → a ≠ D := fun a ⟨g, hg⟩ e => by
      subst e
      rw [w'.get 0 rfl] at hg; cases hg
    refine (fr'.snoc c).congr fun a m => ?_
    have : ∃ g, H' a = some (.tup (frV g)) := by
      rcases List.mem_append.mp m with m | m
      · exact fr'.mem a m
      · rw [List.mem_singleton] at m
        subst m
        exact ⟨f, c⟩
    exact upd_ne (hD a this)
theorem OwnF.start {B H : Hp} {cs : Cells} {D : Addr} (w : Own B cs H) (n : H D = none) : OwnF B cs D [] (upd H D (.lst [])) := ⟨[], w.new n, fun _ h => (nomatch h), .nil⟩
/-- at the end: told, seen from H -/
theorem OwnF.ret {H H' : Hp} {D : Addr} {fs : List (Int × Int)} {Q : VK} (o : OwnF H [] D fs H') (k : RetFs fs H Q) : Q (.ref D) H' := by
  obtain ⟨ts, w, n, f⟩ := o.own
  exact k D ts H' (w.none 0 rfl) (fun t m => (n t m).1) w.ex (w.get 0 rfl) f
theorem OwnF.next {B : Hp} {cs : Cells} {D t : Addr} {fs : List (Int × Int)} {f : Int × Int} {i : Nat} {H H' : Hp} (o : OwnF B cs D (fs.take i) H) (hf : fs[i]? = some f) (hl : fs.length < 1000000) (nt : H t = none) (s : Same H H') (c : H' t = some (.tup (frV f))) :
    ∃ acc, H' D = some (.lst acc) ∧ acc.length < sizeLine ∧ OwnF B cs D (fs.take (i + 1)) (upd H' D (.lst (acc ++ [.ref t]))) := by
  have e : fs.take (i + 1) = fs.take i ++ [f] := by rw [List.take_add_one, hf] <;> rfl
  rw [e]
  exact o.step (by rw [List.length_take]; omega) nt s c
/-- the comprehension over a list of our own, that makes a fraction of each item -/
theorem cp_frO {K : PySem.W.Frag} {B : Hp} {cs : Cells} {H : Hp} {σ : L2.St} {te : TE} {g : TG} {tt : TT} {vs : List Nat} {QD : Addr → Hp → Prop} {a : Addr} {xs : List V} (fs : List (Int × Int)) (w : Own B cs H) (j : Nat) (hx : cs[j]? = some (a, .lst xs)) (hl : xs.length = fs.length)
    (hs : ∀ D i x f H', xs[i]? = some x → fs[i]? = some f → OwnF B cs D (fs.take i) H' → g x (wipe σ vs) H' fun σ2 H2 => wipe σ2 vs = wipe σ vs ∧ tt σ2 H2 fun b H3 =>
      if b = true then te σ2 H3 fun y H4 => ∃ acc, H4 D = some (.lst acc) ∧ acc.length < sizeLine ∧ OwnF B cs D (fs.take (i + 1)) (upd H4 D (.lst (acc ++ [y]))) else OwnF B cs D (fs.take (i + 1)) H3)
    (hq : ∀ D H', OwnF B cs D fs H' → QD D H') : ∀ D, H D = none → ∃ W : Nat → Nat → Hp → Prop, (∃ m, W 0 m (upd H D (.lst []))) ∧ ∀ i m H, W i m H →
      ((Itl K a).stop i H ∧ QD D H) ∨ ((Itl K a).go i H ∧ ∃ Nx : Hp → Prop, (∀ H', Nx H' → ∃ m', m' < m ∧ W (i + 1) m' H') ∧ ∀ x H', (Itl K a).yld i H x H' → g x (wipe σ vs) H' fun σ2 H2 => wipe σ2 vs = wipe σ vs ∧ tt σ2 H2 fun b H3 =>
        if b = true then te σ2 H3 fun y H4 => ∃ acc, H4 D = some (.lst acc) ∧ acc.length < sizeLine ∧ Nx (upd H4 D (.lst (acc ++ [y]))) else Nx H3) := fun D hD =>
  lc_list (fun i H => OwnF B cs D (fs.take i) H) (OwnF.start w hD) (fun i H' hi p => Own.sq p.cell j hx) (fun i x H' hi p => by
    have hlt : i < fs.length := by rw [← hl]; exact (List.getElem?_eq_some_iff.mp hi).1
    exact hs D i x fs[i] H' hi (List.getElem?_eq_getElem hlt) p) (fun H' p => hq D H' (by rw [hl, List.take_length] at p; exact p))
/-! ### their data -/
def frD (fs : List (Int × Int)) : PyData := .list (fs.map fun f => .tuple [.int f.1, .int f.2])
theorem dpAll_fr {K : PySem.W.Frag} {H : Hp} : ∀ {ts : List Addr} {fs : List (Int × Int)}, FrAll H ts fs → DpAll K H (ts.map V.ref) (fs.map fun f => .tuple [.int f.1, .int f.2])
  | _, _, .nil => .nil
  | _, _, .cons h r => .cons (.tup (SqT.of h) (.cons (.int _) (.cons (.int _) .nil))) (dpAll_fr r)
theorem dp_fr {K : PySem.W.Frag} {H : Hp} {p : Addr} {ts : List Addr} {fs : List (Int × Int)} (h : SqL K H p (ts.map V.ref)) (f : FrAll H ts fs) : Dp K H (.ref p) (frD fs) := .lst h (dpAll_fr f)
theorem lay_fr (fs : List (Int × Int)) : LayD 3 (frD fs) := LayD.list fun d hd => by
  obtain ⟨f, _, rfl⟩ := List.mem_map.mp hd
  refine LayD.tuple fun e he => ?_
  simp only [List.mem_cons, List.not_mem_nil, or_false] at he
  rcases he with rfl | rfl
  · exact LayD.int (by decide) _
  · exact LayD.int (by decide) _
end Sp

/-! Mean: what the hands get of the dividends, each group's shared alike, over sixty. -/
namespace Sp
open PySem PySem.Spec L2 PyProof.Rows
def wt (g : Nat) : Int := ((60 / (handsM g).length : Nat) : Int)
def topsF (ds : List Int) (n h : Nat) : Int := ((List.range n).map fun g => if bitOn h g = true then fn ds g * wt g else 0).sum
theorem topsF_succ (ds : List Int) (n h : Nat) : topsF ds (n + 1) h = topsF ds n h + if bitOn h n = true then fn ds n * wt n else 0 := by
  unfold topsF
  rw [List.range_succ, List.map_append, List.sum_append] <;> simp
theorem topsF_one (ds : List Int) {h : Nat} (hh : h < 6) : topsF ds 1 h = 0 := by
  rw [show (1 : Nat) = 0 + 1 from rfl, topsF_succ]
  have : bitOn h 0 = false := (by decide : ∀ h, h < 6 → bitOn h 0 = false) h hh
  rw [this]
  rfl
/-- within group g, behind the first j hands -/
def topsG (ds : List Int) (g j h : Nat) : Int := topsF ds g h + if h ∈ (handsM g).take j then fn ds g * wt g else 0
theorem mem_hands {g h : Nat} (hh : h < 6) : h ∈ handsM g ↔ bitOn h g = true := by
  unfold handsM
  rw [List.mem_filter, List.mem_range]
  exact ⟨fun z => z.2, fun z => ⟨hh, z⟩⟩
theorem topsG_zero (ds : List Int) (g h : Nat) : topsG ds g 0 h = topsF ds g h := by
  unfold topsG
  rw [List.take_zero, if_neg (by simp)]
  omega
theorem topsG_all (ds : List Int) (g : Nat) {h : Nat} (hh : h < 6) : topsG ds g (handsM g).length h = topsF ds (g + 1) h := by
  unfold topsG
  rw [List.take_length, topsF_succ]
  congr 1
  by_cases c : bitOn h g = true
  · rw [if_pos c, if_pos ((mem_hands hh).mpr c)]
  · rw [if_neg c, if_neg (fun z => c ((mem_hands hh).mp z))]
theorem hands_nodup (g : Nat) : (handsM g).Nodup := List.Sublist.nodup (List.filter_sublist ..) List.nodup_range
theorem topsG_step (ds : List Int) {g j z : Nat} (hz : (handsM g)[j]? = some z) (h : Nat) :
    topsG ds g (j + 1) h = if h = z then topsG ds g j z + fn ds g * wt g else topsG ds g j h := by
  have hn : z ∉ (handsM g).take j := fun hm => by
    have h1 : ((handsM g).take (j + 1)).Nodup := (List.take_sublist _ _).nodup (hands_nodup g)
    rw [List.take_add_one, hz, List.nodup_append] at h1
    exact h1.2.2 z hm z (by simp) rfl
  unfold topsG
  rw [List.take_add_one, hz]
  by_cases e : h = z
  · subst e
    rw [if_pos rfl, if_neg hn, if_pos (by simp)]
    omega
  · rw [if_neg e]
    congr 1
    by_cases c : h ∈ (handsM g).take j
    · rw [if_pos c, if_pos (List.mem_append.mpr (.inl c))]
    · rw [if_neg c, if_neg (fun m => by
        rcases List.mem_append.mp m with m | m
        · exact c m
        · simp at m; exact e m)]
theorem natAbs_sum (M : Nat) : ∀ l : List Int, (∀ x ∈ l, x.natAbs ≤ M) → l.sum.natAbs ≤ l.length * M
  | [], _ => by simp
  | x :: l, h => by
    have h1 := natAbs_sum M l fun y hy => h y (.tail _ hy)
    have h2 := h x (.head _)
    have h3 := Int.natAbs_add_le x l.sum
    rw [List.sum_cons, List.length_cons, Nat.succ_mul]
    omega
theorem hands_cut : ∀ m, m < 7 → ∀ g, g < 2 ^ m → (handsM g).all (fun h => decide (h < m)) = true := by decide +kernel
theorem hands_in {g m z : Nat} (hg : g < 64) (h : m ≤ 6 ∧ g < 2 ^ m) (hz : z ∈ handsM g) : z < m := of_decide_eq_true (List.all_eq_true.mp (hands_cut m (by omega) g h.2) z hz)
/-- all numbers below 2 ^ C, either way -/
def Bdd (C : Nat) (f : Nat → Int) : Prop := ∀ i, (f i).natAbs < 2 ^ C
theorem Bdd.mono {C C' : Nat} {f : Nat → Int} (h : Bdd C f) (hc : C ≤ C') : Bdd C' f := fun i => Nat.lt_of_lt_of_le (h i) (Nat.pow_le_pow_right (by decide) hc)
theorem pow_two (C : Nat) : 2 ^ (C + 1) = 2 ^ C + 2 ^ C := by rw [Nat.pow_succ]; omega
theorem Bdd.add {C : Nat} {f g : Nat → Int} (h : Bdd C f) (h' : Bdd C g) : Bdd (C + 1) fun i => f i + g i := fun i => by
  have h1 := h i
  have h2 := h' i
  have h3 := Int.natAbs_add_le (f i) (g i)
  rw [pow_two]
  show (f i + g i).natAbs < _
  omega
theorem Bdd.allD {C : Nat} {f : Nat → Int} (h : Bdd C f) : ∀ k, Bdd (C + k) (allD k f)
  | 0 => h
  | k + 1 => fun i => by
    have ih := Bdd.allD h k
    show (stepD k (Sp.allD k f) i).natAbs < 2 ^ (C + k + 1)
    unfold stepD
    have h1 := ih i
    have h2 := ih (i ^^^ 2 ^ k)
    rw [pow_two]
    by_cases c : bitOn k i = true
    · rw [if_pos c]; omega
    · rw [if_neg c]; omega
theorem wt_le (g : Nat) : (wt g).natAbs ≤ 64 := by
  unfold wt
  rw [Int.natAbs_natCast]
  exact Nat.le_trans (Nat.div_le_self _ _) (by decide)
theorem topsF_bits {C n : Nat} {ds : List Int} (h : Bdd C (fn ds)) (hn : n ≤ 64) (hC : C + 18 ≤ 9000) (hh : Nat) : Bits (C + 18) (topsF ds n hh) 60 := by
  refine ⟨hC, ?_, ?_⟩
  · have h1 := natAbs_sum (2 ^ C * 64) ((List.range n).map fun g => if bitOn hh g = true then fn ds g * wt g else 0) fun x hx => by
      obtain ⟨g, _, rfl⟩ := List.mem_map.mp hx
      by_cases c : bitOn hh g = true
      · rw [if_pos c, Int.natAbs_mul]
        exact Nat.mul_le_mul (Nat.le_of_lt (h g)) (wt_le g)
      · rw [if_neg c]; exact Nat.zero_le _
    rw [List.length_map, List.length_range] at h1
    unfold topsF
    have h2 : n * (2 ^ C * 64) ≤ 64 * (2 ^ C * 64) := Nat.mul_le_mul_right _ hn
    have h3 : 2 ^ (C + 18) = 2 ^ C * 262144 := by rw [Nat.pow_add]
    have h4 := Nat.two_pow_pos C
    omega
  · have : 2 ^ 18 ≤ 2 ^ (C + 18) := Nat.pow_le_pow_right (by decide) (by omega)
    exact Nat.lt_of_lt_of_le (by decide) this
theorem bdd_bnd {b : Int} {C : Nat} {ns : List Int} (hb : 0 ≤ b) (h : Bnd b ns) (hC : b < ((2 ^ C : Nat) : Int)) : Bdd C (fn ns) := fun i => by
  have := h.at hb (i : Int)
  unfold fn
  omega
/-- made of dividends -/
def sumsM (ns : List Int) (k : Nat) : List Int := tl ns.length (allE k (fn ns))
theorem sums_at {ns : List Int} {k : Nat} (tb : Tab ns k) {g : Nat} (hg : g < ns.length) : allE k (fn ns) g = someSum (fn ns) g g := by
  have hp := tb.pos
  rw [allE_sum (fn ns) tb.hi (by rw [← tb.len]; exact hg), partSum_some _ (by omega), show fn ns 0 = 0 from tb.gi0]
  omega
theorem sumsM_tab {ns : List Int} {k : Nat} (tb : Tab ns k) : Tab (sumsM ns k) k := by
  have hp := tb.pos
  have hl : (sumsM ns k).length = ns.length := tl_len _ _
  refine ⟨by rw [hl]; exact tb.len, tb.lo, tb.hi, gi_zero (by omega) ?_⟩
  unfold sumsM
  rw [gi_tl (by decide) (by omega), show (0 : Int).toNat = 0 from rfl, sums_at tb (by omega)]
  unfold someSum
  rw [someSubs_zero] <;> rfl
theorem div_sums {ns : List Int} {k : Nat} (tb : Tab ns k) : tl (sumsM ns k).length (allD k (fn (sumsM ns k))) = ns := by
  have hp := tb.pos
  have hl : (sumsM ns k).length = ns.length := tl_len _ _
  rw [hl, ← tl_fn ns]
  rw [tl_len]
  refine tl_congr fun i hi => ?_
  rw [tl_fn]
  have h2 : i < 2 ^ k := by rw [← tb.len]; exact hi
  rw [allD_cut tb.hi (f' := allE k (fn ns)) (fun j hj => by unfold fn sumsM; exact gi_tln (by rw [tb.len]; exact hj)) h2]
  exact allDE (fn ns) k tb.hi i (by omega)
def meanFs (ds : List Int) (n m : Nat) : List (Int × Int) := (List.range m).map fun h => shortM (topsF ds n h) 60
end Sp

/-! Lin: sums that are linear in a table's numbers, told by their coefficients. -/
namespace Sp
open PySem PySem.Spec L2 PyProof.Rows
/-! ### turns: what a hand adds -/
def turnsM (ms : List Int) (m : Nat) : List Int := (List.range m).map fun h => (addsM ms h).sum
def turnL (h n : Nat) : LinF := (offs h n).flatMap fun g => [(1, g + 2 ^ h), (-1, g)]
theorem flat_sum (T : Nat → Int) (d : Nat → Nat) : ∀ l : List Nat, (l.map fun g => T (d g) - T g).sum = ev T (l.flatMap fun g => [(1, d g), (-1, g)])
  | [] => rfl
  | g :: l => by
    rw [List.map_cons, List.sum_cons, flat_sum T d l, List.flatMap_cons, ev_app, ev_cons, ev_cons]
    show _ = 1 * T (d g) + (-1 * T g + ev T []) + _
    rw [show ev T [] = 0 from rfl]
    omega
theorem adds_ev (ms : List Int) (h : Nat) : (addsM ms h).sum = ev (fn ms) (turnL h ms.length) := flat_sum (fn ms) (fun g => g + 2 ^ h) _
theorem turn_lt : ∀ m, m < 7 → ∀ h, h < m → (turnL h (2 ^ m)).all (fun p => decide (p.2 < 2 ^ m)) = true := by decide +kernel
/-- turned about, each hand adds as much in all -/
def turnedL (m h : Nat) : LinF := (turnL h (2 ^ m)).flatMap fun p => [(p.1, 2 ^ m - 1), (-p.1, 2 ^ m - 1 - p.2)]
theorem turned_same : ∀ m, m < 7 → ∀ h, h < m → sameL (2 ^ m) (turnedL m h) (turnL h (2 ^ m)) = true := by decide +kernel
theorem flat_ev (T : Nat → Int) (t : Int) (j : Nat) (ht : T j = t) (s : Nat → Nat) : ∀ L : LinF, ev (fun i => t - T (s i)) L = ev T (L.flatMap fun p => [(p.1, j), (-p.1, s p.2)])
  | [] => rfl
  | p :: L => by
    rw [List.flatMap_cons, ev_app, ev_cons, ev_cons, ev_cons, flat_ev T t j ht s L]
    show p.1 * (t - T (s p.2)) + _ = p.1 * T j + (-p.1 * T (s p.2) + ev T []) + _
    rw [show ev T [] = 0 from rfl, ht, Int.mul_sub, Int.neg_mul]
    omega
theorem turns_turned {ms : List Int} {m : Nat} (tb : Tab ms m) : turnsM (turnM ms) m = turnsM ms m := by
  have hp := tb.pos
  unfold turnsM
  refine List.map_congr_left fun h hh => ?_
  rw [List.mem_range] at hh
  have hm := tb.hi
  rw [adds_ev, adds_ev, turnM_len, tb.len, ← ev_same (turned_same m (by omega) h hh) (fn ms)]
  unfold turnedL
  rw [← flat_ev (fn ms) (gi ms ((ms.length : Int) - 1)) (2 ^ m - 1) (by unfold fn; congr 1; rw [tb.len]; have := Nat.two_pow_pos m; omega) (fun i => 2 ^ m - 1 - i)]
  refine ev_congr fun p hp' => ?_
  have hlt : p.2 < 2 ^ m := by
    have := List.all_eq_true.mp (turn_lt m (by omega) h hh) p hp'
    exact of_decide_eq_true this
  unfold fn turnM
  rw [gi_map_range (by omega) (by rw [tb.len]; omega)]
  show _ = gi ms _ - gi ms _
  congr 2
  rw [tb.len]
  omega
/-- one more for the whole company: one more for each hand -/
theorem turn_top : ∀ m, m < 7 → ∀ h, h < m → co (turnL h (2 ^ m)) (2 ^ m - 1) = 1 := by decide +kernel
theorem turns_bump {ms : List Int} {m : Nat} (tb : Tab ms m) : turnsM (ms.set (ms.length - 1) (gi ms ((ms.length : Int) - 1) + 1)) m = (turnsM ms m).map (· + 1) := by
  have hp := tb.pos
  have hm := tb.hi
  unfold turnsM
  rw [List.map_map]
  refine List.map_congr_left fun h hh => ?_
  rw [List.mem_range] at hh
  show _ = (addsM ms h).sum + 1
  have hc := turn_top m (by omega) h hh
  rw [adds_ev, adds_ev, List.length_set, tb.len]
  refine Eq.trans ?_ (show ev (fn ms) (turnL h (2 ^ m)) + co (turnL h (2 ^ m)) (2 ^ m - 1) = _ by rw [hc])
  rw [← ev_bump]
  refine ev_congr fun p hp' => ?_
  unfold fn gi
  rw [List.getD_eq_getElem?_getD, List.getElem?_set]
  rw [Int.toNat_natCast]
  by_cases e : p.2 = 2 ^ m - 1
  · rw [if_pos e, if_pos e.symm, if_pos (by have := tb.len; omega), e]
    show gi ms _ + 1 = _ + 1
    unfold gi
    rw [show (((2 ^ m : Nat) : Int) - 1).toNat = 2 ^ m - 1 by omega]
  · rw [if_neg e, if_neg (fun z => e z.symm), List.getD_eq_getElem?_getD]
/-- two hands merged: twice the new one's turns are both ones' -/
def mergeTurn (m i j : Nat) : Bool := sameL (2 ^ m) ((thr (fun q => spreadM q (blocksM (2 ^ i + 2 ^ j) m)) (turnL i (2 ^ (m - 1)))).map fun p => (2 * p.1, p.2)) (turnL i (2 ^ m) ++ turnL j (2 ^ m)) && decide ((keptM (2 ^ i + 2 ^ j) m).length = m - 1) && decide (2 ^ i + 2 ^ j < 2 ^ m)
theorem mergeTurn_all : ∀ m, m < 7 → ∀ j, j < m → ∀ i, i < j → mergeTurn m i j = true := by decide +kernel
theorem ev_two (T : Nat → Int) : ∀ L : LinF, ev T (L.map fun p => (2 * p.1, p.2)) = 2 * ev T L
  | [] => rfl
  | p :: L => by
    rw [List.map_cons, ev_cons, ev_cons, ev_two T L, Int.mul_add, Int.mul_assoc]
theorem turns_merged {ms : List Int} {m i j : Nat} (tb : Tab ms m) (hj : j < m) (hi : i < j) :
    2 ^ i + 2 ^ j < 2 ^ m ∧ (keptM (2 ^ i + 2 ^ j) m).length = m - 1 ∧ 2 * (addsM (mergedM ms (2 ^ i + 2 ^ j) m) i).sum = (addsM ms i).sum + (addsM ms j).sum := by
  have hm := tb.hi
  have h := mergeTurn_all m (by omega) j hj i hi
  unfold mergeTurn at h
  rw [Bool.and_eq_true, Bool.and_eq_true, decide_eq_true_eq, decide_eq_true_eq] at h
  obtain ⟨⟨h1, h2⟩, h3⟩ := h
  refine ⟨h3, h2, ?_⟩
  rw [adds_ev, adds_ev, adds_ev, mergedM_len, tb.len, ← ev_app, ← ev_same h1, ev_two, ev_thr, h2]
  congr 1
  refine ev_congr fun p hp' => ?_
  have hlt : p.2 < 2 ^ (m - 1) := of_decide_eq_true (List.all_eq_true.mp (turn_lt (m - 1) (by omega) i (by omega)) p hp')
  unfold fn mergedM
  rw [h2, gi_map_range (by omega) (by omega), Int.toNat_natCast]
end Sp

/-! Alk: hands that are alike, hands that add nothing; any of whole numbers. -/
namespace Sp
open PySem PySem.Spec L2 PyProof.Rows
theorem truth_ints {prog : Program} {w : World} {A : Around} {ns : List Int} {its : List Value} (r : Vals (ns.map V.int) its) :
    TruthOf prog w A (fun i v => its.toArray[i]? = some v) (fun i => !decide (ns.getD i 0 = 0)) := fun i v s Q E hv hq => by
  have hv' : its[i]? = some v := by simpa using hv
  obtain ⟨n, t, rfl, hn⟩ := r.ints.at i v hv'
  have hg : ns.getD i 0 = n := by rw [List.getD_eq_getElem?_getD, hn] <;> rfl
  have hq' : Q (!decide (ns.getD i 0 = 0)) s := hq
  rw [hg] at hq'
  refine PySem.P.truthy_int ?_
  have e : (n != 0) = !decide (n = 0) := rfl
  rw [e]
  exact hq'
theorem anyI_range : ∀ ns : List Int, (List.range ns.length).any (fun i => !decide (ns.getD i 0 = 0)) = ns.any (fun n => !decide (n = 0))
  | [] => rfl
  | b :: bs => by
    rw [List.length_cons, List.range_succ_eq_map, List.any_cons, List.any_map, List.any_cons, ← anyI_range bs]
    all_goals rfl
def rAnyI (K : PySem.W.Frag) : List V → Hp → VK → Prop := fun vs H Q => ∃ (a : Addr) (ns : List Int), vs = [V.ref a] ∧ SqL K H a (ns.map V.int) ∧ Q (.bl (ns.any fun n => !decide (n = 0))) H
theorem cr_anyI {X : Cx} (hc : X.calm = true) : CallR X (.builtin "any") (rAnyI X.K) := by
  intro pins s σ H vs us Q I r h
  obtain ⟨a, ns, rfl, hs, q⟩ := h
  obtain ⟨its, rv, hl, _⟩ := I.list hs
  rw [Vals.ref1 r]
  refine call_any_walk (iter_any hl.isList fun s₂ e2 st hne => ?_)
  subst e2
  refine ⟨_, _, _, _, _, _, _, rfl, Walks.list (A := X.A.in1) (I.ok.hd hc) _ a hne its.toArray, st, truth_ints rv, fun h' tk hk => ?_⟩
  refine ⟨.bl _, H, I.kept fun b o eo => hk b o (fun hmem => ?_) (Heap.get?_push_of_some _ eo), ?_, q⟩
  · rcases List.mem_cons.mp hmem with e1 | hmem
    · exact absurd (e1 ▸ Heap.lt_size eo) (Nat.lt_irrefl _)
    · cases hmem
  · show Value.bool _ = Value.bool _
    rw [← anyI_range, List.size_toArray, ← rv.length, List.length_map]
theorem cr_anyIK {X : Cx} {K : PySem.W.Frag} (h : X.K = K) (hc : X.calm = true) : CallR X (.builtin "any") (rAnyI K) := h ▸ cr_anyI hc
theorem x_anyI {K : PySem.W.Frag} {H : Hp} {Q : VK} {a : Addr} {ns : List Int} (h : SqL K H a (ns.map V.int)) (q : Q (.bl (ns.any fun n => !decide (n = 0))) H) : rAnyI K [.ref a] H Q := ⟨a, ns, rfl, h, q⟩
/-- a list told by a def stands in its own cells -/
theorem own_join {B H H' : Hp} {cs ds : Cells} (w : Own B cs H) (r : Own H ds H') : Own B (ds ++ cs) H' := by
  refine ⟨w.ex.trans r.ex, fun q hq => ?_, ?_⟩
  · rcases List.mem_append.mp hq with h | h
    · exact ⟨(r.cell q h).1, w.ex.free (r.cell q h).2⟩
    · exact ⟨r.ex _ _ (w.cell q h).1, (w.cell q h).2⟩
  · rw [List.map_append, List.nodup_append]
    refine ⟨r.nd, w.nd, fun x hx y hy e => ?_⟩
    subst e
    obtain ⟨q, hq, rfl⟩ := List.mem_map.mp hx
    obtain ⟨q2, hq2, e2⟩ := List.mem_map.mp hy
    have h1 := (r.cell q hq).2
    have h2 := (w.cell q2 hq2).1
    rw [e2, h1] at h2
    cases h2
def alikeB (ms : List Int) (i j : Nat) : Bool := (List.range ms.length).all fun g => bitOn i g || bitOn j g || decide (fn ms (g ||| 2 ^ i) = fn ms (g ||| 2 ^ j))
def leastA (ms : List Int) (h : Nat) : Nat := ((List.range (h + 1)).find? fun i => alikeB ms i h).getD 0
def idleB (ms : List Int) (h : Nat) : Bool := !((addsM ms h).any fun n => !decide (n = 0))
theorem alike_self (ms : List Int) (h : Nat) : alikeB ms h h = true := by
  unfold alikeB
  rw [List.all_eq_true]
  intro g _
  rw [decide_eq_true rfl, Bool.or_true]
theorem least_is {ms : List Int} {h i : Nat} (hi : i ≤ h) (ha : alikeB ms i h = true) (hn : ∀ j, j < i → alikeB ms j h = false) : leastA ms h = i := by
  unfold leastA
  have : (List.range (h + 1)).find? (fun i => alikeB ms i h) = some i := by
    rw [List.find?_range_eq_some]
    exact ⟨ha, List.mem_range.mpr (by omega), fun j hj => by rw [hn j hj] <;> rfl⟩
  rw [this] <;> rfl
theorem least_ex (ms : List Int) (h : Nat) : leastA ms h ≤ h ∧ alikeB ms (leastA ms h) h = true ∧ ∀ j, j < leastA ms h → alikeB ms j h = false := by
  unfold leastA
  cases e : (List.range (h + 1)).find? (fun i => alikeB ms i h) with
  | none =>
    rw [List.find?_eq_none] at e
    exact absurd (alike_self ms h) (e h (List.mem_range.mpr (by omega)))
  | some i =>
    rw [List.find?_range_eq_some] at e
    obtain ⟨h1, h2, h3⟩ := e
    exact ⟨by have := List.mem_range.mp h2; show i ≤ h; omega, h1, fun j hj => by simpa using h3 j hj⟩
def leasts (ms : List Int) (m : Nat) : List Nat := (List.range m).map (leastA ms)
def idles (ms : List Int) (m : Nat) : List Nat := (List.range m).filter (idleB ms)
def swapOk (m i j g : Nat) : Bool := !(bitOn i g && !bitOn j g) || (decide (2 ^ i ≤ g) && decide (g - 2 ^ i + 2 ^ j < 2 ^ m))
theorem swap_all : ∀ m, m < 7 → ∀ i, i < m → ∀ j, j < m → ∀ g, g < 2 ^ m → swapOk m i j g = true := by decide +kernel
theorem swap_in {m i j g : Nat} (hm : m < 7) (hi : i < m) (hj : j < m) (hg : g < 2 ^ m) (h1 : bitOn i g = true) (h2 : bitOn j g = false) : 2 ^ i ≤ g ∧ g - 2 ^ i + 2 ^ j < 2 ^ m := by
  have e := swap_all m hm i hi j hj g hg
  unfold swapOk at e
  rw [h1, h2, Bool.not_false, Bool.and_true, Bool.not_true, Bool.false_or, Bool.and_eq_true, decide_eq_true_eq, decide_eq_true_eq] at e
  exact e
theorem bit_le : ∀ i, i < 6 → ∀ g, g < 64 → bitOn i g = true → 2 ^ i ≤ g := by decide +kernel
theorem hands_few : ∀ m, m < 7 → ∀ g, g < 2 ^ m → (handsM g).length ≤ m := by decide +kernel
theorem own_swap {B H : Hp} {a b : Addr × HO} {cs : Cells} (w : Own B (a :: b :: cs) H) : Own B (b :: a :: cs) H := by
  refine ⟨w.ex, fun q hq => w.cell q ?_, ?_⟩
  · cases hq with
    | head => exact .tail _ (.head _)
    | tail _ hq => cases hq with
      | head => exact .head _
      | tail _ hq => exact .tail _ (.tail _ hq)
  · have h := w.nd
    rw [List.map_cons, List.map_cons, List.nodup_cons, List.nodup_cons] at h ⊢
    refine ⟨fun m => ?_, fun m => h.1 (.tail _ m), h.2.2⟩
    rcases List.mem_cons.mp m with e | m
    · exact h.1 (List.mem_cons.mpr (.inl e.symm))
    · exact h.2.1 m
def difs (ms : List Int) (h : Nat) (l : List Nat) : List Nat := l.filter fun g => !decide (fn ms (g + 2 ^ h) = fn ms g)
theorem difs_yes {ms : List Int} {h i z : Nat} {l : List Nat} (hz : l[i]? = some z) (c : ¬ fn ms (z + 2 ^ h) = fn ms z) : (difs ms h (l.take (i + 1))).map vnat = (difs ms h (l.take i)).map vnat ++ [vnat z] := by
  unfold difs
  rw [List.take_add_one, hz, List.filter_append, List.map_append]
  congr 1
  show (List.filter _ [z]).map vnat = _
  rw [List.filter_cons, if_pos (by rw [decide_eq_false c] <;> rfl)] <;> rfl
theorem difs_no {ms : List Int} {h i z : Nat} {l : List Nat} (hz : l[i]? = some z) (c : fn ms (z + 2 ^ h) = fn ms z) : (difs ms h (l.take (i + 1))).map vnat = (difs ms h (l.take i)).map vnat := by
  unfold difs
  rw [List.take_add_one, hz, List.filter_append, List.map_append]
  show _ ++ (List.filter _ [z]).map vnat = _
  rw [List.filter_cons, if_neg (by rw [decide_eq_true c]; exact Bool.false_ne_true), List.filter_nil, List.map_nil, List.append_nil]
theorem difs_idle (ms : List Int) (h : Nat) : decide (((difs ms h (offs h ms.length)).map fun n : Nat => (n : Int)) = []) = idleB ms h := by
  unfold idleB addsM
  rw [Bool.eq_iff_iff, decide_eq_true_eq, Bool.not_eq_true', List.map_eq_nil_iff]
  unfold difs
  rw [List.filter_eq_nil_iff, List.any_map, Bool.eq_false_iff]
  constructor
  · intro hA hB
    obtain ⟨g, hg, hv⟩ := List.any_eq_true.mp hB
    have h1 := hA g hg
    simp only [Function.comp, Bool.not_eq_true', decide_eq_false_iff_not, Bool.not_eq_true, Bool.not_eq_false', decide_eq_true_eq] at h1 hv
    omega
  · intro hA g hg hv
    apply hA
    refine List.any_eq_true.mpr ⟨g, hg, ?_⟩
    simp only [Function.comp, Bool.not_eq_true', decide_eq_false_iff_not] at hv ⊢
    omega
theorem mem_of_filter_least {ms : List Int} {h m : Nat} (_ : h < m) : leastA ms h ∈ (List.range (h + 1)).filter (fun k => alikeB ms k h) ∧ ∀ y ∈ (List.range (h + 1)).filter (fun k => alikeB ms k h), leastA ms h ≤ y := by
  obtain ⟨e1, e2, e3⟩ := least_ex ms h
  refine ⟨List.mem_filter.mpr ⟨List.mem_range.mpr (by omega), e2⟩, fun y hy => ?_⟩
  have h1 := (List.mem_filter.mp hy).2
  by_cases c : leastA ms h ≤ y
  · exact c
  · have := e3 y (by omega)
    rw [this] at h1; cases h1
/-- an if without an else: what stands behind it is told once -/
theorem x_ifJ {c : TT} {t u : TS} {D : Ends} {σ : L2.St} {H : Hp} (P : Hp → Prop) (hP : ∀ H', P H' → u D σ H') (h : (∀ H', P H' → u D σ H') → c σ H fun b H1 => if b = true then t { D with nx := u D } σ H1 else u D σ H1) : tSeq (tIfS c t tNext) u D σ H := h hP
/-- two lists of whole numbers in one list, told -/
def RetLL (l1 l2 : List Nat) (H : Hp) (Q : VK) : Prop := ∀ p q r H', Own H [(p, .lst [.ref q, .ref r]), (q, .lst (l1.map vnat)), (r, .lst (l2.map vnat))] H' → Q (.ref p) H'
def llD (l1 l2 : List Nat) : PyData := .list [.list ((l1.map fun n : Nat => (n : Int)).map PyData.int), .list ((l2.map fun n : Nat => (n : Int)).map PyData.int)]
theorem dp_ll {K : PySem.W.Frag} {H : Hp} {p q r : Addr} {l1 l2 : List Nat} (h1 : SqL K H p [.ref q, .ref r]) (h2 : SqL K H q (l1.map vnat)) (h3 : SqL K H r (l2.map vnat)) : Dp K H (.ref p) (llD l1 l2) := by
  rw [vnat_map] at h2 h3
  exact .lst h1 (.cons (dp_ints h2) (.cons (dp_ints h3) .nil))
theorem lay_ll (l1 l2 : List Nat) : LayD 3 (llD l1 l2) := LayD.list fun d hd => by
  simp only [List.mem_cons, List.not_mem_nil, or_false] at hd
  rcases hd with rfl | rfl
  · exact LayD.ints
  · exact LayD.ints
theorem x_eqN {K : PySem.W.Frag} {H : Hp} {Q : VK} {p q : Addr} {l : List Nat} (h1 : SqL K H p (l.map vnat)) (h2 : SqL K H q (l.map vnat)) (k : Q (.bl true) H) : rEqX K (.ref p) (.ref q) H Q := by
  rw [vnat_map] at h1 h2
  refine x_eqLI h1 h2 ?_
  rw [decide_eq_true rfl]
  exact k
theorem x_minN {K : PySem.W.Frag} {H : Hp} {Q : VK} {p : Addr} {l : List Nat} {z : Nat} (h : SqL K H p (l.map vnat)) (hz : z ∈ l) (hl : ∀ y ∈ l, z ≤ y) (k : Q (.int (z : Int)) H) : rMin K [.ref p] H Q := by
  rw [vnat_map] at h
  refine ⟨p, _, rfl, h, by rw [List.length_map]; exact List.length_pos_of_mem hz, fun m hm hle => ?_⟩
  obtain ⟨y, hy, rfl⟩ := List.mem_map.mp hm
  have h1 := hl y hy
  have h2 := hle (z : Int) (List.mem_map.mpr ⟨z, hz, rfl⟩)
  have h3 : ((y : Nat) : Int) ≤ (z : Int) := h2
  rw [show y = z by omega]
  exact k
/-- both bits asked at once -/
theorem two_bits : ∀ g, g < 64 → ∀ i, i < 6 → ∀ j, j < 6 → (decide (g &&& (2 ^ i ||| 2 ^ j) = 0)) = (!bitOn i g && !bitOn j g) := by decide +kernel
theorem all_to {p : Nat → Bool} {n : Nat} (h : p n = true) : (List.range (n + 1)).all p = (List.range n).all p := by
  rw [List.range_succ, List.all_append, List.all_cons, List.all_nil, h, Bool.and_true, Bool.and_true]
theorem all_no {p : Nat → Bool} {n k : Nat} (h : p n = false) (hk : n < k) : (List.range k).all p = false := by
  rw [Bool.eq_false_iff]
  intro ha
  have := List.all_eq_true.mp ha n (List.mem_range.mpr hk)
  rw [h] at this; cases this
end Sp

/-! Ord: orders of the hands, and what each hand adds in one. -/
namespace Sp
open PySem PySem.Spec L2 PyProof.Rows
section
variable {K : PySem.W.Frag} {H : Hp} {Q : VK} {σ : L2.St}
theorem x_lstRg1 {ta : TE} (h : ta σ H fun x H1 => ∃ n, x = .int n ∧ RgOk 0 n ∧ ∀ q, H1 q = none → Q (.ref q) (upd H1 q (.lst (rgV 0 n)))) : tLstRg (tRg1 ta) σ H Q := h
theorem rgV_nat (n : Nat) : rgV 0 (n : Int) = (List.range n).map vnat := by
  unfold rgV
  rw [show ((n : Int) - 0).toNat = n by omega]
  exact List.map_congr_left fun i _ => by show V.int _ = V.int _; congr 1; omega
def rLenD : List V → Hp → VK → Prop := fun xs H Q => ∃ a kvs, xs = [V.ref a] ∧ H a = some (.dK kvs) ∧ Q (.int kvs.length) H
theorem call_lenDX {X : Cx} : CallR X (.builtin "len") rLenD := call_lenD
theorem x_lenD {a : Addr} {kvs : List (Key × V)} (h : H a = some (.dK kvs)) (q : Q (.int kvs.length) H) : rLenD [.ref a] H Q := ⟨a, kvs, rfl, h, q⟩
theorem x_dIn {ty td : TE} (h : ty σ H fun y H1 => td σ H1 fun x H2 => ∃ a o, x = .ref a ∧ DGet H2 a y o ∧ Q (.bl o.isSome) H2) : tDIn ty td σ H Q := h
theorem x_dPut {td ty tv : TE} {D : Ends} (h : tv σ H fun v H1 => td σ H1 fun x H2 => ty σ H2 fun y H3 => ∃ a H4, x = .ref a ∧ DPut H3 a y v H4 ∧ D.nx σ H4) : sDPut td ty tv D σ H := h
theorem x_dNew (h : ∀ p, H p = none → Q (.ref p) (upd H p (.dK []))) : tDNewK σ H Q := h
theorem x_popAt {l : Addr} {xs : List V} {i : Int} {k : Nat} {y : V} (hH : H l = some (.lst xs)) (h0 : 0 ≤ i) (h1 : i < xs.length) (hz : xs.length ≤ 1000) (hk : k = i.toNat) (hy : xs[k]? = some y) (q : Q y (upd H l (.lst (xs.eraseIdx k)))) : rPopAt (.ref l) [.int i] H Q := by
  refine ⟨l, xs, i, k, y, rfl, rfl, hH, by omega, by omega, ?_, hy, q⟩
  unfold seqIndex?
  simp only [if_neg (show ¬ i < 0 by omega)]
  rw [decide_eq_true h0, decide_eq_true h1, hk] <;> rfl
theorem x_reverse {l : Addr} {xs : List V} (hH : H l = some (.lst xs)) (q : Q .non (upd H l (.lst xs.reverse))) : rReverse (.ref l) [] H Q := ⟨l, xs, rfl, rfl, hH, q⟩
end
/-- the order's hands, each once, all of them -/
structure Ordr (ns : List Nat) (m : Nat) : Prop where
  nd : ns.Nodup
  lt : ∀ n ∈ ns, n < m
  len : ns.length = m
def orderOk (xs : List V) (m : Nat) : Prop := ∃ ns : List Nat, xs = ns.map vnat ∧ Ordr ns m
theorem erase_map : ∀ (l : List Nat) (j : Nat), (l.map vnat).eraseIdx j = (l.eraseIdx j).map vnat
  | [], _ => rfl
  | _ :: _, 0 => rfl
  | x :: l, j + 1 => by rw [List.map_cons, List.eraseIdx_cons_succ, List.eraseIdx_cons_succ, List.map_cons, erase_map l j]
theorem erase_perm : ∀ {l : List Nat} {j : Nat} (h : j < l.length), (l[j] :: l.eraseIdx j).Perm l
  | x :: l, 0, _ => List.Perm.refl _
  | x :: l, j + 1, h => by
    have h' : j < l.length := by simpa using h
    have ih := erase_perm h'
    rw [List.eraseIdx_cons_succ, List.getElem_cons_succ]
    exact (List.Perm.swap x l[j] (l.eraseIdx j)).trans (ih.cons x)
theorem vnat_inj : ∀ {a b : List Nat}, a.map vnat = b.map vnat → a = b
  | [], [], _ => rfl
  | [], _ :: _, h => by cases h
  | _ :: _, [], h => by cases h
  | x :: a, y :: b, h => by
    rw [List.map_cons, List.map_cons] at h
    have h1 := V.int.inj (List.cons.inj h).1
    rw [vnat_inj (List.cons.inj h).2, show x = y by omega]
def stepO (ms : List Int) (st : Nat × List Int) (n : Nat) : Nat × List Int := (st.1 ||| 2 ^ n, st.2.set n (fn ms (st.1 ||| 2 ^ n) - fn ms st.1))
def orderS (ms : List Int) (m : Nat) (ns : List Nat) : Nat × List Int := ns.foldl (stepO ms) (0, List.replicate m 0)
def orderM (ms : List Int) (m : Nat) (ns : List Nat) : List Int := (orderS ms m ns).2
theorem orderS_snoc (ms : List Int) (m : Nat) (l : List Nat) (n : Nat) : orderS ms m (l ++ [n]) = stepO ms (orderS ms m l) n := by
  unfold orderS
  rw [List.foldl_append] <;> rfl
structure OInv (ms : List Int) (m : Nat) (l : List Nat) : Prop where
  lt : (orderS ms m l).1 < 2 ^ m
  bits : ∀ h, h < 6 → bitOn h (orderS ms m l).1 = decide (h ∈ l)
  len : (orderS ms m l).2.length = m
theorem bit_zero : ∀ h, h < 6 → bitOn h 0 = false := by decide
theorem bit_or6 : ∀ h, h < 6 → ∀ n, n < 6 → ∀ g, g < 64 → bitOn h (g ||| 2 ^ n) = (bitOn h g || h == n) := by decide +kernel
theorem OInv.nil {ms : List Int} {m : Nat} : OInv ms m [] := ⟨Nat.two_pow_pos m, fun h hh => bit_zero h hh, List.length_replicate⟩
theorem OInv.snoc {ms : List Int} {m : Nat} {l : List Nat} {n : Nat} (i : OInv ms m l) (hm : m ≤ 6) (hn : n < m) : OInv ms m (l ++ [n]) := by
  have h2 : 2 ^ n < 2 ^ m := Nat.pow_lt_pow_right (by decide) hn
  have h64 := pow6 hm
  have hl := i.lt
  refine ⟨?_, fun h hh => ?_, ?_⟩
  · rw [orderS_snoc]
    exact Nat.or_lt_two_pow i.lt h2
  · rw [orderS_snoc]
    show bitOn h ((orderS ms m l).1 ||| 2 ^ n) = _
    rw [bit_or6 h hh n (by omega) _ (by omega), i.bits h hh, Bool.eq_iff_iff]
    simp [List.mem_append]
  · rw [orderS_snoc]
    show ((orderS ms m l).2.set n _).length = m
    rw [List.length_set]
    exact i.len
theorem take_snoc {α : Type} {l : List α} {i : Nat} {z : α} (h : l[i]? = some z) : l.take (i + 1) = l.take i ++ [z] := by rw [List.take_add_one, h] <;> rfl
theorem nodup_at {l : List Nat} {i z : Nat} (hn : l.Nodup) (h : l[i]? = some z) : z ∉ l.take i := fun hm => by
  have h1 : (l.take (i + 1)).Nodup := (List.take_sublist _ _).nodup hn
  rw [take_snoc h, List.nodup_append] at h1
  exact h1.2.2 z hm z (List.mem_singleton.mpr rfl) rfl
theorem not_order_len {xs : List V} {m : Nat} (h : xs.length ≠ m) : ¬ orderOk xs m := fun ⟨ns, e, o⟩ => h (by rw [e, List.length_map, o.len])
theorem not_order_at {xs : List V} {m i : Nat} {v : V} (h : xs[i]? = some v) (hv : ∀ n : Nat, n < m → v ≠ vnat n) : ¬ orderOk xs m := fun ⟨ns, e, o⟩ => by
  subst e
  obtain ⟨n, hn, rfl⟩ := map_at h
  exact hv n (o.lt n (List.mem_of_getElem? hn)) rfl
theorem not_order_two {xs : List V} {m i j : Nat} {v : V} (hi : xs[i]? = some v) (hj : xs[j]? = some v) (ne : i ≠ j) : ¬ orderOk xs m := fun ⟨ns, e, o⟩ => by
  subst e
  obtain ⟨n, hn, e1⟩ := map_at hi
  obtain ⟨n', hn', e2⟩ := map_at hj
  have e3 : n = n' := by rw [e1] at e2; have := V.int.inj e2; omega
  subst e3
  obtain ⟨h1, h2⟩ := List.getElem?_eq_some_iff.mp hn
  obtain ⟨h3, h4⟩ := List.getElem?_eq_some_iff.mp hn'
  have pw := List.pairwise_iff_getElem.mp o.nd
  rcases Nat.lt_or_gt_of_ne ne with h | h
  · exact pw i j h1 h3 h (h2.trans h4.symm)
  · exact pw j i h3 h1 h (h4.trans h2.symm)
theorem splice {l : List V} {i : Nat} {v : V} (h : i < l.length) : l.take i ++ [v] ++ l.drop (i + 1) = l.set i v := by
  rw [List.set_eq_take_append_cons_drop, if_pos h, List.append_assoc] <;> rfl
/-- the place ahead of i, or the last one -/
theorem at_ahead {os : List Nat} {i : Nat} (hi : i < os.length) (h2 : 1 < os.length) : ∃ (j : Nat) (hj : j < os.length), j ≠ i ∧ atI (os.map vnat) ((i : Int) - 1) = some (vnat os[j]) := by
  by_cases e : i = 0
  · subst e
    refine ⟨os.length - 1, by omega, by omega, ?_⟩
    unfold atI
    rw [show ((0 : Nat) : Int) - 1 = -1 from rfl, List.length_map, ixN_last (by omega), Option.bind_some, List.getElem?_map, List.getElem?_eq_getElem (by omega)] <;> rfl
  · refine ⟨i - 1, by omega, by omega, ?_⟩
    rw [show (i : Int) - 1 = ((i - 1 : Nat) : Int) by omega]
    exact atI_nat (by rw [List.getElem?_map, List.getElem?_eq_getElem (by omega)] <;> rfl)
/-! ### what has been seen -/
def seenD (l : List Nat) : List (Key × V) := l.map fun n : Nat => ((Sum.inl (n : Int) : Key), V.bl true)
theorem seen_val (l : List Nat) (z : Int) : (valV (seenD l) (Sum.inl z : Key)).isSome = decide (∃ n ∈ l, z = (n : Int)) := by
  induction l with
  | nil => simp [seenD, valV]
  | cons n l ih =>
    unfold seenD at ih ⊢
    rw [List.map_cons]
    by_cases e : (n : Int) = z
    · rw [valV_pos (p := ((Sum.inl (n : Int) : Key), V.bl true)) (by rw [e])]
      rw [Option.isSome_some, decide_eq_true ⟨n, .head _, e.symm⟩]
    · rw [valV_neg (p := ((Sum.inl (n : Int) : Key), V.bl true)) (fun h => e (Sum.inl.inj h)), ih]
      refine decide_eq_decide.mpr ⟨fun ⟨k, h1, h2⟩ => ⟨k, .tail _ h1, h2⟩, fun ⟨k, h1, h2⟩ => ?_⟩
      cases h1 with
      | head => exact absurd h2.symm e
      | tail _ h1 => exact ⟨k, h1, h2⟩
theorem seen_put {l : List Nat} {n : Nat} (h : n ∉ l) : putK (seenD l) (Sum.inl (n : Int)) (V.bl true) = seenD (l ++ [n]) := by
  have hv : (valV (seenD l) (Sum.inl (n : Int) : Key)).isSome = false := by
    rw [seen_val]
    exact decide_eq_false fun ⟨k, h1, h2⟩ => h (by rw [show n = k by omega]; exact h1)
  unfold putK
  rw [valV_any, hv, if_neg Bool.false_ne_true]
  unfold seenD
  rw [List.map_append] <;> rfl
theorem seen_len (l : List Nat) : (seenD l).length = l.length := by unfold seenD; rw [List.length_map]
end Sp

/-! Sw: tables that swell. -/
namespace Sp
open PySem PySem.Spec L2 PyProof.Rows
/-- no two groups earn more than both together and those who are in both -/
def supM (ms : List Int) : Prop := ∀ i o : Nat, i < ms.length → o < i → fn ms i + fn ms o ≤ fn ms (i ||| o) + fn ms (i &&& o)
def swOk (m i j g : Nat) : Bool := !decide (g &&& (2 ^ i + 2 ^ j) = 0) || (decide (g + 2 ^ i + 2 ^ j < 2 ^ m) && decide ((g + 2 ^ i) ||| (g + 2 ^ j) = g + 2 ^ i + 2 ^ j) && decide ((g + 2 ^ i) &&& (g + 2 ^ j) = g))
theorem sw_all : ∀ m, m < 7 → ∀ i, i < m → ∀ j, j < i → ∀ g, g < 2 ^ m → swOk m i j g = true := by decide +kernel
theorem sw_bits {m : Nat} (hm : m < 7) {i : Nat} (hi : i < m) {j : Nat} (hj : j < i) {g : Nat} (hg : g < 2 ^ m) (h : g &&& (2 ^ i + 2 ^ j) = 0) :
    g + 2 ^ i + 2 ^ j < 2 ^ m ∧ (g + 2 ^ i) ||| (g + 2 ^ j) = g + 2 ^ i + 2 ^ j ∧ (g + 2 ^ i) &&& (g + 2 ^ j) = g := by
  have e := sw_all m hm i hi j hj g hg
  unfold swOk at e
  simp only [h, decide_true, Bool.not_true, Bool.false_or, Bool.and_eq_true, decide_eq_true_eq] at e
  exact ⟨e.1.1, e.1.2, e.2⟩
theorem part_step : ∀ g, g < 64 → ∀ p, p < 64 → 0 < p → (p - 1) &&& g < p := by decide +kernel
end Sp

/-! Xc: isinstance of the error that an except suite holds, by one class and by a written tuple of classes. -/
namespace Sp
open PySem PySem.Spec L2 PyProof.Rows
/-- isinstance(e, c): the error at a, of the class cls (an own one, without a dict of its own) -/
def rIsEX (K : PySem.W.Frag) (a : Addr) (cls : Value) (d : Option Addr) : List V → Hp → VK → Prop := fun xs H Q =>
  ∃ (D : Addr) (c : V) (cv : Value) (b : Bool), cls = .ref D ∧ d = none ∧ ExcC K D ∧ xs = [.ref a, c] ∧ ClsV c cv ∧ PySem.W.kitOne K (.ref D) cv = some b ∧ Q (.bl b) H
def rIsETX (K : PySem.W.Frag) (a : Addr) (cls : Value) (d : Option Addr) : List V → Hp → VK → Prop := fun xs H Q =>
  ∃ (D tp : Addr) (cs : List V) (us : List Value) (b : Bool), cls = .ref D ∧ d = none ∧ ExcC K D ∧ xs = [.ref a, .ref tp] ∧ H tp = some (.tup cs) ∧ Paired ClsV cs us ∧ PySem.W.kitAny K (.ref D) us = some b ∧ Q (.bl b) H
theorem suite_at {X : Cx} {pins pn : List (Addr × Obj)} {σ : L2.St} {H : Hp} {s : Shared} {a D : Addr} {oe : Obj} (hz : Zc (.ref D) none oe) (hf : ∃ vs, oe.data = .fields vs) (I : Inv (X.suite a ((a, oe) :: pn)) pins σ H s) : PySem.W.InstAt s.heap a oe D none := by
  obtain ⟨hget, _⟩ := I.pin (a, oe) (List.mem_append.mpr (.inl List.mem_cons_self))
  obtain ⟨vs, hv⟩ := hf
  obtain ⟨oc, od, oda, osl⟩ := oe
  obtain ⟨h1, h2⟩ := hz
  dsimp only at h1 h2 hv
  subst h1 h2 hv
  exact ⟨hget, rfl, rfl, trivial⟩
theorem call_isEX {X : Cx} {K : PySem.W.Frag} (hK : X.K = K) {a : Addr} {cls : Value} {d : Option Addr} {oe : Obj} {pn : List (Addr × Obj)} (hz : Zc cls d oe) (hf : ∃ vs, oe.data = .fields vs) :
    CallR (X.suite a ((a, oe) :: pn)) (.builtin "isinstance") (rIsEX K a cls d) := by
  subst hK
  intro pins s σ H xs us Q I r h
  obtain ⟨D, c, cv, b, rfl, rfl, C, rfl, hc, e, q⟩ := h
  obtain ⟨u1, u2, rfl, r1, r2⟩ := vals2 r
  cases (show u1 = Value.ref a from r1)
  have ec := hc.eq r2
  subst ec
  exact PySem.W.kia_one (PySem.W.handS_kitx_exc C.hg C.hk C.hs C.hd C.ha C.hn C.ht C.hm) I.kIn (suite_at hz hf I) e (fun z => nomatch z) fun tk => ⟨.bl b, H, I.kept (t' := tk) fun _ _ z => z, rfl, q⟩
theorem call_isETX {X : Cx} {K : PySem.W.Frag} (hK : X.K = K) {a : Addr} {cls : Value} {d : Option Addr} {oe : Obj} {pn : List (Addr × Obj)} (hz : Zc cls d oe) (hf : ∃ vs, oe.data = .fields vs) :
    CallR (X.suite a ((a, oe) :: pn)) (.builtin "isinstance") (rIsETX K a cls d) := by
  subst hK
  intro pins s σ H xs us Q I r h
  obtain ⟨D, tp, cs, ws, b, rfl, rfl, C, rfl, hT, k, e, q⟩ := h
  obtain ⟨u1, u2, rfl, r1, r2⟩ := vals2 r
  cases (show u1 = Value.ref a from r1)
  cases (show u2 = Value.ref tp from r2)
  obtain ⟨_, its, rv, o, h1, h2, n, h3⟩ := (show ObjOk _ _ H s.heap tp (.tup cs) from I.hok tp _ hT)
  have e3 := ClsV.all k rv
  subst e3
  obtain ⟨oc, od, dt, sl⟩ := o
  simp only at h2 h3
  subst h2 h3
  exact PySem.W.kia_tup (PySem.W.handS_kitx_exc C.hg C.hk C.hs C.hd C.ha C.hn C.ht C.hm) I.kIn (suite_at hz hf I) h1 e (fun z => nomatch z) fun tk => ⟨.bl b, H, I.kept (t' := tk) fun _ _ z => z, rfl, q⟩
/-- what is told of a class that is asked for -/
structure AskC (K : PySem.W.Frag) (C : Addr) : Prop where
  cls : PySem.W.isClsIn K C = true
  ty : PySem.W.typeIn K (.ref C) = some (.type "type")
  self : PySem.W.subIn K (.ref C) (.ref C) = some true
theorem kit_own {K : PySem.W.Frag} {D C : Addr} {b : Bool} (c : AskC K C) (h : PySem.W.subIn K (.ref D) (.ref C) = some b) : PySem.W.kitOne K (.ref D) (.ref C) = some b := by
  unfold PySem.W.kitOne
  by_cases e : D = C
  · subst e
    rw [c.self] at h
    rw [if_pos (by simp), ← h]
  · rw [if_neg (by simpa using e)]
    unfold PySem.W.kitCls
    have h2 : (PySem.W.clsIn K C).isSome = true := c.cls
    simp only [h2, c.ty]
    simpa using h
theorem kit_VE {K : PySem.W.Frag} {D : Addr} {b : Bool} (h : PySem.W.subIn K (.ref D) (.type "ValueError") = some b) : PySem.W.kitOne K (.ref D) (.type "ValueError") = some b := by
  unfold PySem.W.kitOne
  rw [if_neg (by simp)]
  unfold PySem.W.kitCls
  have h2 : PySem.W.kitMeta "ValueError" = true := by decide +kernel
  simp only [h2, if_true]
  exact h
theorem kit_no {K : PySem.W.Frag} {t : Value} {c : Value} {cs : List Value} (h : PySem.W.kitOne K t c = some false) (hr : PySem.W.kitAny K t cs = some false) : PySem.W.kitAny K t (c :: cs) = some false :=
  kitAny_cons h (fun _ => hr) (fun z => nomatch z)
/-- + of two lists that are read, however they stand -/
def rCatK (K : PySem.W.Frag) : R2 := fun x y H Q => ∃ l b xs zs, x = .ref l ∧ y = .ref b ∧ SqL K H l xs ∧ SqL K H b zs ∧ xs.length + zs.length ≤ sizeLine ∧ ∀ p, H p = none → Q (.ref p) (upd H p (.lst (xs ++ zs)))
theorem op_catX {X : Cx} : OpR X (binaryOp .Add) (rCatK X.K) := by
  intro pins s σ H x y v u Q I rx ry h
  obtain ⟨l, b, xs, zs, rfl, rfl, hH, hB, hz, q⟩ := h
  cases rx
  cases ry
  obtain ⟨its, r, ⟨⟨cls, dd, data, sl⟩, n, ho, hc, _, hd⟩, _⟩ := I.list hH
  obtain ⟨its2, r2, ⟨⟨cls2, dd2, data2, sl2⟩, n2, ho2, hc2, _, hd2⟩, _⟩ := I.list hB
  simp only at hc hd hc2 hd2
  subst hc hd hc2 hd2
  have hl := r.length
  have hl2 := r2.length
  have e : its.toArray ++ its2.toArray = (its ++ its2).toArray := by simp
  refine concat_meets ⟨_, ho, rfl⟩ ⟨_, ho2, rfl⟩ noFill_list_add seq_list_add PySem.F.slot_list_add PySem.F.entry_list_add (PySem.F.args_list_add_2 _ _) (list_addW l b its.toArray its2.toArray n n2 dd dd2 sl sl2 (by rw [List.size_toArray, List.size_toArray]; omega)) ⟨ho, ho2, ?_⟩
  rw [e]
  exact ⟨.ref _, _, I.lnew (t' := s.toks) (r.append r2) (by rw [List.length_append]; omega), rfl, q _ I.fresh⟩
theorem op_catK {X : Cx} {K : PySem.W.Frag} (h : X.K = K) : OpR X (binaryOp .Add) (rCatK K) := h ▸ op_catX
theorem x_cat {K : PySem.W.Frag} {H : Hp} {Q : VK} {l b : Addr} {xs zs : List V} (h1 : SqL K H l xs) (h2 : SqL K H b zs) (hz : xs.length + zs.length ≤ sizeLine) (q : ∀ p, H p = none → Q (.ref p) (upd H p (.lst (xs ++ zs)))) : rCatK K (.ref l) (.ref b) H Q := ⟨l, b, xs, zs, rfl, rfl, h1, h2, hz, q⟩
theorem pe_revLK {X : Cx} {K : PySem.W.Frag} (h : X.K = K) {e : Expr} {te : TE} {k : Nat} {p1 p2 p3 pos : Pos} (he : PE X e te) : PE X (.Subscript e (.Slice none none (some (.UnaryOp .USub (.Constant (.int 1) k p1) p2)) p3) pos) (tRevL K te) := h ▸ pe_revL he
theorem x_rev {K : PySem.W.Frag} {te : TE} {σ : L2.St} {H : Hp} {Q : VK} (h : te σ H fun x H1 => ∃ a xs, x = .ref a ∧ SqL K H1 a xs ∧ ∀ p, H1 p = none → Q (.ref p) (upd H1 p (.lst xs.reverse))) : tRevL K te σ H Q := h
section
variable {K : PySem.W.Frag} {H : Hp} {Q : VK} {a D : Addr}
theorem x_callS {sp : Sp} {E : L2.St → XK} {tr : TA} {σ : L2.St} (h : tr σ H fun vs H1 => sp vs H1 Q (E σ)) : tCallS sp E tr σ H Q := h
theorem x_isE {C : Addr} {b : Bool} (e : ExcC K D) (c : AskC K C) (h : PySem.W.subIn K (.ref D) (.ref C) = some b) (q : Q (.bl b) H) : rIsEX K a (.ref D) none [.ref a, .ref C] H Q :=
  ⟨D, _, _, b, rfl, rfl, e, rfl, .own C, kit_own c h, q⟩
theorem x_isEV {b : Bool} (e : ExcC K D) (h : PySem.W.subIn K (.ref D) (.type "ValueError") = some b) (q : Q (.bl b) H) : rIsEX K a (.ref D) none [.ref a, .ty "ValueError"] H Q :=
  ⟨D, _, _, b, rfl, rfl, e, rfl, .ty _, kit_VE h, q⟩
theorem x_isET {tp : Addr} {Cs : List Addr} {b : Bool} (e : ExcC K D) (hT : H tp = some (.tup (Cs.map V.ref))) (h : PySem.W.kitAny K (.ref D) (Cs.map Value.ref) = some b) (q : Q (.bl b) H) : rIsETX K a (.ref D) none [.ref a, .ref tp] H Q :=
  ⟨D, tp, _, _, b, rfl, rfl, e, rfl, hT, (by
    clear hT h q
    induction Cs with
    | nil => exact .nil
    | cons c r ih => exact .cons (.own c) ih), h, q⟩
end
end Sp

/-! Cpe: comprehensions whose items are not told ahead; ranges with a step; xs[::k]. -/
namespace Sp
open PySem PySem.Spec L2 PyProof.Rows
/-- behind i turns: the list at D holds some acc of which G is told; what is made within stands in B2 -/
def PvE (B : Hp) (cs : Cells) (D : Addr) (G : Hp → Nat → List V → Prop) (i : Nat) (H : Hp) : Prop := ∃ B2 acc, Same B B2 ∧ G B2 i acc ∧ Own B2 ((D, .lst acc) :: cs) H
section
variable {K : PySem.W.Frag} {σ : L2.St} {B H : Hp} {cs : Cells} {Q : VK} {te : TE} {g : TG} {tt : TT} {vs : List Nat} {QD : Addr → Hp → Prop} {G : Hp → Nat → List V → Prop}
theorem cpE_fin {D : Addr} {i : Nat} {H4 B2 : Hp} {acc : List V} {y : V} (w : Own B2 ((D, .lst acc) :: cs) H4) (s : Same B B2) (hg : G B2 (i + 1) (acc ++ [y])) (hl : acc.length < 1000000) :
    ∃ acc', H4 D = some (.lst acc') ∧ acc'.length < sizeLine ∧ PvE B cs D G (i + 1) (upd H4 D (.lst (acc' ++ [y]))) :=
  ⟨acc, Own.get w 0 rfl, Nat.lt_of_lt_of_le hl (by decide), B2, acc ++ [y], s, hg, Own.put (o' := .lst (acc ++ [y])) w 0 rfl⟩
theorem cpE_range {lo : Int} {n : Nat} (w : Own B cs H) (h0 : G B 0 [])
    (hs : ∀ D i H' B2 acc, i < n → Same B B2 → G B2 i acc → Own B2 ((D, .lst acc) :: cs) H' → g (.int (lo + i)) (wipe σ vs) H' fun σ2 H2 => wipe σ2 vs = wipe σ vs ∧ tt σ2 H2 fun b H3 =>
      if b = true then te σ2 H3 fun y H4 => ∃ acc', H4 D = some (.lst acc') ∧ acc'.length < sizeLine ∧ PvE B cs D G (i + 1) (upd H4 D (.lst (acc' ++ [y]))) else PvE B cs D G (i + 1) H3)
    (hq : ∀ D H' B2 acc, Same B B2 → G B2 n acc → Own B2 ((D, .lst acc) :: cs) H' → QD D H') : ∀ D, H D = none → ∃ W : Nat → Nat → Hp → Prop, (∃ m, W 0 m (upd H D (.lst []))) ∧ ∀ i m H, W i m H →
      ((Itr lo n).stop i H ∧ QD D H) ∨ ((Itr lo n).go i H ∧ ∃ Nx : Hp → Prop, (∀ H', Nx H' → ∃ m', m' < m ∧ W (i + 1) m' H') ∧ ∀ x H', (Itr lo n).yld i H x H' → g x (wipe σ vs) H' fun σ2 H2 => wipe σ2 vs = wipe σ vs ∧ tt σ2 H2 fun b H3 =>
        if b = true then te σ2 H3 fun y H4 => ∃ acc, H4 D = some (.lst acc) ∧ acc.length < sizeLine ∧ Nx (upd H4 D (.lst (acc ++ [y]))) else Nx H3) := fun D hD =>
  lc_range (PvE B cs D G) ⟨B, [], Same.refl _, h0, w.new hD⟩ (fun i H' hi ⟨B2, acc, s, hg, w2⟩ => hs D i H' B2 acc hi s hg w2) (fun H' ⟨B2, acc, s, hg, w2⟩ => hq D H' B2 acc s hg w2)
theorem cpE_list {a : Addr} {xs : List V} (w : Own B cs H) (hx : SqL K B a xs) (h0 : G B 0 [])
    (hs : ∀ D i x H' B2 acc, xs[i]? = some x → Same B B2 → G B2 i acc → Own B2 ((D, .lst acc) :: cs) H' → g x (wipe σ vs) H' fun σ2 H2 => wipe σ2 vs = wipe σ vs ∧ tt σ2 H2 fun b H3 =>
      if b = true then te σ2 H3 fun y H4 => ∃ acc', H4 D = some (.lst acc') ∧ acc'.length < sizeLine ∧ PvE B cs D G (i + 1) (upd H4 D (.lst (acc' ++ [y]))) else PvE B cs D G (i + 1) H3)
    (hq : ∀ D H' B2 acc, Same B B2 → G B2 xs.length acc → Own B2 ((D, .lst acc) :: cs) H' → QD D H') : ∀ D, H D = none → ∃ W : Nat → Nat → Hp → Prop, (∃ m, W 0 m (upd H D (.lst []))) ∧ ∀ i m H, W i m H →
      ((Itl K a).stop i H ∧ QD D H) ∨ ((Itl K a).go i H ∧ ∃ Nx : Hp → Prop, (∀ H', Nx H' → ∃ m', m' < m ∧ W (i + 1) m' H') ∧ ∀ x H', (Itl K a).yld i H x H' → g x (wipe σ vs) H' fun σ2 H2 => wipe σ2 vs = wipe σ vs ∧ tt σ2 H2 fun b H3 =>
        if b = true then te σ2 H3 fun y H4 => ∃ acc, H4 D = some (.lst acc) ∧ acc.length < sizeLine ∧ Nx (upd H4 D (.lst (acc ++ [y]))) else Nx H3) := fun D hD =>
  lc_list (PvE B cs D G) ⟨B, [], Same.refl _, h0, w.new hD⟩ (fun i H' hi ⟨B2, acc, s, hg, w2⟩ => w2.seq (s.seq hx)) (fun i x H' hx ⟨B2, acc, s, hg, w2⟩ => hs D i x H' B2 acc hx s hg w2) (fun H' ⟨B2, acc, s, hg, w2⟩ => hq D H' B2 acc s hg w2)
end
/-! ### ranges with a step -/
theorem x_iR3 {σ : L2.St} {H : Hp} {R : It → Hp → Prop} {tr : TA} (h : tr σ H fun vs H1 => ∃ (i j c : Int) (n : Nat), vs = [.int i, .int j, .int c] ∧ RgC i j c n ∧ R (Itc i c n) H1) : iRng3 tr σ H R := h
theorem rgc_up {i j c : Int} (hc : 0 < c) (hc2 : c < 1000) (hi : 0 ≤ i) (hi2 : i < 1000000) (hj : 0 ≤ j) (hj2 : j < 1000000) : RgC i j c (if i < j then (j - i - 1) / c + 1 else 0).toNat := by
  have hb : 0 ≤ (if i < j then (j - i - 1) / c + 1 else 0) ∧ (if i < j then (j - i - 1) / c + 1 else 0) ≤ 1000000 := by
    by_cases h : i < j
    · rw [if_pos h]
      have h1 := Int.ediv_nonneg (a := j - i - 1) (b := c) (by omega) (by omega)
      have h2 := Int.ediv_le_self (a := j - i - 1) c (by omega)
      omega
    · rw [if_neg h]; omega
  have e : Builtin.Range.rangeSize i j c = (if i < j then (j - i - 1) / c + 1 else 0) := by
    unfold Builtin.Range.rangeSize
    rw [if_pos (show c > 0 by omega)]
  refine ⟨by omega, by omega, ?_, by rw [e]; omega⟩
  unfold Builtin.Range.small
  rw [e]
  simp only [Builtin.Range.rangeFitsLong, Bool.and_eq_true, Bool.or_eq_true, decide_eq_true_eq, beq_iff_eq]
  generalize (if i < j then (j - i - 1) / c + 1 else 0) = z at hb ⊢
  refine ⟨by omega, .inr ?_⟩
  rw [if_pos (by omega), Bool.and_eq_true, decide_eq_true_eq, decide_eq_true_eq]
  omega
theorem rgc_in {i j c : Int} {k : Nat} (hc : 0 < c) (h : k < (if i < j then (j - i - 1) / c + 1 else 0).toNat) : i + (k : Int) * c < j := by
  by_cases hij : i < j
  · rw [if_pos hij] at h
    have h1 : (k : Int) ≤ (j - i - 1) / c := by omega
    have h2 : (k : Int) * c ≤ j - i - 1 := (Int.le_ediv_iff_mul_le hc).mp h1
    omega
  · rw [if_neg hij] at h; simp at h
/-! ### xs[::k] -/
def everyK (xs : List V) (k : Nat) : List V := (List.range ((xs.length + k - 1) / k)).filterMap fun i => xs[k * i]?
def tEvL (K : PySem.W.Frag) (k : Nat) (te : TE) : TE := fun σ H Q => te σ H fun x H1 => ∃ a xs, x = .ref a ∧ SqL K H1 a xs ∧ ∀ p, H1 p = none → Q (.ref p) (upd H1 p (.lst (everyK xs k)))
theorem x_ev {K : PySem.W.Frag} {k : Nat} {te : TE} {σ : L2.St} {H : Hp} {Q : VK} (h : te σ H fun x H1 => ∃ a xs, x = .ref a ∧ SqL K H1 a xs ∧ ∀ p, H1 p = none → Q (.ref p) (upd H1 p (.lst (everyK xs k)))) : tEvL K k te σ H Q := h
theorem vals_pick {xs : List V} {its : List Value} (r : Vals xs its) : ∀ ids : List Nat, Vals (ids.filterMap (xs[·]?)) (ids.filterMap (its[·]?))
  | [] => .nil
  | i :: ids => by
    have ih := vals_pick r ids
    rw [List.filterMap_cons, List.filterMap_cons]
    cases e : xs[i]? with
    | none =>
      have : its[i]? = none := by
        rw [List.getElem?_eq_none_iff] at e ⊢
        have := r.length
        omega
      rw [this]; exact ih
    | some x =>
      obtain ⟨u, hu, ru⟩ := r.get e
      rw [hu]
      exact .cons ru ih
theorem pick_every {its : List Value} {k : Nat} (hk : 0 < k) : slicePick its.toArray none none (some (k : Int)) = ((List.range ((its.length + k - 1) / k)).map (k * ·) |>.filterMap (its[·]?)).toArray := by
  have hk' : (k : Int) > 0 := by omega
  unfold slicePick sliceBounds
  simp only [Option.getD_some, if_pos hk', List.size_toArray, List.getElem?_toArray]
  congr 2
  unfold sliceRange
  simp only [if_pos hk']
  have e : (if (0 : Int) < (its.length : Int) then ((its.length : Int) - 0 + (k : Int) - 1) / (k : Int) else 0).toNat = (its.length + k - 1) / k := by
    by_cases h : 0 < its.length
    · rw [if_pos (by omega)]
      have : (its.length : Int) - 0 + (k : Int) - 1 = ((its.length + k - 1 : Nat) : Int) := by omega
      rw [this, ← Int.natCast_ediv, Int.toNat_natCast]
    · have : its.length = 0 := by omega
      rw [this, if_neg (by decide)]
      show 0 = (0 + k - 1) / k
      rw [Nat.div_eq_of_lt (by omega)]
  rw [e]
  exact List.map_congr_left fun i _ => by
    rw [Int.zero_add, ← Int.natCast_mul, Int.toNat_natCast]
theorem pe_evLK {X : Cx} {K : PySem.W.Frag} (hK : X.K = K) {e : Expr} {te : TE} {k : Nat} {j : Nat} {p1 p3 pos : Pos} (hk : 0 < k) (he : PE X e te) : PE X (.Subscript e (.Slice none none (some (.Constant (.int (k : Int)) j p1)) p3) pos) (tEvL K k te) := by
  subst hK
  constructor
  intro pins s σ H Q I h
  refine Subscript_ (thn (he.run pins s σ H _ I h) ?_)
  rintro v s1 ⟨x, H1, I1, r1, a, xs, rfl, hx, q⟩
  cases r1
  have stp : PO X (some (.Constant (.int (k : Int)) j p1)) (tPart (tC (.int (k : Int)))) := po_some pe_int
  refine wpAny_Slice (thn (po_none.run pins s1 σ H1 (fun o H2 => o = none ∧ H2 = H1) I1 ⟨rfl, rfl⟩) ?_)
  rintro vl s2 ⟨l, H2, I2, pl, rfl, rfl⟩
  refine thn (po_none.run pins s2 σ H2 (fun o H3 => o = none ∧ H3 = H2) I2 ⟨rfl, rfl⟩) ?_
  rintro vu s3 ⟨u, H3, I3, pu, rfl, rfl⟩
  refine thn (stp.run pins s3 σ H3 (fun o H4 => o = some (k : Int) ∧ H4 = H3) I3 ⟨(k : Int), rfl, rfl, rfl⟩) ?_
  rintro vs s4 ⟨o, H4, I4, ps, rfl, rfl⟩
  have I5 : Inv X pins σ H4 { s4 with heap := s4.heap.push { cls := .type "slice", data := .fields #[vl, vu, vs] } } := I4.kept (t' := s4.toks) fun b ob q => Heap.get?_push_of_some _ q
  obtain ⟨its, r, ht, hz⟩ := I5.list hx
  have hlen := r.length
  refine (show wpAny (model X.prog X.w) X.A (subscriptTail e (.Slice none none (some (.Constant (.int (k : Int)) j p1)) p3) (.ref a) (.ref s4.heap.objs.size)) (EP X pins σ Q) X.xe { s4 with heap := s4.heap.push { cls := .type "slice", data := .fields #[vl, vu, vs] } } from ?_)
  refine tail_any (ops := [.ref a, .ref s4.heap.objs.size]) ht.isList.typeIs (PySem.slot_list_getitem.lookup) ?_ (by with_unfolding_all rfl)
  refine wpAny_getItem_list_slice ht.isList (Heap.IsSliceOf.new _ vl vu vs) pl pu ps (fun z => by have := Option.some.inj z; omega) ?_ (by rw [List.size_toArray]; omega)
  rw [pick_every hk]
  have hv : Vals (everyK xs k) ((List.range ((its.length + k - 1) / k)).map (k * ·) |>.filterMap (its[·]?)) := by
    have := vals_pick r ((List.range ((its.length + k - 1) / k)).map (k * ·))
    unfold everyK
    rw [List.filterMap_map] at this
    rw [hlen]
    exact this
  have hle : (everyK xs k).length ≤ sizeLine := by
    have h1 : (everyK xs k).length ≤ (xs.length + k - 1) / k := by
      unfold everyK
      have := List.length_filterMap_le (fun i => xs[k * i]?) (List.range ((xs.length + k - 1) / k))
      rw [List.length_range] at this
      exact this
    have h2 : (xs.length + k - 1) / k ≤ xs.length := by
      by_cases h0 : xs.length = 0
      · rw [h0, Nat.zero_add, Nat.div_eq_of_lt (by omega)]; omega
      · refine Nat.div_le_of_le_mul ?_
        have : xs.length * 1 + k * 1 ≤ k * xs.length + 1 := by
          have e1 : xs.length = (xs.length - 1) + 1 := by omega
          have e2 : k * xs.length = k * (xs.length - 1) + k := by conv => lhs; rw [e1, Nat.mul_add, Nat.mul_one]
          have e3 : (xs.length - 1) ≤ k * (xs.length - 1) := Nat.le_mul_of_pos_left _ hk
          omega
        omega
    omega
  refine ⟨.ref _, _, I5.laid (t' := s4.toks) (o := .lst (everyK xs k)) (fun b ob q => Heap.get?_push_of_some _ q) (Nat.le_refl _) ?_, rfl, q _ (I5.hok.fresh (Nat.le_refl _))⟩
  exact ⟨hle, _, 0, hv, Heap.get?_push_size _ rfl⟩
end Sp

/-! Cls: objects of own classes: one call for several classes, a base's __init__ by its name, methods called in a try, isinstance of an instance. -/
namespace Sp
open PySem PySem.Spec L2 PyProof.Rows
/-- either reading will do -/
def tOr2 (t u : TE) : TE := fun σ H Q => t σ H Q ∨ u σ H Q
theorem pe_or2 {X : Cx} {e : Expr} {t u : TE} (h1 : PE X e t) (h2 : PE X e u) : PE X e (tOr2 t u) := ⟨fun pins s σ H Q I h => h.elim (h1.run pins s σ H Q I) (h2.run pins s σ H Q I)⟩
/-- what the class at C gives under a name, read off the class -/
structure BaseC (K : PySem.W.Frag) (C : Addr) (m : Str) (f : Addr) : Prop where
  ga : PySem.W.specialIn K (.ref C) "__getattribute__" = some (some (.builtin "type.__getattribute__"))
  rd : PySem.W.readsIn K C (.type "type") = true
  fd : PySem.W.findCls K (.ref C) (.type "type") m = some (.val (.ref f))
  kp : PySem.W.keepIn K (.ref f) = true
def tBase (C : Addr) (sp : L2.Sp) (E : XK) (to : TE) (t : TA) : TE := fun σ H Q => to σ H fun x H1 => x = .ref C ∧ t σ H1 fun vs H2 => sp vs H2 Q E
section
variable {X : Cx} {CX : CXT} {k : Nat} {f C : Addr} {fd : FuncData} {ps : List Str} {sp : L2.Sp} {E : XK} {x m : Str} {p pos apos : Pos} {e o : Expr} {es : List Expr} {ta : TE} {t : TA}
theorem pe_base {pl : Sem Bool} (he : PE X o ta) (b : BaseC X.K C m f) (F : FnOk X.prog X.w X.K X.mg X.base CX k f fd ps sp) (hr : Room k X.A) (hb : Binds X.K fd ps []) (hx : Passes CX X E) (ha : PA X (e :: es) t)
    (hst : starEach (e :: es) X.env = (false, eval e X.env) :: starEach es X.env := by rfl) (hpl : (backTo pos (starEach es X.env)).any (·.1) = false := by rfl)
    (ht : eval (.Call (.Attribute o m apos) (e :: es) [] pos) X.env = (do
      let ov ← eval o X.env
      standAt apos.atName
      let (f, first) ← holding [ov] (getMethod ov m pl)
      callWith pos f first (backTo pos (starEach (e :: es) X.env)) (backToKw pos (keywordEach [] X.env))) := by rfl) :
    PE X (.Call (.Attribute o m apos) (e :: es) [] pos) (tBase C sp E ta t) := by
  constructor
  intro pins s σ H Q I h
  refine PySem.W.methodCall_KW (pl := pl) (thn (he.run pins s σ H _ I h) ?_) ht
  rintro u s1 ⟨v, H1, I1, rx, rfl, q⟩
  obtain rfl : u = Value.ref C := rx
  refine PySem.W.method_cls I1.kIn b.ga (PySem.W.cls_value I1.kIn b.rd b.fd rfl ?_)
  have I2 := I1.tok (s1.toks + 1)
  refine PySem.W.callWith_K (first := []) (h₀ := X.base) I.ok.mod.kin b.kp (thn (ha.run pos pins _ σ H1 _ I2 q) ?_) hst hpl
  rintro us s2 ⟨vs, H2, I3, r, q2⟩
  refine ⟨I3.kIn, ?_⟩
  exact run_fn F hr hb .nil hx I3 r (by rw [List.append_nil]; exact q2)
/-- o.m(..) in a try: what is raised is wished for at the caller's slots -/
def tMethS (C : Addr) (m : Str) (sp : L2.Sp) (E : L2.St → XK) (ta : TE) (t : TA) : TE := fun σ H Q => ta σ H fun x H1 => ∃ a dx fs, x = .ref a ∧ H1 a = some (.ins C dx fs) ∧ fs.lookup m = none ∧ t σ H1 fun vs H2 => sp (x :: vs) H2 Q (E σ)
theorem pe_methS {pl : Sem Bool} {E : L2.St → XK} (he : PE X o ta) (c : Cls X.K C) (hm : Meth X.K C m f) (F : FnOk X.prog X.w X.K X.mg X.base CX k f fd ps sp) (hr : Room k X.A) (hb : Binds X.K fd ps []) (hx : ∀ σ, PassesAt CX X σ (E σ)) (ha : PA X (e :: es) t)
    (hst : starEach (e :: es) X.env = (false, eval e X.env) :: starEach es X.env := by rfl) (hpl : (backTo pos (starEach es X.env)).any (·.1) = false := by rfl)
    (ht : eval (.Call (.Attribute o m apos) (e :: es) [] pos) X.env = (do
      let ov ← eval o X.env
      standAt apos.atName
      let (f, first) ← holding [ov] (getMethod ov m pl)
      callWith pos f first (backTo pos (starEach (e :: es) X.env)) (backToKw pos (keywordEach [] X.env))) := by rfl) :
    PE X (.Call (.Attribute o m apos) (e :: es) [] pos) (tMethS C m sp E ta t) := by
  constructor
  intro pins s σ H Q I h
  refine PySem.W.methodCall_KW (pl := pl) (thn (he.run pins s σ H _ I h) ?_) ht
  rintro u s1 ⟨v, H1, I1, rx, a, dx, fs, rfl, ea, l, q⟩
  obtain rfl : u = Value.ref a := rx
  refine getmeth_ok I1 ea c hm l ?_
  refine PySem.W.callWith_K (first := [.ref a]) (h₀ := X.base) I.ok.mod.kin hm.kp (thn (ha.run pos pins s1 σ H1 _ I1 q) ?_) hst hpl
  rintro us s2 ⟨vs, H2, I2, r, q2⟩
  refine ⟨I2.kIn, ?_⟩
  exact run_fnS (us := .ref a :: us) (vs := .ref a :: vs) F hr hb (hx σ) I2 (.cons rfl r) q2
end
/-! ### readings -/
section
variable {K : PySem.W.Frag} {σ : L2.St} {H : Hp} {Q : VK} {D : Ends} {t u ta to : TE} {tr : TA} {C : Addr} {m f : Str} {sp : L2.Sp} {E : XK} {dvs : List V}
theorem x_o1 (h : t σ H Q) : tOr2 t u σ H Q := .inl h
theorem x_o2 (h : u σ H Q) : tOr2 t u σ H Q := .inr h
theorem x_meth (h : ta σ H fun x H1 => ∃ a dx fs, x = .ref a ∧ H1 a = some (.ins C dx fs) ∧ fs.lookup m = none ∧ tr σ H1 fun vs H2 => sp (x :: (vs ++ dvs)) H2 Q E) : tMeth C m sp dvs E ta tr σ H Q := h
theorem x_methS {E : L2.St → XK} (h : ta σ H fun x H1 => ∃ a dx fs, x = .ref a ∧ H1 a = some (.ins C dx fs) ∧ fs.lookup m = none ∧ tr σ H1 fun vs H2 => sp (x :: vs) H2 Q (E σ)) : tMethS C m sp E ta tr σ H Q := h
theorem x_base (h : to σ H fun x H1 => x = .ref C ∧ tr σ H1 fun vs H2 => sp vs H2 Q E) : tBase C sp E to tr σ H Q := h
theorem x_at {P : V → Prop} {a : Addr} (h : P (.ref a)) (e : V) (he : e = .ref a) : P e := he ▸ h
theorem x_fld (h : ta σ H fun x H1 => ∃ a C dx fs v, x = .ref a ∧ H1 a = some (.ins C dx fs) ∧ Cls K C ∧ NoAttr K C f ∧ fs.lookup f = some v ∧ Q v H1) : tFld K ta f σ H Q := h
theorem x_sfld {tv : TE} (h : tv σ H fun y H1 => ta σ H1 fun x H2 => ∃ a C dx fs, x = .ref a ∧ H2 a = some (.ins C dx fs) ∧ Cls K C ∧ NoAttr K C f ∧ fs.length < 1000 ∧ D.nx σ (upd H2 a (.ins C dx (putF f y fs)))) : sFld K ta tv f D σ H := h
theorem x_make (h : tr σ H fun vs H1 => ∀ x dx, H1 x = none → H1 dx = none → dx ≠ x → sp (.ref x :: (vs ++ dvs)) (upd (upd H1 dx (.own x)) x (.ins C dx [])) (fun v H2 => v = .non ∧ Q (.ref x) H2) E) : tMake C sp dvs E tr σ H Q := h
end
/-- but for what stands at p, all stands -/
def SameX (p : Addr) (H H' : Hp) : Prop := ∀ q o, q ≠ p → H q = some o → H' q = some o
theorem SameX.refl (p : Addr) (H : Hp) : SameX p H H := fun _ _ _ h => h
theorem SameX.upd {p : Addr} {H : Hp} {o : HO} : SameX p H (upd H p o) := fun q u h e => by rw [upd_ne h]; exact e
theorem SameX.trans {p : Addr} {H H' H'' : Hp} (a : SameX p H H') (b : SameX p H' H'') : SameX p H H'' := fun q o h e => b q o h (a q o h e)
theorem Same.x {p : Addr} {H H' : Hp} (s : Same H H') : SameX p H H' := fun q o _ e => s _ _ e
theorem Own.setX {B H H' : Hp} {cs : Cells} {p : Addr} {o o' : HO} (w : Own B cs H) (i : Nat) (h : cs[i]? = some (p, o)) (s : SameX p H H') (c : H' p = some o') : Own B (cs.set i (p, o')) H' := by
  have w2 := w.put (o' := o') i h
  have e : Same (upd H p o') H' := fun q u hq => by
    by_cases z : q = p
    · subst z; rw [upd_same] at hq; rw [← hq]; exact c
    · rw [upd_ne z] at hq; exact s q u z hq
  exact w2.ext e
theorem own_setXN {B H H' : Hp} {cs : Cells} {p l : Addr} {o o' ol : HO} (w : Own B cs H) (i : Nat) (h : cs[i]? = some (p, o)) (s : SameX p H H') (c : H' p = some o') (nl : H l = none) (cl : H' l = some ol) : Own B ((l, ol) :: cs.set i (p, o')) H' := by
  have w2 := w.setX i h s c
  refine ⟨w2.ex, fun q hq => ?_, ?_⟩
  · cases hq with
    | head => exact ⟨cl, w.fresh nl⟩
    | tail _ hq => exact w2.cell q hq
  · rw [List.map_cons, List.nodup_cons]
    refine ⟨fun m => ?_, w2.nd⟩
    have e : (cs.set i (p, o')).map (·.1) = cs.map (·.1) := by
      rw [List.map_set]
      apply List.ext_getElem?
      intro j
      by_cases z : i = j
      · subst z
        have hi := (List.getElem?_eq_some_iff.mp h).1
        rw [List.getElem?_set_self (by rw [List.length_map]; exact hi), List.getElem?_map, h] <;> rfl
      · rw [List.getElem?_set_ne z]
    rw [e] at m
    exact w.off nl m
theorem own_keep {B H1 : Hp} {cs : Cells} (w : Own B cs H1) {x dx q : Addr} {o1 o2 oq : HO} (i : Nat) (h : cs[i]? = some (q, oq)) (n1 : H1 x = none) (n2 : H1 dx = none) : upd (upd H1 dx o1) x o2 q = some oq ∧ q ≠ x := by
  have hq := w.get i h
  have a1 : q ≠ x := fun z => by subst z; rw [hq] at n1; cases n1
  have a2 : q ≠ dx := fun z => by subst z; rw [hq] at n2; cases n2
  exact ⟨by rw [upd_ne a1, upd_ne a2]; exact hq, a1⟩
/-- an object made, filled by its __init__, with one list of its own: it stands and stays -/
theorem own_made {B H1 H2 : Hp} {cs : Cells} (w : Own B cs H1) {x dx l C : Addr} {o ol : HO} (n1 : H1 x = none) (n2 : H1 dx = none) (hne : dx ≠ x) (nl : (upd (upd H1 dx (.own x)) x (.ins C dx [])) l = none)
    (s : SameX x (upd (upd H1 dx (.own x)) x (.ins C dx [])) H2) (c : H2 x = some o) (cl : H2 l = some ol) : ∃ B2, Same B B2 ∧ Own B2 cs H2 ∧ B2 x = some o ∧ B2 l = some ol := by
  have w1 := (w.new (o := .own x) n2).new (p := x) (o := .ins C dx []) (by rw [upd_ne (Ne.symm hne)]; exact n1)
  have w2 := own_setXN w1 0 rfl s c nl cl
  have nlx : x ≠ l := fun z => by subst z; rw [upd_same] at nl; cases nl
  have nld : dx ≠ l := fun z => by subst z; rw [upd_ne hne, upd_same] at nl; cases nl
  refine ⟨_, ?_, w2.freeze.freeze.freeze, ?_, ?_⟩
  · exact ((same_upd (w2.none 0 rfl)).trans (same_upd (w2.freeze.none 0 rfl))).trans (same_upd (w2.freeze.freeze.none 0 rfl))
  · rw [upd_ne (Ne.symm hne), upd_same]
  · rw [upd_ne (Ne.symm nld), upd_ne (Ne.symm nlx), upd_same]
theorem own_made0 {B H1 H2 : Hp} {cs : Cells} (w : Own B cs H1) {x dx C : Addr} {o : HO} (n1 : H1 x = none) (n2 : H1 dx = none) (hne : dx ≠ x)
    (s : SameX x (upd (upd H1 dx (.own x)) x (.ins C dx [])) H2) (c : H2 x = some o) : ∃ B2, Same B B2 ∧ Own B2 cs H2 ∧ B2 x = some o := by
  have w1 := (w.new (o := .own x) n2).new (p := x) (o := .ins C dx []) (by rw [upd_ne (Ne.symm hne)]; exact n1)
  have w2 := w1.setX 0 rfl s c
  refine ⟨_, ?_, w2.freeze.freeze, ?_⟩
  · exact (same_upd (w2.none 0 rfl)).trans (same_upd (w2.freeze.none 0 rfl))
  · rw [upd_ne (Ne.symm hne), upd_same]
/-- a list without its cell i -/
theorem Own.at {B H : Hp} {cs : Cells} {p : Addr} {o : HO} (w : Own B cs H) (i : Nat) (h : cs[i]? = some (p, o)) : H p = some o := w.get i h
/-- what isinstance asks of a class of instances -/
structure InsC (K : PySem.W.Frag) (C : Addr) : Prop where
  cl : Cls K C
  ha : PySem.W.findIn K (.ref C) "__class__" = some (some (.builtin "object.__class__"))
  hn : PySem.W.specialIn K (.builtin "object.__class__") "__get__" = some (some (.builtin "getset_descriptor.__get__"))
  ht : PySem.W.takesIn K (.builtin "object.__class__") = some true
  hm : PySem.W.mroIn K C (.type "object") = some true
theorem x_isiC {K : PySem.W.Frag} {H : Hp} {Q : VK} {a C D dx : Addr} {fs : List (Str × V)} {b : Bool} (e : H a = some (.ins C dx fs)) (ic : InsC K C) (ak : AskC K D) (h : PySem.W.subIn K (.ref C) (.ref D) = some b) (q : Q (.bl b) H) : rIsi K [.ref a, .ref D] H Q :=
  ⟨.ref a, .ref D, .ref C, .ref D, b, rfl, .own D, .base (.ins e ic.cl ic.ha ic.hn ic.ht ic.hm), kit_own ak h, q⟩
end Sp

/-! Rul: rules as objects: what stands in them, what a group earns. -/
namespace Sp
open PySem PySem.Spec L2 PyProof.Rows
theorem pi_or2 {X : Cx} {tg e : Expr} {t u : TI} (h1 : PI X tg e t) (h2 : PI X tg e u) : PI X tg e (fun σ H R => t σ H R ∨ u σ H R) := ⟨fun pins s σ H R I h => h.elim (h1.run pins s σ H R I) (h2.run pins s σ H R I)⟩
/-- of the first i hands, those in g: their numbers -/
def sumTo (Ts : List Int) (g : Nat) : Nat → Int
  | 0 => 0
  | i + 1 => if bitOn i g = true then sumTo Ts g i + gi Ts (i : Int) else sumTo Ts g i
def sumS (Ts : List Int) (g : Nat) : Int := sumTo Ts g Ts.length
theorem bit_high : ∀ m, m < 7 → ∀ g, g < 2 ^ m → ∀ i, i < 6 → m ≤ i → bitOn i g = false := by decide +kernel
theorem sumTo_high {Ts : List Int} {g m : Nat} (hm : m ≤ 6) (hg : g < 2 ^ m) : ∀ j, m + j ≤ 6 → sumTo Ts g (m + j) = sumTo Ts g m
  | 0, _ => rfl
  | j + 1, h => by
    show (if bitOn (m + j) g = true then sumTo Ts g (m + j) + gi Ts ((m + j : Nat) : Int) else sumTo Ts g (m + j)) = _
    rw [bit_high m (by omega) g hg (m + j) (by omega) (by omega), if_neg Bool.false_ne_true, sumTo_high hm hg j (by omega)]
theorem hands_sum (Ts : List Int) (g : Nat) : ∀ i, (((List.range i).filter fun h => bitOn h g).map fun h : Nat => gi Ts (h : Int)).sum = sumTo Ts g i
  | 0 => rfl
  | i + 1 => by
    have ih := hands_sum Ts g i
    show _ = (if bitOn i g = true then sumTo Ts g i + gi Ts (i : Int) else sumTo Ts g i)
    cases c : bitOn i g with
    | true => rw [filter_yes (p := fun h => bitOn h g) c, List.sum_append, ih, if_pos rfl]; simp
    | false => rw [filter_no (p := fun h => bitOn h g) c, ih, if_neg Bool.false_ne_true]
theorem hands_sumS {Ts : List Int} {g m : Nat} (hl : Ts.length = m) (hm : m ≤ 6) (hg : g < 2 ^ m) : ((handsM g).map fun h : Nat => gi Ts (h : Int)).sum = sumS Ts g := by
  unfold handsM sumS
  rw [hands_sum, hl]
  have := sumTo_high (Ts := Ts) hm hg (6 - m) (by omega)
  rwa [show m + (6 - m) = 6 by omega] at this
theorem hands_lt {g m h : Nat} (hm : m ≤ 6) (hg : g < 2 ^ m) (hh : h ∈ handsM g) : h < m := by
  have h6 := handsM_lt hh
  unfold handsM at hh
  have hb := (List.mem_filter.mp hh).2
  by_cases c : h < m
  · exact c
  · rw [bit_high m (by omega) g hg h h6 (by omega)] at hb; cases hb
/-- fields as they stand -/
structure InsF (H : Hp) (a C dx : Addr) (fs : List (Str × V)) (m : Nat) : Prop where
  e : H a = some (.ins C dx fs)
  many : fs.lookup ("many" : Str) = some (.int (m : Int))
  c1 : fs.lookup ("earn" : Str) = none
  c2 : fs.lookup ("reckoned" : Str) = none
  c3 : fs.lookup ("hands" : Str) = none
  c4 : fs.lookup ("words" : Str) = none
inductive BaseAt (C : Addr) (K : PySem.W.Frag) (H : Hp) (a : Addr) (m : Nat) (f : Nat → Int) : Prop
  | mk {dx : Addr} (e : H a = some (.ins C dx [("many", .int (m : Int))])) (hf : ∀ g, g < 2 ^ m → f g = 0) : BaseAt C K H a m f
inductive OwnAt (C : Addr) (K : PySem.W.Frag) (H : Hp) (a : Addr) (m : Nat) (f : Nat → Int) : Prop
  | mk {dx l : Addr} {ns : List Int} (e : H a = some (.ins C dx [("many", .int (m : Int)), ("numbers", .ref l)])) (h : SqL K H l (ns.map V.int)) (hl : ns.length = m) (hf : ∀ g, g < 2 ^ m → f g = sumS ns g) : OwnAt C K H a m f
inductive PlainAt (C : Addr) (K : PySem.W.Frag) (H : Hp) (a : Addr) (m : Nat) (f : Nat → Int) : Prop
  | mk {dx l : Addr} {ns : List Int} (e : H a = some (.ins C dx [("many", .int (m : Int)), ("row", .ref l)])) (h : SqL K H l (ns.map V.int)) (hl : ns.length = 2 ^ m) (hf : ∀ g, g < 2 ^ m → f g = fn ns g) : PlainAt C K H a m f
abbrev Tr := Nat × Nat × Int
abbrev trV (t : Tr) : List V := [.int (t.1 : Int), .int (t.2.1 : Int), .int t.2.2]
inductive TrAll (H : Hp) : List Addr → List Tr → Prop
  | nil : TrAll H [] []
  | cons {t : Addr} {ts : List Addr} {f : Tr} {fs : List Tr} : H t = some (.tup (trV f)) → TrAll H ts fs → TrAll H (t :: ts) (f :: fs)
theorem TrAll.same {H H' : Hp} (s : Same H H') : ∀ {ts : List Addr} {fs : List Tr}, TrAll H ts fs → TrAll H' ts fs
  | _, _, .nil => .nil
  | _, _, .cons h r => .cons (s _ _ h) (r.same s)
theorem TrAll.len {H : Hp} : ∀ {ts : List Addr} {fs : List Tr}, TrAll H ts fs → ts.length = fs.length
  | _, _, .nil => rfl
  | _, _, .cons _ r => by rw [List.length_cons, List.length_cons, r.len]
theorem TrAll.at {H : Hp} : ∀ {ts : List Addr} {fs : List Tr}, TrAll H ts fs → ∀ {i : Nat} {t : Addr}, ts[i]? = some t → ∃ f, fs[i]? = some f ∧ H t = some (.tup (trV f))
  | _, _, .nil, i, _, h => by rw [List.getElem?_nil] at h; cases h
  | _, _, .cons (f := f) h r, 0, t, e => ⟨f, rfl, by cases e; exact h⟩
  | _, _, .cons h r, i + 1, t, e => r.at (i := i) (by simpa using e)
theorem TrAll.snoc {H : Hp} {t : Addr} {f : Tr} (ht : H t = some (.tup (trV f))) : ∀ {ts : List Addr} {fs : List Tr}, TrAll H ts fs → TrAll H (ts ++ [t]) (fs ++ [f])
  | _, _, .nil => .cons ht .nil
  | _, _, .cons h r => .cons h (r.snoc ht)
def both (t : Tr) (g : Nat) : Bool := bitOn t.1 g && bitOn t.2.1 g
def pairsS (fs : List Tr) (g : Nat) : Int := (fs.map fun t => if both t g = true then t.2.2 else 0).sum
theorem pairsS_step {fs : List Tr} {i : Nat} {t : Tr} (h : fs[i]? = some t) (g : Nat) : pairsS (fs.take (i + 1)) g = pairsS (fs.take i) g + (if both t g = true then t.2.2 else 0) := by
  unfold pairsS
  rw [List.take_add_one, h, List.map_append, List.sum_append]
  simp
/-- a pair of hands below m, the lesser first -/
def PairOk (m : Nat) (t : Tr) : Prop := t.1 < t.2.1 ∧ t.2.1 < m
inductive PairsAt (C : Addr) (K : PySem.W.Frag) (H : Hp) (a : Addr) (m : Nat) (f : Nat → Int) : Prop
  | mk {dx l : Addr} {ts : List Addr} {fs : List Tr} (e : H a = some (.ins C dx [("many", .int (m : Int)), ("pairs", .ref l)])) (h : SqL K H l (ts.map V.ref)) (hr : TrAll H ts fs) (hp : ∀ t ∈ fs, PairOk m t) (hf : ∀ g, g < 2 ^ m → f g = pairsS fs g) : PairsAt C K H a m f
inductive VotesAt (C : Addr) (K : PySem.W.Frag) (H : Hp) (a : Addr) (m : Nat) (f : Nat → Int) : Prop
  | mk {dx l : Addr} {q p : Int} {ws : List Int} (e : H a = some (.ins C dx [("many", .int (m : Int)), ("quota", .int q), ("prize", .int p), ("weights", .ref l)])) (h : SqL K H l (ws.map V.int)) (hl : ws.length = m) (hf : ∀ g, g < 2 ^ m → f g = if q ≤ sumS ws g then p else 0) : VotesAt C K H a m f
section
variable {C : Addr} {K : PySem.W.Frag} {H H' : Hp} {a : Addr} {m : Nat} {f : Nat → Int}
theorem BaseAt.same (h : BaseAt C K H a m f) (s : Same H H') : BaseAt C K H' a m f := by cases h with | mk e hf => exact .mk (s _ _ e) hf
theorem OwnAt.same (h : OwnAt C K H a m f) (s : Same H H') : OwnAt C K H' a m f := by cases h with | mk e h hl hf => exact .mk (s _ _ e) (s.seq h) hl hf
theorem PlainAt.same (h : PlainAt C K H a m f) (s : Same H H') : PlainAt C K H' a m f := by cases h with | mk e h hl hf => exact .mk (s _ _ e) (s.seq h) hl hf
theorem PairsAt.same (h : PairsAt C K H a m f) (s : Same H H') : PairsAt C K H' a m f := by cases h with | mk e h hr hp hf => exact .mk (s _ _ e) (s.seq h) (hr.same s) hp hf
theorem VotesAt.same (h : VotesAt C K H a m f) (s : Same H H') : VotesAt C K H' a m f := by cases h with | mk e h hl hf => exact .mk (s _ _ e) (s.seq h) hl hf
theorem BaseAt.ins (h : BaseAt C K H a m f) : ∃ dx fs, InsF H a C dx fs m := by cases h with | mk e hf => exact ⟨_, _, e, rfl, rfl, rfl, rfl, rfl⟩
theorem OwnAt.ins (h : OwnAt C K H a m f) : ∃ dx fs, InsF H a C dx fs m := by cases h with | mk e h hl hf => exact ⟨_, _, e, rfl, rfl, rfl, rfl, rfl⟩
theorem PlainAt.ins (h : PlainAt C K H a m f) : ∃ dx fs, InsF H a C dx fs m := by cases h with | mk e h hl hf => exact ⟨_, _, e, rfl, rfl, rfl, rfl, rfl⟩
theorem PairsAt.ins (h : PairsAt C K H a m f) : ∃ dx fs, InsF H a C dx fs m := by cases h with | mk e h hr hp hf => exact ⟨_, _, e, rfl, rfl, rfl, rfl, rfl⟩
theorem VotesAt.ins (h : VotesAt C K H a m f) : ∃ dx fs, InsF H a C dx fs m := by cases h with | mk e h hl hf => exact ⟨_, _, e, rfl, rfl, rfl, rfl, rfl⟩
end
theorem thing_x {p : Addr} {H H' : Hp} {v : V} (s : SameX p H H') (h : Thing H v) (n : v ≠ .ref p) : Thing H' v := by
  have k : ∀ {a : Addr} {u : HO}, V.ref a ≠ .ref p → Rd H a u → Rd H' a u := fun {a u} hne r => by
    have hn : a ≠ p := fun z => hne (by rw [z])
    rcases r with r | ⟨o, r⟩
    · exact .inl (s _ _ hn r)
    · exact .inr ⟨o, s _ _ hn r⟩
  cases h with
  | non => exact .non
  | bl b => exact .bl b
  | int i => exact .int i
  | str x => exact .str x
  | lst q => exact .lst (k n q)
  | tup q => exact .tup (k n q)
  | dic q => exact .dic (s _ _ (fun z => n (by rw [z])) q)
theorem sqL_x {K : PySem.W.Frag} {p b : Addr} {H H' : Hp} {xs : List V} (s : SameX p H H') (h : SqL K H b xs) (n : b ≠ p) : SqL K H' b xs := by
  rcases h with (h | ⟨o, h⟩) | h
  · exact .inl (.inl (s _ _ n h))
  · exact .inl (.inr ⟨o, s _ _ n h⟩)
  · exact .inr h
theorem all_int {ys : List V} (h : ys.all isI = true) : ∃ ns : List Int, ys = ns.map V.int := by
  induction ys with
  | nil => exact ⟨[], rfl⟩
  | cons y r ih =>
    rw [List.all_cons, Bool.and_eq_true] at h
    obtain ⟨ns, rfl⟩ := ih h.2
    cases y with
    | int z => exact ⟨z :: ns, rfl⟩
    | _ => exact absurd h.1 Bool.false_ne_true
theorem thing_ne {p C dx : Addr} {fs : List (Str × V)} {H : Hp} {v : V} (e : H p = some (.ins C dx fs)) (h : Thing H v) : v ≠ .ref p := fun z => by
  subst z
  cases h with
  | lst q => rcases q with q | ⟨o, q⟩ <;> rw [e] at q <;> cases q
  | tup q => rcases q with q | ⟨o, q⟩ <;> rw [e] at q <;> cases q
  | dic q => rw [e] at q; cases q
theorem sqL_ne {K : PySem.W.Frag} {p C dx b : Addr} {fs : List (Str × V)} {H : Hp} {xs : List V} (e : H p = some (.ins C dx fs)) (h : Rd H b (.lst xs)) : b ≠ p := fun z => by
  subst z
  rcases h with h | ⟨o, h⟩ <;> rw [e] at h <;> cases h
theorem rdT_ne {p C dx b : Addr} {fs : List (Str × V)} {H : Hp} {xs : List V} (e : H p = some (.ins C dx fs)) (h : Rd H b (.tup xs)) : b ≠ p := fun z => by
  subst z
  rcases h with h | ⟨o, h⟩ <;> rw [e] at h <;> cases h
theorem rd_x {p b : Addr} {H H' : Hp} {u : HO} (s : SameX p H H') (h : Rd H b u) (n : b ≠ p) : Rd H' b u := by
  rcases h with h | ⟨o, h⟩
  · exact .inl (s _ _ n h)
  · exact .inr ⟨o, s _ _ n h⟩
/-- the bits of two hands at once -/
theorem both_bits : ∀ i, i < 6 → ∀ j, j < 6 → ∀ g, g < 64 → decide ((g / 2 ^ i &&& g / 2 ^ j) &&& 1 = 1) = (bitOn i g && bitOn j g) := by decide +kernel
theorem both_int {i j g : Nat} (hi : i < 6) (hj : j < 6) (hg : g < 64) : decide (Builtin.bitAnd (Builtin.bitAnd ((g : Int) / 2 ^ ((i : Int)).toNat) ((g : Int) / 2 ^ ((j : Int)).toNat)) 1 = 1) = (bitOn i g && bitOn j g) := by
  rw [← both_bits i hi j hj g hg]
  have e : ∀ k : Nat, (g : Int) / 2 ^ ((k : Int)).toNat = ((g / 2 ^ k : Nat) : Int) := fun k => by rw [Int.toNat_natCast, Int.natCast_ediv, Int.natCast_pow] <;> rfl
  rw [e i, e j, and_nat, show (1 : Int) = ((1 : Nat) : Int) from rfl, and_nat]
  exact decide_eq_decide.mpr (by omega)
/-- what a def that fills an object leaves: all but p stands -/
def RetX (p : Addr) (o : HO) (H : Hp) (Q : VK) : Prop := ∀ H', SameX p H H' → H' p = some o → Q .non H'
end Sp

/-! Add: tables in which each group earns its hands' numbers. -/
namespace Sp
open PySem PySem.Spec L2 PyProof.Rows
def T6 (Ts : List Int) : Nat → Int := fun k => gi Ts (k : Int)
def LH (g : Nat) : LinF := (handsM g).map fun h => (1, h)
def Ls (g : Nat) : LinF := ((List.range 6).filter fun k => 2 ^ k == g).map fun k => (1, k)
theorem add_ev {Ts : List Int} {m g : Nat} (hl : Ts.length = m) (hm : m ≤ 6) (hg : g < 2 ^ m) : sumS Ts g = ev (T6 Ts) (LH g) := by
  rw [← hands_sumS hl hm hg]
  unfold ev LH
  rw [List.map_map]
  congr 1
  exact List.map_congr_left fun h _ => (Int.one_mul _).symm
theorem ev_flat (T : Nat → Int) (L : Nat → LinF) : ∀ l : List Nat, (l.map fun q => ev T (L q)).sum = ev T (l.flatMap L)
  | [] => rfl
  | q :: l => by rw [List.map_cons, List.sum_cons, ev_flat T L l, List.flatMap_cons, ev_app]
def tabA (Ts : List Int) (m : Nat) : List Int := tl (2 ^ m) (sumS Ts)
def sgF (Ts : List Int) (g : Nat) : Int := ev (T6 Ts) (Ls g)
def sgM (Ts : List Int) (m : Nat) : List Int := tl (2 ^ m) (sgF Ts)
theorem tabA_len (Ts : List Int) (m : Nat) : (tabA Ts m).length = 2 ^ m := tl_len _ _
theorem tabA_fn {Ts : List Int} {m g : Nat} (hg : g < 2 ^ m) : fn (tabA Ts m) g = sumS Ts g := gi_tln hg
theorem sgM_fn {Ts : List Int} {m g : Nat} (hg : g < 2 ^ m) : fn (sgM Ts m) g = sgF Ts g := gi_tln hg
theorem tab_tl {m : Nat} {f : Nat → Int} (h1 : 1 ≤ m) (h6 : m ≤ 6) (h0 : f 0 = 0) : Tab (tl (2 ^ m) f) m :=
  ⟨tl_len _ _, h1, h6, gi_zero (by rw [tl_len]; exact Nat.two_pow_pos m) (by rw [show (0 : Int) = ((0 : Nat) : Int) from rfl, gi_tln (Nat.two_pow_pos m)]; exact h0)⟩
theorem sumS_zero {Ts : List Int} {m : Nat} (hl : Ts.length = m) (hm : m ≤ 6) : sumS Ts 0 = 0 := by
  rw [add_ev hl hm (Nat.two_pow_pos m)]
  rfl
theorem tabA_tab {Ts : List Int} {m : Nat} (hl : Ts.length = m) (h1 : 1 ≤ m) (h6 : m ≤ 6) : Tab (tabA Ts m) m := tab_tl h1 h6 (sumS_zero hl h6)
theorem sgM_tab {Ts : List Int} {m : Nat} (h1 : 1 ≤ m) (h6 : m ≤ 6) : Tab (sgM Ts m) m := tab_tl h1 h6 rfl
/-! ### dividends -/
theorem sg_sums : ∀ g, g < 64 → sameL 6 ((someSubs g g).flatMap Ls) (LH g) = true := by decide +kernel
theorem someSub_le {g q : Nat} (h : q ∈ someSubs g g) : q ≤ g := by
  have := List.mem_range.mp (List.mem_filter.mp h).1
  omega
theorem sg_table {Ts : List Int} {m : Nat} (hl : Ts.length = m) (h1 : 1 ≤ m) (h6 : m ≤ 6) : sumsM (sgM Ts m) m = tabA Ts m := by
  have h64 := pow6 h6
  unfold sumsM tabA
  rw [show (sgM Ts m).length = 2 ^ m from tl_len _ _]
  refine tl_congr fun g hg => ?_
  rw [sums_at (sgM_tab h1 h6) (by rw [show (sgM Ts m).length = 2 ^ m from tl_len _ _]; exact hg), add_ev hl h6 hg]
  unfold someSum
  rw [show (someSubs g g).map (fn (sgM Ts m)) = (someSubs g g).map fun q => ev (T6 Ts) (Ls q) from List.map_congr_left fun q hq => sgM_fn (by have := someSub_le hq; omega), ev_flat]
  exact ev_same (sg_sums g (by omega)) _
theorem divM_tabA {Ts : List Int} {m : Nat} (hl : Ts.length = m) (h1 : 1 ≤ m) (h6 : m ≤ 6) : tl (tabA Ts m).length (allD m (fn (tabA Ts m))) = sgM Ts m := by
  rw [← sg_table hl h1 h6]
  exact div_sums (sgM_tab h1 h6)
/-! ### mean shares -/
def Lw (m h : Nat) : LinF := (List.range (2 ^ m)).flatMap fun g => if bitOn h g = true then (Ls g).map fun p => (p.1 * wt g, p.2) else []
theorem Lw_all : ∀ m, m < 7 → ∀ h, h < m → sameL 6 (Lw m h) [(60, h)] = true := by decide +kernel
theorem ev_mul (T : Nat → Int) (c : Int) : ∀ L : LinF, ev T (L.map fun p => (p.1 * c, p.2)) = ev T L * c
  | [] => by show (0 : Int) = 0 * c; rw [Int.zero_mul]
  | p :: L => by rw [List.map_cons, ev_cons, ev_cons, ev_mul T c L, Int.add_mul, Int.mul_right_comm]
theorem tops_sg {Ts : List Int} {m h : Nat} (h6 : m ≤ 6) (hh : h < m) : topsF (sgM Ts m) (2 ^ m) h = 60 * T6 Ts h := by
  unfold topsF
  rw [show ((List.range (2 ^ m)).map fun g => if bitOn h g = true then fn (sgM Ts m) g * wt g else 0) = (List.range (2 ^ m)).map fun g => ev (T6 Ts) (if bitOn h g = true then (Ls g).map fun p => (p.1 * wt g, p.2) else []) from List.map_congr_left fun g hg => ?_, ev_flat]
  · rw [show ((List.range (2 ^ m)).flatMap fun g => if bitOn h g = true then (Ls g).map fun p => (p.1 * wt g, p.2) else []) = Lw m h from rfl, ev_same (Lw_all m (by omega) h hh)]
    show 60 * T6 Ts h + 0 = _
    omega
  · by_cases c : bitOn h g = true
    · rw [if_pos c, if_pos c, ev_mul, sgM_fn (List.mem_range.mp hg)] <;> rfl
    · rw [if_neg c, if_neg c] <;> rfl
theorem short_whole (z : Int) : shortM (60 * z) 60 = (z, 1) := by
  rw [short_eq (c := z) (d := 1) (by decide) (by decide) (by omega)]
  unfold shortM
  rw [if_pos (by decide)]
  have e : gcdI z 1 = 1 := by unfold gcdI; rw [Int.gcd_one_right] <;> rfl
  rw [e, Int.ediv_one] <;> rfl
theorem mean_tabA {Ts : List Int} {m : Nat} (hl : Ts.length = m) (h6 : m ≤ 6) : meanFs (sgM Ts m) (2 ^ m) m = Ts.map fun z => (z, 1) := by
  apply List.ext_getElem?
  intro i
  unfold meanFs
  rw [List.getElem?_map, List.getElem?_map]
  by_cases hi : i < m
  · rw [List.getElem?_range hi, Option.map_some, tops_sg h6 hi, short_whole, List.getElem?_eq_getElem (by omega), Option.map_some]
    unfold T6 gi
    rw [Int.toNat_natCast, List.getD_eq_getElem?_getD, List.getElem?_eq_getElem (by omega)] <;> rfl
  · rw [List.getElem?_eq_none (by rw [List.length_range]; omega), List.getElem?_eq_none (by omega)] <;> rfl
/-! ### turns, hands alike, idle hands -/
def Lt (m h : Nat) : LinF := (offs h (2 ^ m)).flatMap fun g => LH (g + 2 ^ h) ++ (LH g).map fun p => (p.1 * (-1), p.2)
theorem Lt_all : ∀ m, m < 7 → ∀ h, h < m → sameL 6 (Lt m h) [((2 ^ (m - 1) : Nat), h)] = true := by decide +kernel
theorem off_lt {m h g : Nat} (hm : m < 7) (hh : h < m) (hg : g ∈ offs h (2 ^ m)) : g + 2 ^ h < 2 ^ m ∧ g < 2 ^ m ∧ bitOn h g = false := by
  unfold offs at hg
  have h1 := List.mem_range.mp (List.mem_filter.mp hg).1
  have h2 := (List.mem_filter.mp hg).2
  have h3 : bitOn h g = false := by simpa using h2
  exact ⟨(off_bit hm hh h1 h3).2, h1, h3⟩
theorem turns_tabA {Ts : List Int} {m : Nat} (hl : Ts.length = m) (h6 : m ≤ 6) : turnsM (tabA Ts m) m = Ts.map fun z => z * ((2 ^ (m - 1) : Nat) : Int) := by
  apply List.ext_getElem?
  intro i
  unfold turnsM
  rw [List.getElem?_map, List.getElem?_map]
  by_cases hi : i < m
  · rw [List.getElem?_range hi, Option.map_some, List.getElem?_eq_getElem (by omega), Option.map_some]
    congr 1
    unfold addsM
    rw [tabA_len, show ((offs i (2 ^ m)).map fun g => fn (tabA Ts m) (g + 2 ^ i) - fn (tabA Ts m) g) = (offs i (2 ^ m)).map fun g => ev (T6 Ts) (LH (g + 2 ^ i) ++ (LH g).map fun p => (p.1 * (-1), p.2)) from List.map_congr_left fun g hg => ?_, ev_flat]
    · rw [show ((offs i (2 ^ m)).flatMap fun g => LH (g + 2 ^ i) ++ (LH g).map fun p => (p.1 * (-1), p.2)) = Lt m i from rfl, ev_same (Lt_all m (by omega) i hi)]
      show ((2 ^ (m - 1) : Nat) : Int) * T6 Ts i + 0 = _
      unfold T6 gi
      rw [Int.toNat_natCast, List.getD_eq_getElem?_getD, List.getElem?_eq_getElem (by omega), Int.add_zero, Int.mul_comm] <;> rfl
    · obtain ⟨a, b, _⟩ := off_lt (by omega) hi hg
      rw [tabA_fn a, tabA_fn b, ev_app, ev_mul, ← add_ev hl h6 a, ← add_ev hl h6 b]
      omega
  · rw [List.getElem?_eq_none (by rw [List.length_range]; omega), List.getElem?_eq_none (by omega)] <;> rfl
theorem or_step : ∀ i, i < 6 → ∀ g, g < 64 → (bitOn i g || sameL 6 (LH (g ||| 2 ^ i)) ((1, i) :: LH g)) = true := by decide +kernel
theorem add_or {Ts : List Int} {m g i : Nat} (hl : Ts.length = m) (h6 : m ≤ 6) (hg : g < 2 ^ m) (hi : i < m) (hb : bitOn i g = false) : sumS Ts (g ||| 2 ^ i) = T6 Ts i + sumS Ts g := by
  have h64 := pow6 h6
  have e := or_step i (by omega) g (by omega)
  rw [hb, Bool.false_or] at e
  rw [add_ev hl h6 (Nat.or_lt_two_pow hg (Nat.pow_lt_pow_right (by decide) hi)), add_ev hl h6 hg, ev_same e, ev_cons, Int.one_mul]
theorem bit0 : ∀ i, i < 6 → bitOn i 0 = false := by decide
theorem alike_tabA {Ts : List Int} {m i j : Nat} (hl : Ts.length = m) (h6 : m ≤ 6) (hi : i < m) (hj : j < m) : alikeB (tabA Ts m) i j = decide (T6 Ts i = T6 Ts j) := by
  have hpi : 2 ^ i < 2 ^ m := Nat.pow_lt_pow_right (by decide) hi
  have hpj : 2 ^ j < 2 ^ m := Nat.pow_lt_pow_right (by decide) hj
  unfold alikeB
  rw [tabA_len]
  by_cases c : T6 Ts i = T6 Ts j
  · rw [decide_eq_true c, List.all_eq_true]
    intro g hg
    have hg := List.mem_range.mp hg
    cases c1 : bitOn i g with
    | true => rfl
    | false =>
      cases c2 : bitOn j g with
      | true => rfl
      | false =>
        rw [tabA_fn (Nat.or_lt_two_pow hg hpi), tabA_fn (Nat.or_lt_two_pow hg hpj), add_or hl h6 hg hi c1, add_or hl h6 hg hj c2, c, decide_eq_true rfl] <;> rfl
  · rw [decide_eq_false c, Bool.eq_false_iff]
    intro h
    have e := List.all_eq_true.mp h 0 (List.mem_range.mpr (Nat.two_pow_pos m))
    rw [bit0 i (by omega), bit0 j (by omega), Bool.false_or, Bool.false_or, decide_eq_true_eq, tabA_fn (Nat.or_lt_two_pow (Nat.two_pow_pos m) hpi), tabA_fn (Nat.or_lt_two_pow (Nat.two_pow_pos m) hpj), add_or hl h6 (Nat.two_pow_pos m) hi (bit0 i (by omega)), add_or hl h6 (Nat.two_pow_pos m) hj (bit0 j (by omega))] at e
    exact c (by omega)
theorem least_tabA {Ts : List Int} {m h : Nat} (hl : Ts.length = m) (h6 : m ≤ 6) (hh : h < m) : leastA (tabA Ts m) h ≤ h ∧ T6 Ts (leastA (tabA Ts m) h) = T6 Ts h ∧ ∀ j, j < leastA (tabA Ts m) h → T6 Ts j ≠ T6 Ts h := by
  obtain ⟨a, b, c⟩ := least_ex (tabA Ts m) h
  rw [alike_tabA hl h6 (by omega) hh] at b
  refine ⟨a, of_decide_eq_true b, fun j hj e => ?_⟩
  have := c j hj
  rw [alike_tabA hl h6 (by omega) hh] at this
  exact of_decide_eq_false this e
theorem idle_tabA {Ts : List Int} {m h : Nat} (hl : Ts.length = m) (h6 : m ≤ 6) (hh : h < m) : idleB (tabA Ts m) h = decide (T6 Ts h = 0) := by
  have all : ∀ n ∈ addsM (tabA Ts m) h, n = T6 Ts h := fun n hn => by
    unfold addsM at hn
    rw [tabA_len] at hn
    obtain ⟨g, hg, rfl⟩ := List.mem_map.mp hn
    obtain ⟨a, b, c⟩ := off_lt (by omega) hh hg
    have e := (off_bit (by omega) hh b c).1
    rw [tabA_fn a, tabA_fn b, ← e, add_or hl h6 b hh c]
    omega
  have some_ : T6 Ts h ∈ addsM (tabA Ts m) h := by
    have h0 : 0 ∈ offs h (2 ^ m) := by
      unfold offs
      rw [List.mem_filter]
      exact ⟨List.mem_range.mpr (Nat.two_pow_pos m), by rw [bit0 h (by omega)] <;> rfl⟩
    unfold addsM
    rw [tabA_len, List.mem_map]
    refine ⟨0, h0, ?_⟩
    obtain ⟨a, b, c⟩ := off_lt (by omega) hh h0
    have e := (off_bit (by omega) hh b c).1
    rw [tabA_fn a, tabA_fn b, ← e, add_or hl h6 b hh c]
    omega
  unfold idleB
  by_cases c : T6 Ts h = 0
  · rw [decide_eq_true c, Bool.not_eq_true', Bool.eq_false_iff]
    intro z
    obtain ⟨n, hn, e⟩ := List.any_eq_true.mp z
    rw [all n hn, c] at e
    cases e
  · rw [decide_eq_false c, Bool.not_eq_false', List.any_eq_true]
    exact ⟨_, some_, by rw [decide_eq_false c] <;> rfl⟩
/-! ### swelling; orders -/
theorem sup_lin : ∀ i, i < 64 → ∀ o, o < 64 → sameL 6 (LH i ++ LH o) (LH (i ||| o) ++ LH (i &&& o)) = true := by decide +kernel
theorem sup_tabA {Ts : List Int} {m : Nat} (hl : Ts.length = m) (h6 : m ≤ 6) : supM (tabA Ts m) := fun i o hi ho => by
  have h64 := pow6 h6
  rw [tabA_len] at hi
  have ho : o < 2 ^ m := by omega
  have h1 : i ||| o < 2 ^ m := Nat.or_lt_two_pow hi ho
  have h2 : i &&& o < 2 ^ m := Nat.and_lt_two_pow i ho
  rw [tabA_fn hi, tabA_fn ho, tabA_fn h1, tabA_fn h2, add_ev hl h6 hi, add_ev hl h6 ho, add_ev hl h6 h1, add_ev hl h6 h2, ← ev_app, ← ev_app, ev_same (sup_lin i (by omega) o (by omega))]
  exact Int.le_refl _
theorem order_step {Ts : List Int} {m : Nat} {l : List Nat} (hl : Ts.length = m) (h6 : m ≤ 6) (nd : l.Nodup) (lt : ∀ n ∈ l, n < m) : ∀ i, i ≤ l.length → OInv (tabA Ts m) m (l.take i) ∧ (orderS (tabA Ts m) m (l.take i)).2 = tl m (fun h => if h ∈ l.take i then T6 Ts h else 0)
  | 0, _ => by
    refine ⟨.nil, ?_⟩
    show List.replicate m (0 : Int) = _
    exact rep_tl fun h _ => if_neg (fun z => nomatch z)
  | i + 1, hi => by
    obtain ⟨oi, e⟩ := order_step hl h6 nd lt i (by omega)
    obtain ⟨n, hz⟩ : ∃ n, l[i]? = some n := ⟨_, List.getElem?_eq_getElem (by omega)⟩
    have hn : n < m := lt n (List.mem_of_getElem? hz)
    have hnl := nodup_at nd hz
    rw [take_snoc hz]
    refine ⟨oi.snoc h6 hn, ?_⟩
    rw [orderS_snoc]
    unfold stepO
    have hb : bitOn n (orderS (tabA Ts m) m (l.take i)).1 = false := by rw [oi.bits n (by omega)]; exact decide_eq_false hnl
    have hp : 2 ^ n < 2 ^ m := Nat.pow_lt_pow_right (by decide) hn
    show (orderS (tabA Ts m) m (l.take i)).2.set n _ = _
    rw [tabA_fn oi.lt, tabA_fn (Nat.or_lt_two_pow oi.lt hp), add_or hl h6 oi.lt hn hb, e, show T6 Ts n + sumS Ts (orderS (tabA Ts m) m (l.take i)).1 - sumS Ts (orderS (tabA Ts m) m (l.take i)).1 = T6 Ts n by omega, tl_set hn]
    refine tl_congr fun j hj => ?_
    by_cases c : j = n
    · subst c; rw [if_pos rfl, if_pos (List.mem_append.mpr (.inr (.head _)))]
    · rw [if_neg c]
      by_cases c2 : j ∈ l.take i
      · rw [if_pos c2, if_pos (List.mem_append.mpr (.inl c2))]
      · rw [if_neg c2, if_neg (fun h => by
          rcases List.mem_append.mp h with h | h
          · exact c2 h
          · exact c (List.mem_singleton.mp h))]
theorem nodup_len : ∀ (m : Nat) (ns : List Nat), ns.Nodup → (∀ n ∈ ns, n < m) → ns.length ≤ m
  | 0, [], _, _ => Nat.le_refl _
  | 0, n :: ns, _, h => absurd (h n (.head _)) (Nat.not_lt_zero n)
  | m + 1, ns, nd, h => by
    have ih := nodup_len m (ns.erase m) (nd.erase m) fun n hn => by
      have h1 := (List.Nodup.mem_erase_iff nd).mp hn
      have := h n h1.2
      omega
    by_cases c : m ∈ ns
    · rw [List.length_erase_of_mem c] at ih; omega
    · rw [List.erase_of_not_mem c] at ih; omega
theorem mem_all {ns : List Nat} {m : Nat} (o : Ordr ns m) {h : Nat} (hh : h < m) : h ∈ ns := by
  by_cases c : h ∈ ns
  · exact c
  · have := nodup_len m (h :: ns) (List.nodup_cons.mpr ⟨c, o.nd⟩) fun n hn => by
      cases hn with
      | head => exact hh
      | tail _ hn => exact o.lt n hn
    rw [List.length_cons, o.len] at this
    omega
theorem order_tabA {Ts : List Int} {m : Nat} {ns : List Nat} (hl : Ts.length = m) (h6 : m ≤ 6) (o : Ordr ns m) : orderM (tabA Ts m) m ns = Ts := by
  have e := (order_step hl h6 o.nd o.lt ns.length (Nat.le_refl _)).2
  rw [List.take_length] at e
  unfold orderM
  rw [e, show tl m (fun h => if h ∈ ns then T6 Ts h else 0) = tl m (T6 Ts) from tl_congr fun h hh => if_pos (mem_all o hh)]
  have e2 := tl_fn Ts
  rw [hl] at e2
  exact e2
theorem Ls_few : ∀ g, g < 64 → (Ls g).length ≤ 1 ∧ (Ls g).all (fun p => p.1 == 1) = true := by decide +kernel
theorem sgF_bdd {Ts : List Int} {g : Nat} (hg : g < 64) (hb : Bnd 1000000000000000000 Ts) : (sgF Ts g).natAbs < 2 ^ 60 := by
  obtain ⟨h1, h2⟩ := Ls_few g hg
  unfold sgF
  cases e : Ls g with
  | nil => show (0 : Int).natAbs < _; decide
  | cons p r =>
    rw [e] at h1 h2
    have hr : r = [] := List.length_eq_zero_iff.mp (by rw [List.length_cons] at h1; omega)
    subst hr
    have hp : p.1 = 1 := beq_iff_eq.mp (List.all_eq_true.mp h2 p (.head _))
    rw [ev_cons, hp]
    have := hb.at (by decide) ((p.2 : Nat) : Int)
    show (1 * T6 Ts p.2 + 0).natAbs < _
    unfold T6
    omega
theorem sgM_bdd {Ts : List Int} {m : Nat} (h6 : m ≤ 6) (hb : Bnd 1000000000000000000 Ts) : Bdd 60 (fn (sgM Ts m)) := fun i => by
  have h64 := pow6 h6
  by_cases c : i < 2 ^ m
  · rw [sgM_fn c]
    exact sgF_bdd (by omega) hb
  · unfold fn gi
    rw [Int.toNat_natCast, List.getD_eq_getElem?_getD, List.getElem?_eq_none (by rw [show (sgM Ts m).length = 2 ^ m from tl_len _ _]; omega)]
    decide
theorem tabA_bnd {Ts : List Int} {m : Nat} (hl : Ts.length = m) (h6 : m ≤ 6) (hb : Bnd 1000000000000000000 Ts) : Bnd 10000000000000000000 (tabA Ts m) := fun z hz => by
  unfold tabA tl at hz
  obtain ⟨g, _, rfl⟩ := List.mem_map.mp hz
  have bb : ∀ i : Nat, -(1000000000000000000 * (i : Int)) ≤ sumTo Ts g i ∧ sumTo Ts g i ≤ 1000000000000000000 * (i : Int) := by
    intro i
    induction i with
    | zero => exact ⟨by show _ ≤ (0 : Int); omega, by show (0 : Int) ≤ _; omega⟩
    | succ i ih =>
      have := hb.at (by decide) (i : Int)
      show _ ≤ (if bitOn i g = true then sumTo Ts g i + gi Ts (i : Int) else sumTo Ts g i) ∧ (if bitOn i g = true then sumTo Ts g i + gi Ts (i : Int) else sumTo Ts g i) ≤ _
      by_cases c : bitOn i g = true
      · rw [if_pos c]; omega
      · rw [if_neg c]; omega
  have := bb Ts.length
  unfold sumS
  omega
/-- of the first i hands, those that are the group alone -/
def sgT (Ts : List Int) (i g : Nat) : Int := ev (T6 Ts) (((List.range i).filter fun k => 2 ^ k == g).map fun k => (1, k))
theorem sgT_succ (Ts : List Int) (i g : Nat) : sgT Ts (i + 1) g = sgT Ts i g + if g = 2 ^ i then T6 Ts i else 0 := by
  unfold sgT
  by_cases c : g = 2 ^ i
  · rw [List.range_succ, List.filter_append, List.map_append, ev_app, if_pos c, List.filter_cons_of_pos (by rw [c]; exact beq_self_eq_true _)]
    show _ + (1 * T6 Ts i + 0) = _
    omega
  · rw [List.range_succ, List.filter_append, List.map_append, ev_app, if_neg c, List.filter_cons_of_neg (by rw [beq_iff_eq]; exact fun e => c e.symm)]
    show _ + 0 = _
    omega
theorem sgT_self (Ts : List Int) (i : Nat) : sgT Ts i (2 ^ i) = 0 := by
  unfold sgT
  rw [List.filter_eq_nil_iff.mpr fun k hk e => ?_]
  · rfl
  · have h1 := List.mem_range.mp hk
    have h2 := Nat.pow_lt_pow_right (a := 2) (by decide) h1
    have h3 := beq_iff_eq.mp e
    omega
theorem sg_last : ∀ m, m < 7 → ∀ g, g < 2 ^ m → ((List.range m).filter fun k => 2 ^ k == g) = (List.range 6).filter fun k => 2 ^ k == g := by decide +kernel
theorem sgT_all {Ts : List Int} {m g : Nat} (h6 : m ≤ 6) (hg : g < 2 ^ m) : sgT Ts m g = sgF Ts g := by
  unfold sgT sgF Ls
  rw [sg_last m (by omega) g hg]
theorem sgT_set {Ts : List Int} {m i : Nat} (hi : i < m) : (tl (2 ^ m) (sgT Ts i)).set (2 ^ i) (T6 Ts i) = tl (2 ^ m) (sgT Ts (i + 1)) := by
  rw [tl_set (Nat.pow_lt_pow_right (by decide) hi)]
  refine tl_congr fun g _ => ?_
  rw [sgT_succ]
  by_cases c : g = 2 ^ i
  · rw [if_pos c, if_pos c, c, sgT_self]; omega
  · rw [if_neg c, if_neg c]; omega
theorem mt_indexK {X : Cx} {K : PySem.W.Frag} (h : X.K = K) : MtR X "list.index" (rIndex K) := h ▸ mt_index
def natD (ns : List Nat) : PyData := .list (ns.map fun n : Nat => .int (n : Int))
def whichD (zs : List Int) (m : Nat) : Nat → PyData
  | 0 => .list ((sgM zs m).map PyData.int)
  | 1 => .list ((sumsM (tabA zs m) m).map PyData.int)
  | 2 => .list (zs.map PyData.int)
  | 3 => frD (zs.map fun z => (z, 1))
  | 4 => .list ((zs.map fun z => z * ((2 ^ (m - 1) : Nat) : Int)).map PyData.int)
  | 5 => natD (leasts (tabA zs m) m)
  | _ => natD (idles (tabA zs m) m)
theorem dp_nat {K : PySem.W.Frag} {H : Hp} {p : Addr} {ns : List Nat} (h : SqL K H p (ns.map vnat)) : Dp K H (.ref p) (natD ns) := .lst h (by
  clear h
  induction ns with
  | nil => exact .nil
  | cons n ns ih => exact .cons (.int _) ih)
theorem lay_nat (ns : List Nat) : LayD 2 (natD ns) := LayD.list fun d hd => by
  obtain ⟨n, _, rfl⟩ := List.mem_map.mp hd
  exact LayD.int (by decide) _
theorem lay_ints3 (ns : List Int) : LayD 3 (.list (ns.map PyData.int)) := ⟨LayD.ints.lay, Nat.le_trans LayD.ints.dep (by decide)⟩
theorem lay_which (zs : List Int) (m : Nat) : ∀ w, LayD 3 (whichD zs m w)
  | 0 => lay_ints3 _
  | 1 => lay_ints3 _
  | 2 => lay_ints3 _
  | 3 => lay_fr _
  | 4 => lay_ints3 _
  | 5 => ⟨(lay_nat _).lay, Nat.le_trans (lay_nat _).dep (by decide)⟩
  | _ + 6 => ⟨(lay_nat _).lay, Nat.le_trans (lay_nat _).dep (by decide)⟩
end Sp

/-! Elt: things whose data is plain, lists of such. -/
namespace Sp
open PySem PySem.Spec L2 PyProof.Rows
theorem strOk_of (s : String) : PyData.strOk (Str.ofString s) = true := by
  unfold PyData.strOk
  rw [Str.ofString_eq_toList]
  simp only [List.all_toArray, List.all_map, List.all_eq_true, Function.comp_apply, decide_eq_true_eq]
  intro c _
  have h := c.valid
  simp only [UInt32.isValidChar, Nat.isValidChar] at h
  have e : c.toNat = c.val.toNat := rfl
  omega
/-- things whose data is plain -/
inductive Elt (K : PySem.W.Frag) (H : Hp) : V → PyData → Prop
  | non : Elt K H .non .none
  | bl (b : Bool) : Elt K H (.bl b) (.bool b)
  | int (i : Int) : Elt K H (.int i) (.int i)
  | str (x : Str) (h : PyData.strOk x = true) : Elt K H (.str x) (.str x)
  | lst {a : Addr} {ns : List Int} (e : Rd H a (.lst (ns.map V.int))) : Elt K H (.ref a) (.list (ns.map PyData.int))
  | tup {a : Addr} {ns : List Int} (e : H a = some (.tup (ns.map V.int))) : Elt K H (.ref a) (.tuple (ns.map PyData.int))
theorem Elt.same {K : PySem.W.Frag} {H H' : Hp} {v : V} {d : PyData} (s : Same H H') (h : Elt K H v d) : Elt K H' v d := by
  cases h with
  | non => exact .non
  | bl b => exact .bl b
  | int i => exact .int i
  | str x h => exact .str x h
  | lst e => exact .lst (rd_same s e)
  | tup e => exact .tup (s _ _ e)
theorem Elt.thing {K : PySem.W.Frag} {H : Hp} {v : V} {d : PyData} (h : Elt K H v d) : Thing H v := by
  cases h with
  | non => exact .non
  | bl b => exact .bl b
  | int i => exact .int i
  | str x h => exact .str x
  | lst e => exact .lst e
  | tup e => exact .tup (.inl e)
theorem Elt.dp {K : PySem.W.Frag} {H : Hp} {v : V} {d : PyData} (h : Elt K H v d) : Dp K H v d ∧ LayD 2 d := by
  cases h with
  | non => exact ⟨.non, LayD.none (by decide)⟩
  | bl b => exact ⟨.bl b, LayD.bool (by decide) b⟩
  | int i => exact ⟨.int i, LayD.int (by decide) i⟩
  | str x h => exact ⟨.str x, LayD.str (by decide) h⟩
  | lst e => exact ⟨dp_ints (.inl e), LayD.ints⟩
  | tup e =>
    refine ⟨.tup (SqT.of e) (dpAll_ints _), LayD.tuple fun d hd => ?_⟩
    obtain ⟨n, _, rfl⟩ := List.mem_map.mp hd
    exact LayD.int (by decide) n
def Elts (K : PySem.W.Frag) (H : Hp) (xs : List V) : Prop := ∀ v ∈ xs, ∃ d, Elt K H v d
theorem Elts.dp {K : PySem.W.Frag} {H : Hp} : ∀ {xs : List V}, Elts K H xs → ∃ ds, DpAll K H xs ds ∧ ∀ d ∈ ds, LayD 2 d
  | [], _ => ⟨[], .nil, fun _ h => nomatch h⟩
  | x :: xs, h => by
    obtain ⟨d, hd⟩ := h x (.head _)
    obtain ⟨ds, h1, h2⟩ := Elts.dp fun v hv => h v (.tail _ hv)
    exact ⟨d :: ds, .cons hd.dp.1 h1, fun e he => by
      cases he with
      | head => exact hd.dp.2
      | tail _ he => exact h2 e he⟩
theorem Elts.same {K : PySem.W.Frag} {H H' : Hp} {xs : List V} (s : Same H H') (h : Elts K H xs) : Elts K H' xs := fun v hv => (h v hv).imp fun _ z => z.same s
theorem Elts.thing {K : PySem.W.Frag} {H : Hp} {xs : List V} (h : Elts K H xs) : ∀ v ∈ xs, Thing H v := fun v hv => by
  obtain ⟨d, e⟩ := h v hv
  exact e.thing
theorem elts_nat {K : PySem.W.Frag} {H : Hp} {ns : List Nat} : Elts K H (ns.map vnat) := fun v hv => by
  obtain ⟨n, _, rfl⟩ := List.mem_map.mp hv
  exact ⟨_, .int _⟩
theorem elts_int {K : PySem.W.Frag} {H : Hp} {ns : List Int} : Elts K H (ns.map V.int) := fun v hv => by
  obtain ⟨n, _, rfl⟩ := List.mem_map.mp hv
  exact ⟨_, .int _⟩
theorem Elts.app {K : PySem.W.Frag} {H : Hp} {xs ys : List V} (h1 : Elts K H xs) (h2 : Elts K H ys) : Elts K H (xs ++ ys) := fun v hv => by
  rcases List.mem_append.mp hv with h | h
  · exact h1 v h
  · exact h2 v h
theorem Elts.one {K : PySem.W.Frag} {H : Hp} {v : V} {d : PyData} (h : Elt K H v d) : Elts K H [v] := fun w hw => by
  rw [List.mem_singleton] at hw
  subst hw
  exact ⟨d, h⟩
theorem Elts.take {K : PySem.W.Frag} {H : Hp} {xs : List V} (h : Elts K H xs) (n : Nat) : Elts K H (xs.take n) := fun v hv => h v (List.mem_of_mem_take hv)
theorem Elts.drop {K : PySem.W.Frag} {H : Hp} {xs : List V} (h : Elts K H xs) (n : Nat) : Elts K H (xs.drop n) := fun v hv => h v (List.mem_of_mem_drop hv)
/-- the list holds a thing that is no number; its length is that of no table; nobody's number is not nought -/
theorem look_odd {xs : List V} {v : V} (hv : v ∈ xs) (h : isI v = false) : lookM xs = none := by
  unfold lookM
  rw [if_neg]
  rintro ⟨_, h2, _⟩
  rw [List.all_eq_true.mp h2 v hv] at h
  cases h
theorem look_len {xs : List V} (h : ∀ k, 1 ≤ k → k ≤ 6 → xs.length ≠ 2 ^ k) : lookM xs = none := by
  unfold lookM
  rw [if_neg]
  rintro ⟨h1, _, _⟩
  have := manyOf_lo xs.length
  exact h _ this.1 this.2 h1
theorem look_first {xs : List V} {z : Int} (h : xs[0]? = some (.int z)) (hz : z ≠ 0) : lookM xs = none := by
  unfold lookM
  rw [if_neg]
  rintro ⟨_, _, h3⟩
  rw [h] at h3
  exact hz (V.int.inj (Option.some.inj h3))
theorem cut_m1 {xs : List V} : cutV xs none (some (-1)) = xs.take (xs.length - 1) := by
  unfold cutV
  have e : HT.sIx xs.length xs.length (some (-1)) = xs.length - 1 := by
    show (if (-1 : Int) < 0 then ((-1 : Int) + (xs.length : Int)).toNat else min (-1 : Int).toNat xs.length) = _
    rw [if_pos (by decide)]
    omega
  rw [HT.sIx_none, e, List.drop_zero, Nat.sub_zero]
theorem x_slL {K : PySem.W.Frag} {H : Hp} {Q : VK} {a : Addr} {xs : List V} {lo hi : Option Int} (h : SqL K H a xs) (q : ∀ p, H p = none → Q (.ref p) (upd H p (.lst (cutV xs lo hi)))) : rSlL K (.ref a) lo hi H Q := ⟨a, xs, rfl, h, q⟩
end Sp

namespace Lw
open PySem PySem.Spec PyProof.Rows L2 Sp
def topS (i : Nat) : Stmt := PySem.Challenge.pw_shareparley_k30_orders_refused.main.body.getD i (.Pass ⟨0, 0, 0, 0⟩)
abbrev s_is_whole : Stmt := topS 14
abbrev N_is_whole : List Str := ["thing"]
theorem sc_is_whole : FnScope N_is_whole ["thing"] (defScope s_is_whole) := ⟨rfl, rfl, rfl, by decide +kernel, rfl, by decide +kernel, by decide +kernel⟩
abbrev s_divisor : Stmt := topS 15
abbrev N_divisor : List Str := ["one", "other", "rests"]
theorem sc_divisor : FnScope N_divisor ["one", "other"] (defScope s_divisor) := ⟨rfl, rfl, rfl, by decide +kernel, rfl, by decide +kernel, by decide +kernel⟩
abbrev s_shortest : Stmt := topS 16
abbrev N_shortest : List Str := ["top", "bottom", "share"]
theorem sc_shortest : FnScope N_shortest ["top", "bottom"] (defScope s_shortest) := ⟨rfl, rfl, rfl, by decide +kernel, rfl, by decide +kernel, by decide +kernel⟩
abbrev s_fraction : Stmt := topS 17
abbrev N_fraction : List Str := ["top", "bottom", "thing"]
theorem sc_fraction : FnScope N_fraction ["top", "bottom"] (defScope s_fraction) := ⟨rfl, rfl, rfl, by decide +kernel, rfl, by decide +kernel, by decide +kernel⟩
abbrev s_look_group : Stmt := topS 20
abbrev N_look_group : List Str := ["group", "least", "greatest"]
theorem sc_look_group : FnScope N_look_group ["group", "least", "greatest"] (defScope s_look_group) := ⟨rfl, rfl, rfl, by decide +kernel, rfl, by decide +kernel, by decide +kernel⟩
abbrev s_whole_of : Stmt := topS 21
abbrev N_whole_of : List Str := ["many"]
theorem sc_whole_of : FnScope N_whole_of ["many"] (defScope s_whole_of) := ⟨rfl, rfl, rfl, by decide +kernel, rfl, by decide +kernel, by decide +kernel⟩
abbrev s_hands_of : Stmt := topS 22
abbrev N_hands_of : List Str := ["group", "hand"]
theorem sc_hands_of : FnScope N_hands_of ["group"] (defScope s_hands_of) := ⟨rfl, rfl, rfl, by decide +kernel, rfl, by decide +kernel, by decide +kernel⟩
abbrev s_size_of : Stmt := topS 23
abbrev N_size_of : List Str := ["group"]
theorem sc_size_of : FnScope N_size_of ["group"] (defScope s_size_of) := ⟨rfl, rfl, rfl, by decide +kernel, rfl, by decide +kernel, by decide +kernel⟩
abbrev s_look : Stmt := topS 25
abbrev N_look : List Str := ["table", "many", "number"]
theorem sc_look : FnScope N_look ["table"] (defScope s_look) := ⟨rfl, rfl, rfl, by decide +kernel, rfl, by decide +kernel, by decide +kernel⟩
abbrev s_dividends : Stmt := topS 27
abbrev N_dividends : List Str := ["table", "many", "found", "hand", "bit", "group"]
theorem sc_dividends : FnScope N_dividends ["table"] (defScope s_dividends) := ⟨rfl, rfl, rfl, by decide +kernel, rfl, by decide +kernel, by decide +kernel⟩
abbrev s_earned : Stmt := topS 28
abbrev N_earned : List Str := ["table", "many", "found", "hand", "bit", "group"]
theorem sc_earned : FnScope N_earned ["table"] (defScope s_earned) := ⟨rfl, rfl, rfl, by decide +kernel, rfl, by decide +kernel, by decide +kernel⟩
abbrev s_look_order : Stmt := topS 31
abbrev N_look_order : List Str := ["order", "many", "seen", "hand"]
theorem sc_look_order : FnScope N_look_order ["order", "many"] (defScope s_look_order) := ⟨rfl, rfl, rfl, by decide +kernel, rfl, by decide +kernel, by decide +kernel⟩
abbrev s_order_shares : Stmt := topS 32
abbrev N_order_shares : List Str := ["table", "order", "many", "shares", "group", "hand", "behind"]
theorem sc_order_shares : FnScope N_order_shares ["table", "order"] (defScope s_order_shares) := ⟨rfl, rfl, rfl, by decide +kernel, rfl, by decide +kernel, by decide +kernel⟩
abbrev s_mean_shares : Stmt := topS 33
abbrev N_mean_shares : List Str := ["table", "found", "tops", "group", "share", "hand", "top"]
theorem sc_mean_shares : FnScope N_mean_shares ["table"] (defScope s_mean_shares) := ⟨rfl, rfl, rfl, by decide +kernel, rfl, by decide +kernel, by decide +kernel⟩
abbrev s_adds_of : Stmt := topS 34
abbrev N_adds_of : List Str := ["table", "hand", "bit", "group"]
theorem sc_adds_of : FnScope N_adds_of ["table", "hand"] (defScope s_adds_of) := ⟨rfl, rfl, rfl, by decide +kernel, rfl, by decide +kernel, by decide +kernel⟩
abbrev s_turns : Stmt := topS 35
abbrev N_turns : List Str := ["table", "many", "hand"]
theorem sc_turns : FnScope N_turns ["table"] (defScope s_turns) := ⟨rfl, rfl, rfl, by decide +kernel, rfl, by decide +kernel, by decide +kernel⟩
abbrev s_are_alike : Stmt := topS 36
abbrev N_are_alike : List Str := ["table", "one", "other", "left", "right", "group"]
theorem sc_are_alike : FnScope N_are_alike ["table", "one", "other"] (defScope s_are_alike) := ⟨rfl, rfl, rfl, by decide +kernel, rfl, by decide +kernel, by decide +kernel⟩
abbrev s_alike : Stmt := topS 37
abbrev N_alike : List Str := ["table", "many", "found", "hand", "least"]
theorem sc_alike : FnScope N_alike ["table"] (defScope s_alike) := ⟨rfl, rfl, rfl, by decide +kernel, rfl, by decide +kernel, by decide +kernel⟩
abbrev s_idle : Stmt := topS 38
abbrev N_idle : List Str := ["table", "many", "hand"]
theorem sc_idle : FnScope N_idle ["table"] (defScope s_idle) := ⟨rfl, rfl, rfl, by decide +kernel, rfl, by decide +kernel, by decide +kernel⟩
abbrev s_swells : Stmt := topS 39
abbrev N_swells : List Str := ["table", "one", "other"]
theorem sc_swells : FnScope N_swells ["table"] (defScope s_swells) := ⟨rfl, rfl, rfl, by decide +kernel, rfl, by decide +kernel, by decide +kernel⟩
abbrev s__law_cell : Stmt := topS 41
abbrev N__law_cell : List Str := ["_law_script", "_law_k", "_law_number"]
theorem sc__law_cell : FnScope N__law_cell ["_law_script", "_law_k"] (defScope s__law_cell) := ⟨rfl, rfl, rfl, by decide +kernel, rfl, by decide +kernel, by decide +kernel⟩
abbrev s__law_numbers : Stmt := topS 42
abbrev N__law_numbers : List Str := ["_law_script", "_law_head", "_law_some", "_law_k", "_law_cell_here"]
theorem sc__law_numbers : FnScope N__law_numbers ["_law_script"] (defScope s__law_numbers) := ⟨rfl, rfl, rfl, by decide +kernel, rfl, by decide +kernel, by decide +kernel⟩
abbrev s__law_sums : Stmt := topS 43
abbrev N__law_sums : List Str := ["_law_some", "_law_table", "_law_group", "_law_k"]
theorem sc__law_sums : FnScope N__law_sums ["_law_some"] (defScope s__law_sums) := ⟨rfl, rfl, rfl, by decide +kernel, rfl, by decide +kernel, by decide +kernel⟩
abbrev s__law_none : Stmt := topS 44
abbrev N__law_none : List Str := ["_law_script", "_law_table", "_law_way", "_law_at", "_law_strange"]
theorem sc__law_none : FnScope N__law_none ["_law_script", "_law_table"] (defScope s__law_none) := ⟨rfl, rfl, rfl, by decide +kernel, rfl, by decide +kernel, by decide +kernel⟩
abbrev s__law_told : Stmt := topS 45
abbrev N__law_told : List Str := ["_law_which", "_law_table", "_law_order"]
theorem sc__law_told : FnScope N__law_told ["_law_which", "_law_table", "_law_order"] (defScope s__law_told) := ⟨rfl, rfl, rfl, by decide +kernel, rfl, by decide +kernel, by decide +kernel⟩
abbrev s__law_refused : Stmt := topS 46
abbrev N__law_refused : List Str := ["_law_which", "_law_table", "_law_order", "_law_told_here", "_law_other", "error"]
theorem sc__law_refused : FnScope N__law_refused ["_law_which", "_law_table", "_law_order"] (defScope s__law_refused) := ⟨rfl, rfl, rfl, by decide +kernel, rfl, by decide +kernel, by decide +kernel⟩
abbrev s__law_due : Stmt := topS 47
abbrev N__law_due : List Str := ["_law_which", "_law_some", "_law_table", "_law_due_here", "_law_k", "_law_singles", "_law_group", "_law_part", "_law_number"]
theorem sc__law_due : FnScope N__law_due ["_law_which", "_law_some", "_law_table"] (defScope s__law_due) := ⟨rfl, rfl, rfl, by decide +kernel, rfl, by decide +kernel, by decide +kernel⟩
abbrev s_law : Stmt := topS 48
abbrev N_law : List Str := ["_law_script", "_law_some", "_law_table", "_law_none_here", "_law_kept", "_law_orders", "_law_order", "_law_which"]
theorem sc_law : FnScope N_law ["_law_script"] (defScope s_law) := ⟨rfl, rfl, rfl, by decide +kernel, rfl, by decide +kernel, by decide +kernel⟩
structure Ads where
  a_is_whole : Addr
  d_is_whole : FuncData
  a_divisor : Addr
  d_divisor : FuncData
  a_shortest : Addr
  d_shortest : FuncData
  a_fraction : Addr
  d_fraction : FuncData
  a_look_group : Addr
  d_look_group : FuncData
  a_whole_of : Addr
  d_whole_of : FuncData
  a_hands_of : Addr
  d_hands_of : FuncData
  a_size_of : Addr
  d_size_of : FuncData
  a_look : Addr
  d_look : FuncData
  a_dividends : Addr
  d_dividends : FuncData
  a_earned : Addr
  d_earned : FuncData
  a_look_order : Addr
  d_look_order : FuncData
  a_order_shares : Addr
  d_order_shares : FuncData
  a_mean_shares : Addr
  d_mean_shares : FuncData
  a_adds_of : Addr
  d_adds_of : FuncData
  a_turns : Addr
  d_turns : FuncData
  a_are_alike : Addr
  d_are_alike : FuncData
  a_alike : Addr
  d_alike : FuncData
  a_idle : Addr
  d_idle : FuncData
  a_swells : Addr
  d_swells : FuncData
  a__law_cell : Addr
  d__law_cell : FuncData
  a__law_numbers : Addr
  d__law_numbers : FuncData
  a__law_sums : Addr
  d__law_sums : FuncData
  a__law_none : Addr
  d__law_none : FuncData
  a__law_told : Addr
  d__law_told : FuncData
  a__law_refused : Addr
  d__law_refused : FuncData
  a__law_due : Addr
  d__law_due : FuncData
  a_law : Addr
  d_law : FuncData
  ShareError : Addr
  NoNumber : Addr
  NoGroup : Addr
  NoRule : Addr
  NoText : Addr
  NoTable : Addr
  Unlike : Addr
  TooMany : Addr
  NoOrder : Addr
  NoRows : Addr
  NoShares : Addr
  NoVotes : Addr
  t_MOST : Tok
  t_SIXTY : Tok
/-- what the top has written -/
structure Txt (K : PySem.W.Frag) (mg : Str → Option Value) (A : Ads) : Prop where
  F_is_whole : Fun K "is_whole" "is_whole" s_is_whole A.a_is_whole A.d_is_whole
  b_is_whole : Binds K A.d_is_whole ["thing"] []
  g_is_whole : mg "is_whole" = some (.ref A.a_is_whole)
  F_divisor : Fun K "divisor" "divisor" s_divisor A.a_divisor A.d_divisor
  b_divisor : Binds K A.d_divisor ["one", "other"] []
  g_divisor : mg "divisor" = some (.ref A.a_divisor)
  F_shortest : Fun K "shortest" "shortest" s_shortest A.a_shortest A.d_shortest
  b_shortest : Binds K A.d_shortest ["top", "bottom"] []
  g_shortest : mg "shortest" = some (.ref A.a_shortest)
  F_fraction : Fun K "fraction" "fraction" s_fraction A.a_fraction A.d_fraction
  b_fraction : Binds K A.d_fraction ["top", "bottom"] []
  g_fraction : mg "fraction" = some (.ref A.a_fraction)
  F_look_group : Fun K "look_group" "look_group" s_look_group A.a_look_group A.d_look_group
  b_look_group : Binds K A.d_look_group ["group", "least", "greatest"] []
  g_look_group : mg "look_group" = some (.ref A.a_look_group)
  F_whole_of : Fun K "whole_of" "whole_of" s_whole_of A.a_whole_of A.d_whole_of
  b_whole_of : Binds K A.d_whole_of ["many"] []
  g_whole_of : mg "whole_of" = some (.ref A.a_whole_of)
  F_hands_of : Fun K "hands_of" "hands_of" s_hands_of A.a_hands_of A.d_hands_of
  b_hands_of : Binds K A.d_hands_of ["group"] []
  g_hands_of : mg "hands_of" = some (.ref A.a_hands_of)
  F_size_of : Fun K "size_of" "size_of" s_size_of A.a_size_of A.d_size_of
  b_size_of : Binds K A.d_size_of ["group"] []
  g_size_of : mg "size_of" = some (.ref A.a_size_of)
  F_look : Fun K "look" "look" s_look A.a_look A.d_look
  b_look : Binds K A.d_look ["table"] []
  g_look : mg "look" = some (.ref A.a_look)
  F_dividends : Fun K "dividends" "dividends" s_dividends A.a_dividends A.d_dividends
  b_dividends : Binds K A.d_dividends ["table"] []
  g_dividends : mg "dividends" = some (.ref A.a_dividends)
  F_earned : Fun K "earned" "earned" s_earned A.a_earned A.d_earned
  b_earned : Binds K A.d_earned ["table"] []
  g_earned : mg "earned" = some (.ref A.a_earned)
  F_look_order : Fun K "look_order" "look_order" s_look_order A.a_look_order A.d_look_order
  b_look_order : Binds K A.d_look_order ["order", "many"] []
  g_look_order : mg "look_order" = some (.ref A.a_look_order)
  F_order_shares : Fun K "order_shares" "order_shares" s_order_shares A.a_order_shares A.d_order_shares
  b_order_shares : Binds K A.d_order_shares ["table", "order"] []
  g_order_shares : mg "order_shares" = some (.ref A.a_order_shares)
  F_mean_shares : Fun K "mean_shares" "mean_shares" s_mean_shares A.a_mean_shares A.d_mean_shares
  b_mean_shares : Binds K A.d_mean_shares ["table"] []
  g_mean_shares : mg "mean_shares" = some (.ref A.a_mean_shares)
  F_adds_of : Fun K "adds_of" "adds_of" s_adds_of A.a_adds_of A.d_adds_of
  b_adds_of : Binds K A.d_adds_of ["table", "hand"] []
  g_adds_of : mg "adds_of" = some (.ref A.a_adds_of)
  F_turns : Fun K "turns" "turns" s_turns A.a_turns A.d_turns
  b_turns : Binds K A.d_turns ["table"] []
  g_turns : mg "turns" = some (.ref A.a_turns)
  F_are_alike : Fun K "are_alike" "are_alike" s_are_alike A.a_are_alike A.d_are_alike
  b_are_alike : Binds K A.d_are_alike ["table", "one", "other"] []
  g_are_alike : mg "are_alike" = some (.ref A.a_are_alike)
  F_alike : Fun K "alike" "alike" s_alike A.a_alike A.d_alike
  b_alike : Binds K A.d_alike ["table"] []
  g_alike : mg "alike" = some (.ref A.a_alike)
  F_idle : Fun K "idle" "idle" s_idle A.a_idle A.d_idle
  b_idle : Binds K A.d_idle ["table"] []
  g_idle : mg "idle" = some (.ref A.a_idle)
  F_swells : Fun K "swells" "swells" s_swells A.a_swells A.d_swells
  b_swells : Binds K A.d_swells ["table"] []
  g_swells : mg "swells" = some (.ref A.a_swells)
  F__law_cell : Fun K "_law_cell" "_law_cell" s__law_cell A.a__law_cell A.d__law_cell
  b__law_cell : Binds K A.d__law_cell ["_law_script", "_law_k"] []
  g__law_cell : mg "_law_cell" = some (.ref A.a__law_cell)
  F__law_numbers : Fun K "_law_numbers" "_law_numbers" s__law_numbers A.a__law_numbers A.d__law_numbers
  b__law_numbers : Binds K A.d__law_numbers ["_law_script"] []
  g__law_numbers : mg "_law_numbers" = some (.ref A.a__law_numbers)
  F__law_sums : Fun K "_law_sums" "_law_sums" s__law_sums A.a__law_sums A.d__law_sums
  b__law_sums : Binds K A.d__law_sums ["_law_some"] []
  g__law_sums : mg "_law_sums" = some (.ref A.a__law_sums)
  F__law_none : Fun K "_law_none" "_law_none" s__law_none A.a__law_none A.d__law_none
  b__law_none : Binds K A.d__law_none ["_law_script", "_law_table"] []
  g__law_none : mg "_law_none" = some (.ref A.a__law_none)
  F__law_told : Fun K "_law_told" "_law_told" s__law_told A.a__law_told A.d__law_told
  b__law_told : Binds K A.d__law_told ["_law_which", "_law_table", "_law_order"] []
  g__law_told : mg "_law_told" = some (.ref A.a__law_told)
  F__law_refused : Fun K "_law_refused" "_law_refused" s__law_refused A.a__law_refused A.d__law_refused
  b__law_refused : Binds K A.d__law_refused ["_law_which", "_law_table", "_law_order"] []
  g__law_refused : mg "_law_refused" = some (.ref A.a__law_refused)
  F__law_due : Fun K "_law_due" "_law_due" s__law_due A.a__law_due A.d__law_due
  b__law_due : Binds K A.d__law_due ["_law_which", "_law_some", "_law_table"] []
  g__law_due : mg "_law_due" = some (.ref A.a__law_due)
  F_law : Fun K "law" "law" s_law A.a_law A.d_law
  b_law : Binds K A.d_law ["_law_script"] []
  g_law : mg "law" = some (.ref A.a_law)
  g_ShareError : mg "ShareError" = some (.ref A.ShareError)
  g_NoNumber : mg "NoNumber" = some (.ref A.NoNumber)
  k_NoNumber : PySem.W.keepIn K (.ref A.NoNumber) = true
  e_NoNumber : PySem.W.subIn K (.ref A.NoNumber) (.type "BaseException") = some true
  t_NoNumber : PySem.W.typeIn K (.ref A.NoNumber) = some (.type "type")
  x_NoNumber : PySem.W.excIn K A.NoNumber [.type "ValueError", .type "Exception", .type "BaseException", .type "object"] "ValueError.__new__" = true
  g_NoGroup : mg "NoGroup" = some (.ref A.NoGroup)
  k_NoGroup : PySem.W.keepIn K (.ref A.NoGroup) = true
  e_NoGroup : PySem.W.subIn K (.ref A.NoGroup) (.type "BaseException") = some true
  t_NoGroup : PySem.W.typeIn K (.ref A.NoGroup) = some (.type "type")
  x_NoGroup : PySem.W.excIn K A.NoGroup [.type "ValueError", .type "Exception", .type "BaseException", .type "object"] "ValueError.__new__" = true
  g_NoRule : mg "NoRule" = some (.ref A.NoRule)
  g_NoText : mg "NoText" = some (.ref A.NoText)
  g_NoTable : mg "NoTable" = some (.ref A.NoTable)
  k_NoTable : PySem.W.keepIn K (.ref A.NoTable) = true
  e_NoTable : PySem.W.subIn K (.ref A.NoTable) (.type "BaseException") = some true
  t_NoTable : PySem.W.typeIn K (.ref A.NoTable) = some (.type "type")
  x_NoTable : PySem.W.excIn K A.NoTable [.type "ValueError", .type "Exception", .type "BaseException", .type "object"] "ValueError.__new__" = true
  g_Unlike : mg "Unlike" = some (.ref A.Unlike)
  g_TooMany : mg "TooMany" = some (.ref A.TooMany)
  g_NoOrder : mg "NoOrder" = some (.ref A.NoOrder)
  k_NoOrder : PySem.W.keepIn K (.ref A.NoOrder) = true
  e_NoOrder : PySem.W.subIn K (.ref A.NoOrder) (.type "BaseException") = some true
  t_NoOrder : PySem.W.typeIn K (.ref A.NoOrder) = some (.type "type")
  x_NoOrder : PySem.W.excIn K A.NoOrder [.type "ValueError", .type "Exception", .type "BaseException", .type "object"] "ValueError.__new__" = true
  g_NoRows : mg "NoRows" = some (.ref A.NoRows)
  g_NoShares : mg "NoShares" = some (.ref A.NoShares)
  g_NoVotes : mg "NoVotes" = some (.ref A.NoVotes)
  q_NoGroup : AskC K A.NoGroup
  q_NoNumber : AskC K A.NoNumber
  q_NoOrder : AskC K A.NoOrder
  q_NoRows : AskC K A.NoRows
  q_NoRule : AskC K A.NoRule
  q_NoShares : AskC K A.NoShares
  q_NoTable : AskC K A.NoTable
  q_NoText : AskC K A.NoText
  q_NoVotes : AskC K A.NoVotes
  q_ShareError : AskC K A.ShareError
  q_TooMany : AskC K A.TooMany
  q_Unlike : AskC K A.Unlike
  X_NoNumber : ExcC K A.NoNumber
  u_NoNumber_NoGroup : PySem.W.subIn K (.ref A.NoNumber) (.ref A.NoGroup) = some false
  u_NoNumber_NoNumber : PySem.W.subIn K (.ref A.NoNumber) (.ref A.NoNumber) = some true
  u_NoNumber_NoOrder : PySem.W.subIn K (.ref A.NoNumber) (.ref A.NoOrder) = some false
  u_NoNumber_NoRows : PySem.W.subIn K (.ref A.NoNumber) (.ref A.NoRows) = some false
  u_NoNumber_NoRule : PySem.W.subIn K (.ref A.NoNumber) (.ref A.NoRule) = some false
  u_NoNumber_NoShares : PySem.W.subIn K (.ref A.NoNumber) (.ref A.NoShares) = some false
  u_NoNumber_NoTable : PySem.W.subIn K (.ref A.NoNumber) (.ref A.NoTable) = some false
  u_NoNumber_NoText : PySem.W.subIn K (.ref A.NoNumber) (.ref A.NoText) = some false
  u_NoNumber_NoVotes : PySem.W.subIn K (.ref A.NoNumber) (.ref A.NoVotes) = some false
  u_NoNumber_ShareError : PySem.W.subIn K (.ref A.NoNumber) (.ref A.ShareError) = some true
  u_NoNumber_TooMany : PySem.W.subIn K (.ref A.NoNumber) (.ref A.TooMany) = some false
  u_NoNumber_Unlike : PySem.W.subIn K (.ref A.NoNumber) (.ref A.Unlike) = some false
  v_NoNumber : PySem.W.subIn K (.ref A.NoNumber) (.type "ValueError") = some true
  h_NoNumber_ShareError : PySem.W.exmOne K (.ref A.NoNumber) (.ref A.ShareError) = some true
  X_NoGroup : ExcC K A.NoGroup
  u_NoGroup_NoGroup : PySem.W.subIn K (.ref A.NoGroup) (.ref A.NoGroup) = some true
  u_NoGroup_NoNumber : PySem.W.subIn K (.ref A.NoGroup) (.ref A.NoNumber) = some false
  u_NoGroup_NoOrder : PySem.W.subIn K (.ref A.NoGroup) (.ref A.NoOrder) = some false
  u_NoGroup_NoRows : PySem.W.subIn K (.ref A.NoGroup) (.ref A.NoRows) = some false
  u_NoGroup_NoRule : PySem.W.subIn K (.ref A.NoGroup) (.ref A.NoRule) = some false
  u_NoGroup_NoShares : PySem.W.subIn K (.ref A.NoGroup) (.ref A.NoShares) = some false
  u_NoGroup_NoTable : PySem.W.subIn K (.ref A.NoGroup) (.ref A.NoTable) = some false
  u_NoGroup_NoText : PySem.W.subIn K (.ref A.NoGroup) (.ref A.NoText) = some false
  u_NoGroup_NoVotes : PySem.W.subIn K (.ref A.NoGroup) (.ref A.NoVotes) = some false
  u_NoGroup_ShareError : PySem.W.subIn K (.ref A.NoGroup) (.ref A.ShareError) = some true
  u_NoGroup_TooMany : PySem.W.subIn K (.ref A.NoGroup) (.ref A.TooMany) = some false
  u_NoGroup_Unlike : PySem.W.subIn K (.ref A.NoGroup) (.ref A.Unlike) = some false
  v_NoGroup : PySem.W.subIn K (.ref A.NoGroup) (.type "ValueError") = some true
  h_NoGroup_ShareError : PySem.W.exmOne K (.ref A.NoGroup) (.ref A.ShareError) = some true
  X_NoTable : ExcC K A.NoTable
  u_NoTable_NoGroup : PySem.W.subIn K (.ref A.NoTable) (.ref A.NoGroup) = some false
  u_NoTable_NoNumber : PySem.W.subIn K (.ref A.NoTable) (.ref A.NoNumber) = some false
  u_NoTable_NoOrder : PySem.W.subIn K (.ref A.NoTable) (.ref A.NoOrder) = some false
  u_NoTable_NoRows : PySem.W.subIn K (.ref A.NoTable) (.ref A.NoRows) = some false
  u_NoTable_NoRule : PySem.W.subIn K (.ref A.NoTable) (.ref A.NoRule) = some false
  u_NoTable_NoShares : PySem.W.subIn K (.ref A.NoTable) (.ref A.NoShares) = some false
  u_NoTable_NoTable : PySem.W.subIn K (.ref A.NoTable) (.ref A.NoTable) = some true
  u_NoTable_NoText : PySem.W.subIn K (.ref A.NoTable) (.ref A.NoText) = some false
  u_NoTable_NoVotes : PySem.W.subIn K (.ref A.NoTable) (.ref A.NoVotes) = some false
  u_NoTable_ShareError : PySem.W.subIn K (.ref A.NoTable) (.ref A.ShareError) = some true
  u_NoTable_TooMany : PySem.W.subIn K (.ref A.NoTable) (.ref A.TooMany) = some false
  u_NoTable_Unlike : PySem.W.subIn K (.ref A.NoTable) (.ref A.Unlike) = some false
  v_NoTable : PySem.W.subIn K (.ref A.NoTable) (.type "ValueError") = some true
  h_NoTable_ShareError : PySem.W.exmOne K (.ref A.NoTable) (.ref A.ShareError) = some true
  X_NoOrder : ExcC K A.NoOrder
  u_NoOrder_NoGroup : PySem.W.subIn K (.ref A.NoOrder) (.ref A.NoGroup) = some false
  u_NoOrder_NoNumber : PySem.W.subIn K (.ref A.NoOrder) (.ref A.NoNumber) = some false
  u_NoOrder_NoOrder : PySem.W.subIn K (.ref A.NoOrder) (.ref A.NoOrder) = some true
  u_NoOrder_NoRows : PySem.W.subIn K (.ref A.NoOrder) (.ref A.NoRows) = some false
  u_NoOrder_NoRule : PySem.W.subIn K (.ref A.NoOrder) (.ref A.NoRule) = some false
  u_NoOrder_NoShares : PySem.W.subIn K (.ref A.NoOrder) (.ref A.NoShares) = some false
  u_NoOrder_NoTable : PySem.W.subIn K (.ref A.NoOrder) (.ref A.NoTable) = some false
  u_NoOrder_NoText : PySem.W.subIn K (.ref A.NoOrder) (.ref A.NoText) = some false
  u_NoOrder_NoVotes : PySem.W.subIn K (.ref A.NoOrder) (.ref A.NoVotes) = some false
  u_NoOrder_ShareError : PySem.W.subIn K (.ref A.NoOrder) (.ref A.ShareError) = some true
  u_NoOrder_TooMany : PySem.W.subIn K (.ref A.NoOrder) (.ref A.TooMany) = some false
  u_NoOrder_Unlike : PySem.W.subIn K (.ref A.NoOrder) (.ref A.Unlike) = some false
  v_NoOrder : PySem.W.subIn K (.ref A.NoOrder) (.type "ValueError") = some true
  h_NoOrder_ShareError : PySem.W.exmOne K (.ref A.NoOrder) (.ref A.ShareError) = some true
  c_MOST : mg "MOST" = some (.int 6 A.t_MOST)
  c_SIXTY : mg "SIXTY" = some (.int 60 A.t_SIXTY)
  z_ValueError : mg "ValueError" = none
  z_abs : mg "abs" = none
  z_any : mg "any" = none
  z_int : mg "int" = none
  z_isinstance : mg "isinstance" = none
  z_len : mg "len" = none
  z_list : mg "list" = none
  z_range : mg "range" = none
  z_str : mg "str" = none
  z_sum : mg "sum" = none
local macro_rules | `(tactic| walk_at "x") => `(tactic| repeat (first
  | with_reducible refine x_seq ?_ | with_reducible refine x_asg ?_ | with_reducible refine x_op ?_ | with_reducible refine x_un ?_ | ((with_reducible refine' x_var ?e ?_); (case e => rfl)) | with_reducible refine x_c ?_
  | with_reducible refine x_if ?_ | with_reducible refine x_test ?_ | with_reducible refine x_B ?_ | with_reducible refine x_ex ?_ | with_reducible refine x_exI ?_ | with_reducible refine x_ret ?_ | with_reducible refine x_drop ?_
  | with_reducible refine x_rev ?_ | with_reducible refine x_lstRg1 ?_ | with_reducible refine x_dIn ?_ | with_reducible refine x_dPut ?_ | with_reducible refine x_dNew ?_ | with_reducible refine x_par ?_ | with_reducible refine x_call ?_ | with_reducible refine x_callS ?_ | with_reducible refine x_cons ?_ | with_reducible refine x_nil ?_ | with_reducible refine x_cb ?_
  | with_reducible refine x_addI ?_ | with_reducible refine x_subI ?_ | with_reducible refine x_ltI ?_ | with_reducible refine x_leI ?_ | with_reducible refine x_gtI ?_ | with_reducible refine x_geI ?_ | with_reducible refine x_eqI ?_ | with_reducible refine x_neI ?_
  | with_reducible refine x_eqS ?_ | with_reducible refine x_eqB ?_ | with_reducible refine x_isX ?_ | with_reducible refine x_isN ?_ | with_reducible refine x_notN ?_ | with_reducible refine x_ipI ?_
  | with_reducible refine x_andI ?_ | with_reducible refine x_orI ?_ | with_reducible refine x_xorI ?_ | with_reducible refine x_U ?_
  | with_reducible refine x_and ?_ | with_reducible refine x_or ?_ | with_reducible refine x_not ?_ | with_reducible refine x_andV ?_ | with_reducible refine x_orV ?_ | with_reducible refine x_notV ?_ | with_reducible refine x_ifE ?_
  | with_reducible refine x_for ?_ | with_reducible refine x_iList ?_ | with_reducible refine x_iTup ?_ | with_reducible refine x_iR1 ?_ | with_reducible refine x_iR2 ?_ | with_reducible refine x_iZip ?_ | with_reducible refine x_iEnum ?_ | with_reducible refine x_iR3 ?_ | with_reducible refine x_ev ?_
  | with_reducible refine x_meth ?_ | with_reducible refine x_methS ?_ | with_reducible refine x_base ?_ | with_reducible refine x_fld ?_ | with_reducible refine x_sfld ?_ | with_reducible refine x_make ?_ | with_reducible refine x_dNewT ?_ | with_reducible refine x_dInT ?_ | with_reducible refine x_dPutT ?_ | with_reducible refine x_dGetT ?_
  | with_reducible refine x_sl ?_ | with_reducible refine x_noPart ?_ | with_reducible refine x_part ?_ | with_reducible refine x_asgS ?_ | with_reducible refine x_augS ?_ | ((with_reducible refine' x_aug ?e ?_); (case e => rfl))
  | with_reducible refine x_bm ?_ | with_reducible refine x_bm0 ?_ | with_reducible refine x_tup ?_ | with_reducible refine x_lst ?_ | with_reducible refine x_next ?_ | with_reducible refine x_retN ?_ | with_reducible refine x_brk ?_ | with_reducible refine x_ct ?_
  | with_reducible refine x_lc ?_ | with_reducible refine x_yes ?_ | with_reducible refine x_gn ?_ | with_reducible refine x_gc ?_ | with_reducible refine x_g0 ?_ | with_reducible refine x_abs ?_ | with_reducible refine x_max2 ?_ | with_reducible refine x_min2 ?_))
local macro_rules | `(tactic| walk_at "sq") => `(tactic| first
  | assumption | exact .inl (by assumption) | exact Own.sq (by assumption) 0 rfl | exact Own.sq (by assumption) 1 rfl | exact Own.sq (by assumption) 2 rfl | exact Own.sq (by assumption) 3 rfl
  | exact Own.seq (by assumption) (by first | assumption | exact .inl (by assumption)))
section
variable {P : Program} {w : World} {K : PySem.W.Frag} {mg : Str → Option Value} {base : Heap} {A : Ads}
/-! ### is_whole -/
def sp_is_whole : Sp := fun vs H Q _ => ∃ v, vs = [v] ∧ Thing H v ∧ RetV (.bl (isI v)) H Q
theorem ok_is_whole (T : Txt K mg A) : FnOk P w K mg base (L2.CX P w) 1 A.a_is_whole A.d_is_whole ["thing"] sp_is_whole := by
  refine T.F_is_whole.okX sc_is_whole (fun vs H Q E h => ?_) (fun cdv A0 outer s H vs Q E hr h => ?_)
  · obtain ⟨v, rfl, _⟩ := h; rfl
  · obtain ⟨v, rfl, hv, k⟩ := h
    refine ⟨_, (pss_cons (ps_if (PW.pt (pw_or (pt_cmpR op_isX (pv 0) pe_bl (nomark _)) (pw_or1 (pt_cmpR op_isX (pv 0) pe_bl (nomark _))))) (pss_one (ps_ret pe_bl)) pss_nil)
      (pss_one (ps_ret (pe_callB (call_isiX (K := K) rfl) (by rfl) T.z_isinstance (by decide +kernel) (pa_cons (pv 0) (pa_cons (pe_bltn (v := .ty "int") (by rfl) T.z_int (by decide +kernel) rfl) pa_nil)))))), ?_⟩
    walk_at "x"
    have go : isB v = false → rIsi K [v, .ty "int"] H Q := fun e => x_isiInt hv (by rw [e, Bool.or_false]; exact k.go (Same.refl H))
    cases v with
    | bl b =>
      cases b
      · refine iteF ?_
        walk_at "x"
        exact iteT (k.go (Same.refl H))
      · exact iteT (iteT (k.go (Same.refl H)))
    | _ =>
      refine iteF ?_
      walk_at "x"
      refine iteF ?_
      walk_at "x"
      exact go rfl

/-! ### divisor -/
def sp_divisor : Sp := fun vs H Q _ => ∃ (a b : Int) (B : Nat), vs = [.int a, .int b] ∧ Bits B a b ∧ RetV (.int (gcdI a b)) H Q
theorem bigs {n B : Nat} (h : n ≤ 2 * B + 3) (hB : B ≤ 9000) : n < sizeLine := Nat.lt_of_le_of_lt (show n ≤ 18003 by omega) (by decide)
theorem ok_divisor (T : Txt K mg A) : FnOk P w K mg base (L2.CX P w) 1 A.a_divisor A.d_divisor ["one", "other"] sp_divisor := by
  refine T.F_divisor.okX sc_divisor (fun vs H Q E h => ?_) (fun cdv A0 outer s H vs Q E hr h => ?_)
  · obtain ⟨a, b, B, rfl, _⟩ := h; rfl
  · obtain ⟨a, b, B, rfl, ⟨hB, ha, hb⟩, k⟩ := h
    have w := Own.start (H := H)
    refine ⟨_, (pss_cons (ps_set (i := 2) sc_divisor.nd rfl (.inl rfl) (pe_lst (pa_cons (pe_callB call_absX (by rfl) T.z_abs (by decide +kernel) (pa_cons (pv 0) pa_nil)) (pa_cons (pe_callB call_absX (by rfl) T.z_abs (by decide +kernel) (pa_cons (pv 1) pa_nil)) pa_nil))))
      (pss_cons (ps_while (passes_of rfl) (pt_cmpR (op_neK (K := K) rfl hr.units) (pe_ix (ix_seqK (K := K) rfl) (pv 2) (pe_un un_neg pe_int) (fun _ _ => rfl)) pe_int (nomark _)) (pss_one (ps_expr (pe_bm PySem.F.plainAttrs_list PySem.F.slot_list_append PySem.F.type_list_append mt_append (pv 2) (pa_cons (pe_op op_modX (pe_ix (ix_seqK (K := K) rfl) (pv 2) (pe_un un_neg pe_int) (fun _ _ => rfl)) (pe_ix (ix_seqK (K := K) rfl) (pv 2) (pe_un un_neg pe_int) (fun _ _ => rfl))) pa_nil)))))
      (pss_one (ps_ret (pe_ix (ix_seqK (K := K) rfl) (pv 2) (pe_un un_neg pe_int) (fun _ _ => rfl)))))), ?_⟩
    walk_at "x"
    rw [abs_nat, abs_nat]
    refine ⟨(by show 2 ≤ sizeLine; decide), fun p np => ?_⟩
    have w1 := w.new (o := .lst ([a.natAbs, b.natAbs].map vnat)) np
    walk_at "x"
    -- the first rest
    refine x_while (fun m σ' H' => ∃ (l : List Nat) (x y j : Nat), σ' = [some (.int a), some (.int b), some (.ref p)] ∧ Own H [(p, .lst ((l ++ [x, y]).map vnat))] H' ∧ m = y ∧ Nat.gcd x y = Int.gcd a b ∧
      ((l = [] ∧ x < 2 ^ B ∧ y < 2 ^ B) ∨ (y ≤ x ∧ x * y < 2 ^ j ∧ l.length + j ≤ 2 * B + 1))) b.natAbs ⟨[], a.natAbs, b.natAbs, 0, rfl, w1, rfl, rfl, .inl ⟨rfl, ha, hb⟩⟩ ?_
    rintro m σ' H' ⟨l, x, y, j, rfl, w2, rfl, hg, hinv⟩
    obtain ⟨e1, e2⟩ := last2 l x m
    walk_at "x"
    refine x_ixXL (w2.sq 0 rfl) e1 ?_
    walk_at "x"
    cases m with
    | zero =>
      refine iteF ?_
      walk_at "x"
      refine x_ixXL (w2.sq 0 rfl) e2 ?_
      have : gcdI a b = (x : Int) := by unfold gcdI; rw [← hg, Nat.gcd_zero_right]
      rw [this] at k
      exact k.go w2.ex
    | succ m =>
      refine iteT ?_
      refine x_N ?_
      walk_at "x"
      refine ⟨x_tyL (w2.get 0 rfl), ?_⟩
      walk_at "x"
      refine x_ixXL (w2.sq 0 rfl) e2 ?_
      walk_at "x"
      refine x_ixXL (w2.sq 0 rfl) e1 ?_
      refine x_modP (by omega) ?_
      walk_at "x"
      rw [show (x : Int) % ((m + 1 : Nat) : Int) = ((x % (m + 1) : Nat) : Int) from rfl]
      have next : x % (m + 1) < m + 1 := Nat.mod_lt _ (Nat.succ_pos m)
      refine x_append (w2.get 0 rfl) ?_ ?_
      · rw [List.length_map, List.length_append]
        refine bigs (B := B) ?_ hB
        show l.length + 2 ≤ _
        rcases hinv with ⟨rfl, _, _⟩ | ⟨_, _, h⟩
        · show 0 + 2 ≤ _; omega
        · omega
      · have w3 := w2.put (o' := .lst (((l ++ [x]) ++ [m + 1, x % (m + 1)]).map vnat)) 0 rfl
        have el : ((l ++ [x]) ++ [m + 1, x % (m + 1)]).map vnat = (l ++ [x, m + 1]).map vnat ++ [vnat (x % (m + 1))] := by simp
        rw [el] at w3
        have step : ∀ j', l.length + 1 + j' ≤ 2 * B + 1 → (m + 1) * (x % (m + 1)) < 2 ^ j' → ∃ m', m' < m + 1 ∧ ∃ (l' : List Nat) (x' y' j : Nat), [some (V.int a), some (.int b), some (.ref p)] = [some (.int a), some (.int b), some (.ref p)] ∧ Own H [(p, .lst ((l' ++ [x', y']).map vnat))] (upd H' p (.lst ((l ++ [x, m + 1]).map vnat ++ [vnat (x % (m + 1))]))) ∧ m' = y' ∧ Nat.gcd x' y' = Int.gcd a b ∧
          ((l' = [] ∧ x' < 2 ^ B ∧ y' < 2 ^ B) ∨ (y' ≤ x' ∧ x' * y' < 2 ^ j ∧ l'.length + j ≤ 2 * B + 1)) := fun j' h1 h2 =>
          ⟨_, next, l ++ [x], m + 1, x % (m + 1), j', rfl, by rw [el]; exact w3, rfl, by rw [gcd_step, hg], .inr ⟨Nat.le_of_lt next, h2, by rw [List.length_append]; exact h1⟩⟩
        rcases hinv with ⟨rfl, hx, hy⟩ | ⟨hyx, hxy, hj⟩
        · refine step (2 * B) (by show 0 + 1 + 2 * B ≤ _; omega) ?_
          rw [show 2 * B = B + B by omega, Nat.pow_add]
          exact Nat.mul_lt_mul'' hy (Nat.lt_of_le_of_lt (Nat.mod_le _ _) hx)
        · obtain ⟨h1, h2⟩ := halve (Nat.succ_pos m) hyx hxy
          exact step (j - 1) (by omega) h1

/-! ### shortest -/
def sp_shortest : Sp := fun vs H Q _ => ∃ (a b : Int) (B : Nat), vs = [.int a, .int b] ∧ Bits B a b ∧ b ≠ 0 ∧ RetT [.int (shortM a b).1, .int (shortM a b).2] H Q
theorem ok_shortest (T : Txt K mg A) : FnOk P w K mg base (L2.CX P w) 2 A.a_shortest A.d_shortest ["top", "bottom"] sp_shortest := by
  refine T.F_shortest.okX sc_shortest (fun vs H Q E h => ?_) (fun cdv A0 outer s H vs Q E hr h => ?_)
  · obtain ⟨a, b, B, rfl, _⟩ := h; rfl
  · obtain ⟨a, b, B, rfl, hB, h0, k⟩ := h
    have w := Own.start (H := H)
    have hg : 0 < gcdI a b := by have := gcd_pos (a := a) h0; unfold gcdI; omega
    have hl := gcd_log h0 hB
    refine ⟨_, (pss_cons (ps_set (i := 2) sc_shortest.nd rfl (.inl rfl) (pe_call (ok_divisor T) (hr.mono (by decide)) (by rfl) T.g_divisor T.F_divisor.kp T.b_divisor .nil (passes_call (takes_of rfl rfl rfl rfl) (fun _ _ _ _ h => h)) (pa_cons (pv 0) (pa_cons (pv 1) pa_nil))))
      (pss_cons (ps_if (pt_cmpR op_gtX (pv 1) pe_int (nomark _)) (pss_one (ps_ret (pe_tup (pa_cons (pe_op op_fdivX (pv 0) (pv 2)) (pa_cons (pe_op op_fdivX (pv 1) (pv 2)) pa_nil))))) pss_nil)
      (pss_one (ps_ret (pe_tup (pa_cons (pe_op op_subX pe_int (pe_op op_fdivX (pv 0) (pv 2))) (pa_cons (pe_op op_subX pe_int (pe_op op_fdivX (pv 1) (pv 2))) pa_nil))))))), ?_⟩
    walk_at "x"
    refine ⟨a, b, B, rfl, hB, fun H1 s1 => ?_⟩
    have w1 := w.ext s1
    unfold shortM at k
    walk_at "x"
    refine ite2 (fun c => ?_) (fun c => ?_)
    · rw [if_pos (of_decide_eq_true c)] at k
      walk_at "x"
      refine x_divP hg hl ?_
      walk_at "x"
      refine x_divP hg hl ?_
      refine ⟨(by show 2 ≤ sizeLine; decide), fun p np => ?_⟩
      exact k.go (w1.new (o := .tup [.int (a / gcdI a b), .int (b / gcdI a b)]) np)
    · rw [if_neg (fun h => c (decide_eq_true h))] at k
      walk_at "x"
      refine x_divP hg hl ?_
      walk_at "x"
      refine x_divP hg hl ?_
      walk_at "x"
      refine ⟨(by show 2 ≤ sizeLine; decide), fun p np => ?_⟩
      exact k.go (w1.new (o := .tup [.int (0 - a / gcdI a b), .int (0 - b / gcdI a b)]) np)

/-! ### fraction -/
def sp_fraction (A : Ads) : Sp := fun vs H Q E => ∃ (u v : V), vs = [u, v] ∧ Thing H u ∧ Thing H v ∧ (∀ a b, u = .int a → v = .int b → b ≠ 0 → (∃ B, Bits B a b) ∧ RetT [.int (shortM a b).1, .int (shortM a b).2] H Q) ∧
  ((isI u = false ∨ isI v = false ∨ v = .int 0) → ∀ H', Same H H' → E (.ref A.NoNumber) none H')
theorem u_fraction {H : Hp} {Q : VK} {E : XK} {a b : Int} {B : Nat} (hB : Bits B a b) (h0 : b ≠ 0) (q : RetT [.int (shortM a b).1, .int (shortM a b).2] H Q) : sp_fraction A [.int a, .int b] H Q E :=
  ⟨_, _, rfl, .int a, .int b, fun a' b' e1 e2 _ => by
    cases e1; cases e2
    exact ⟨⟨B, hB⟩, q⟩, fun h => by
    rcases h with h | h | h
    · cases h
    · cases h
    · exact absurd (V.int.inj h) h0⟩
theorem isI_int {u : V} (h : isI u = true) : ∃ a, u = .int a := by cases u <;> first | exact ⟨_, rfl⟩ | cases h
theorem ok_fraction (T : Txt K mg A) : FnOk P w K mg base (L2.CX P w) 3 A.a_fraction A.d_fraction ["top", "bottom"] (sp_fraction A) := by
  refine T.F_fraction.okX sc_fraction (fun vs H Q E h => ?_) (fun cdv A0 outer s H vs Q E hr h => ?_)
  · obtain ⟨u, v, rfl, _⟩ := h; rfl
  · obtain ⟨u, v, rfl, hu, hv, k, kE⟩ := h
    have w := Own.start (H := H)
    refine ⟨_, (pss_cons (ps_for (passes_of rfl) rfl (pi_listK (K := K) rfl (pe_lst (pa_cons (pv 0) (pa_cons (pv 1) pa_nil)))) (pg_name (i := 2) sc_fraction.nd rfl (.inl rfl)) (pss_one (ps_if (pt_not (pt_val (pe_call (ok_is_whole T) (hr.mono (by decide)) (by rfl) T.g_is_whole T.F_is_whole.kp T.b_is_whole .nil (passes_call (takes_of rfl rfl rfl rfl) (fun _ _ _ _ h => h)) (pa_cons (pv 2) pa_nil)))) (pss_one (ps_raise rfl (takes_of rfl rfl rfl rfl) (pmk_own PySem.F.excBase_ValueError T.x_NoNumber T.g_NoNumber T.k_NoNumber (raises_own T.e_NoNumber T.t_NoNumber) (by rfl)))) pss_nil)))
      (pss_cons (ps_if (pt_cmpR (op_eqK (K := K) rfl hr.units) (pv 1) pe_int (nomark _)) (pss_one (ps_raise rfl (takes_of rfl rfl rfl rfl) (pmk_own PySem.F.excBase_ValueError T.x_NoNumber T.g_NoNumber T.k_NoNumber (raises_own T.e_NoNumber T.t_NoNumber) (by rfl)))) pss_nil)
      (pss_one (ps_ret (pe_call (ok_shortest T) (hr.mono (by decide)) (by rfl) T.g_shortest T.F_shortest.kp T.b_shortest .nil (passes_call (takes_of rfl rfl rfl rfl) (fun _ _ _ _ h => h)) (pa_cons (pv 0) (pa_cons (pv 1) pa_nil))))))), ?_⟩
    walk_at "x"
    refine ⟨(by show 2 ≤ sizeLine; decide), fun p np => ?_⟩
    have w1 := w.new (o := .lst [u, v]) np
    walk_at "x"
    refine ⟨_, rfl, ⟨_, w1.sq 0 rfl⟩, for_list (xs := [u, v]) (fun i σ' H' => (∃ v1, σ' = [some u, some v, v1]) ∧ Own H [(p, .lst [u, v])] H' ∧ (0 < i → isI u = true) ∧ (1 < i → isI v = true)) ⟨⟨_, rfl⟩, w1, (fun h => absurd h (by decide)), (fun h => absurd h (by decide))⟩ (fun i σ' H' _ h => h.2.1.sq 0 rfl) ?_ ?_⟩
    · rintro i x σ' H' hx ⟨⟨v1, rfl⟩, w2, c0, c1⟩
      have hx2 : (i = 0 ∧ x = u) ∨ (i = 1 ∧ x = v) := by
        match i, hx with
        | 0, hx => exact .inl ⟨rfl, (Option.some.inj hx).symm⟩
        | 1, hx => exact .inr ⟨rfl, (Option.some.inj hx).symm⟩
      have hT : Thing H x := by
        rcases hx2 with ⟨_, rfl⟩ | ⟨_, rfl⟩
        · exact hu
        · exact hv
      walk_at "x"
      refine ⟨x, rfl, hT.same w2.ex, fun H2 s2 => ?_⟩
      have w3 := w2.ext s2
      walk_at "x"
      cases c : isI x with
      | false =>
        refine iteT ?_
        refine kE ?_ _ w3.ex
        rcases hx2 with ⟨_, rfl⟩ | ⟨_, rfl⟩
        · exact .inl c
        · exact .inr (.inl c)
      | true =>
        refine iteF ?_
        walk_at "x"
        refine ⟨⟨_, rfl⟩, w3, fun h => ?_, fun h => ?_⟩
        · rcases hx2 with ⟨_, rfl⟩ | ⟨rfl, rfl⟩
          · exact c
          · exact c0 (by decide)
        · rcases hx2 with ⟨rfl, rfl⟩ | ⟨_, rfl⟩
          · exact absurd h (by decide)
          · exact c
    · rintro σ' H' ⟨⟨v1, rfl⟩, w2, c0, c1⟩
      have d0 := c0 (show 0 < 2 by decide)
      have d1 := c1 (show 1 < 2 by decide)
      obtain ⟨a, rfl⟩ : ∃ a, u = .int a := isI_int d0
      obtain ⟨b, rfl⟩ : ∃ a, v = .int a := isI_int d1
      walk_at "x"
      refine ite2 (fun c => ?_) (fun c => ?_)
      · refine kE (.inr (.inr ?_)) _ w2.ex
        rw [of_decide_eq_true c]
      · have h0 : b ≠ 0 := fun h => c (decide_eq_true h)
        obtain ⟨⟨B, hB⟩, q⟩ := k a b rfl rfl h0
        walk_at "x"
        exact ⟨a, b, B, rfl, hB, h0, fun p2 H2 n2 s2 c2 => q p2 H2 (w2.ex.free n2) (w2.ex.trans s2) c2⟩

/-! ### look_group -/
def sp_look_group (A : Ads) : Sp := fun vs H Q E => ∃ (v : V) (l g : Int), vs = [v, .int l, .int g] ∧ Thing H v ∧ (inR v l g → RetV .non H Q) ∧ (¬ inR v l g → ∀ H', Same H H' → E (.ref A.NoGroup) none H')
theorem ok_look_group (T : Txt K mg A) : FnOk P w K mg base (L2.CX P w) 2 A.a_look_group A.d_look_group ["group", "least", "greatest"] (sp_look_group A) := by
  refine T.F_look_group.okX sc_look_group (fun vs H Q E h => ?_) (fun cdv A0 outer s H vs Q E hr h => ?_)
  · obtain ⟨v, l, g, rfl, _⟩ := h; rfl
  · obtain ⟨v, l, g, rfl, hT, k, kE⟩ := h
    refine ⟨_, (pss_one (ps_if (PW.pt (pw_or (pt_not (pt_val (pe_call (ok_is_whole T) (hr.mono (by decide)) (by rfl) T.g_is_whole T.F_is_whole.kp T.b_is_whole .nil (passes_call (takes_of rfl rfl rfl rfl) (fun _ _ _ _ h => h)) (pa_cons (pv 0) pa_nil)))) (pw_or (pt_cmpR op_ltX (pv 0) (pv 1) (nomark _)) (pw_or1 (pt_cmpR op_gtX (pv 0) (pv 2) (nomark _)))))) (pss_one (ps_raise rfl (takes_of rfl rfl rfl rfl) (pmk_own PySem.F.excBase_ValueError T.x_NoGroup T.g_NoGroup T.k_NoGroup (raises_own T.e_NoGroup T.t_NoGroup) (by rfl)))) pss_nil)), ?_⟩
    walk_at "x"
    refine ⟨v, rfl, hT, fun H1 s1 => ?_⟩
    walk_at "x"
    cases hI : isI v with
    | false =>
      refine iteT ?_
      refine iteT (kE (fun ⟨z, e, _⟩ => ?_) H1 s1)
      rw [e] at hI; cases hI
    | true =>
      refine iteF ?_
      walk_at "x"
      obtain ⟨z, rfl⟩ : ∃ z, v = .int z := by
        cases v with
        | int z => exact ⟨z, rfl⟩
        | _ => cases hI
      walk_at "x"
      by_cases c1 : z < l
      · rw [decide_eq_true c1]
        refine iteT (iteT (kE (fun ⟨y, e, h1, h2⟩ => ?_) H1 s1))
        obtain rfl := V.int.inj e
        omega
      · rw [decide_eq_false c1]
        refine iteF ?_
        walk_at "x"
        by_cases c2 : g < z
        · rw [decide_eq_true c2]
          refine iteT (kE (fun ⟨y, e, h1, h2⟩ => ?_) H1 s1)
          obtain rfl := V.int.inj e
          omega
        · rw [decide_eq_false c2]
          refine iteF ?_
          walk_at "x"
          exact k ⟨z, rfl, by omega, by omega⟩ H1 s1

/-! ### whole_of -/
def sp_whole_of : Sp := fun vs H Q _ => ∃ k : Nat, vs = [.int (k : Int)] ∧ k ≤ 1000 ∧ RetV (.int (((2 ^ k : Nat) : Int) - 1)) H Q
theorem ok_whole_of (T : Txt K mg A) : FnOk P w K mg base (L2.CX P w) 1 A.a_whole_of A.d_whole_of ["many"] sp_whole_of := by
  refine T.F_whole_of.okX sc_whole_of (fun vs H Q E h => ?_) (fun cdv A0 outer s H vs Q E hr h => ?_)
  · obtain ⟨n, rfl, _⟩ := h; rfl
  · obtain ⟨n, rfl, hn, k⟩ := h
    refine ⟨_, (pss_one (ps_ret (pe_op op_subX (pe_op op_shlX pe_int (pv 0)) pe_int))), ?_⟩
    walk_at "x"
    refine x_shl ⟨by omega, by omega, by decide⟩ ?_
    rw [shl_nat]
    walk_at "x"
    exact k.go (Same.refl H)

/-! ### hands_of -/
def sp_hands_of (A : Ads) : Sp := fun vs H Q E => ∃ v : V, vs = [v] ∧ Thing H v ∧ (∀ g : Nat, v = .int (g : Int) → g < 64 → RetL ((handsM g).map vnat) H Q) ∧ (¬ inR v 0 63 → ∀ H', Same H H' → E (.ref A.NoGroup) none H')
theorem u_hands_of {H : Hp} {Q : VK} {E : XK} {g : Nat} (hg : g < 64) (q : RetL ((handsM g).map vnat) H Q) : sp_hands_of A [.int (g : Int)] H Q E :=
  ⟨_, rfl, .int _, fun g' e _ => by
    have : g = g' := by have := V.int.inj e; omega
    exact this ▸ q, fun h => absurd ⟨_, rfl, by omega, by omega⟩ h⟩
theorem ok_hands_of (T : Txt K mg A) : FnOk P w K mg base (L2.CX P w) 3 A.a_hands_of A.d_hands_of ["group"] (sp_hands_of A) := by
  refine T.F_hands_of.okX sc_hands_of (fun vs H Q E h => ?_) (fun cdv A0 outer s H vs Q E hr h => ?_)
  · obtain ⟨v, rfl, _⟩ := h; rfl
  · obtain ⟨v, rfl, hT, k, kE⟩ := h
    refine ⟨_, (pss_cons (ps_expr (pe_call (ok_look_group T) (hr.mono (by decide)) (by rfl) T.g_look_group T.F_look_group.kp T.b_look_group .nil (passes_call (takes_of rfl rfl rfl rfl) (fun _ _ _ _ h => h)) (pa_cons (pv 0) (pa_cons pe_int (pa_cons (pe_call (ok_whole_of T) (hr.mono (by decide)) (by rfl) T.g_whole_of T.F_whole_of.kp T.b_whole_of .nil (passes_call (takes_of rfl rfl rfl rfl) (fun _ _ _ _ h => h)) (pa_cons (pe_glob (v := .int 6) (by rfl) T.c_MOST ⟨_, rfl⟩) pa_nil)) pa_nil)))))
      (pss_one (ps_ret (pe_lc (own := [("hand", 1)]) rfl sc_hands_of.nd (pi_range1 (by rfl) T.z_range (pa_cons (pe_glob (v := .int 6) (by rfl) T.c_MOST ⟨_, rfl⟩) pa_nil)) (blkOk_by (own := [("hand", 1)]) (N := N_hands_of) (sc := defScope s_hands_of) (by decide +kernel)) (fun _ _ _ _ _ => (pg_name (i := 1) sc_hands_of.nd rfl (.inl rfl))) (fun _ _ _ _ _ => (pts_one (pt_cmpR (op_eqK (K := K) rfl hr.units) (pe_op op_andX (pe_op op_shrX (pv 0) (pv 1)) pe_int) pe_int (nomark _)))) (fun _ _ _ _ _ => (pv 1)))))), ?_⟩
    walk_at "x"
    refine ⟨6, rfl, by decide, fun H1 s1 => ?_⟩
    walk_at "x"
    refine ⟨v, 0, _, rfl, hT.same s1, fun hin H2 s2 => ?_, fun hn H2 s2 => kE hn H2 (s1.trans s2)⟩
    obtain ⟨z, rfl, h0, h1⟩ := hin
    have w : Own H [] H2 := Own.start.ext (s1.trans s2)
    obtain ⟨g, rfl⟩ := Int.eq_ofNat_of_zero_le h0
    have hg : g < 64 := by
      have : (((2 ^ 6 : Nat) : Int) - 1) = 63 := by decide
      omega
    walk_at "x"
    refine ⟨_, rfl, by decide, by decide, cp_r0 (n := 6) (fun i => ((List.range i).filter fun h => bitOn h g).map vnat) w rfl ?_ ?_⟩
    · intro D i H' hi p
      walk_at "x"
      refine ⟨rfl, ?_⟩
      walk_at "x"
      refine x_shr (by omega) ?_
      walk_at "x"
      rw [bit_int (by omega) hg]
      cases c : bitOn i g with
      | true =>
        refine iteT ?_
        walk_at "x"
        exact cp_fin p (filter_yes (p := fun h => bitOn h g) c vnat) (by rw [List.length_map]; have := filter_len (fun h => bitOn h g) i; omega)
      | false =>
        exact iteF (cp_no p (filter_no (p := fun h => bitOn h g) c vnat))
    · intro D H' w2
      exact (k g rfl hg).go w2

/-! ### size_of -/
def sp_size_of : Sp := fun vs H Q _ => ∃ g : Nat, vs = [.int (g : Int)] ∧ g < 64 ∧ RetV (.int (((handsM g).length : Nat) : Int)) H Q
theorem ok_size_of (T : Txt K mg A) : FnOk P w K mg base (L2.CX P w) 4 A.a_size_of A.d_size_of ["group"] sp_size_of := by
  refine T.F_size_of.okX sc_size_of (fun vs H Q E h => ?_) (fun cdv A0 outer s H vs Q E hr h => ?_)
  · obtain ⟨g, rfl, _⟩ := h; rfl
  · obtain ⟨g, rfl, hg, k⟩ := h
    have w := Own.start (H := H)
    refine ⟨_, (pss_one (ps_ret (pe_callB (call_lenK (K := K) rfl) (by rfl) T.z_len (by decide +kernel) (pa_cons (pe_call (ok_hands_of T) (hr.mono (by decide)) (by rfl) T.g_hands_of T.F_hands_of.kp T.b_hands_of .nil (passes_call (takes_of rfl rfl rfl rfl) (fun _ _ _ _ h => h)) (pa_cons (pv 0) pa_nil)) pa_nil)))), ?_⟩
    walk_at "x"
    refine u_hands_of hg fun p H1 n1 s1 c1 => ?_
    have w1 := w.newE n1 s1 c1
    walk_at "x"
    refine x_lenL (w1.sq 0 rfl) ?_
    rw [List.length_map]
    exact k.go w1.ex

/-! ### look -/
def sp_look (A : Ads) : Sp := fun vs H Q E => ∃ (a : Addr) (xs : List V), vs = [.ref a] ∧ Rd H a (.lst xs) ∧ (∀ v ∈ xs, Thing H v) ∧
  (∀ n, lookM xs = some n → RetV (.int n) H Q) ∧ (lookM xs = none → ∀ H', Same H H' → E (.ref A.NoTable) none H')
theorem ok_look (T : Txt K mg A) : FnOk P w K mg base (L2.CX P w) 2 A.a_look A.d_look ["table"] (sp_look A) := by
  refine T.F_look.okX sc_look (fun vs H Q E h => ?_) (fun cdv A0 outer s H vs Q E hr h => ?_)
  · obtain ⟨a, xs, rfl, _⟩ := h; rfl
  · obtain ⟨a, xs, rfl, hR, hT, k, kE⟩ := h
    have hS : SqL K H a xs := .inl hR
    refine ⟨_, (pss_cons (ps_set (i := 1) sc_look.nd rfl (.inl rfl) pe_int)
      (pss_cons (ps_while (passes_of rfl) (PW.pt (pw_and (pt_cmpR op_ltX (pv 1) (pe_glob (v := .int 6) (by rfl) T.c_MOST ⟨_, rfl⟩) (nomark _)) (pw_and1 (pt_cmpR op_ltX (pe_op op_shlX pe_int (pv 1)) (pe_callB (call_lenK (K := K) rfl) (by rfl) T.z_len (by decide +kernel) (pa_cons (pv 0) pa_nil)) (nomark _))))) (pss_one (ps_set (i := 1) sc_look.nd rfl (.inl rfl) (pe_op op_addX (pv 1) pe_int))))
      (pss_cons (ps_if (pt_cmpR (op_neK (K := K) rfl hr.units) (pe_callB (call_lenK (K := K) rfl) (by rfl) T.z_len (by decide +kernel) (pa_cons (pv 0) pa_nil)) (pe_op op_shlX pe_int (pv 1)) (nomark _)) (pss_one (ps_raise rfl (takes_of rfl rfl rfl rfl) (pmk_own PySem.F.excBase_ValueError T.x_NoTable T.g_NoTable T.k_NoTable (raises_own T.e_NoTable T.t_NoTable) (by rfl)))) pss_nil)
      (pss_cons (ps_for (passes_of rfl) rfl (pi_listK (K := K) rfl (pv 0)) (pg_name (i := 2) sc_look.nd rfl (.inl rfl)) (pss_one (ps_if (pt_not (pt_val (pe_call (ok_is_whole T) (hr.mono (by decide)) (by rfl) T.g_is_whole T.F_is_whole.kp T.b_is_whole .nil (passes_call (takes_of rfl rfl rfl rfl) (fun _ _ _ _ h => h)) (pa_cons (pv 2) pa_nil)))) (pss_one (ps_raise rfl (takes_of rfl rfl rfl rfl) (pmk_own PySem.F.excBase_ValueError T.x_NoTable T.g_NoTable T.k_NoTable (raises_own T.e_NoTable T.t_NoTable) (by rfl)))) pss_nil)))
      (pss_cons (ps_if (pt_cmpR (op_neK (K := K) rfl hr.units) (pe_ix (ix_seqK (K := K) rfl) (pv 0) pe_int (fun _ _ => rfl)) pe_int (nomark _)) (pss_one (ps_raise rfl (takes_of rfl rfl rfl rfl) (pmk_own PySem.F.excBase_ValueError T.x_NoTable T.g_NoTable T.k_NoTable (raises_own T.e_NoTable T.t_NoTable) (by rfl)))) pss_nil)
      (pss_one (ps_ret (pv 1)))))))), ?_⟩
    walk_at "x"
    refine x_while (fun m σ' H' => ∃ k : Nat, σ' = [some (.ref a), some (.int k), none] ∧ H' = H ∧ m = 6 - k ∧ 1 ≤ k ∧ k ≤ 6 ∧ (k = 1 ∨ 2 ^ (k - 1) < xs.length)) 5 ⟨1, rfl, rfl, rfl, by decide, by decide, .inl rfl⟩ ?_
    rintro m σ' H' ⟨n, rfl, rfl, rfl, h1, h6, hlo⟩
    have out : (n = 6 ∨ xs.length ≤ 2 ^ n) → manyOf xs.length = n := fun h => manyOf_is h1 h6 hlo h
    walk_at "x"
    -- what stands behind the loop
    have fin : manyOf xs.length = n → tSeq
        (tIfS (tTest (tOp (rNeX K) (tCB (Sp.rLen K) (tCons (tVar 0) tNil)) (tOp rShl (tC (V.int 1)) (tVar 1)))) (fun x σ H => E (.ref A.NoTable) none H) tNext) (tSeq
        (tFor (iList K (tVar 0)) (gName 2) (tIfS (tNot (tB (tCall sp_is_whole [] E (tCons (tVar 2) tNil)))) (fun x σ H => E (.ref A.NoTable) none H) tNext)) (tSeq
        (tIfS (tTest (tOp (rNeX K) (tOp (rIx K) (tVar 0) (tC (V.int 0))) (tC (V.int 0)))) (fun x σ H => E (.ref A.NoTable) none H) tNext) (tRet (tVar 1))))
        { nx := fun _ H' => Q .non H', rt := Q } [some (.ref a), some (.int n), none] H' := fun en => by
      have bad' : ∀ H2, Same H' H2 → ¬ (xs.length = 2 ^ manyOf xs.length ∧ xs.all isI = true ∧ xs[0]? = some (.int 0)) → E (.ref A.NoTable) none H2 := fun H2 s2 z => kE (by unfold lookM; rw [if_neg z]) H2 s2
      walk_at "x"
      refine x_lenL hS ?_
      walk_at "x"
      refine x_shl ⟨by omega, by omega, by decide⟩ ?_
      walk_at "x"
      have e1 : (1 : Int) * 2 ^ (n : Int).toNat = ((2 ^ n : Nat) : Int) := by rw [Int.one_mul, Int.toNat_natCast, Int.natCast_pow] <;> rfl
      rw [e1]
      by_cases c1 : xs.length = 2 ^ n
      · rw [decide_eq_true (show (xs.length : Int) = ((2 ^ n : Nat) : Int) by omega)]
        refine iteF ?_
        walk_at "x"
        refine ⟨_, rfl, ⟨_, hS⟩, for_list (xs := xs) (fun i σ' H2 => (∃ v, σ' = [some (.ref a), some (.int n), v]) ∧ Same H' H2 ∧ (xs.take i).all isI = true) ⟨⟨_, rfl⟩, Same.refl _, rfl⟩ (fun i σ' H2 _ p => p.2.1.seq hS) ?_ ?_⟩
        · rintro i x σ' H2 hx ⟨⟨v, rfl⟩, s2, p⟩
          have hxm := List.mem_of_getElem? hx
          walk_at "x"
          refine ⟨x, rfl, (hT x hxm).same s2, fun H3 s3 => ?_⟩
          walk_at "x"
          cases hI : isI x with
          | false =>
            refine iteT (bad' H3 (s2.trans s3) fun z => ?_)
            have := List.all_eq_true.mp z.2.1 x hxm
            rw [hI] at this; cases this
          | true =>
            refine iteF ?_
            walk_at "x"
            refine ⟨⟨_, rfl⟩, s2.trans s3, ?_⟩
            rw [List.take_add_one, hx, List.all_append, p]
            simp [hI]
        · rintro σ' H2 ⟨⟨v, rfl⟩, s2, p⟩
          rw [List.take_length] at p
          walk_at "x"
          have h0 : 0 < xs.length := by rw [c1]; exact Nat.two_pow_pos n
          have hI := List.all_eq_true.mp p xs[0] (List.getElem_mem h0)
          obtain ⟨z, hz⟩ : ∃ z, xs[0] = .int z := by
            cases e : xs[0] with
            | int z => exact ⟨z, rfl⟩
            | _ => rw [e] at hI; cases hI
          have h0' : xs[0]? = some (.int z) := by rw [List.getElem?_eq_getElem h0, hz]
          refine x_ixXL (s2.seq hS) (atI_nat (j := 0) h0') ?_
          walk_at "x"
          by_cases ez : z = 0
          · rw [decide_eq_true ez]
            refine iteF ?_
            walk_at "x"
            refine k n (by unfold lookM; rw [en, if_pos ⟨c1, p, by rw [h0', ez]⟩]) _ s2
          · rw [decide_eq_false ez]
            refine iteT (bad' H2 s2 fun y => ez ?_)
            rw [h0'] at y
            exact V.int.inj (Option.some.inj y.2.2)
      · rw [decide_eq_false (show ¬ (xs.length : Int) = ((2 ^ n : Nat) : Int) by omega)]
        exact iteT (bad' H' (Same.refl _) fun z => c1 (by rw [en] at z; exact z.1))
    by_cases hk : (n : Int) < 6
    · rw [decide_eq_true hk]
      refine iteT ?_
      walk_at "x"
      refine x_shl ⟨by omega, by omega, by decide⟩ ?_
      walk_at "x"
      refine x_lenL hS ?_
      walk_at "x"
      have e1 : (1 : Int) * 2 ^ (n : Int).toNat = ((2 ^ n : Nat) : Int) := by rw [Int.one_mul, Int.toNat_natCast, Int.natCast_pow] <;> rfl
      rw [e1]
      refine ite2 (fun hl => ?_) (fun hl => ?_)
      · have hl := of_decide_eq_true hl
        refine x_N ?_
        walk_at "x"
        exact ⟨6 - (n + 1), by omega, n + 1, by rw [Int.natCast_add] <;> rfl, rfl, rfl, by omega, by omega, .inr (by rw [Nat.add_sub_cancel]; omega)⟩
      · exact fin (out (.inr (by have := mt decide_eq_true hl; omega)))
    · rw [decide_eq_false hk]
      exact iteF (fin (out (.inl (by omega))))

/-! ### dividends -/
def divM (ns : List Int) (k : Nat) : List Int := tl ns.length (allD k (fn ns))
def sp_dividends (A : Ads) : Sp := fun vs H Q E => ∃ (a : Addr) (xs : List V), vs = [.ref a] ∧ Rd H a (.lst xs) ∧ (∀ v ∈ xs, Thing H v) ∧
  (∀ ns k, Tab ns k → xs = ns.map V.int → RetL ((divM ns k).map V.int) H Q) ∧ (lookM xs = none → ∀ H', Same H H' → E (.ref A.NoTable) none H')
theorem u_dividends {H : Hp} {Q : VK} {E : XK} {a : Addr} {ms : List Int} {m : Nat} (R : Rd H a (.lst (ms.map V.int))) (tb : Tab ms m) (q : RetL ((divM ms m).map V.int) H Q) : sp_dividends A [.ref a] H Q E :=
  ⟨a, _, rfl, R, things_int, fun _ _ t e => by
    obtain rfl := map_int_inj e
    obtain rfl := tb.same t
    exact q, fun e => by rw [tb.look] at e; cases e⟩
theorem ok_dividends (T : Txt K mg A) : FnOk P w K mg base (L2.CX P w) 3 A.a_dividends A.d_dividends ["table"] (sp_dividends A) := by
  refine T.F_dividends.okX sc_dividends (fun vs H Q E h => ?_) (fun cdv A0 outer s H vs Q E hr h => ?_)
  · obtain ⟨a, xs, rfl, _⟩ := h; rfl
  · obtain ⟨a, xs, rfl, hR, hT, k, kE⟩ := h
    refine ⟨_, (pss_cons (ps_set (i := 1) sc_dividends.nd rfl (.inl rfl) (pe_call (ok_look T) (hr.mono (by decide)) (by rfl) T.g_look T.F_look.kp T.b_look .nil (passes_call (takes_of rfl rfl rfl rfl) (fun _ _ _ _ h => h)) (pa_cons (pv 0) pa_nil)))
      (pss_cons (ps_set (i := 2) sc_dividends.nd rfl (.inl rfl) (pe_callTy (call_listK (K := K) rfl) (by rfl) T.z_list (by decide +kernel) (pa_cons (pv 0) pa_nil)))
      (pss_cons (ps_for (passes_of rfl) rfl (pi_range1 (by rfl) T.z_range (pa_cons (pv 1) pa_nil)) (pg_name (i := 3) sc_dividends.nd rfl (.inl rfl)) (pss_cons (ps_set (i := 4) sc_dividends.nd rfl (.inl rfl) (pe_op op_shlX pe_int (pv 3)))
      (pss_one (ps_for (passes_of rfl) rfl (pi_range1 (by rfl) T.z_range (pa_cons (pe_callB (call_lenK (K := K) rfl) (by rfl) T.z_len (by decide +kernel) (pa_cons (pv 2) pa_nil)) pa_nil)) (pg_name (i := 5) sc_dividends.nd rfl (.inl rfl)) (pss_one (ps_if (pt_cmpR (op_neK (K := K) rfl hr.units) (pe_op op_andX (pv 5) (pv 4)) pe_int (nomark _)) (pss_one (ps_augS (pv 2) (pv 5) (get_listK (K := K) rfl) (pe_ix (ix_seqK (K := K) rfl) (pv 2) (pe_op op_xorX (pv 5) (pv 4)) (fun _ _ => rfl)) ip_sub set_list)) pss_nil))))))
      (pss_one (ps_ret (pv 2)))))), ?_⟩
    walk_at "x"
    refine ⟨a, xs, rfl, hR, hT, fun n hn H1 s1 => ?_, kE⟩
    obtain ⟨ns, m, tb, rfl, rfl⟩ := look_tab hn
    have w : Own H [] H1 := Own.start.ext s1
    have hS : SqL K H a (ns.map V.int) := .inl hR
    have hb := tb.pos
    have hm := tb.hi
    walk_at "x"
    refine x_list (w.seq hS) fun p np => ?_
    have w1 := w.new (o := .lst (ns.map V.int)) np
    walk_at "x"
    -- for hand in range(many)
    refine ⟨_, rfl, by omega, by omega, for_r0 (n := (m : Int)) (fun i σ H' => ∃ u1 u2 u3 : Option V,
      σ = [some (.ref a), some (.int (m : Int)), some (.ref p), u1, u2, u3] ∧ Own H [(p, .lst ((tl ns.length (allD i (fn ns))).map V.int))] H') ⟨none, none, none, rfl, by rw [show allD 0 (fn ns) = fn ns from rfl, tl_fn]; exact w1⟩ ?_ ?_⟩
    · rintro i σ H' hi ⟨u1, u2, u3, rfl, w2⟩
      have hi6 : i < 6 := by omega
      walk_at "x"
      refine x_shl ⟨by omega, by omega, by decide⟩ ?_
      rw [shl_nat]
      walk_at "x"
      refine x_lenL (w2.sq 0 rfl) ?_
      walk_at "x"
      rw [List.length_map, tl_len]
      refine ⟨_, rfl, by omega, by omega, for_r0 (n := (ns.length : Int)) (fun j σ H' => ∃ u3 : Option V,
        σ = [some (.ref a), some (.int (m : Int)), some (.ref p), some (.int (i : Int)), some (.int ((2 ^ i : Nat) : Int)), u3] ∧
        Own H [(p, .lst ((tl ns.length (fun g => if g < j then stepD i (allD i (fn ns)) g else allD i (fn ns) g)).map V.int))] H') ⟨u3, rfl, w2⟩ ?_ ?_⟩
      · rintro j σ H' hj ⟨u3, rfl, w3⟩
        have hj1 : j < ns.length := by omega
        have bf := bit_facts i hi6 j (by omega)
        walk_at "x"
        rw [and_nat, bitOn_iff]
        cases c : bitOn i j with
        | true =>
          have b := bf.1 c
          refine iteT ?_
          walk_at "x"
          refine x_ixL (w3.sq 0 rfl) (at_int (by omega) (by rw [tl_len]; omega)) ?_
          walk_at "x"
          rw [xor_nat]
          refine x_ixXL (w3.sq 0 rfl) (at_int (by omega) (by rw [tl_len]; omega)) ?_
          walk_at "x"
          refine x_setL (w3.get 0 rfl) (by rw [List.length_map, tl_len]; exact ixN_int (by omega) (by omega)) ?_
          rw [map_set_int, Int.toNat_natCast, gi_tln hj1, gi_tln (by omega), if_neg (by omega), if_pos b.1, tl_set hj1]
          have e : stepD i (allD i (fn ns)) (j ^^^ 2 ^ i) = allD i (fn ns) (j ^^^ 2 ^ i) := by
            unfold stepD
            rw [if_neg (by rw [b.2]; exact Bool.false_ne_true)]
          have e2 : stepD i (allD i (fn ns)) j = allD i (fn ns) j - allD i (fn ns) (j ^^^ 2 ^ i) := by
            unfold stepD
            rw [if_pos c]
          refine ⟨_, rfl, ?_⟩
          have w4 := w3.put (o' := .lst ((tl ns.length (fun g => if g < j + 1 then stepD i (allD i (fn ns)) g else allD i (fn ns) g)).map V.int)) 0 rfl
          have ec : tl ns.length (fun g => if g = j then allD i (fn ns) j - stepD i (allD i (fn ns)) (j ^^^ 2 ^ i) else if g < j then stepD i (allD i (fn ns)) g else allD i (fn ns) g)
              = tl ns.length (fun g => if g < j + 1 then stepD i (allD i (fn ns)) g else allD i (fn ns) g) := tl_congr fun g _ => by
            by_cases g1 : g = j
            · subst g1
              rw [if_pos rfl, if_pos (by omega), e, e2]
            · rw [if_neg g1]
              by_cases g2 : g < j
              · rw [if_pos g2, if_pos (by omega)]
              · rw [if_neg g2, if_neg (by omega)]
          rw [ec]
          exact w4
        | false =>
          refine iteF ?_
          walk_at "x"
          refine ⟨_, rfl, ?_⟩
          have e2 : stepD i (allD i (fn ns)) j = allD i (fn ns) j := by
            unfold stepD
            rw [if_neg (by rw [c]; exact Bool.false_ne_true)]
          have ec : tl ns.length (fun g => if g < j then stepD i (allD i (fn ns)) g else allD i (fn ns) g)
              = tl ns.length (fun g => if g < j + 1 then stepD i (allD i (fn ns)) g else allD i (fn ns) g) := tl_congr fun g _ => by
            by_cases g1 : g = j
            · subst g1
              rw [if_neg (by omega), if_pos (by omega), e2]
            · by_cases g2 : g < j
              · rw [if_pos g2, if_pos (by omega)]
              · rw [if_neg g2, if_neg (by omega)]
          rw [← ec]
          exact w3
      · rintro σ H' ⟨u3, rfl, w3⟩
        refine ⟨_, _, _, rfl, ?_⟩
        have ec : tl ns.length (fun g => if g < ((ns.length : Int)).toNat then stepD i (allD i (fn ns)) g else allD i (fn ns) g) = tl ns.length (allD (i + 1) (fn ns)) := tl_congr fun g hg => by
          rw [if_pos (by omega)]
          rfl
        rw [ec] at w3
        exact w3
    · rintro σ H' ⟨u1, u2, u3, rfl, w3⟩
      walk_at "x"
      rw [Int.toNat_natCast] at w3
      exact (k ns m tb rfl).go w3

/-! ### earned -/
def earnM (ns : List Int) (k : Nat) : List Int := tl ns.length (allE k (fn ns))
def sp_earned (A : Ads) : Sp := fun vs H Q E => ∃ (a : Addr) (xs : List V), vs = [.ref a] ∧ Rd H a (.lst xs) ∧ (∀ v ∈ xs, Thing H v) ∧
  (∀ ns k, Tab ns k → xs = ns.map V.int → RetL ((earnM ns k).map V.int) H Q) ∧ (lookM xs = none → ∀ H', Same H H' → E (.ref A.NoTable) none H')
theorem u_earned {H : Hp} {Q : VK} {E : XK} {a : Addr} {ms : List Int} {m : Nat} (R : Rd H a (.lst (ms.map V.int))) (tb : Tab ms m) (q : RetL ((earnM ms m).map V.int) H Q) : sp_earned A [.ref a] H Q E :=
  ⟨a, _, rfl, R, things_int, fun _ _ t e => by
    obtain rfl := map_int_inj e
    obtain rfl := tb.same t
    exact q, fun e => by rw [tb.look] at e; cases e⟩
theorem ok_earned (T : Txt K mg A) : FnOk P w K mg base (L2.CX P w) 3 A.a_earned A.d_earned ["table"] (sp_earned A) := by
  refine T.F_earned.okX sc_earned (fun vs H Q E h => ?_) (fun cdv A0 outer s H vs Q E hr h => ?_)
  · obtain ⟨a, xs, rfl, _⟩ := h; rfl
  · obtain ⟨a, xs, rfl, hR, hT, k, kE⟩ := h
    refine ⟨_, (pss_cons (ps_set (i := 1) sc_earned.nd rfl (.inl rfl) (pe_call (ok_look T) (hr.mono (by decide)) (by rfl) T.g_look T.F_look.kp T.b_look .nil (passes_call (takes_of rfl rfl rfl rfl) (fun _ _ _ _ h => h)) (pa_cons (pv 0) pa_nil)))
      (pss_cons (ps_set (i := 2) sc_earned.nd rfl (.inl rfl) (pe_callTy (call_listK (K := K) rfl) (by rfl) T.z_list (by decide +kernel) (pa_cons (pv 0) pa_nil)))
      (pss_cons (ps_for (passes_of rfl) rfl (pi_range1 (by rfl) T.z_range (pa_cons (pv 1) pa_nil)) (pg_name (i := 3) sc_earned.nd rfl (.inl rfl)) (pss_cons (ps_set (i := 4) sc_earned.nd rfl (.inl rfl) (pe_op op_shlX pe_int (pv 3)))
      (pss_one (ps_for (passes_of rfl) rfl (pi_range1 (by rfl) T.z_range (pa_cons (pe_callB (call_lenK (K := K) rfl) (by rfl) T.z_len (by decide +kernel) (pa_cons (pv 2) pa_nil)) pa_nil)) (pg_name (i := 5) sc_earned.nd rfl (.inl rfl)) (pss_one (ps_if (pt_cmpR (op_neK (K := K) rfl hr.units) (pe_op op_andX (pv 5) (pv 4)) pe_int (nomark _)) (pss_one (ps_augS (pv 2) (pv 5) (get_listK (K := K) rfl) (pe_ix (ix_seqK (K := K) rfl) (pv 2) (pe_op op_xorX (pv 5) (pv 4)) (fun _ _ => rfl)) ip_add set_list)) pss_nil))))))
      (pss_one (ps_ret (pv 2)))))), ?_⟩
    walk_at "x"
    refine ⟨a, xs, rfl, hR, hT, fun n hn H1 s1 => ?_, kE⟩
    obtain ⟨ns, m, tb, rfl, rfl⟩ := look_tab hn
    have w : Own H [] H1 := Own.start.ext s1
    have hS : SqL K H a (ns.map V.int) := .inl hR
    have hb := tb.pos
    have hm := tb.hi
    walk_at "x"
    refine x_list (w.seq hS) fun p np => ?_
    have w1 := w.new (o := .lst (ns.map V.int)) np
    walk_at "x"
    -- for hand in range(many)
    refine ⟨_, rfl, by omega, by omega, for_r0 (n := (m : Int)) (fun i σ H' => ∃ u1 u2 u3 : Option V,
      σ = [some (.ref a), some (.int (m : Int)), some (.ref p), u1, u2, u3] ∧ Own H [(p, .lst ((tl ns.length (allE i (fn ns))).map V.int))] H') ⟨none, none, none, rfl, by rw [show allE 0 (fn ns) = fn ns from rfl, tl_fn]; exact w1⟩ ?_ ?_⟩
    · rintro i σ H' hi ⟨u1, u2, u3, rfl, w2⟩
      have hi6 : i < 6 := by omega
      walk_at "x"
      refine x_shl ⟨by omega, by omega, by decide⟩ ?_
      rw [shl_nat]
      walk_at "x"
      refine x_lenL (w2.sq 0 rfl) ?_
      walk_at "x"
      rw [List.length_map, tl_len]
      refine ⟨_, rfl, by omega, by omega, for_r0 (n := (ns.length : Int)) (fun j σ H' => ∃ u3 : Option V,
        σ = [some (.ref a), some (.int (m : Int)), some (.ref p), some (.int (i : Int)), some (.int ((2 ^ i : Nat) : Int)), u3] ∧
        Own H [(p, .lst ((tl ns.length (fun g => if g < j then stepE i (allE i (fn ns)) g else allE i (fn ns) g)).map V.int))] H') ⟨u3, rfl, w2⟩ ?_ ?_⟩
      · rintro j σ H' hj ⟨u3, rfl, w3⟩
        have hj1 : j < ns.length := by omega
        have bf := bit_facts i hi6 j (by omega)
        walk_at "x"
        rw [and_nat, bitOn_iff]
        cases c : bitOn i j with
        | true =>
          have b := bf.1 c
          refine iteT ?_
          walk_at "x"
          refine x_ixL (w3.sq 0 rfl) (at_int (by omega) (by rw [tl_len]; omega)) ?_
          walk_at "x"
          rw [xor_nat]
          refine x_ixXL (w3.sq 0 rfl) (at_int (by omega) (by rw [tl_len]; omega)) ?_
          walk_at "x"
          refine x_setL (w3.get 0 rfl) (by rw [List.length_map, tl_len]; exact ixN_int (by omega) (by omega)) ?_
          rw [map_set_int, Int.toNat_natCast, gi_tln hj1, gi_tln (by omega), if_neg (by omega), if_pos b.1, tl_set hj1]
          have e : stepE i (allE i (fn ns)) (j ^^^ 2 ^ i) = allE i (fn ns) (j ^^^ 2 ^ i) := by
            unfold stepE
            rw [if_neg (by rw [b.2]; exact Bool.false_ne_true)]
          have e2 : stepE i (allE i (fn ns)) j = allE i (fn ns) j + allE i (fn ns) (j ^^^ 2 ^ i) := by
            unfold stepE
            rw [if_pos c]
          refine ⟨_, rfl, ?_⟩
          have w4 := w3.put (o' := .lst ((tl ns.length (fun g => if g < j + 1 then stepE i (allE i (fn ns)) g else allE i (fn ns) g)).map V.int)) 0 rfl
          have ec : tl ns.length (fun g => if g = j then allE i (fn ns) j + stepE i (allE i (fn ns)) (j ^^^ 2 ^ i) else if g < j then stepE i (allE i (fn ns)) g else allE i (fn ns) g)
              = tl ns.length (fun g => if g < j + 1 then stepE i (allE i (fn ns)) g else allE i (fn ns) g) := tl_congr fun g _ => by
            by_cases g1 : g = j
            · subst g1
              rw [if_pos rfl, if_pos (by omega), e, e2]
            · rw [if_neg g1]
              by_cases g2 : g < j
              · rw [if_pos g2, if_pos (by omega)]
              · rw [if_neg g2, if_neg (by omega)]
          rw [ec]
          exact w4
        | false =>
          refine iteF ?_
          walk_at "x"
          refine ⟨_, rfl, ?_⟩
          have e2 : stepE i (allE i (fn ns)) j = allE i (fn ns) j := by
            unfold stepE
            rw [if_neg (by rw [c]; exact Bool.false_ne_true)]
          have ec : tl ns.length (fun g => if g < j then stepE i (allE i (fn ns)) g else allE i (fn ns) g)
              = tl ns.length (fun g => if g < j + 1 then stepE i (allE i (fn ns)) g else allE i (fn ns) g) := tl_congr fun g _ => by
            by_cases g1 : g = j
            · subst g1
              rw [if_neg (by omega), if_pos (by omega), e2]
            · by_cases g2 : g < j
              · rw [if_pos g2, if_pos (by omega)]
              · rw [if_neg g2, if_neg (by omega)]
          rw [← ec]
          exact w3
      · rintro σ H' ⟨u3, rfl, w3⟩
        refine ⟨_, _, _, rfl, ?_⟩
        have ec : tl ns.length (fun g => if g < ((ns.length : Int)).toNat then stepE i (allE i (fn ns)) g else allE i (fn ns) g) = tl ns.length (allE (i + 1) (fn ns)) := tl_congr fun g hg => by
          rw [if_pos (by omega)]
          rfl
        rw [ec] at w3
        exact w3
    · rintro σ H' ⟨u1, u2, u3, rfl, w3⟩
      walk_at "x"
      rw [Int.toNat_natCast] at w3
      exact (k ns m tb rfl).go w3

/-! ### look_order -/
def sp_look_order (A : Ads) : Sp := fun vs H Q E => ∃ (a : Addr) (xs : List V) (m : Nat), vs = [.ref a, .int (m : Int)] ∧ Rd H a (.lst xs) ∧ xs.length ≤ 1000 ∧ (∀ v ∈ xs, Thing H v) ∧
  (orderOk xs m → RetV .non H Q) ∧ (¬ orderOk xs m → ∀ H', Same H H' → E (.ref A.NoOrder) none H')
theorem ok_look_order (T : Txt K mg A) : FnOk P w K mg base (L2.CX P w) 2 A.a_look_order A.d_look_order ["order", "many"] (sp_look_order A) := by
  refine T.F_look_order.okX sc_look_order (fun vs H Q E h => ?_) (fun cdv A0 outer s H vs Q E hr h => ?_)
  · obtain ⟨a, xs, m, rfl, _⟩ := h; rfl
  · obtain ⟨a, xs, m, rfl, hR, hl, hT, k, kE⟩ := h
    have hS : SqL K H a xs := .inl hR
    refine ⟨_, (pss_cons (ps_set (i := 2) sc_look_order.nd rfl (.inl rfl) pe_dnewK)
      (pss_cons (ps_for (passes_of rfl) rfl (pi_listK (K := K) rfl (pv 0)) (pg_name (i := 3) sc_look_order.nd rfl (.inl rfl)) (pss_cons (ps_if (PW.pt (pw_or (pt_not (pt_val (pe_call (ok_is_whole T) (hr.mono (by decide)) (by rfl) T.g_is_whole T.F_is_whole.kp T.b_is_whole .nil (passes_call (takes_of rfl rfl rfl rfl) (fun _ _ _ _ h => h)) (pa_cons (pv 3) pa_nil)))) (pw_or (pt_cmpR op_ltX (pv 3) pe_int (nomark _)) (pw_or (pt_cmpR op_geX (pv 3) (pv 1) (nomark _)) (pw_or1 (pt_cmp (pc_din (hu_of hr) (pv 3) (pv 2)))))))) (pss_one (ps_raise rfl (takes_of rfl rfl rfl rfl) (pmk_own PySem.F.excBase_ValueError T.x_NoOrder T.g_NoOrder T.k_NoOrder (raises_own T.e_NoOrder T.t_NoOrder) (by rfl)))) pss_nil)
      (pss_one (ps_dput (hu_of hr) (pv 2) (pv 3) pe_bl rfl))))
      (pss_one (ps_if (pt_cmpR (op_neK (K := K) rfl hr.units) (pe_callB call_lenDX (by rfl) T.z_len (by decide +kernel) (pa_cons (pv 2) pa_nil)) (pv 1) (nomark _)) (pss_one (ps_raise rfl (takes_of rfl rfl rfl rfl) (pmk_own PySem.F.excBase_ValueError T.x_NoOrder T.g_NoOrder T.k_NoOrder (raises_own T.e_NoOrder T.t_NoOrder) (by rfl)))) pss_nil)))), ?_⟩
    walk_at "x"
    intro p np
    have w := (Own.start (H := H)).new (o := .dK []) np
    walk_at "x"
    refine ⟨_, rfl, ⟨_, w.seq hS⟩, for_list (xs := xs) (fun i σ' H' => ∃ ns : List Nat, xs.take i = ns.map vnat ∧ ns.Nodup ∧ (∀ n ∈ ns, n < m) ∧ (∃ v, σ' = [some (.ref a), some (.int (m : Int)), some (.ref p), v]) ∧ Own H [(p, .dK (seenD ns))] H') ⟨[], rfl, List.nodup_nil, (fun _ h => nomatch h), ⟨_, rfl⟩, w⟩ (fun i σ' H' _ ⟨_, _, _, _, _, w⟩ => w.seq hS) ?_ ?_⟩
    · rintro i x σ' H' hx ⟨ns, et, nd, lt, ⟨v, rfl⟩, w⟩
      -- what an order would tell of x
      have tell : orderOk xs m → ∃ z : Nat, x = vnat z ∧ z < m ∧ z ∉ ns := fun ⟨ns', e', o'⟩ => by
        subst e'
        obtain ⟨z, hz, rfl⟩ := map_at hx
        refine ⟨z, rfl, o'.lt z (List.mem_of_getElem? hz), ?_⟩
        rw [← List.map_take] at et
        rw [← vnat_inj et]
        exact nodup_at o'.nd hz
      have bad : ∀ H2, Same H H2 → (orderOk xs m → False) → E (.ref A.NoOrder) none H2 := fun H2 s2 h => kE h H2 s2
      walk_at "x"
      refine ⟨x, rfl, (hT x (List.mem_of_getElem? hx)).same w.ex, fun H2 s2 => ?_⟩
      have w2 := w.ext s2
      walk_at "x"
      cases hI : isI x with
      | false =>
        refine iteT ?_
        exact bad _ w2.ex fun o => by
          obtain ⟨z, rfl, _⟩ := tell o
          cases hI
      | true =>
        obtain ⟨z, rfl⟩ : ∃ z, x = .int z := by cases x <;> first | exact ⟨_, rfl⟩ | cases hI
        refine iteF ?_
        walk_at "x"
        have lst : orderOk xs m → ∃ n : Nat, z = (n : Int) ∧ n < m ∧ n ∉ ns := fun o => by
          obtain ⟨n, e, h1, h2⟩ := tell o
          exact ⟨n, V.int.inj e, h1, h2⟩
        refine ite2 (fun c => ?_) (fun c => ?_)
        · have c := of_decide_eq_true c
          refine iteT ?_
          exact bad _ w2.ex fun o => by
            obtain ⟨n, e, h1, h2⟩ := lst o
            omega
        have c : ¬ z < 0 := fun h => c (decide_eq_true h)
        walk_at "x"
        refine ite2 (fun c1 => ?_) (fun c1 => ?_)
        · have c1 := of_decide_eq_true c1
          refine iteT ?_
          exact bad _ w2.ex fun o => by
            obtain ⟨n, e, h1, h2⟩ := lst o
            omega
        have c1 : ¬ (m : Int) ≤ z := fun h => c1 (decide_eq_true h)
        obtain ⟨n, rfl⟩ := Int.eq_ofNat_of_zero_le (show (0 : Int) ≤ z by omega)
        walk_at "x"
        refine ⟨p, _, rfl, DGet.k (k := Sum.inl (n : Int)) (w2.get 0 rfl), ?_⟩
        refine ⟨_, rfl, ?_⟩
        rw [seen_val]
        refine ite2 (fun c2 => ?_) (fun c2 => ?_)
        · obtain ⟨n', hn', e'⟩ := of_decide_eq_true c2
          exact bad _ w2.ex fun o => by
            obtain ⟨n2, e, h1, h2⟩ := lst o
            rw [show n2 = n' by omega] at h2
            exact h2 hn'
        · have c2 : n ∉ ns := fun h => c2 (decide_eq_true ⟨n, h, rfl⟩)
          walk_at "x"
          refine ⟨p, _, rfl, DPut.k (k := Sum.inl (n : Int)) (w2.get 0 rfl) ?_, ns ++ [n], ?_, ?_, ?_, ⟨_, rfl⟩, ?_⟩
          · have h1 : (xs.take i).length = ns.length := by rw [et, List.length_map]
            rw [List.length_take] at h1
            rw [seen_len]
            exact small1000 (by omega)
          · rw [take_snoc hx, et, List.map_append] <;> rfl
          · rw [List.nodup_append]
            exact ⟨nd, (by simp), fun x hx y hy e => c2 (by rw [List.mem_singleton] at hy; rw [← hy, ← e]; exact hx)⟩
          · intro y hy
            rcases List.mem_append.mp hy with hy | hy
            · exact lt y hy
            · rw [List.mem_singleton] at hy
              omega
          · rw [seen_put c2]
            exact w2.put 0 rfl
    · rintro σ' H' ⟨ns, et, nd, lt, ⟨v, rfl⟩, w⟩
      rw [List.take_length] at et
      walk_at "x"
      refine x_lenD (w.get 0 rfl) ?_
      walk_at "x"
      rw [seen_len]
      have el : ns.length = xs.length := by rw [et, List.length_map]
      by_cases c : ns.length = m
      · rw [decide_eq_true (show (ns.length : Int) = (m : Int) by omega)]
        refine iteF ?_
        walk_at "x"
        exact k ⟨ns, et, nd, lt, c⟩ _ w.ex
      · rw [decide_eq_false (show ¬ (ns.length : Int) = (m : Int) by omega)]
        refine iteT ?_
        exact kE (fun ⟨ns', e', o'⟩ => c (by rw [el, e', List.length_map, o'.len])) _ w.ex

/-! ### order_shares -/
def sp_order_shares (A : Ads) : Sp := fun vs H Q E => ∃ (a b : Addr) (ts xs : List V), vs = [.ref a, .ref b] ∧ Rd H a (.lst ts) ∧ (∀ v ∈ ts, Thing H v) ∧ Rd H b (.lst xs) ∧ xs.length ≤ 1000 ∧ (∀ v ∈ xs, Thing H v) ∧
  (∀ ms m ns, Tab ms m → ts = ms.map V.int → xs = ns.map vnat → Ordr ns m → RetL ((orderM ms m ns).map V.int) H Q) ∧
  (∀ ms m, Tab ms m → ts = ms.map V.int → ¬ orderOk xs m → ∀ H', Same H H' → E (.ref A.NoOrder) none H') ∧
  (lookM ts = none → ∀ H', Same H H' → E (.ref A.NoTable) none H')
theorem things_nat {H : Hp} {ns : List Nat} : ∀ v ∈ ns.map vnat, Thing H v := fun v hv => by
  obtain ⟨n, _, rfl⟩ := List.mem_map.mp hv
  exact .int _
theorem u_order {H : Hp} {Q : VK} {E : XK} {a b : Addr} {ms : List Int} {m : Nat} {ns : List Nat} (R : Rd H a (.lst (ms.map V.int))) (tb : Tab ms m) (R2 : Rd H b (.lst (ns.map vnat))) (o : Ordr ns m) (q : RetL ((orderM ms m ns).map V.int) H Q) : sp_order_shares A [.ref a, .ref b] H Q E :=
  ⟨a, b, _, _, rfl, R, things_int, R2, by rw [List.length_map, o.len]; have := tb.hi; omega, things_nat, fun ms' m' ns' t' e e2 o' => by
    obtain rfl := map_int_inj e
    obtain rfl := vnat_inj e2
    obtain rfl : m = m' := by rw [← o.len, o'.len]
    exact q, fun ms' m' t' e ho => by
    obtain rfl := map_int_inj e
    obtain rfl : m = m' := by have h1 := tb.len; rw [t'.len] at h1; exact ((Nat.pow_right_inj (by decide)).mp h1).symm
    exact absurd ⟨ns, rfl, o⟩ ho, fun e => by rw [tb.look] at e; cases e⟩
theorem u_orderE {H : Hp} {Q : VK} {E : XK} {a b : Addr} {ms : List Int} {m : Nat} {xs : List V} (R : Rd H a (.lst (ms.map V.int))) (tb : Tab ms m) (R2 : Rd H b (.lst xs)) (hl : xs.length ≤ 1000) (hT : ∀ v ∈ xs, Thing H v) (ho : ¬ orderOk xs m) (q : ∀ H', Same H H' → E (.ref A.NoOrder) none H') : sp_order_shares A [.ref a, .ref b] H Q E :=
  ⟨a, b, _, _, rfl, R, things_int, R2, hl, hT, fun ms' m' ns' t' e e2 o' => by
    obtain rfl := map_int_inj e
    obtain rfl : m = m' := by have h1 := tb.len; rw [t'.len] at h1; exact ((Nat.pow_right_inj (by decide)).mp h1).symm
    exact absurd ⟨ns', e2, o'⟩ ho, fun _ _ _ _ _ => q, fun e => by rw [tb.look] at e; cases e⟩
theorem ok_order_shares (T : Txt K mg A) : FnOk P w K mg base (L2.CX P w) 3 A.a_order_shares A.d_order_shares ["table", "order"] (sp_order_shares A) := by
  refine T.F_order_shares.okX sc_order_shares (fun vs H Q E h => ?_) (fun cdv A0 outer s H vs Q E hr h => ?_)
  · obtain ⟨a, b, ts, xs, rfl, _⟩ := h; rfl
  · obtain ⟨a, b, ts, xs, rfl, hR, hT, hR2, hl, hT2, k, kO, kT⟩ := h
    have hS : SqL K H a ts := .inl hR
    have hS2 : SqL K H b xs := .inl hR2
    refine ⟨_, (pss_cons (ps_set (i := 2) sc_order_shares.nd rfl (.inl rfl) (pe_call (ok_look T) (hr.mono (by decide)) (by rfl) T.g_look T.F_look.kp T.b_look .nil (passes_call (takes_of rfl rfl rfl rfl) (fun _ _ _ _ h => h)) (pa_cons (pv 0) pa_nil)))
      (pss_cons (ps_expr (pe_call (ok_look_order T) (hr.mono (by decide)) (by rfl) T.g_look_order T.F_look_order.kp T.b_look_order .nil (passes_call (takes_of rfl rfl rfl rfl) (fun _ _ _ _ h => h)) (pa_cons (pv 1) (pa_cons (pv 2) pa_nil))))
      (pss_cons (ps_set (i := 3) sc_order_shares.nd rfl (.inl rfl) (pe_op op_mulX (pe_lst (pa_cons pe_int pa_nil)) (pv 2)))
      (pss_cons (ps_set (i := 4) sc_order_shares.nd rfl (.inl rfl) pe_int)
      (pss_cons (ps_for (passes_of rfl) rfl (pi_listK (K := K) rfl (pv 1)) (pg_name (i := 5) sc_order_shares.nd rfl (.inl rfl)) (pss_cons (ps_set (i := 6) sc_order_shares.nd rfl (.inl rfl) (pe_op op_orX (pv 4) (pe_op op_shlX pe_int (pv 5))))
      (pss_cons (ps_asg (pe_op op_subX (pe_ix (ix_seqK (K := K) rfl) (pv 0) (pv 6) (fun _ _ => rfl)) (pe_ix (ix_seqK (K := K) rfl) (pv 0) (pv 4) (fun _ _ => rfl))) (pg_sub (pv 3) (pv 5) set_list))
      (pss_one (ps_set (i := 4) sc_order_shares.nd rfl (.inl rfl) (pv 6))))))
      (pss_one (ps_ret (pv 3)))))))), ?_⟩
    walk_at "x"
    refine ⟨a, ts, rfl, hR, hT, fun n hn H1 s1 => ?_, kT⟩
    obtain ⟨ms, m, tb, rfl, rfl⟩ := look_tab hn
    have w1 := Own.start.ext s1
    have hm := tb.hi
    have hp := tb.pos
    have ht := tb.len
    walk_at "x"
    refine ⟨b, xs, m, rfl, rd_same s1 hR2, hl, fun v hv => (hT2 v hv).same s1, fun ho H2 s2 => ?_, fun ho H2 s2 => kO ms m tb rfl ho H2 (s1.trans s2)⟩
    obtain ⟨ns, rfl, o⟩ := ho
    have w2 := w1.ext s2
    walk_at "x"
    refine ⟨(by show 1 ≤ sizeLine; decide), fun p3 n3 => ?_⟩
    have w3 := w2.new (o := .lst [.int 0]) n3
    walk_at "x"
    refine x_mulL (w3.get 0 rfl) ⟨by omega, by omega, ?_⟩ (fun p4 n4 => ?_)
    · rw [Int.toNat_natCast]
      exact Nat.le_trans (show [V.int 0].length * m ≤ 6 by rw [List.length_singleton]; omega) (by decide)
    have e0 : (List.replicate (m : Int).toNat [V.int 0]).flatten = (List.replicate m (0 : Int)).map V.int := by
      rw [Int.toNat_natCast, rep_flat]
    rw [e0]
    have w4 := w3.new (o := .lst ((List.replicate m (0 : Int)).map V.int)) n4
    have w4 := w4.sub (ds := [(p4, .lst ((List.replicate m (0 : Int)).map V.int))]) (.cons_cons _ (.cons _ .slnil))
    walk_at "x"
    refine ⟨_, rfl, ⟨_, w4.seq hS2⟩, for_list (xs := ns.map vnat) (fun i σ' H' => OInv ms m (ns.take i) ∧ (∃ v1 v2, σ' = [some (.ref a), some (.ref b), some (.int (m : Int)), some (.ref p4), some (.int (((orderS ms m (ns.take i)).1 : Nat) : Int)), v1, v2]) ∧ Own H [(p4, .lst ((orderS ms m (ns.take i)).2.map V.int))] H') ⟨OInv.nil, ⟨_, _, rfl⟩, w4⟩ (fun i σ' H' _ h => h.2.2.seq hS2) ?_ ?_⟩
    · rintro i x σ' H' hx ⟨oi, ⟨v1, v2, rfl⟩, w⟩
      obtain ⟨z, hz, rfl⟩ := map_at hx
      have hzm := o.lt z (List.mem_of_getElem? hz)
      have oi2 := oi.snoc hm hzm
      rw [← take_snoc hz] at oi2
      have eo : orderS ms m (ns.take (i + 1)) = stepO ms (orderS ms m (ns.take i)) z := by rw [take_snoc hz, orderS_snoc]
      have l1 := oi.lt
      have l2 := oi2.lt
      have l3 := oi.len
      rw [eo] at l2
      unfold stepO at l2 eo
      dsimp only at l2
      walk_at "x"
      refine x_shl ⟨by omega, by omega, by decide⟩ ?_
      rw [shl_nat]
      walk_at "x"
      rw [or_nat]
      refine x_ixXL (w.seq hS) (at_int (by omega) (by omega)) ?_
      walk_at "x"
      refine x_ixXL (w.seq hS) (at_int (by omega) (by omega)) ?_
      walk_at "x"
      refine x_setL (w.get 0 rfl) (by rw [List.length_map]; exact ixN_int (by omega) (by omega)) ?_
      rw [map_set_int, Int.toNat_natCast]
      have w5 := w.put (o' := .lst (((orderS ms m (ns.take i)).2.set z (fn ms ((orderS ms m (ns.take i)).1 ||| 2 ^ z) - fn ms (orderS ms m (ns.take i)).1)).map V.int)) 0 rfl
      walk_at "x"
      exact ⟨oi2, ⟨some (vnat z), some (.int (((orderS ms m (ns.take i)).1 ||| 2 ^ z : Nat) : Int)), by rw [eo] <;> rfl⟩, by rw [eo]; exact w5⟩
    · rintro σ' H' ⟨oi, ⟨v1, v2, rfl⟩, w⟩
      rw [List.length_map, List.take_length] at w
      walk_at "x"
      exact (k ms m ns tb rfl rfl o).go w

/-! ### mean_shares -/
def sp_mean_shares (A : Ads) : Sp := fun vs H Q E => ∃ (a : Addr) (xs : List V) (C : Nat), vs = [.ref a] ∧ Rd H a (.lst xs) ∧ (∀ v ∈ xs, Thing H v) ∧
  (∀ ms m, Tab ms m → xs = ms.map V.int → Bdd C (fn (divM ms m)) ∧ C + 18 ≤ 9000 ∧ RetFs (meanFs (divM ms m) ms.length m) H Q) ∧ (lookM xs = none → ∀ H', Same H H' → E (.ref A.NoTable) none H')
theorem ok_mean_shares (T : Txt K mg A) : FnOk P w K mg base (L2.CX P w) 5 A.a_mean_shares A.d_mean_shares ["table"] (sp_mean_shares A) := by
  refine T.F_mean_shares.okX sc_mean_shares (fun vs H Q E h => ?_) (fun cdv A0 outer s H vs Q E hr h => ?_)
  · obtain ⟨a, xs, C, rfl, _⟩ := h; rfl
  · obtain ⟨a, xs, C, rfl, hR, hT, k0, kE⟩ := h
    refine ⟨_, (pss_cons (ps_set (i := 1) sc_mean_shares.nd rfl (.inl rfl) (pe_call (ok_dividends T) (hr.mono (by decide)) (by rfl) T.g_dividends T.F_dividends.kp T.b_dividends .nil (passes_call (takes_of rfl rfl rfl rfl) (fun _ _ _ _ h => h)) (pa_cons (pv 0) pa_nil)))
      (pss_cons (ps_set (i := 2) sc_mean_shares.nd rfl (.inl rfl) (pe_op op_mulX (pe_lst (pa_cons pe_int pa_nil)) (pe_call (ok_look T) (hr.mono (by decide)) (by rfl) T.g_look T.F_look.kp T.b_look .nil (passes_call (takes_of rfl rfl rfl rfl) (fun _ _ _ _ h => h)) (pa_cons (pv 0) pa_nil))))
      (pss_cons (ps_for (passes_of rfl) rfl (pi_range2 (by rfl) T.z_range (pa_cons pe_int (pa_cons (pe_callB (call_lenK (K := K) rfl) (by rfl) T.z_len (by decide +kernel) (pa_cons (pv 1) pa_nil)) pa_nil))) (pg_name (i := 3) sc_mean_shares.nd rfl (.inl rfl)) (pss_cons (ps_set (i := 4) sc_mean_shares.nd rfl (.inl rfl) (pe_op op_mulX (pe_ix (ix_seqK (K := K) rfl) (pv 1) (pv 3) (fun _ _ => rfl)) (pe_op op_fdivX (pe_glob (v := .int 60) (by rfl) T.c_SIXTY ⟨_, rfl⟩) (pe_call (ok_size_of T) (hr.mono (by decide)) (by rfl) T.g_size_of T.F_size_of.kp T.b_size_of .nil (passes_call (takes_of rfl rfl rfl rfl) (fun _ _ _ _ h => h)) (pa_cons (pv 3) pa_nil)))))
      (pss_one (ps_for (passes_of rfl) rfl (pi_listK (K := K) rfl (pe_call (ok_hands_of T) (hr.mono (by decide)) (by rfl) T.g_hands_of T.F_hands_of.kp T.b_hands_of .nil (passes_call (takes_of rfl rfl rfl rfl) (fun _ _ _ _ h => h)) (pa_cons (pv 3) pa_nil))) (pg_name (i := 5) sc_mean_shares.nd rfl (.inl rfl)) (pss_one (ps_augS (pv 2) (pv 5) (get_listK (K := K) rfl) (pv 4) ip_add set_list))))))
      (pss_one (ps_ret (pe_lc (own := [("top", 6)]) rfl sc_mean_shares.nd (pi_listK (K := K) rfl (pv 2)) (blkOk_by (own := [("top", 6)]) (N := N_mean_shares) (sc := defScope s_mean_shares) (by decide +kernel)) (fun _ _ _ _ _ => (pg_name (i := 6) sc_mean_shares.nd rfl (.inl rfl))) (fun _ _ _ _ _ => pts_nil) (fun _ _ _ _ _ => (pe_call (ok_fraction T) (hr.mono (by decide)) (by rfl) T.g_fraction T.F_fraction.kp T.b_fraction .nil passL (pa_cons (pv 6) (pa_cons (pe_glob (v := .int 60) (by rfl) T.c_SIXTY ⟨_, rfl⟩) pa_nil)))))))))), ?_⟩
    walk_at "x"
    refine ⟨a, xs, rfl, hR, hT, fun ms m tb ex p1 H1 n1 s1 c1 => ?_, kE⟩
    subst ex
    obtain ⟨hB, hC, k⟩ := k0 ms m tb rfl
    have hm := tb.hi
    have hp := tb.pos
    have ht := tb.len
    have w := Own.start (H := H)
    have w1 := w.newE n1 s1 c1
    have hdl : (divM ms m).length = ms.length := tl_len _ _
    generalize divM ms m = ds at *
    walk_at "x"
    refine ⟨(by show 1 ≤ sizeLine; decide), fun p2 n2 => ?_⟩
    have w2 := w1.new (o := .lst [.int 0]) n2
    walk_at "x"
    refine ⟨a, _, rfl, rd_same w2.ex hR, things_int, fun n hn H3 s3 => ?_, fun hn => by rw [tb.look] at hn; cases hn⟩
    rw [tb.look] at hn
    obtain rfl := (Option.some.inj hn).symm
    have w3 := w2.ext s3
    walk_at "x"
    refine x_mulL (w3.get 0 rfl) ⟨by omega, by omega, ?_⟩ (fun p4 n4 => ?_)
    · rw [Int.toNat_natCast]
      exact Nat.le_trans (show [V.int 0].length * m ≤ 6 by rw [List.length_singleton]; omega) (by decide)
    have e0 : (List.replicate (m : Int).toNat [V.int 0]).flatten = (tl m (topsF ds 1)).map V.int := by
      rw [Int.toNat_natCast, rep_flat]
      congr 1
      exact rep_tl fun h hh => topsF_one ds (by omega)
    rw [e0]
    have w4 := w3.new (o := .lst ((tl m (topsF ds 1)).map V.int)) n4
    have w4 := w4.sub (ds := [(p4, .lst ((tl m (topsF ds 1)).map V.int)), (p1, .lst (ds.map V.int))]) (.cons_cons _ (.cons _ (.cons_cons _ .slnil)))
    walk_at "x"
    refine x_lenL (w4.sq 1 rfl) ?_
    walk_at "x"
    rw [List.length_map, hdl]
    refine ⟨_, _, rfl, ⟨by omega, by omega, by omega, by omega⟩, for_range (lo := 1) (n := ((ms.length : Int) - 1).toNat) (fun i σ' H' => (∃ v1 v2 v3 v4, σ' = [some (.ref a), some (.ref p1), some (.ref p4), v1, v2, v3, v4]) ∧ Own H [(p4, .lst ((tl m (topsF ds (1 + i))).map V.int)), (p1, .lst (ds.map V.int))] H') ⟨⟨_, _, _, _, rfl⟩, w4⟩ ?_ ?_⟩
    · rintro i σ' H5 hi ⟨⟨v1, v2, v3, v4, rfl⟩, w5⟩
      have hg : 1 + i < 64 := by omega
      rw [show (1 : Int) + (i : Int) = ((1 + i : Nat) : Int) by omega]
      generalize hgg : 1 + i = g at *
      walk_at "x"
      refine x_ixXL (w5.sq 1 rfl) (at_int (by omega) (by omega)) ?_
      walk_at "x"
      refine ⟨g, rfl, hg, fun H6 s6 => ?_⟩
      have w6 := w5.ext s6
      have hlen := handsM_pos g hg (by omega)
      have hl6 := handsM_len g
      walk_at "x"
      refine x_divP (by omega) (Nat.lt_of_le_of_lt (Nat.log2_le_self _) (by omega)) ?_
      rw [show (60 : Int) / (((handsM g).length : Nat) : Int) = wt g from rfl]
      have hw := wt_le g
      refine x_mulI (.of_right (intBits_le_64 (by omega) (by omega))) ?_
      walk_at "x"
      refine u_hands_of hg fun p7 H7 n7 s7 c7 => ?_
      have w7 := w6.newE n7 s7 c7
      walk_at "x"
      refine ⟨_, rfl, ⟨_, w7.sq 0 rfl⟩, for_list (xs := (handsM g).map vnat) (fun j σ' H' => (∃ v3 v4, σ' = [some (.ref a), some (.ref p1), some (.ref p4), some (.int (g : Int)), some (.int (gi ds (g : Int) * wt g)), v3, v4]) ∧ Own H [(p7, .lst ((handsM g).map vnat)), (p4, .lst ((tl m (topsG ds g j)).map V.int)), (p1, .lst (ds.map V.int))] H') ⟨⟨_, _, rfl⟩, by rw [show topsG ds g 0 = topsF ds g from funext (topsG_zero ds g)]; exact w7⟩ (fun j σ' H' _ h => h.2.sq 0 rfl) ?_ ?_⟩
      · rintro j x σ' H8 hx ⟨⟨v3, v4, rfl⟩, w8⟩
        obtain ⟨z, hz, rfl⟩ := map_at hx
        have hz6 := handsM_lt (List.mem_of_getElem? hz)
        have hzm : z < m := hands_in hg ⟨hm, by omega⟩ (List.mem_of_getElem? hz)
        have hln : (tl m (topsG ds g j)).length = m := tl_len _ _
        walk_at "x"
        refine x_ixL (w8.sq 1 rfl) (at_int (by omega) (by omega)) ?_
        walk_at "x"
        refine x_setL (w8.get 1 rfl) (by rw [List.length_map]; exact ixN_int (by omega) (by omega)) ?_
        rw [map_set_int, gi_tln hzm, Int.toNat_natCast, tl_set hzm]
        have w9 := w8.put (o' := .lst ((tl m (topsG ds g (j + 1))).map V.int)) 1 rfl
        rw [show topsG ds g (j + 1) = fun h => if h = z then topsG ds g j z + fn ds g * wt g else topsG ds g j h from funext (topsG_step ds hz)] at w9
        exact ⟨⟨_, _, rfl⟩, by rw [show topsG ds g (j + 1) = fun h => if h = z then topsG ds g j z + fn ds g * wt g else topsG ds g j h from funext (topsG_step ds hz)]; exact w9⟩
      · rintro σ' H8 ⟨⟨v3, v4, rfl⟩, w8⟩
        rw [List.length_map] at w8
        refine ⟨⟨_, _, _, _, rfl⟩, ?_⟩
        rw [tl_congr fun h hh => topsG_all ds g (show h < 6 by omega), ← hgg] at w8
        exact w8.pop
    · rintro σ' H5 ⟨⟨v1, v2, v3, v4, rfl⟩, w5⟩
      rw [show 1 + ((ms.length : Int) - 1).toNat = ms.length by omega] at w5
      have hln : (tl m (topsF ds ms.length)).length = m := tl_len _ _
      have hfl : (meanFs ds ms.length m).length = m := by unfold meanFs; rw [List.length_map, List.length_range]
      walk_at "x"
      refine ⟨_, rfl, ⟨_, w5.sq 0 rfl⟩, cp_frO (xs := (tl m (topsF ds ms.length)).map V.int) (meanFs ds ms.length m) w5 0 rfl (by rw [List.length_map, hln, hfl]) ?_ ?_⟩
      · intro D i x f H6 hx hf o
        obtain ⟨y, hy, rfl⟩ := map_at hx
        have him : i < m := by have := (List.getElem?_eq_some_iff.mp hf).1; omega
        have ef : f = shortM (topsF ds ms.length i) 60 := by
          unfold meanFs at hf
          rw [List.getElem?_map, List.getElem?_range him] at hf
          exact (Option.some.inj hf).symm
        have ey : y = topsF ds ms.length i := by
          unfold tl at hy
          rw [List.getElem?_map, List.getElem?_range him] at hy
          exact (Option.some.inj hy).symm
        subst ef ey
        walk_at "x"
        refine ⟨rfl, ?_⟩
        walk_at "x"
        refine iteT ?_
        walk_at "x"
        refine u_fraction (topsF_bits hB hp.2 hC i) (by decide) fun t H7 n7 s7 c7 => ?_
        exact o.next hf (by omega) n7 s7 c7
      · intro D H6 o
        obtain ⟨ts, w6, n6, f6⟩ := o.own
        have w7 := w6.sub (ds := [(D, .lst (ts.map V.ref))]) (.cons_cons _ (.cons _ (.cons _ .slnil)))
        exact k D ts H6 (w7.none 0 rfl) (fun t m => (n6 t m).1) w7.ex (w7.get 0 rfl) f6

/-! ### adds_of -/
def sp_adds_of (K : PySem.W.Frag) : Sp := fun vs H Q _ => ∃ (a : Addr) (ms : List Int) (m h : Nat), vs = [.ref a, .int (h : Int)] ∧ SqL K H a (ms.map V.int) ∧ Tab ms m ∧ h < m ∧ RetL ((addsM ms h).map V.int) H Q
theorem ok_adds_of (T : Txt K mg A) : FnOk P w K mg base (L2.CX P w) 1 A.a_adds_of A.d_adds_of ["table", "hand"] (sp_adds_of K) := by
  refine T.F_adds_of.okX sc_adds_of (fun vs H Q E h => ?_) (fun cdv A0 outer s H vs Q E hr h => ?_)
  · obtain ⟨a, ms, m, h, rfl, _⟩ := h; rfl
  · obtain ⟨a, ms, m, h, rfl, hS, tb, hh, k⟩ := h
    have hp := tb.pos
    have hm := tb.hi
    have ht := tb.len
    have w := Own.start (H := H)
    refine ⟨_, (pss_cons (ps_set (i := 2) sc_adds_of.nd rfl (.inr rfl) (pe_op op_shlX pe_int (pv 1)))
      (pss_one (ps_ret (pe_lc (own := [("group", 3)]) rfl sc_adds_of.nd (pi_range1 (by rfl) T.z_range (pa_cons (pe_callB (call_lenK (K := K) rfl) (by rfl) T.z_len (by decide +kernel) (pa_cons (pv 0) pa_nil)) pa_nil)) (blkOk_by (own := [("group", 3)]) (N := N_adds_of) (sc := defScope s_adds_of) (by decide +kernel)) (fun _ _ _ _ _ => (pg_name (i := 3) sc_adds_of.nd rfl (.inl rfl))) (fun _ _ _ _ _ => (pts_one (pt_cmpR (op_eqK (K := K) rfl hr.units) (pe_op op_andX (pv 3) (pv 2)) pe_int (nomark _)))) (fun _ _ _ _ _ => (pe_op op_subX (pe_ix (ix_seqK (K := K) rfl) (pv 0) (pe_op op_orX (pv 3) (pv 2)) (fun _ _ => rfl)) (pe_ix (ix_seqK (K := K) rfl) (pv 0) (pv 3) (fun _ _ => rfl)))))))), ?_⟩
    walk_at "x"
    refine x_shl ⟨by omega, by omega, by decide⟩ ?_
    rw [shl_nat]
    walk_at "x"
    refine x_lenL hS ?_
    walk_at "x"
    rw [List.length_map]
    refine ⟨_, rfl, by omega, by omega, cp_r0 (fun i => ((List.range i).filter fun g => !bitOn h g).map fun g => V.int (fn ms (g + 2 ^ h) - fn ms g)) w rfl ?_ ?_⟩
    · intro D i H' hi p
      walk_at "x"
      refine ⟨rfl, ?_⟩
      walk_at "x"
      rw [and_nat, show decide (((i &&& 2 ^ h : Nat) : Int) = 0) = !bitOn h i by rw [← bitOn_iff, Bool.not_not]]
      cases c : bitOn h i with
      | false =>
        obtain ⟨f1, f2⟩ := off_bit (by omega) hh (show i < 2 ^ m by omega) c
        refine iteT ?_
        walk_at "x"
        rw [or_nat, f1]
        refine x_ixXL (Own.seq p hS) (at_int (by omega) (by omega)) ?_
        walk_at "x"
        refine x_ixXL (Own.seq p hS) (at_int (by omega) (by omega)) ?_
        walk_at "x"
        exact cp_fin p (filter_yes (p := fun g => !bitOn h g) (by rw [c] <;> rfl) _) (by rw [List.length_map]; have := filter_len (fun g => !bitOn h g) i; omega)
      | true => exact iteF (cp_no p (filter_no (p := fun g => !bitOn h g) (by rw [c] <;> rfl) _))
    · intro D H' w2
      rw [Int.toNat_natCast] at w2
      have e : ((List.range ms.length).filter fun g => !bitOn h g).map (fun g => V.int (fn ms (g + 2 ^ h) - fn ms g)) = (addsM ms h).map V.int := by
        unfold addsM offs
        rw [List.map_map] <;> rfl
      rw [e] at w2
      exact k.go w2

/-! ### turns -/
def sp_turns (A : Ads) : Sp := fun vs H Q E => ∃ (a : Addr) (xs : List V), vs = [.ref a] ∧ Rd H a (.lst xs) ∧ (∀ v ∈ xs, Thing H v) ∧ (∀ ms m, Tab ms m → xs = ms.map V.int → RetL ((turnsM ms m).map V.int) H Q) ∧ (lookM xs = none → ∀ H', Same H H' → E (.ref A.NoTable) none H')
theorem ok_turns (T : Txt K mg A) : FnOk P w K mg base (L2.CX P w) 3 A.a_turns A.d_turns ["table"] (sp_turns A) := by
  refine T.F_turns.okX sc_turns (fun vs H Q E h => ?_) (fun cdv A0 outer s H vs Q E hr h => ?_)
  · obtain ⟨a, xs, rfl, _⟩ := h; rfl
  · obtain ⟨a, xs, rfl, hR, hT, k0, kE⟩ := h
    refine ⟨_, (pss_cons (ps_set (i := 1) sc_turns.nd rfl (.inl rfl) (pe_call (ok_look T) (hr.mono (by decide)) (by rfl) T.g_look T.F_look.kp T.b_look .nil (passes_call (takes_of rfl rfl rfl rfl) (fun _ _ _ _ h => h)) (pa_cons (pv 0) pa_nil)))
      (pss_one (ps_ret (pe_lc (own := [("hand", 2)]) rfl sc_turns.nd (pi_range1 (by rfl) T.z_range (pa_cons (pv 1) pa_nil)) (blkOk_by (own := [("hand", 2)]) (N := N_turns) (sc := defScope s_turns) (by decide +kernel)) (fun _ _ _ _ _ => (pg_name (i := 2) sc_turns.nd rfl (.inl rfl))) (fun _ _ _ _ _ => pts_nil) (fun _ _ _ _ _ => (pe_callB (cr_sumK (K := K) rfl rfl) (by rfl) T.z_sum (by decide +kernel) (pa_cons (pe_call (ok_adds_of T) (hr.mono (by decide)) (by rfl) T.g_adds_of T.F_adds_of.kp T.b_adds_of .nil passL (pa_cons (pv 0) (pa_cons (pv 2) pa_nil))) pa_nil))))))), ?_⟩
    walk_at "x"
    refine ⟨a, xs, rfl, hR, hT, fun n hn H1 s1 => ?_, kE⟩
    obtain ⟨ms, m, tb, rfl, rfl⟩ := look_tab hn
    have k := k0 ms m tb rfl
    have hS : SqL K H a (ms.map V.int) := .inl hR
    have hm := tb.hi
    have w := Own.start.ext s1
    walk_at "x"
    refine ⟨_, rfl, by omega, by omega, cp_r0 (fun i => (List.range i).map fun h => V.int (addsM ms h).sum) w rfl ?_ ?_⟩
    · intro D i H' hi p
      walk_at "x"
      refine ⟨rfl, ?_⟩
      walk_at "x"
      refine iteT ?_
      walk_at "x"
      refine ⟨a, ms, m, i, rfl, Own.seq p hS, tb, by omega, fun p2 H2 n2 s2 c2 => ?_⟩
      have w2 := Own.newE p n2 s2 c2
      walk_at "x"
      refine x_sum (w2.sq 0 rfl) ?_
      exact cp_fin (Own.pop w2) (range_map _ _) (by rw [List.length_map, List.length_range]; omega)
    · intro D H' w2
      rw [Int.toNat_natCast] at w2
      have e : (List.range m).map (fun h => V.int (addsM ms h).sum) = (turnsM ms m).map V.int := by
        unfold turnsM
        rw [List.map_map] <;> rfl
      rw [e] at w2
      exact k.go w2

/-! ### are_alike -/
def sp_are_alike (K : PySem.W.Frag) : Sp := fun vs H Q _ => ∃ (a : Addr) (ms : List Int) (m i j : Nat), vs = [.ref a, .int (i : Int), .int (j : Int)] ∧ SqL K H a (ms.map V.int) ∧ Tab ms m ∧ i < m ∧ j < m ∧ RetV (.bl (alikeB ms i j)) H Q
theorem ok_are_alike (T : Txt K mg A) : FnOk P w K mg base (L2.CX P w) 1 A.a_are_alike A.d_are_alike ["table", "one", "other"] (sp_are_alike K) := by
  refine T.F_are_alike.okX sc_are_alike (fun vs H Q E h => ?_) (fun cdv A0 outer s H vs Q E hr h => ?_)
  · obtain ⟨a, ms, m, i, j, rfl, _⟩ := h; rfl
  · obtain ⟨a, ms, m, i, j, rfl, hS, tb, hi, hj, k⟩ := h
    have hm := tb.hi
    have hp := tb.pos
    have ht := tb.len
    have w := Own.start (H := H)
    refine ⟨_, (pss_cons (ps_set (i := 3) sc_are_alike.nd rfl (.inl rfl) (pe_op op_shlX pe_int (pv 1)))
      (pss_cons (ps_set (i := 4) sc_are_alike.nd rfl (.inl rfl) (pe_op op_shlX pe_int (pv 2)))
      (pss_cons (ps_for (passes_of rfl) rfl (pi_range1 (by rfl) T.z_range (pa_cons (pe_callB (call_lenK (K := K) rfl) (by rfl) T.z_len (by decide +kernel) (pa_cons (pv 0) pa_nil)) pa_nil)) (pg_name (i := 5) sc_are_alike.nd rfl (.inl rfl)) (pss_one (ps_if (PW.pt (pw_and (pt_cmpR (op_eqK (K := K) rfl hr.units) (pe_op op_andX (pv 5) (pe_op op_orX (pv 3) (pv 4))) pe_int (nomark _)) (pw_and1 (pt_cmpR (op_neK (K := K) rfl hr.units) (pe_ix (ix_seqK (K := K) rfl) (pv 0) (pe_op op_orX (pv 5) (pv 3)) (fun _ _ => rfl)) (pe_ix (ix_seqK (K := K) rfl) (pv 0) (pe_op op_orX (pv 5) (pv 4)) (fun _ _ => rfl)) (nomark _))))) (pss_one (ps_ret pe_bl)) pss_nil)))
      (pss_one (ps_ret pe_bl))))), ?_⟩
    walk_at "x"
    refine x_shl ⟨by omega, by omega, by decide⟩ ?_
    rw [shl_nat]
    walk_at "x"
    refine x_shl ⟨by omega, by omega, by decide⟩ ?_
    rw [shl_nat]
    walk_at "x"
    refine x_lenL hS ?_
    walk_at "x"
    rw [List.length_map]
    refine ⟨_, rfl, by omega, by omega, for_r0 (n := (ms.length : Int)) (fun q σ' H' => (∃ v, σ' = [some (.ref a), some (.int (i : Int)), some (.int (j : Int)), some (vnat (2 ^ i)), some (vnat (2 ^ j)), v]) ∧ Own H [] H' ∧ (List.range q).all (fun g => bitOn i g || bitOn j g || decide (fn ms (g ||| 2 ^ i) = fn ms (g ||| 2 ^ j))) = true) ⟨⟨_, rfl⟩, w, rfl⟩ ?_ ?_⟩
    · rintro g σ' H' hg ⟨⟨v, rfl⟩, w, ok⟩
      have hg64 : g < 64 := by omega
      walk_at "x"
      rw [or_nat]
      walk_at "x"
      rw [and_nat, show decide (((g &&& (2 ^ i ||| 2 ^ j) : Nat) : Int) = 0) = (!bitOn i g && !bitOn j g) by rw [← two_bits g hg64 i (by omega) j (by omega)]; exact decide_eq_decide.mpr (by omega)]
      cases ci : bitOn i g with
      | true =>
        refine iteF ?_
        refine iteF ?_
        walk_at "x"
        exact ⟨⟨_, rfl⟩, w, by rw [all_to (by rw [ci] <;> rfl)]; exact ok⟩
      | false =>
        cases cj : bitOn j g with
        | true =>
          refine iteF ?_
          refine iteF ?_
          walk_at "x"
          exact ⟨⟨_, rfl⟩, w, by rw [all_to (by rw [ci, cj] <;> rfl)]; exact ok⟩
        | false =>
          obtain ⟨f1, f2⟩ := off_bit (by omega) hi (show g < 2 ^ m by omega) ci
          obtain ⟨g1, g2⟩ := off_bit (by omega) hj (show g < 2 ^ m by omega) cj
          refine iteT ?_
          walk_at "x"
          rw [or_nat]
          refine x_ixXL (w.seq hS) (at_int (by omega) (by omega)) ?_
          walk_at "x"
          rw [or_nat]
          refine x_ixXL (w.seq hS) (at_int (by omega) (by omega)) ?_
          walk_at "x"
          by_cases c : gi ms ((g ||| 2 ^ i : Nat) : Int) = gi ms ((g ||| 2 ^ j : Nat) : Int)
          · rw [decide_eq_true c]
            refine iteF ?_
            walk_at "x"
            exact ⟨⟨_, rfl⟩, w, by rw [all_to (by rw [ci, cj, decide_eq_true (show fn ms (g ||| 2 ^ i) = fn ms (g ||| 2 ^ j) from c)] <;> rfl)]; exact ok⟩
          · rw [decide_eq_false c]
            refine iteT ?_
            walk_at "x"
            unfold alikeB at k
            rw [all_no (n := g) (by rw [ci, cj, decide_eq_false (show ¬ fn ms (g ||| 2 ^ i) = fn ms (g ||| 2 ^ j) from c)] <;> rfl) (by omega)] at k
            exact k.go w.ex
    · rintro σ' H' ⟨⟨v, rfl⟩, w, ok⟩
      walk_at "x"
      rw [Int.toNat_natCast] at ok
      unfold alikeB at k
      rw [ok] at k
      exact k.go w.ex

/-! ### alike -/
def sp_alike (A : Ads) : Sp := fun vs H Q E => ∃ (a : Addr) (xs : List V), vs = [.ref a] ∧ Rd H a (.lst xs) ∧ (∀ v ∈ xs, Thing H v) ∧ (∀ ms m, Tab ms m → xs = ms.map V.int → RetL ((leasts ms m).map vnat) H Q) ∧ (lookM xs = none → ∀ H', Same H H' → E (.ref A.NoTable) none H')
theorem ok_alike (T : Txt K mg A) : FnOk P w K mg base (L2.CX P w) 3 A.a_alike A.d_alike ["table"] (sp_alike A) := by
  refine T.F_alike.okX sc_alike (fun vs H Q E h => ?_) (fun cdv A0 outer s H vs Q E hr h => ?_)
  · obtain ⟨a, xs, rfl, _⟩ := h; rfl
  · obtain ⟨a, xs, rfl, hR, hT, k0, kE⟩ := h
    refine ⟨_, (pss_cons (ps_set (i := 1) sc_alike.nd rfl (.inl rfl) (pe_call (ok_look T) (hr.mono (by decide)) (by rfl) T.g_look T.F_look.kp T.b_look .nil (passes_call (takes_of rfl rfl rfl rfl) (fun _ _ _ _ h => h)) (pa_cons (pv 0) pa_nil)))
      (pss_cons (ps_set (i := 2) sc_alike.nd rfl (.inl rfl) (pe_lst pa_nil))
      (pss_cons (ps_for (passes_of rfl) rfl (pi_range1 (by rfl) T.z_range (pa_cons (pv 1) pa_nil)) (pg_name (i := 3) sc_alike.nd rfl (.inl rfl)) (pss_cons (ps_set (i := 4) sc_alike.nd rfl (.inl rfl) pe_int)
      (pss_cons (ps_while (passes_of rfl) (pt_not (pt_val (pe_call (ok_are_alike T) (hr.mono (by decide)) (by rfl) T.g_are_alike T.F_are_alike.kp T.b_are_alike .nil (passes_call (takes_of rfl rfl rfl rfl) (fun _ _ _ _ h => h)) (pa_cons (pv 0) (pa_cons (pv 4) (pa_cons (pv 3) pa_nil)))))) (pss_one (ps_aug (i := 4) sc_alike.nd rfl (.inl rfl) pe_int ip_add)))
      (pss_one (ps_expr (pe_bm PySem.F.plainAttrs_list PySem.F.slot_list_append PySem.F.type_list_append mt_append (pv 2) (pa_cons (pv 4) pa_nil)))))))
      (pss_one (ps_ret (pv 2)))))), ?_⟩
    walk_at "x"
    refine ⟨a, xs, rfl, hR, hT, fun n hn H1 s1 => ?_, kE⟩
    obtain ⟨ms, m, tb, rfl, rfl⟩ := look_tab hn
    have k := k0 ms m tb rfl
    have hS : SqL K H a (ms.map V.int) := .inl hR
    have hm := tb.hi
    have w := Own.start.ext s1
    walk_at "x"
    refine ⟨Nat.zero_le _, fun p np => ?_⟩
    have w2 := w.new (o := .lst []) np
    walk_at "x"
    refine ⟨_, rfl, by omega, by omega, for_r0 (fun i σ' H' => (∃ v1 v2, σ' = [some (.ref a), some (.int (m : Int)), some (.ref p), v1, v2]) ∧ Own H [(p, .lst (((List.range i).map (leastA ms)).map vnat))] H') ⟨⟨_, _, rfl⟩, w2⟩ ?_ ?_⟩
    · rintro h σ' H5 hh ⟨⟨v1, v2, rfl⟩, w5⟩
      have hhm : h < m := by omega
      obtain ⟨e1, e2, e3⟩ := least_ex ms h
      walk_at "x"
      refine x_while (fun d σ' H' => ∃ l : Nat, σ' = [some (.ref a), some (.int (m : Int)), some (.ref p), some (.int (h : Int)), some (.int (l : Int))] ∧ Own H [(p, .lst (((List.range h).map (leastA ms)).map vnat))] H' ∧ d = leastA ms h - l ∧ l ≤ leastA ms h) (leastA ms h) ⟨0, rfl, w5, rfl, Nat.zero_le _⟩ ?_
      rintro d σ' H6 ⟨l, rfl, w6, rfl, hl⟩
      walk_at "x"
      refine ⟨a, ms, m, l, h, rfl, w6.seq hS, tb, by omega, hhm, fun H7 s7 => ?_⟩
      have w7 := w6.ext s7
      walk_at "x"
      by_cases c : l = leastA ms h
      · rw [c, e2]
        refine iteF ?_
        walk_at "x"
        refine ⟨x_tyL (w7.get 0 rfl), ?_⟩
        walk_at "x"
        refine x_append (w7.get 0 rfl) (by rw [List.length_map, List.length_map, List.length_range]; exact small1000 (by omega)) ?_
        have w8 := w7.put (o' := .lst (((List.range (h + 1)).map (leastA ms)).map vnat)) 0 rfl
        have e : ((List.range (h + 1)).map (leastA ms)).map vnat = ((List.range h).map (leastA ms)).map vnat ++ [vnat (leastA ms h)] := by rw [range_map, List.map_append] <;> rfl
        rw [e] at w8
        exact ⟨⟨_, _, rfl⟩, by rw [e]; exact w8⟩
      · rw [e3 l (by omega)]
        refine iteT ?_
        refine x_N ?_
        walk_at "x"
        exact ⟨leastA ms h - (l + 1), by omega, l + 1, rfl, w7, rfl, by omega⟩
    · rintro σ' H5 ⟨⟨v1, v2, rfl⟩, w5⟩
      rw [Int.toNat_natCast] at w5
      walk_at "x"
      exact k.go w5

/-! ### idle -/
def sp_idle (A : Ads) : Sp := fun vs H Q E => ∃ (a : Addr) (xs : List V), vs = [.ref a] ∧ Rd H a (.lst xs) ∧ (∀ v ∈ xs, Thing H v) ∧ (∀ ms m, Tab ms m → xs = ms.map V.int → RetL ((idles ms m).map vnat) H Q) ∧ (lookM xs = none → ∀ H', Same H H' → E (.ref A.NoTable) none H')
theorem ok_idle (T : Txt K mg A) : FnOk P w K mg base (L2.CX P w) 3 A.a_idle A.d_idle ["table"] (sp_idle A) := by
  refine T.F_idle.okX sc_idle (fun vs H Q E h => ?_) (fun cdv A0 outer s H vs Q E hr h => ?_)
  · obtain ⟨a, xs, rfl, _⟩ := h; rfl
  · obtain ⟨a, xs, rfl, hR, hT, k0, kE⟩ := h
    refine ⟨_, (pss_cons (ps_set (i := 1) sc_idle.nd rfl (.inl rfl) (pe_call (ok_look T) (hr.mono (by decide)) (by rfl) T.g_look T.F_look.kp T.b_look .nil (passes_call (takes_of rfl rfl rfl rfl) (fun _ _ _ _ h => h)) (pa_cons (pv 0) pa_nil)))
      (pss_one (ps_ret (pe_lc (own := [("hand", 2)]) rfl sc_idle.nd (pi_range1 (by rfl) T.z_range (pa_cons (pv 1) pa_nil)) (blkOk_by (own := [("hand", 2)]) (N := N_idle) (sc := defScope s_idle) (by decide +kernel)) (fun _ _ _ _ _ => (pg_name (i := 2) sc_idle.nd rfl (.inl rfl))) (fun _ _ _ _ _ => (pts_one (pt_not (pt_val (pe_callB (cr_anyIK (K := K) rfl rfl) (by rfl) T.z_any (by decide +kernel) (pa_cons (pe_call (ok_adds_of T) (hr.mono (by decide)) (by rfl) T.g_adds_of T.F_adds_of.kp T.b_adds_of .nil passL (pa_cons (pv 0) (pa_cons (pv 2) pa_nil))) pa_nil)))))) (fun _ _ _ _ _ => (pv 2)))))), ?_⟩
    walk_at "x"
    refine ⟨a, xs, rfl, hR, hT, fun n hn H1 s1 => ?_, kE⟩
    obtain ⟨ms, m, tb, rfl, rfl⟩ := look_tab hn
    have k := k0 ms m tb rfl
    have hS : SqL K H a (ms.map V.int) := .inl hR
    have hm := tb.hi
    have w := Own.start.ext s1
    walk_at "x"
    refine ⟨_, rfl, by omega, by omega, cp_r0 (fun i => ((List.range i).filter (idleB ms)).map vnat) w rfl ?_ ?_⟩
    · intro D i H' hi p
      walk_at "x"
      refine ⟨rfl, ?_⟩
      walk_at "x"
      refine ⟨a, ms, m, i, rfl, Own.seq p hS, tb, by omega, fun p2 H2 n2 s2 c2 => ?_⟩
      have w2 := Own.newE p n2 s2 c2
      walk_at "x"
      refine x_anyI (w2.sq 0 rfl) ?_
      have p2 := Own.pop w2
      cases c : (addsM ms i).any fun n => !decide (n = 0) with
      | false =>
        walk_at "x"
        refine iteT ?_
        walk_at "x"
        exact cp_fin p2 (filter_yes (p := idleB ms) (by unfold idleB; rw [c] <;> rfl) vnat) (by rw [List.length_map]; have := filter_len (idleB ms) i; omega)
      | true =>
        walk_at "x"
        exact iteF (cp_no p2 (filter_no (p := idleB ms) (by unfold idleB; rw [c] <;> rfl) vnat))
    · intro D H' w2
      rw [Int.toNat_natCast] at w2
      exact k.go w2

/-! ### swells -/
def sp_swells (A : Ads) : Sp := fun vs H Q E => ∃ (a : Addr) (xs : List V), vs = [.ref a] ∧ Rd H a (.lst xs) ∧ (∀ v ∈ xs, Thing H v) ∧ (∀ ms m, Tab ms m → xs = ms.map V.int → (supM ms → RetV .non H Q) ∧
  ∀ i o : Nat, i < ms.length → o < i → fn ms (i ||| o) + fn ms (i &&& o) < fn ms i + fn ms o → RetT [.int (o : Int), .int (i : Int)] H Q) ∧ (lookM xs = none → ∀ H', Same H H' → E (.ref A.NoTable) none H')
theorem ok_swells (T : Txt K mg A) : FnOk P w K mg base (L2.CX P w) 3 A.a_swells A.d_swells ["table"] (sp_swells A) := by
  refine T.F_swells.okX sc_swells (fun vs H Q E h => ?_) (fun cdv A0 outer s H vs Q E hr h => ?_)
  · obtain ⟨a, xs, rfl, _⟩ := h; rfl
  · obtain ⟨a, xs, rfl, hR, hT, k0, kE⟩ := h
    refine ⟨_, (pss_cons (ps_expr (pe_call (ok_look T) (hr.mono (by decide)) (by rfl) T.g_look T.F_look.kp T.b_look .nil (passes_call (takes_of rfl rfl rfl rfl) (fun _ _ _ _ h => h)) (pa_cons (pv 0) pa_nil)))
      (pss_cons (ps_for (passes_of rfl) rfl (pi_range1 (by rfl) T.z_range (pa_cons (pe_callB (call_lenK (K := K) rfl) (by rfl) T.z_len (by decide +kernel) (pa_cons (pv 0) pa_nil)) pa_nil)) (pg_name (i := 1) sc_swells.nd rfl (.inl rfl)) (pss_one (ps_for (passes_of rfl) rfl (pi_range1 (by rfl) T.z_range (pa_cons (pv 1) pa_nil)) (pg_name (i := 2) sc_swells.nd rfl (.inl rfl)) (pss_one (ps_if (pt_cmpR op_gtX (pe_op op_addX (pe_ix (ix_seqK (K := K) rfl) (pv 0) (pv 1) (fun _ _ => rfl)) (pe_ix (ix_seqK (K := K) rfl) (pv 0) (pv 2) (fun _ _ => rfl))) (pe_op op_addX (pe_ix (ix_seqK (K := K) rfl) (pv 0) (pe_op op_orX (pv 1) (pv 2)) (fun _ _ => rfl)) (pe_ix (ix_seqK (K := K) rfl) (pv 0) (pe_op op_andX (pv 1) (pv 2)) (fun _ _ => rfl))) (nomark _)) (pss_one (ps_ret (pe_tup (pa_cons (pv 2) (pa_cons (pv 1) pa_nil))))) pss_nil)))))
      (pss_one (ps_ret pe_non)))), ?_⟩
    walk_at "x"
    refine ⟨a, xs, rfl, hR, hT, fun n hn H1 s1 => ?_, kE⟩
    obtain ⟨ms, m, tb, rfl, rfl⟩ := look_tab hn
    obtain ⟨kN, kF⟩ := k0 ms m tb rfl
    have hS : SqL K H a (ms.map V.int) := .inl hR
    have hp := tb.pos
    have ht := tb.len
    have w := Own.start.ext s1
    walk_at "x"
    refine x_lenL (w.seq hS) ?_
    walk_at "x"
    rw [List.length_map]
    refine ⟨_, rfl, by omega, by omega, for_r0 (fun i σ' H' => (∃ v1 v2, σ' = [some (.ref a), v1, v2]) ∧ Own H [] H' ∧ ∀ i' o : Nat, i' < i → o < i' → fn ms i' + fn ms o ≤ fn ms (i' ||| o) + fn ms (i' &&& o)) ⟨⟨_, _, rfl⟩, w, fun _ _ h => absurd h (Nat.not_lt_zero _)⟩ ?_ ?_⟩
    · rintro i σ' H5 hi ⟨⟨v1, v2, rfl⟩, w5, ok⟩
      have hi : i < ms.length := by omega
      walk_at "x"
      refine ⟨_, rfl, by omega, by omega, for_r0 (fun o σ' H' => (∃ v2, σ' = [some (.ref a), some (.int (i : Int)), v2]) ∧ Own H [] H' ∧ ∀ o' : Nat, o' < o → fn ms i + fn ms o' ≤ fn ms (i ||| o') + fn ms (i &&& o')) ⟨⟨_, rfl⟩, w5, fun _ h => absurd h (Nat.not_lt_zero _)⟩ ?_ ?_⟩
      · rintro o σ' H6 ho ⟨⟨v2, rfl⟩, w6, ok6⟩
        have ho : o < i := by omega
        have h1 : i ||| o < 2 ^ m := Nat.or_lt_two_pow (by omega) (by omega)
        have h2 : i &&& o < 2 ^ m := Nat.and_lt_two_pow _ (by omega)
        walk_at "x"
        refine x_ixXL (w6.seq hS) (at_int (by omega) (by omega)) ?_
        walk_at "x"
        refine x_ixXL (w6.seq hS) (at_int (by omega) (by omega)) ?_
        walk_at "x"
        rw [or_nat]
        refine x_ixXL (w6.seq hS) (at_int (by omega) (by omega)) ?_
        walk_at "x"
        rw [and_nat]
        refine x_ixXL (w6.seq hS) (at_int (by omega) (by omega)) ?_
        walk_at "x"
        refine ite2 (fun c => ?_) (fun c => ?_)
        · have c := of_decide_eq_true c
          walk_at "x"
          refine ⟨(by show 2 ≤ sizeLine; decide), fun p np => ?_⟩
          have w7 := w6.new (o := .tup [.int (o : Int), .int (i : Int)]) np
          exact (kF i o hi ho c).go w7
        · have c : ¬ _ := fun e => c (decide_eq_true e)
          walk_at "x"
          refine ⟨⟨_, rfl⟩, w6, fun o' h => ?_⟩
          by_cases e : o' = o
          · subst e; exact Int.not_lt.mp c
          · exact ok6 o' (by omega)
      · rintro σ' H6 ⟨⟨v2, rfl⟩, w6, ok6⟩
        walk_at "x"
        refine ⟨⟨_, _, rfl⟩, w6, fun i' o h h2 => ?_⟩
        by_cases e : i' = i
        · subst e; exact ok6 o (by omega)
        · exact ok i' o (by omega) h2
    · rintro σ' H5 ⟨⟨v1, v2, rfl⟩, w5, ok⟩
      walk_at "x"
      exact kN (fun i o h1 h2 => ok i o (by omega) h2) _ w5.ex

/-! ### _law_cell -/
def sp__law_cell (K : PySem.W.Frag) : Sp := fun vs H Q _ => ∃ (a : Addr) (ns : List Int) (j : Int), vs = [.ref a, .int j] ∧ SqL K H a (ns.map V.int) ∧ ns.length ≤ 63 ∧ 0 ≤ j ∧ j < 2 ^ 20 ∧ ∀ z, RetV (.int z) H Q
theorem ok__law_cell (T : Txt K mg A) : FnOk P w K mg base (L2.CX P w) 1 A.a__law_cell A.d__law_cell ["_law_script", "_law_k"] (sp__law_cell K) := by
  refine T.F__law_cell.okX sc__law_cell (fun vs H Q E h => ?_) (fun cdv A0 outer s H vs Q E hr h => ?_)
  · obtain ⟨a, ns, j, rfl, _⟩ := h; rfl
  · obtain ⟨a, ns, j, rfl, hS, hl, h0, h1, k⟩ := h
    have k' : ∀ z, Q (.int z) H := fun z => (k z).go (Same.refl H)
    refine ⟨_, (pss_cons (ps_if (pt_cmpR op_ltX (pv 1) (pe_callB (call_lenK (K := K) rfl) (by rfl) T.z_len (by decide +kernel) (pa_cons (pv 0) pa_nil)) (nomark _)) (pss_one (ps_ret (pe_ix (ix_seqK (K := K) rfl) (pv 0) (pv 1) (fun _ _ => rfl)))) pss_nil)
      (pss_cons (ps_set (i := 2) sc__law_cell.nd rfl (.inl rfl) (pe_op op_addX (pe_op op_mulX (pe_op op_mulX (pv 1) (pv 1)) pe_int) pe_int))
      (pss_cons (ps_if (pt_cmpR op_gtX (pe_callB (call_lenK (K := K) rfl) (by rfl) T.z_len (by decide +kernel) (pa_cons (pv 0) pa_nil)) pe_int (nomark _)) (pss_one (ps_set (i := 2) sc__law_cell.nd rfl (.inl rfl) (pe_op op_addX (pv 2) (pe_op op_mulX (pe_op op_modX (pe_ix (ix_seqK (K := K) rfl) (pv 0) (pe_op op_modX (pe_op op_mulX (pv 1) pe_int) (pe_callB (call_lenK (K := K) rfl) (by rfl) T.z_len (by decide +kernel) (pa_cons (pv 0) pa_nil))) (fun _ _ => rfl)) pe_int) pe_int)))) pss_nil)
      (pss_one (ps_ret (pe_op op_modX (pe_op op_mulX (pv 2) pe_int) pe_int)))))), ?_⟩
    walk_at "x"
    refine x_lenL hS ?_
    walk_at "x"
    rw [List.length_map]
    refine ite2 (fun c => ?_) (fun c => ?_)
    · have c := of_decide_eq_true c
      walk_at "x"
      exact x_ixXL hS (at_int h0 c) (k' _)
    · walk_at "x"
      refine x_mulI (.of_left (intBits_le_64 (by omega) (by omega))) ?_
      walk_at "x"
      refine x_mulI (.of_right (by decide)) ?_
      walk_at "x"
      refine x_lenL hS ?_
      walk_at "x"
      rw [List.length_map]
      refine ite2 (fun d => ?_) (fun d => ?_)
      · have d := of_decide_eq_true d
        walk_at "x"
        refine x_mulI (.of_right (by decide)) ?_
        walk_at "x"
        refine x_lenL hS ?_
        walk_at "x"
        rw [List.length_map]
        refine x_modP d ?_
        walk_at "x"
        refine x_ixXL hS (at_int (Int.emod_nonneg _ (by omega)) (Int.emod_lt_of_pos _ d)) ?_
        walk_at "x"
        refine x_modP (by decide) ?_
        walk_at "x"
        refine x_mulI (.of_right (by decide)) ?_
        walk_at "x"
        refine x_mulI (.of_right (by decide)) ?_
        walk_at "x"
        exact x_modP (by decide) (k' _)
      · walk_at "x"
        refine x_mulI (.of_right (by decide)) ?_
        walk_at "x"
        exact x_modP (by decide) (k' _)

/-! ### _law_numbers -/
def sp__law_numbers (K : PySem.W.Frag) : Sp := fun vs H Q _ => ∃ (a : Addr) (ns : List Int), vs = [.ref a] ∧ SqL K H a (ns.map V.int) ∧ ns.length ≤ 63 ∧ ∀ zs : List Int, 1 ≤ zs.length → zs.length ≤ 6 → Bnd 1000000000000000000 zs → RetL (zs.map V.int) H Q
theorem ok__law_numbers (T : Txt K mg A) : FnOk P w K mg base (L2.CX P w) 2 A.a__law_numbers A.d__law_numbers ["_law_script"] (sp__law_numbers K) := by
  refine T.F__law_numbers.okX sc__law_numbers (fun vs H Q E h => ?_) (fun cdv A0 outer s H vs Q E hr h => ?_)
  · obtain ⟨a, ns, rfl, _⟩ := h; rfl
  · obtain ⟨a, ns, rfl, hS, hl, k⟩ := h
    refine ⟨_, (pss_cons (ps_set (i := 1) sc__law_numbers.nd rfl (.inl rfl) (pe_op op_modX (pe_call (ok__law_cell T) (hr.mono (by decide)) (by rfl) T.g__law_cell T.F__law_cell.kp T.b__law_cell .nil (passes_call (takes_of rfl rfl rfl rfl) (fun _ _ _ _ h => h)) (pa_cons (pv 0) (pa_cons pe_int pa_nil))) pe_int))
      (pss_cons (ps_set (i := 2) sc__law_numbers.nd rfl (.inl rfl) (pe_lst pa_nil))
      (pss_cons (ps_for (passes_of rfl) rfl (pi_range1 (by rfl) T.z_range (pa_cons (pe_op op_addX pe_int (pe_op op_modX (pv 1) pe_int)) pa_nil)) (pg_name (i := 3) sc__law_numbers.nd rfl (.inl rfl)) (pss_cons (ps_set (i := 4) sc__law_numbers.nd rfl (.inl rfl) (pe_call (ok__law_cell T) (hr.mono (by decide)) (by rfl) T.g__law_cell T.F__law_cell.kp T.b__law_cell .nil (passes_call (takes_of rfl rfl rfl rfl) (fun _ _ _ _ h => h)) (pa_cons (pv 0) (pa_cons (pe_op op_addX pe_int (pv 3)) pa_nil))))
      (pss_one (ps_if (pt_cmpR op_ltX (pv 1) pe_int (nomark _)) (pss_one (ps_expr (pe_bm PySem.F.plainAttrs_list PySem.F.slot_list_append PySem.F.type_list_append mt_append (pv 2) (pa_cons (pe_op op_subX (pe_op op_modX (pv 4) pe_int) pe_int) pa_nil)))) (pss_one (ps_expr (pe_bm PySem.F.plainAttrs_list PySem.F.slot_list_append PySem.F.type_list_append mt_append (pv 2) (pa_cons (pe_op op_subX (pe_op op_modX (pe_op op_mulX (pv 4) pe_int) (pe_op op_addX (pe_op op_mulX pe_int (pe_op op_powX pe_int pe_int)) pe_int)) (pe_op op_powX pe_int pe_int)) pa_nil))))))))
      (pss_one (ps_ret (pv 2)))))), ?_⟩
    walk_at "x"
    refine ⟨a, ns, 0, rfl, hS, hl, by decide, by decide, fun z0 H1 s1 => ?_⟩
    have w1 : Own H [] H1 := Own.start.ext s1
    refine x_modP (by decide) ?_
    walk_at "x"
    refine ⟨(by show 0 ≤ sizeLine; decide), fun p np => ?_⟩
    have w2 : Own H [(p, .lst (([] : List Int).map V.int))] _ := w1.new np
    walk_at "x"
    refine x_modP (by decide) ?_
    obtain ⟨m, hm⟩ : ∃ m : Nat, (1 : Int) + z0 % 12 % 6 = (m : Int) := ⟨(1 + z0 % 12 % 6).toNat, by omega⟩
    walk_at "x"
    rw [hm]
    refine ⟨_, rfl, by omega, by omega, for_r0 (n := (m : Int)) (fun i σ' H' => ∃ zs : List Int, (∃ v3 v4, σ' = [some (.ref a), some (.int (z0 % 12)), some (.ref p), v3, v4]) ∧ Own H [(p, .lst (zs.map V.int))] H' ∧ zs.length = i ∧ Bnd 1000000000000000000 zs) ⟨[], ⟨_, _, rfl⟩, w2, rfl, fun _ h => nomatch h⟩ ?_ ?_⟩
    · rintro i σ' H' hi ⟨zs, ⟨v3, v4, rfl⟩, w, hz, hb⟩
      walk_at "x"
      refine ⟨a, ns, _, rfl, w.seq hS, hl, by omega, by omega, fun z1 H3 s3 => ?_⟩
      have w3 := w.ext s3
      walk_at "x"
      refine ite2 (fun _ => ?_) (fun _ => ?_)
      · walk_at "x"
        refine ⟨x_tyL (w3.get 0 rfl), ?_⟩
        walk_at "x"
        refine x_modP (by decide) ?_
        walk_at "x"
        have y0 : -1000000000000000000 ≤ z1 % 3 - 1 ∧ z1 % 3 - 1 ≤ 1000000000000000000 := by omega
        generalize z1 % 3 - 1 = y at y0 ⊢
        refine x_append (w3.get 0 rfl) (by rw [List.length_map]; exact small1000 (by omega)) ?_
        rw [map_app_int]
        exact ⟨zs ++ [y], ⟨_, _, rfl⟩, w3.put (o' := .lst ((zs ++ [y]).map V.int)) 0 rfl, by rw [List.length_append, hz] <;> rfl, hb.app y0.1 y0.2⟩
      · walk_at "x"
        refine ⟨x_tyL (w3.get 0 rfl), ?_⟩
        walk_at "x"
        refine x_mulI (.of_right (by decide)) ?_
        walk_at "x"
        refine x_powN ⟨by decide, by decide, by decide⟩ ?_
        refine x_mulI (.of_left (by decide)) ?_
        walk_at "x"
        refine x_modP (by decide) ?_
        walk_at "x"
        refine x_powN ⟨by decide, by decide, by decide⟩ ?_
        walk_at "x"
        rw [show (2 : Int) * 10 ^ (18 : Int).toNat + 1 = 2000000000000000001 by decide, show (10 : Int) ^ (18 : Int).toNat = 1000000000000000000 by decide]
        have y0 : -1000000000000000000 ≤ z1 * 1236067977499789805 % 2000000000000000001 - 1000000000000000000 ∧ z1 * 1236067977499789805 % 2000000000000000001 - 1000000000000000000 ≤ 1000000000000000000 := by omega
        generalize z1 * 1236067977499789805 % 2000000000000000001 - 1000000000000000000 = y at y0 ⊢
        refine x_append (w3.get 0 rfl) (by rw [List.length_map]; exact small1000 (by omega)) ?_
        rw [map_app_int]
        exact ⟨zs ++ [y], ⟨_, _, rfl⟩, w3.put (o' := .lst ((zs ++ [y]).map V.int)) 0 rfl, by rw [List.length_append, hz] <;> rfl, hb.app y0.1 y0.2⟩
    · rintro σ' H' ⟨zs, ⟨v3, v4, rfl⟩, w, hz, hb⟩
      rw [Int.toNat_natCast] at hz
      walk_at "x"
      exact (k zs (by omega) (by omega) hb).go w

/-! ### _law_sums -/
def sp__law_sums (K : PySem.W.Frag) : Sp := fun vs H Q _ => ∃ (a : Addr) (zs : List Int) (m : Nat), vs = [.ref a] ∧ SqL K H a (zs.map V.int) ∧ zs.length = m ∧ 1 ≤ m ∧ m ≤ 6 ∧ RetL ((tabA zs m).map V.int) H Q
theorem ok__law_sums (T : Txt K mg A) : FnOk P w K mg base (L2.CX P w) 1 A.a__law_sums A.d__law_sums ["_law_some"] (sp__law_sums K) := by
  refine T.F__law_sums.okX sc__law_sums (fun vs H Q E h => ?_) (fun cdv A0 outer s H vs Q E hr h => ?_)
  · obtain ⟨a, zs, m, rfl, _⟩ := h; rfl
  · obtain ⟨a, zs, m, rfl, hS, hl, m1, m6, k⟩ := h
    have h64 := pow6 m6
    have hpp := Nat.two_pow_pos m
    refine ⟨_, (pss_cons (ps_set (i := 1) sc__law_sums.nd rfl (.inl rfl) (pe_lst pa_nil))
      (pss_cons (ps_for (passes_of rfl) rfl (pi_range1 (by rfl) T.z_range (pa_cons (pe_op op_shlX pe_int (pe_callB (call_lenK (K := K) rfl) (by rfl) T.z_len (by decide +kernel) (pa_cons (pv 0) pa_nil))) pa_nil)) (pg_name (i := 2) sc__law_sums.nd rfl (.inr rfl)) (pss_one (ps_expr (pe_bm PySem.F.plainAttrs_list PySem.F.slot_list_append PySem.F.type_list_append mt_append (pv 1) (pa_cons (pe_callB (cr_sumK (K := K) rfl rfl) (by rfl) T.z_sum (by decide +kernel) (pa_cons (pe_lc (own := [("_law_k", 3)]) rfl sc__law_sums.nd (pi_range1 (by rfl) T.z_range (pa_cons (pe_callB (call_lenK (K := K) rfl) (by rfl) T.z_len (by decide +kernel) (pa_cons (pv 0) pa_nil)) pa_nil)) (blkOk_by (own := [("_law_k", 3)]) (N := N__law_sums) (sc := defScope s__law_sums) (by decide +kernel)) (fun _ _ _ _ _ => (pg_name (i := 3) sc__law_sums.nd rfl (.inl rfl))) (fun _ _ _ _ _ => (pts_one (pt_cmpR (op_eqK (K := K) rfl hr.units) (pe_op op_andX (pe_op op_shrX (pv 2) (pv 3)) pe_int) pe_int (nomark _)))) (fun _ _ _ _ _ => (pe_ix (ix_seqK (K := K) rfl) (pv 0) (pv 3) (fun _ _ => rfl)))) pa_nil)) pa_nil)))))
      (pss_one (ps_ret (pv 1))))), ?_⟩
    walk_at "x"
    refine ⟨(by show 0 ≤ sizeLine; decide), fun p np => ?_⟩
    have w1 : Own H [(p, .lst ((tl 0 (sumS zs)).map V.int))] _ := (Own.start (H := H)).new np
    walk_at "x"
    refine x_lenL (w1.seq hS) ?_
    rw [List.length_map, hl]
    refine x_shl ⟨by omega, by omega, by decide⟩ ?_
    rw [shl_nat]
    refine ⟨_, rfl, by omega, by omega, for_r0 (n := ((2 ^ m : Nat) : Int)) (fun i σ' H' => (∃ v2 v3, σ' = [some (.ref a), some (.ref p), v2, v3]) ∧ Own H [(p, .lst ((tl i (sumS zs)).map V.int))] H') ⟨⟨_, _, rfl⟩, w1⟩ ?_ ?_⟩
    · rintro i σ' H' hi ⟨⟨v2, v3, rfl⟩, w⟩
      have hi2 : i < 2 ^ m := by omega
      walk_at "x"
      refine ⟨x_tyL (w.get 0 rfl), ?_⟩
      walk_at "x"
      refine x_lenL (w.seq hS) ?_
      rw [List.length_map, hl]
      refine ⟨_, rfl, by omega, by omega, cp_r0 (n := (m : Int)) (fun j => (((List.range j).filter fun h => bitOn h i).map fun h : Nat => gi zs (h : Int)).map V.int) w rfl ?_ ?_⟩
      · intro D j H3 hj p3
        walk_at "x"
        refine ⟨rfl, ?_⟩
        walk_at "x"
        refine x_shr (by omega) ?_
        walk_at "x"
        rw [bit_int (by omega) (by omega)]
        cases c : bitOn j i with
        | true =>
          refine iteT ?_
          walk_at "x"
          refine x_ixXL (Own.seq p3 hS) (at_int (ns := zs) (by omega) (by omega)) ?_
          exact cp_fin p3 (by rw [List.map_map, List.map_map]; exact filter_yes (p := fun h => bitOn h i) c _) (by rw [List.length_map, List.length_map]; have := filter_len (fun h => bitOn h i) j; omega)
        | false =>
          exact iteF (cp_no p3 (by rw [List.map_map, List.map_map]; exact filter_no (p := fun h => bitOn h i) c _))
      · intro D H3 w3
        rw [Int.toNat_natCast] at w3
        walk_at "x"
        refine x_sum (w3.sq 0 rfl) ?_
        rw [hands_sum, ← hl]
        have w4 := w3.pop
        walk_at "x"
        refine x_append (w4.get 0 rfl) (by rw [List.length_map, tl_len]; exact small1000 (by omega)) ?_
        rw [map_app_int, show tl i (sumS zs) ++ [sumTo zs i zs.length] = tl (i + 1) (sumS zs) from (range_map _ _).symm]
        exact ⟨⟨_, _, rfl⟩, w4.put (o' := .lst ((tl (i + 1) (sumS zs)).map V.int)) 0 rfl⟩
    · rintro σ' H' ⟨⟨v2, v3, rfl⟩, w⟩
      rw [Int.toNat_natCast] at w
      walk_at "x"
      exact k.go w

/-! ### _law_none -/
def sp__law_none (K : PySem.W.Frag) : Sp := fun vs H Q _ => ∃ (a b : Addr) (ns ms : List Int) (m : Nat), vs = [.ref a, .ref b] ∧ SqL K H a (ns.map V.int) ∧ ns.length ≤ 63 ∧ H b = some (.lst (ms.map V.int)) ∧ Tab ms m ∧ Bnd 10000000000000000000 ms ∧
  ∀ xs, lookM xs = none → xs.length ≤ 200 → ∀ p H', H p = none → Same H H' → H' p = some (.lst xs) → Elts K H' xs → Q (.ref p) H'
theorem no_pow : ∀ m, m < 7 → ∀ k, k < 7 → (decide (k = 0) || decide (m = 0) || (2 ^ m - 1 != 2 ^ k && 2 ^ m + 1 != 2 ^ k && 0 != 2 ^ k && 128 != 2 ^ k)) = true := by decide
theorem no_pow2 {m k : Nat} (h1 : 1 ≤ m) (h6 : m ≤ 6) (k1 : 1 ≤ k) (k6 : k ≤ 6) : 2 ^ m - 1 ≠ 2 ^ k ∧ 2 ^ m + 1 ≠ 2 ^ k ∧ 0 ≠ 2 ^ k ∧ 128 ≠ 2 ^ k := by
  have h := no_pow m (by omega) k (by omega)
  rw [decide_eq_false (by omega), decide_eq_false (by omega), Bool.false_or, Bool.false_or] at h
  simp only [Bool.and_eq_true, bne_iff_ne] at h
  exact ⟨h.1.1.1, h.1.1.2, h.1.2, h.2⟩
theorem ok__law_none (T : Txt K mg A) : FnOk P w K mg base (L2.CX P w) 2 A.a__law_none A.d__law_none ["_law_script", "_law_table"] (sp__law_none K) := by
  refine T.F__law_none.okX sc__law_none (fun vs H Q E h => ?_) (fun cdv A0 outer s H vs Q E hr h => ?_)
  · obtain ⟨a, b, ns, ms, m, rfl, _⟩ := h; rfl
  · obtain ⟨a, b, ns, ms, m, rfl, hS, hl, hb, tb, bnd, k⟩ := h
    have hp := tb.pos
    have ht := tb.len
    have hT := SqL.of (K := K) hb
    have np := fun k (k1 : 1 ≤ k) k6 => no_pow2 tb.lo tb.hi k1 k6
    refine ⟨_, (pss_cons (ps_set (i := 2) sc__law_none.nd rfl (.inl rfl) (pe_op op_modX (pe_op op_mulX (pe_op op_modX (pe_call (ok__law_cell T) (hr.mono (by decide)) (by rfl) T.g__law_cell T.F__law_cell.kp T.b__law_cell .nil (passes_call (takes_of rfl rfl rfl rfl) (fun _ _ _ _ h => h)) (pa_cons (pv 0) (pa_cons pe_int pa_nil))) pe_int) pe_int) pe_int))
      (pss_cons (ps_if (pt_cmpR (op_eqK (K := K) rfl hr.units) (pe_op op_modX (pv 2) pe_int) pe_int (nomark _)) (pss_one (ps_ret (pe_slice (sl_listK (K := K) rfl) (pv 1) po_none (po_some (pe_un un_neg pe_int))))) pss_nil)
      (pss_cons (ps_if (pt_cmpR (op_eqK (K := K) rfl hr.units) (pe_op op_modX (pv 2) pe_int) pe_int (nomark _)) (pss_one (ps_ret (pe_op op_addX (pv 1) (pe_lst (pa_cons (pe_op op_modX (pe_op op_fdivX (pv 2) pe_int) pe_int) pa_nil))))) pss_nil)
      (pss_cons (ps_if (pt_cmpR (op_eqK (K := K) rfl hr.units) (pe_op op_modX (pv 2) pe_int) pe_int (nomark _)) (pss_one (ps_ret (pe_lst pa_nil))) pss_nil)
      (pss_cons (ps_if (pt_cmpR (op_eqK (K := K) rfl hr.units) (pe_op op_modX (pv 2) pe_int) pe_int (nomark _)) (pss_one (ps_ret (pe_op op_mulX (pe_lst (pa_cons pe_int pa_nil)) pe_int))) pss_nil)
      (pss_cons (ps_if (pt_cmpR (op_eqK (K := K) rfl hr.units) (pe_op op_modX (pv 2) pe_int) pe_int (nomark _)) (pss_one (ps_ret (pe_op op_addX (pe_lst (pa_cons (pe_op op_addX pe_int (pe_op op_modX (pe_op op_fdivX (pv 2) pe_int) pe_int)) pa_nil)) (pe_slice (sl_listK (K := K) rfl) (pv 1) (po_some pe_int) po_none)))) pss_nil)
      (pss_cons (ps_set (i := 3) sc__law_none.nd rfl (.inl rfl) (pe_op op_modX (pe_op op_fdivX (pv 2) pe_int) (pe_callB (call_lenK (K := K) rfl) (by rfl) T.z_len (by decide +kernel) (pa_cons (pv 1) pa_nil))))
      (pss_cons (ps_set (i := 4) sc__law_none.nd rfl (.inl rfl) (pe_lst (pa_cons pe_non (pa_cons (pe_cmpR op_gtX (pe_ix (ix_seqK (K := K) rfl) (pv 1) (pv 3) (fun _ _ => rfl)) pe_int (nomark _)) (pa_cons (pe_callTy call_strX (by rfl) T.z_str (by decide +kernel) (pa_cons (pe_ix (ix_seqK (K := K) rfl) (pv 1) (pv 3) (fun _ _ => rfl)) pa_nil)) (pa_cons (pe_lst (pa_cons (pe_ix (ix_seqK (K := K) rfl) (pv 1) (pv 3) (fun _ _ => rfl)) pa_nil)) (pa_cons (pe_tup (pa_cons (pe_ix (ix_seqK (K := K) rfl) (pv 1) (pv 3) (fun _ _ => rfl)) (pa_cons pe_int pa_nil))) pa_nil)))))))
      (pss_one (ps_ret (pe_op op_addX (pe_op op_addX (pe_slice (sl_listK (K := K) rfl) (pv 1) po_none (po_some (pv 3))) (pe_lst (pa_cons (pe_ix (ix_seqK (K := K) rfl) (pv 4) (pe_op op_subX (pe_op op_modX (pv 2) pe_int) pe_int) (fun _ _ => rfl)) pa_nil))) (pe_slice (sl_listK (K := K) rfl) (pv 1) (po_some (pe_op op_addX (pv 3) pe_int)) po_none)))))))))))), ?_⟩
    walk_at "x"
    refine ⟨a, ns, 1, rfl, hS, hl, by decide, by decide, fun z1 H1 s1 => ?_⟩
    have w1 : Own H [] H1 := Own.start.ext s1
    refine x_modP (by decide) ?_
    walk_at "x"
    refine x_mulI (.of_right (by decide)) ?_
    walk_at "x"
    refine x_modP (by decide) ?_
    have y0 := Int.emod_nonneg (z1 % 1000003 * 48271) (show (2147483629 : Int) ≠ 0 by decide)
    generalize z1 % 1000003 * 48271 % 2147483629 = y at y0 ⊢
    walk_at "x"
    refine x_modP (by decide) ?_
    walk_at "x"
    refine ite2 (fun _ => ?_) (fun c0 => x_next ?_)
    · walk_at "x"
      refine x_slL (w1.seq hT) fun p np1 => ?_
      rw [cut_m1]
      have w2 := w1.new (o := .lst ((ms.map V.int).take ((ms.map V.int).length - 1))) np1
      refine k _ (look_len fun k k1 k6 => ?_) ?_ p _ (w2.none 0 rfl) w2.ex (w2.get 0 rfl) (Elts.take elts_int _)
      · rw [List.length_take, List.length_map, ht]
        have := (np k k1 k6).1
        omega
      · rw [List.length_take, List.length_map]; omega
    walk_at "x"
    refine x_modP (by decide) ?_
    walk_at "x"
    refine ite2 (fun _ => ?_) (fun c1 => x_next ?_)
    · walk_at "x"
      refine x_divP (by decide) (by decide) ?_
      walk_at "x"
      refine x_modP (by decide) ?_
      walk_at "x"
      refine ⟨(by show 1 ≤ sizeLine; decide), fun p np1 => ?_⟩
      have w2 := w1.new (o := .lst [.int (y / 10 % 100)]) np1
      refine x_addL (.inl (w2.ex _ _ hb)) (.inl (w2.get 0 rfl)) (by rw [List.length_map]; exact Nat.le_trans (show ms.length + 1 ≤ 65 by omega) (by decide)) fun p3 np3 => ?_
      have w3 := w2.new (o := .lst (ms.map V.int ++ [.int (y / 10 % 100)])) np3
      refine k _ (look_len fun k k1 k6 => ?_) ?_ p3 _ (w3.none 0 rfl) w3.ex (w3.get 0 rfl) (elts_int.app (Elts.one (.int _)))
      · rw [List.length_append, List.length_map, ht]
        exact (np k k1 k6).2.1
      · rw [List.length_append, List.length_map]; show ms.length + 1 ≤ 200; omega
    walk_at "x"
    refine x_modP (by decide) ?_
    walk_at "x"
    refine ite2 (fun _ => ?_) (fun c2 => x_next ?_)
    · walk_at "x"
      refine ⟨(by show 0 ≤ sizeLine; decide), fun p np1 => ?_⟩
      have w2 := w1.new (o := .lst []) np1
      exact k [] (look_len fun k k1 k6 => (np k k1 k6).2.2.1) (by show 0 ≤ 200; omega) p _ (w2.none 0 rfl) w2.ex (w2.get 0 rfl) (fun _ h => nomatch h)
    walk_at "x"
    refine x_modP (by decide) ?_
    walk_at "x"
    refine ite2 (fun _ => ?_) (fun c3 => x_next ?_)
    · walk_at "x"
      refine ⟨(by show 1 ≤ sizeLine; decide), fun p np1 => ?_⟩
      have w2 := w1.new (o := .lst [.int 0]) np1
      walk_at "x"
      refine x_mulL (w2.get 0 rfl) ⟨by omega, by omega, by decide⟩ (fun p3 np3 => ?_)
      rw [show (128 : Int).toNat = 128 from rfl, rep_flat]
      have w3 := w2.new (o := .lst ((List.replicate 128 (0 : Int)).map V.int)) np3
      refine k _ (look_len fun k k1 k6 => ?_) ?_ p3 _ (w3.none 0 rfl) w3.ex (w3.get 0 rfl) elts_int
      · rw [List.length_map, List.length_replicate]
        exact (np k k1 k6).2.2.2
      · rw [List.length_map, List.length_replicate]; omega
    walk_at "x"
    refine x_modP (by decide) ?_
    walk_at "x"
    refine ite2 (fun _ => ?_) (fun c4 => x_next ?_)
    · walk_at "x"
      refine x_divP (by decide) (by decide) ?_
      walk_at "x"
      refine x_modP (by decide) ?_
      walk_at "x"
      refine ⟨(by show 1 ≤ sizeLine; decide), fun p np1 => ?_⟩
      have w2 := w1.new (o := .lst [.int (1 + y / 10 % 1000)]) np1
      walk_at "x"
      refine x_slL (w2.seq hT) fun p3 np3 => ?_
      rw [show (1 : Int) = ((1 : Nat) : Int) from rfl, cut_from]
      have w3 := w2.new (o := .lst ((ms.map V.int).drop 1)) np3
      refine x_addL (.inl (w3.get 1 rfl)) (.inl (w3.get 0 rfl)) (by rw [List.length_drop, List.length_map]; exact Nat.le_trans (show 1 + (ms.length - 1) ≤ 65 by omega) (by decide)) fun p4 np4 => ?_
      have w4 := w3.new (o := .lst ([.int (1 + y / 10 % 1000)] ++ (ms.map V.int).drop 1)) np4
      refine k _ (look_first (z := 1 + y / 10 % 1000) rfl (by omega)) ?_ p4 _ (w4.none 0 rfl) w4.ex (w4.get 0 rfl) ((Elts.one (.int _)).app (elts_int.drop _))
      rw [List.length_append, List.length_drop, List.length_map]; show 1 + (ms.length - 1) ≤ 200; omega
    walk_at "x"
    refine x_divP (by decide) (by decide) ?_
    walk_at "x"
    refine x_lenL (w1.seq hT) ?_
    rw [List.length_map]
    refine x_modP (by omega) ?_
    obtain ⟨i, hi⟩ := Int.eq_ofNat_of_zero_le (Int.emod_nonneg (y / 10) (show (ms.length : Int) ≠ 0 by omega))
    have hil := Int.emod_lt_of_pos (y / 10) (show (0 : Int) < (ms.length : Int) by omega)
    rw [hi] at hil ⊢
    have hi2 : i < ms.length := by omega
    have hz : (gi ms (i : Int)).natAbs < 2 ^ 64 := by
      have := bnd.at (by decide) (i : Int)
      omega
    walk_at "x"
    refine x_ixXL (w1.seq hT) (at_int (ns := ms) (by omega) (by omega)) ?_
    walk_at "x"
    refine x_ixXL (w1.seq hT) (at_int (ns := ms) (by omega) (by omega)) ?_
    walk_at "x"
    refine x_str (log2_small (by decide) hz (by decide)) ?_
    walk_at "x"
    refine x_ixXL (w1.seq hT) (at_int (ns := ms) (by omega) (by omega)) ?_
    walk_at "x"
    refine ⟨(by show 1 ≤ sizeLine; decide), fun p2 np2 => ?_⟩
    have w2 := w1.new (o := .lst ([gi ms (i : Int)].map V.int)) np2
    walk_at "x"
    refine x_ixXL (w2.seq hT) (at_int (ns := ms) (by omega) (by omega)) ?_
    walk_at "x"
    refine ⟨(by show 2 ≤ sizeLine; decide), fun p3 np3 => ?_⟩
    have w3 := w2.new (o := .tup ([gi ms (i : Int), 1].map V.int)) np3
    walk_at "x"
    refine ⟨(by show 5 ≤ sizeLine; decide), fun p4 np4 => ?_⟩
    have w4 := w3.new (o := .lst [.non, .bl (decide (0 < gi ms (i : Int))), .str (Str.ofString (toString (gi ms (i : Int)))), .ref p2, .ref p3]) np4
    walk_at "x"
    refine x_slL (w4.seq hT) fun p5 np5 => ?_
    rw [cut_to]
    have w5 := w4.new (o := .lst ((ms.map V.int).take i)) np5
    walk_at "x"
    refine x_modP (by decide) ?_
    walk_at "x"
    have c5 : 5 ≤ y % 10 := by
      have d0 := of_decide_eq_false (Bool.eq_false_iff.mpr c0)
      have d1 := of_decide_eq_false (Bool.eq_false_iff.mpr c1)
      have d2 := of_decide_eq_false (Bool.eq_false_iff.mpr c2)
      have d3 := of_decide_eq_false (Bool.eq_false_iff.mpr c3)
      have d4 := of_decide_eq_false (Bool.eq_false_iff.mpr c4)
      omega
    obtain ⟨v, ev, hv⟩ := at_mem (xs := [.non, .bl (decide (0 < gi ms (i : Int))), .str (Str.ofString (toString (gi ms (i : Int)))), .ref p2, .ref p3]) (i := y % 10 - 5) (by omega) (by show y % 10 - 5 < 5; omega)
    refine x_ixXL (w5.sq 1 rfl) ev ?_
    walk_at "x"
    refine ⟨(by show 1 ≤ sizeLine; decide), fun p6 np6 => ?_⟩
    have w6 := w5.new (o := .lst [v]) np6
    have ltake : ((ms.map V.int).take i).length ≤ 64 := by rw [List.length_take, List.length_map]; omega
    refine x_addL (.inl (w6.get 1 rfl)) (.inl (w6.get 0 rfl)) (Nat.le_trans (show _ + 1 ≤ 65 by omega) (by decide)) fun p7 np7 => ?_
    have w7 := w6.new (o := .lst ((ms.map V.int).take i ++ [v])) np7
    walk_at "x"
    refine x_slL (w7.seq hT) fun p8 np8 => ?_
    rw [show (i : Int) + 1 = ((i + 1 : Nat) : Int) from rfl, cut_from]
    have w8 := w7.new (o := .lst ((ms.map V.int).drop (i + 1))) np8
    have ldrop : ((ms.map V.int).drop (i + 1)).length ≤ 64 := by rw [List.length_drop, List.length_map]; omega
    refine x_addL (.inl (w8.get 1 rfl)) (.inl (w8.get 0 rfl)) (by rw [List.length_append]; exact Nat.le_trans (show _ + 1 + _ ≤ 129 by omega) (by decide)) fun p9 np9 => ?_
    have w9 := w8.new (o := .lst ((ms.map V.int).take i ++ [v] ++ (ms.map V.int).drop (i + 1))) np9
    have ve : isI v = false ∧ ∀ Hx : Hp, Hx p2 = some (.lst ([gi ms (i : Int)].map V.int)) → Hx p3 = some (.tup ([gi ms (i : Int), 1].map V.int)) → ∃ d, Elt K Hx v d := by
      simp only [List.mem_cons, List.not_mem_nil, or_false] at hv
      rcases hv with rfl | rfl | rfl | rfl | rfl
      · exact ⟨rfl, fun _ _ _ => ⟨_, .non⟩⟩
      · exact ⟨rfl, fun _ _ _ => ⟨_, .bl _⟩⟩
      · exact ⟨rfl, fun _ _ _ => ⟨_, .str _ (strOk_of _)⟩⟩
      · exact ⟨rfl, fun _ h _ => ⟨_, .lst (.inl h)⟩⟩
      · exact ⟨rfl, fun _ _ h => ⟨_, .tup h⟩⟩
    obtain ⟨vi, ve⟩ := ve
    obtain ⟨d, hd⟩ := ve _ (w9.get 7 rfl) (w9.get 6 rfl)
    refine k _ (look_odd (v := v) (List.mem_append.mpr (.inl (List.mem_append.mpr (.inr (.head _))))) vi) ?_ p9 _ (w9.none 0 rfl) w9.ex (w9.get 0 rfl) (((elts_int.take _).app (Elts.one hd)).app (elts_int.drop _))
    rw [List.length_append, List.length_append]; show _ + 1 + _ ≤ 200; omega

/-! ### _law_told -/
def sp__law_told (A : Ads) (K : PySem.W.Frag) : Sp := fun vs H Q E => ∃ (w : Nat) (a b : Addr) (ts xs : List V), vs = [.int (w : Int), .ref a, .ref b] ∧ Rd H a (.lst ts) ∧ (∀ v ∈ ts, Thing H v) ∧ Rd H b (.lst xs) ∧ xs.length ≤ 1000 ∧ (∀ v ∈ xs, Thing H v) ∧
  ((lookM ts = none ∧ ∀ H', Same H H' → E (.ref A.NoTable) none H') ∨
   ∃ (zs : List Int) (m : Nat) (ns : List Nat), zs.length = m ∧ 1 ≤ m ∧ m ≤ 6 ∧ Bnd 1000000000000000000 zs ∧ ts = (tabA zs m).map V.int ∧ xs = ns.map vnat ∧ Ordr ns m ∧ w < 7 ∧ ∀ v H', Same H H' → Dp K H' v (whichD zs m w) → Q v H')
theorem ok__law_told (T : Txt K mg A) : FnOk P w K mg base (L2.CX P w) 6 A.a__law_told A.d__law_told ["_law_which", "_law_table", "_law_order"] (sp__law_told A K) := by
  refine T.F__law_told.okX sc__law_told (fun vs H Q E h => ?_) (fun cdv A0 outer s H vs Q E hr h => ?_)
  · obtain ⟨w, a, b, ts, xs, rfl, _⟩ := h; rfl
  · obtain ⟨w, a, b, ts, xs, rfl, hR, hT, hR2, hx, hT2, hc⟩ := h
    refine ⟨_, (pss_cons (ps_if (pt_cmpR (op_eqK (K := K) rfl hr.units) (pv 0) pe_int (nomark _)) (pss_one (ps_ret (pe_call (ok_dividends T) (hr.mono (by decide)) (by rfl) T.g_dividends T.F_dividends.kp T.b_dividends .nil (passes_call (takes_of rfl rfl rfl rfl) (fun _ _ _ _ h => h)) (pa_cons (pv 1) pa_nil)))) pss_nil)
      (pss_cons (ps_if (pt_cmpR (op_eqK (K := K) rfl hr.units) (pv 0) pe_int (nomark _)) (pss_one (ps_ret (pe_call (ok_earned T) (hr.mono (by decide)) (by rfl) T.g_earned T.F_earned.kp T.b_earned .nil (passes_call (takes_of rfl rfl rfl rfl) (fun _ _ _ _ h => h)) (pa_cons (pv 1) pa_nil)))) pss_nil)
      (pss_cons (ps_if (pt_cmpR (op_eqK (K := K) rfl hr.units) (pv 0) pe_int (nomark _)) (pss_one (ps_ret (pe_call (ok_order_shares T) (hr.mono (by decide)) (by rfl) T.g_order_shares T.F_order_shares.kp T.b_order_shares .nil (passes_call (takes_of rfl rfl rfl rfl) (fun _ _ _ _ h => h)) (pa_cons (pv 1) (pa_cons (pv 2) pa_nil))))) pss_nil)
      (pss_cons (ps_if (pt_cmpR (op_eqK (K := K) rfl hr.units) (pv 0) pe_int (nomark _)) (pss_one (ps_ret (pe_call (ok_mean_shares T) (hr.mono (by decide)) (by rfl) T.g_mean_shares T.F_mean_shares.kp T.b_mean_shares .nil (passes_call (takes_of rfl rfl rfl rfl) (fun _ _ _ _ h => h)) (pa_cons (pv 1) pa_nil)))) pss_nil)
      (pss_cons (ps_if (pt_cmpR (op_eqK (K := K) rfl hr.units) (pv 0) pe_int (nomark _)) (pss_one (ps_ret (pe_call (ok_turns T) (hr.mono (by decide)) (by rfl) T.g_turns T.F_turns.kp T.b_turns .nil (passes_call (takes_of rfl rfl rfl rfl) (fun _ _ _ _ h => h)) (pa_cons (pv 1) pa_nil)))) pss_nil)
      (pss_cons (ps_if (pt_cmpR (op_eqK (K := K) rfl hr.units) (pv 0) pe_int (nomark _)) (pss_one (ps_ret (pe_call (ok_alike T) (hr.mono (by decide)) (by rfl) T.g_alike T.F_alike.kp T.b_alike .nil (passes_call (takes_of rfl rfl rfl rfl) (fun _ _ _ _ h => h)) (pa_cons (pv 1) pa_nil)))) pss_nil)
      (pss_cons (ps_if (pt_cmpR (op_eqK (K := K) rfl hr.units) (pv 0) pe_int (nomark _)) (pss_one (ps_ret (pe_call (ok_idle T) (hr.mono (by decide)) (by rfl) T.g_idle T.F_idle.kp T.b_idle .nil (passes_call (takes_of rfl rfl rfl rfl) (fun _ _ _ _ h => h)) (pa_cons (pv 1) pa_nil)))) pss_nil)
      (pss_one (ps_ret (pe_call (ok_swells T) (hr.mono (by decide)) (by rfl) T.g_swells T.F_swells.kp T.b_swells .nil (passes_call (takes_of rfl rfl rfl rfl) (fun _ _ _ _ h => h)) (pa_cons (pv 1) pa_nil))))))))))), ?_⟩
    rcases hc with ⟨hn, kE⟩ | ⟨zs, m, ns, hl, m1, m6, hb, rfl, rfl, o, hw, k⟩
    · have no : ∀ ns k, Tab ns k → ts ≠ ns.map V.int := fun ns k tb e => by rw [e, tb.look] at hn; cases hn
      walk_at "x"
      refine ite2 (fun _ => ?_) (fun _ => x_next ?_)
      · walk_at "x"
        exact ⟨a, ts, rfl, hR, hT, fun ns k tb e => absurd e (no ns k tb), fun _ => kE⟩
      walk_at "x"
      refine ite2 (fun _ => ?_) (fun _ => x_next ?_)
      · walk_at "x"
        exact ⟨a, ts, rfl, hR, hT, fun ns k tb e => absurd e (no ns k tb), fun _ => kE⟩
      walk_at "x"
      refine ite2 (fun _ => ?_) (fun _ => x_next ?_)
      · walk_at "x"
        exact ⟨a, b, ts, xs, rfl, hR, hT, hR2, hx, hT2, fun ns k _ tb e => absurd e (no ns k tb), fun ns k tb e => absurd e (no ns k tb), fun _ => kE⟩
      walk_at "x"
      refine ite2 (fun _ => ?_) (fun _ => x_next ?_)
      · walk_at "x"
        exact ⟨a, ts, 0, rfl, hR, hT, fun ns k tb e => absurd e (no ns k tb), fun _ => kE⟩
      walk_at "x"
      refine ite2 (fun _ => ?_) (fun _ => x_next ?_)
      · walk_at "x"
        exact ⟨a, ts, rfl, hR, hT, fun ns k tb e => absurd e (no ns k tb), fun _ => kE⟩
      walk_at "x"
      refine ite2 (fun _ => ?_) (fun _ => x_next ?_)
      · walk_at "x"
        exact ⟨a, ts, rfl, hR, hT, fun ns k tb e => absurd e (no ns k tb), fun _ => kE⟩
      walk_at "x"
      refine ite2 (fun _ => ?_) (fun _ => x_next ?_)
      · walk_at "x"
        exact ⟨a, ts, rfl, hR, hT, fun ns k tb e => absurd e (no ns k tb), fun _ => kE⟩
      walk_at "x"
      exact ⟨a, ts, rfl, hR, hT, fun ns k tb e => absurd e (no ns k tb), fun _ => kE⟩
    · have tbA := tabA_tab hl m1 m6
      have hno : lookM ((tabA zs m).map V.int) = none → False := fun h => by rw [tbA.look] at h; cases h
      have eD : divM (tabA zs m) m = sgM zs m := divM_tabA hl m1 m6
      walk_at "x"
      refine ite2 (fun c => ?_) (fun c0 => x_next ?_)
      · obtain rfl : w = 0 := by have := of_decide_eq_true c; omega
        walk_at "x"
        refine ⟨a, _, rfl, hR, hT, fun ms j tb e p H' np s c => ?_, fun h => (hno h).elim⟩
        obtain rfl := map_int_inj e
        obtain rfl := tbA.same tb
        rw [eD] at c
        exact k _ _ s (.lst (SqL.of c) (dpAll_ints _))
      walk_at "x"
      refine ite2 (fun c => ?_) (fun c1 => x_next ?_)
      · obtain rfl : w = 1 := by have := of_decide_eq_true c; omega
        walk_at "x"
        refine ⟨a, _, rfl, hR, hT, fun ms j tb e p H' np s c => ?_, fun h => (hno h).elim⟩
        obtain rfl := map_int_inj e
        obtain rfl := tbA.same tb
        exact k _ _ s (.lst (SqL.of c) (dpAll_ints _))
      walk_at "x"
      refine ite2 (fun c => ?_) (fun c2 => x_next ?_)
      · obtain rfl : w = 2 := by have := of_decide_eq_true c; omega
        walk_at "x"
        refine ⟨a, b, _, _, rfl, hR, hT, hR2, hx, hT2, fun ms j ns' tb e e2 o2 p H' np s c => ?_, fun ms j tb e hn => ?_, fun h => (hno h).elim⟩
        · obtain rfl := map_int_inj e
          obtain rfl := tbA.same tb
          obtain rfl := vnat_inj e2
          rw [order_tabA hl m6 o2] at c
          exact k _ _ s (.lst (SqL.of c) (dpAll_ints _))
        · obtain rfl := map_int_inj e
          obtain rfl := tbA.same tb
          exact absurd ⟨ns, rfl, o⟩ hn
      walk_at "x"
      refine ite2 (fun c => ?_) (fun c3 => x_next ?_)
      · obtain rfl : w = 3 := by have := of_decide_eq_true c; omega
        walk_at "x"
        refine ⟨a, _, 60, rfl, hR, hT, fun ms j tb e => ?_, fun h => (hno h).elim⟩
        obtain rfl := map_int_inj e
        obtain rfl := tbA.same tb
        rw [eD]
        refine ⟨sgM_bdd m6 hb, by decide, fun p us H' np nu s c f => ?_⟩
        rw [tabA_len, mean_tabA hl m6] at f
        exact k _ _ s (dp_fr (SqL.of c) f)
      walk_at "x"
      refine ite2 (fun c => ?_) (fun c4 => x_next ?_)
      · obtain rfl : w = 4 := by have := of_decide_eq_true c; omega
        walk_at "x"
        refine ⟨a, _, rfl, hR, hT, fun ms j tb e p H' np s c => ?_, fun h => (hno h).elim⟩
        obtain rfl := map_int_inj e
        obtain rfl := tbA.same tb
        rw [turns_tabA hl m6] at c
        exact k _ _ s (.lst (SqL.of c) (dpAll_ints _))
      walk_at "x"
      refine ite2 (fun c => ?_) (fun c5 => x_next ?_)
      · obtain rfl : w = 5 := by have := of_decide_eq_true c; omega
        walk_at "x"
        refine ⟨a, _, rfl, hR, hT, fun ms j tb e p H' np s c => ?_, fun h => (hno h).elim⟩
        obtain rfl := map_int_inj e
        obtain rfl := tbA.same tb
        exact k _ _ s (dp_nat (SqL.of c))
      walk_at "x"
      refine ite2 (fun c => ?_) (fun c6 => x_next ?_)
      · obtain rfl : w = 6 := by have := of_decide_eq_true c; omega
        walk_at "x"
        refine ⟨a, _, rfl, hR, hT, fun ms j tb e p H' np s c => ?_, fun h => (hno h).elim⟩
        obtain rfl := map_int_inj e
        obtain rfl := tbA.same tb
        exact k _ _ s (dp_nat (SqL.of c))
      exfalso
      have d0 := of_decide_eq_false (Bool.eq_false_iff.mpr c0)
      have d1 := of_decide_eq_false (Bool.eq_false_iff.mpr c1)
      have d2 := of_decide_eq_false (Bool.eq_false_iff.mpr c2)
      have d3 := of_decide_eq_false (Bool.eq_false_iff.mpr c3)
      have d4 := of_decide_eq_false (Bool.eq_false_iff.mpr c4)
      have d5 := of_decide_eq_false (Bool.eq_false_iff.mpr c5)
      have d6 := of_decide_eq_false (Bool.eq_false_iff.mpr c6)
      omega

/-! ### _law_refused -/
def sp__law_refused (A : Ads) : Sp := fun vs H Q _ => ∃ (w : Nat) (a b : Addr) (ts xs : List V), vs = [.int (w : Int), .ref a, .ref b] ∧ Rd H a (.lst ts) ∧ (∀ v ∈ ts, Thing H v) ∧ Rd H b (.lst xs) ∧ xs.length ≤ 1000 ∧ (∀ v ∈ xs, Thing H v) ∧ lookM ts = none ∧ RetV (.bl true) H Q
theorem ok__law_refused (T : Txt K mg A) : FnOk P w K mg base (L2.CX P w) 7 A.a__law_refused A.d__law_refused ["_law_which", "_law_table", "_law_order"] (sp__law_refused A) := by
  refine T.F__law_refused.okX sc__law_refused (fun vs H Q E h => ?_) (fun cdv A0 outer s H vs Q E hr h => ?_)
  · obtain ⟨w, a, b, ts, xs, rfl, _⟩ := h; rfl
  · obtain ⟨w, a, b, ts, xs, rfl, hR, hT, hR2, hx, hT2, hn, k⟩ := h
    refine ⟨_, (pss_cons (ps_set (i := 3) sc__law_refused.nd rfl (.inl rfl) pe_bl)
      (pss_cons (ps_set (i := 4) sc__law_refused.nd rfl (.inl rfl) pe_bl)
      (pss_cons (ps_try_as (i := 5) (Wout := fun _ _ _ _ => False) rfl rfl sc__law_refused.nd rfl rfl ⟨rfl, by decide, Or.inl T.g_ShareError⟩ takes0 (fun W pn xe tk _ => (pss_one (ps_expr (pe_callS (ok__law_told T) (hr.mono (by decide)) (by rfl) T.g__law_told T.F__law_told.kp T.b__law_told (fun σ => passAt tk σ) (pa_cons (pv 0) (pa_cons (pv 1) (pa_cons (pv 2) pa_nil))))))) (fun a oe cls d pn hz hf => (pss_cons (ps_set (i := 3) sc__law_refused.nd rfl (.inl rfl) (pe_and (pe_callB (call_isEX (K := K) rfl hz hf) (by rfl) T.z_isinstance (by decide +kernel) (pa_cons (pv 5) (pa_cons (pe_glob (v := .ref A.NoTable) (by rfl) T.g_NoTable rfl) pa_nil))) (pe_one (pe_callB (call_isEX (K := K) rfl hz hf) (by rfl) T.z_isinstance (by decide +kernel) (pa_cons (pv 5) (pa_cons (pe_bltn (v := .ty "ValueError") (by rfl) T.z_ValueError (by decide +kernel) rfl) pa_nil))))))
      (pss_cons (ps_set (i := 4) sc__law_refused.nd rfl (.inl rfl) (pe_callB (call_isETX (K := K) rfl hz hf) (by rfl) T.z_isinstance (by decide +kernel) (pa_cons (pv 5) (pa_cons (pe_tup (pa_cons (pe_glob (v := .ref A.NoGroup) (by rfl) T.g_NoGroup rfl) (pa_cons (pe_glob (v := .ref A.NoNumber) (by rfl) T.g_NoNumber rfl) (pa_cons (pe_glob (v := .ref A.NoRows) (by rfl) T.g_NoRows rfl) (pa_cons (pe_glob (v := .ref A.NoRule) (by rfl) T.g_NoRule rfl) (pa_cons (pe_glob (v := .ref A.NoShares) (by rfl) T.g_NoShares rfl) pa_nil)))))) pa_nil))))
      (pss_one (ps_set (i := 4) sc__law_refused.nd rfl (.inl rfl) (pe_or (pv 4) (pe_one (pe_callB (call_isETX (K := K) rfl hz hf) (by rfl) T.z_isinstance (by decide +kernel) (pa_cons (pv 5) (pa_cons (pe_tup (pa_cons (pe_glob (v := .ref A.NoOrder) (by rfl) T.g_NoOrder rfl) (pa_cons (pe_glob (v := .ref A.NoText) (by rfl) T.g_NoText rfl) (pa_cons (pe_glob (v := .ref A.NoVotes) (by rfl) T.g_NoVotes rfl) (pa_cons (pe_glob (v := .ref A.TooMany) (by rfl) T.g_TooMany rfl) (pa_cons (pe_glob (v := .ref A.Unlike) (by rfl) T.g_Unlike rfl) pa_nil)))))) pa_nil)))))))))))
      (pss_one (ps_ret (pe_and (pv 3) (pe_one (pe_not (pv 4))))))))), ?_⟩
    walk_at "x"
    refine ⟨w, a, b, ts, xs, rfl, hR, hT, hR2, hx, hT2, .inl ⟨hn, fun H1 s1 => ⟨true, T.h_NoTable_ShareError, fun _ a0 ha0 => ?_, fun q => nomatch q⟩⟩⟩
    have w := Own.start.ext s1
    walk_at "x"
    refine x_isE T.X_NoTable T.q_NoTable T.u_NoTable_NoTable ?_
    refine ⟨true, rfl, iteT ?_⟩
    walk_at "x"
    refine x_isEV T.X_NoTable T.v_NoTable ?_
    walk_at "x"
    refine ⟨(by show 5 ≤ sizeLine; decide), fun p1 n1 => ?_⟩
    have w1 := w.new (o := .tup [.ref A.NoGroup, .ref A.NoNumber, .ref A.NoRows, .ref A.NoRule, .ref A.NoShares]) n1
    walk_at "x"
    refine x_isET (Cs := [A.NoGroup, A.NoNumber, A.NoRows, A.NoRule, A.NoShares]) T.X_NoTable (w1.get 0 rfl) (kit_no (kit_own T.q_NoGroup T.u_NoTable_NoGroup) (kit_no (kit_own T.q_NoNumber T.u_NoTable_NoNumber) (kit_no (kit_own T.q_NoRows T.u_NoTable_NoRows) (kit_no (kit_own T.q_NoRule T.u_NoTable_NoRule) (kit_no (kit_own T.q_NoShares T.u_NoTable_NoShares) rfl))))) ?_
    walk_at "x"
    refine iteF ?_
    walk_at "x"
    refine ⟨(by show 5 ≤ sizeLine; decide), fun p2 n2 => ?_⟩
    have w2 := w1.new (o := .tup [.ref A.NoOrder, .ref A.NoText, .ref A.NoVotes, .ref A.TooMany, .ref A.Unlike]) n2
    walk_at "x"
    refine x_isET (Cs := [A.NoOrder, A.NoText, A.NoVotes, A.TooMany, A.Unlike]) T.X_NoTable (w2.get 0 rfl) (kit_no (kit_own T.q_NoOrder T.u_NoTable_NoOrder) (kit_no (kit_own T.q_NoText T.u_NoTable_NoText) (kit_no (kit_own T.q_NoVotes T.u_NoTable_NoVotes) (kit_no (kit_own T.q_TooMany T.u_NoTable_TooMany) (kit_no (kit_own T.q_Unlike T.u_NoTable_Unlike) rfl))))) ?_
    walk_at "x"
    refine iteT ?_
    walk_at "x"
    exact k _ w2.ex

/-! ### _law_due -/
def sp__law_due (K : PySem.W.Frag) : Sp := fun vs H Q _ => ∃ (w : Nat) (a b : Addr) (zs : List Int) (m : Nat), vs = [.int (w : Int), .ref a, .ref b] ∧ SqL K H a (zs.map V.int) ∧ SqL K H b ((tabA zs m).map V.int) ∧ zs.length = m ∧ 1 ≤ m ∧ m ≤ 6 ∧ Bnd 1000000000000000000 zs ∧ w < 7 ∧ ∀ v H', Same H H' → Dp K H' v (whichD zs m w) → Q v H'
theorem rep0_tl (n : Nat) : List.replicate n (0 : Int) = tl n fun _ => 0 := rep_tl fun _ _ => rfl
def partL (S : Nat → Int) (g : Nat) (acc : Int) (j : Nat) : Int := if j < g then S j else if j = g then acc else 0
theorem ok__law_due (T : Txt K mg A) : FnOk P w K mg base (L2.CX P w) 1 A.a__law_due A.d__law_due ["_law_which", "_law_some", "_law_table"] (sp__law_due K) := by
  refine T.F__law_due.okX sc__law_due (fun vs H Q E h => ?_) (fun cdv A0 outer s H vs Q E hr h => ?_)
  · obtain ⟨w, a, b, zs, m, rfl, _⟩ := h; rfl
  · obtain ⟨w, a, b, zs, m, rfl, hS, hT, hl, m1, m6, hb, hw, k⟩ := h
    have h64 := pow6 m6
    have hpp := Nat.two_pow_pos m
    have tbA := tabA_tab hl m1 m6
    have tl2 := tabA_len zs m
    refine ⟨_, (pss_cons (ps_if (pt_cmpR (op_eqK (K := K) rfl hr.units) (pv 0) pe_int (nomark _)) (pss_cons (ps_set (i := 3) sc__law_due.nd rfl (.inl rfl) (pe_op op_mulX (pe_lst (pa_cons pe_int pa_nil)) (pe_callB (call_lenK (K := K) rfl) (by rfl) T.z_len (by decide +kernel) (pa_cons (pv 2) pa_nil))))
      (pss_cons (ps_for (passes_of rfl) rfl (pi_range1 (by rfl) T.z_range (pa_cons (pe_callB (call_lenK (K := K) rfl) (by rfl) T.z_len (by decide +kernel) (pa_cons (pv 1) pa_nil)) pa_nil)) (pg_name (i := 4) sc__law_due.nd rfl (.inl rfl)) (pss_one (ps_asg (pe_ix (ix_seqK (K := K) rfl) (pv 1) (pv 4) (fun _ _ => rfl)) (pg_sub (pv 3) (pe_op op_shlX pe_int (pv 4)) set_list))))
      (pss_one (ps_ret (pv 3))))) pss_nil)
      (pss_cons (ps_if (pt_cmpR (op_eqK (K := K) rfl hr.units) (pv 0) pe_int (nomark _)) (pss_cons (ps_set (i := 5) sc__law_due.nd rfl (.inl rfl) (pe_op op_mulX (pe_lst (pa_cons pe_int pa_nil)) (pe_callB (call_lenK (K := K) rfl) (by rfl) T.z_len (by decide +kernel) (pa_cons (pv 2) pa_nil))))
      (pss_cons (ps_for (passes_of rfl) rfl (pi_range1 (by rfl) T.z_range (pa_cons (pe_callB (call_lenK (K := K) rfl) (by rfl) T.z_len (by decide +kernel) (pa_cons (pv 2) pa_nil)) pa_nil)) (pg_name (i := 6) sc__law_due.nd rfl (.inl rfl)) (pss_cons (ps_set (i := 7) sc__law_due.nd rfl (.inl rfl) (pv 6))
      (pss_one (ps_while (passes_of rfl) (pt_cmpR op_gtX (pv 7) pe_int (nomark _)) (pss_cons (ps_augS (pv 5) (pv 6) (get_listK (K := K) rfl) (pe_ix (ix_seqK (K := K) rfl) (pv 2) (pv 7) (fun _ _ => rfl)) ip_add set_list)
      (pss_one (ps_set (i := 7) sc__law_due.nd rfl (.inl rfl) (pe_op op_andX (pe_op op_subX (pv 7) pe_int) (pv 6)))))))))
      (pss_one (ps_ret (pv 5))))) pss_nil)
      (pss_cons (ps_if (pt_cmpR (op_eqK (K := K) rfl hr.units) (pv 0) pe_int (nomark _)) (pss_one (ps_ret (pe_lc (own := [("_law_number", 8)]) rfl sc__law_due.nd (pi_listK (K := K) rfl (pv 1)) (blkOk_by (own := [("_law_number", 8)]) (N := N__law_due) (sc := defScope s__law_due) (by decide +kernel)) (fun _ _ _ _ _ => (pg_name (i := 8) sc__law_due.nd rfl (.inl rfl))) (fun _ _ _ _ _ => pts_nil) (fun _ _ _ _ _ => (pe_tup (pa_cons (pv 8) (pa_cons pe_int pa_nil))))))) pss_nil)
      (pss_cons (ps_if (pt_cmpR (op_eqK (K := K) rfl hr.units) (pv 0) pe_int (nomark _)) (pss_one (ps_ret (pe_lc (own := [("_law_number", 8)]) rfl sc__law_due.nd (pi_listK (K := K) rfl (pv 1)) (blkOk_by (own := [("_law_number", 8)]) (N := N__law_due) (sc := defScope s__law_due) (by decide +kernel)) (fun _ _ _ _ _ => (pg_name (i := 8) sc__law_due.nd rfl (.inl rfl))) (fun _ _ _ _ _ => pts_nil) (fun _ _ _ _ _ => (pe_op op_mulX (pv 8) (pe_op op_fdivX (pe_callB (call_lenK (K := K) rfl) (by rfl) T.z_len (by decide +kernel) (pa_cons (pv 2) pa_nil)) pe_int)))))) pss_nil)
      (pss_cons (ps_if (pt_cmpR (op_eqK (K := K) rfl hr.units) (pv 0) pe_int (nomark _)) (pss_one (ps_ret (pe_lc (own := [("_law_number", 8)]) rfl sc__law_due.nd (pi_listK (K := K) rfl (pv 1)) (blkOk_by (own := [("_law_number", 8)]) (N := N__law_due) (sc := defScope s__law_due) (by decide +kernel)) (fun _ _ _ _ _ => (pg_name (i := 8) sc__law_due.nd rfl (.inl rfl))) (fun _ _ _ _ _ => pts_nil) (fun _ _ _ _ _ => (pe_bmKK (K := K) rfl PySem.F.plainAttrs_list PySem.F.slot_list_index PySem.F.type_list_index (mt_indexK (K := K) rfl) (pv 1) (pa_cons (pv 8) pa_nil)))))) pss_nil)
      (pss_cons (ps_if (pt_cmpR (op_eqK (K := K) rfl hr.units) (pv 0) pe_int (nomark _)) (pss_one (ps_ret (pe_lc (own := [("_law_k", 4)]) rfl sc__law_due.nd (pi_range1 (by rfl) T.z_range (pa_cons (pe_callB (call_lenK (K := K) rfl) (by rfl) T.z_len (by decide +kernel) (pa_cons (pv 1) pa_nil)) pa_nil)) (blkOk_by (own := [("_law_k", 4)]) (N := N__law_due) (sc := defScope s__law_due) (by decide +kernel)) (fun _ _ _ _ _ => (pg_name (i := 4) sc__law_due.nd rfl (.inl rfl))) (fun _ _ _ _ _ => (pts_one (pt_cmpR (op_eqK (K := K) rfl hr.units) (pe_ix (ix_seqK (K := K) rfl) (pv 1) (pv 4) (fun _ _ => rfl)) pe_int (nomark _)))) (fun _ _ _ _ _ => (pv 4))))) pss_nil)
      (pss_one (ps_ret (pv 1))))))))), ?_⟩
    have w0 := Own.start (H := H)
    walk_at "x"
    refine ite2 (fun c => ?_) (fun c0 => x_next ?_)
    · obtain rfl : w = 0 := by have := of_decide_eq_true c; omega
      walk_at "x"
      refine ⟨(by show 1 ≤ sizeLine; decide), fun p np => ?_⟩
      have w1 := w0.new (o := .lst [.int 0]) np
      walk_at "x"
      refine x_lenL (w1.seq hT) ?_
      rw [List.length_map, tl2]
      refine x_mulL (w1.get 0 rfl) ⟨by omega, by omega, Nat.le_trans (show 1 * ((2 ^ m : Nat) : Int).toNat ≤ 64 by omega) (by decide)⟩ (fun p2 np2 => ?_)
      rw [Int.toNat_natCast, rep_flat, rep0_tl]
      have w2 := (w1.new (o := .lst ((tl (2 ^ m) fun _ => 0).map V.int)) np2).sub (ds := [(p2, .lst ((tl (2 ^ m) (sgT zs 0)).map V.int))]) (.cons_cons _ (.cons _ .slnil))
      walk_at "x"
      refine x_lenL (w2.seq hS) ?_
      rw [List.length_map, hl]
      refine ⟨_, rfl, by omega, by omega, for_r0 (n := (m : Int)) (fun i σ' H' => (∃ v4, σ' = [some (.int ((0 : Nat) : Int)), some (.ref a), some (.ref b), some (.ref p2), v4, none, none, none, none]) ∧ Own H [(p2, .lst ((tl (2 ^ m) (sgT zs i)).map V.int))] H') ⟨⟨_, rfl⟩, w2⟩ ?_ ?_⟩
      · rintro i σ' H' hi ⟨⟨v4, rfl⟩, w⟩
        have him : i < m := by omega
        have hpi : 2 ^ i < 2 ^ m := Nat.pow_lt_pow_right (by decide) him
        have hp0 := Nat.two_pow_pos i
        walk_at "x"
        refine x_ixXL (w.seq hS) (at_int (ns := zs) (by omega) (by omega)) ?_
        walk_at "x"
        refine x_shl ⟨by omega, by omega, by decide⟩ ?_
        rw [shl_nat]
        refine x_setL (w.get 0 rfl) (by rw [List.length_map, tl_len]; exact ixN_int (by omega) (by omega)) ?_
        rw [map_set_int, Int.toNat_natCast, show gi zs (i : Int) = T6 zs i from rfl, sgT_set him]
        exact ⟨⟨_, rfl⟩, w.put (o' := .lst ((tl (2 ^ m) (sgT zs (i + 1))).map V.int)) 0 rfl⟩
      · rintro σ' H' ⟨⟨v4, rfl⟩, w⟩
        rw [Int.toNat_natCast, tl_congr fun g hg => sgT_all m6 hg] at w
        walk_at "x"
        exact k _ _ w.ex (.lst (w.sq 0 rfl) (dpAll_ints (sgM zs m)))
    walk_at "x"
    refine ite2 (fun c => ?_) (fun c1 => x_next ?_)
    · obtain rfl : w = 1 := by have := of_decide_eq_true c; omega
      walk_at "x"
      refine ⟨(by show 1 ≤ sizeLine; decide), fun p np => ?_⟩
      have w1 := w0.new (o := .lst [.int 0]) np
      walk_at "x"
      refine x_lenL (w1.seq hT) ?_
      rw [List.length_map, tl2]
      refine x_mulL (w1.get 0 rfl) ⟨by omega, by omega, Nat.le_trans (show 1 * ((2 ^ m : Nat) : Int).toNat ≤ 64 by omega) (by decide)⟩ (fun p2 np2 => ?_)
      rw [Int.toNat_natCast, rep_flat, rep0_tl, show (fun _ : Nat => (0 : Int)) = partL (fun j => someSum (fn (tabA zs m)) j j) 0 0 from funext fun j => by unfold partL; rw [if_neg (Nat.not_lt_zero j)]; by_cases e : j = 0 <;> simp [e]]
      have w2 := (w1.new (o := .lst ((tl (2 ^ m) (partL (fun j => someSum (fn (tabA zs m)) j j) 0 0)).map V.int)) np2).sub (ds := [(p2, .lst ((tl (2 ^ m) (partL (fun j => someSum (fn (tabA zs m)) j j) 0 0)).map V.int))]) (.cons_cons _ (.cons _ .slnil))
      walk_at "x"
      refine x_lenL (w2.seq hT) ?_
      rw [List.length_map, tl2]
      refine ⟨_, rfl, by omega, by omega, for_r0 (n := ((2 ^ m : Nat) : Int)) (fun i σ' H' => (∃ v6 v7, σ' = [some (.int ((1 : Nat) : Int)), some (.ref a), some (.ref b), none, none, some (.ref p2), v6, v7, none]) ∧ Own H [(p2, .lst ((tl (2 ^ m) (partL (fun j => someSum (fn (tabA zs m)) j j) i 0)).map V.int))] H') ⟨⟨_, _, rfl⟩, w2⟩ ?_ ?_⟩
      · rintro g σ' H' hg ⟨⟨v6, v7, rfl⟩, w⟩
        have hg2 : g < 2 ^ m := by omega
        walk_at "x"
        refine x_while (fun d σ' H' => ∃ p : Nat, σ' = [some (.int ((1 : Nat) : Int)), some (.ref a), some (.ref b), none, none, some (.ref p2), some (.int (g : Int)), some (.int (p : Int)), none] ∧ d = p ∧ p ≤ g ∧ p &&& g = p ∧ Own H [(p2, .lst ((tl (2 ^ m) (partL (fun j => someSum (fn (tabA zs m)) j j) g (someSum (fn (tabA zs m)) g g - someSum (fn (tabA zs m)) g p))).map V.int))] H') g ⟨g, rfl, rfl, Nat.le_refl _, Nat.and_self g, by rw [Int.sub_self]; exact w⟩ ?_
        rintro d σ' H' ⟨p, rfl, hd, hp, hs, w⟩
        walk_at "x"
        refine ite2 (fun c => ?_) (fun c => ?_)
        · have hp0 : 0 < p := by have := of_decide_eq_true c; omega
          refine x_N ?_
          walk_at "x"
          have hstep := someSum_step (fn (tabA zs m)) (show g < 64 by omega) (show p < 64 by omega) hp0 hs
          obtain ⟨_, st2, st3⟩ := someSubs_step g (by omega) p (by omega) ⟨hp0, hs⟩
          refine x_ixL (w.sq 0 rfl) (at_int (by omega) (by rw [tl_len]; omega)) ?_
          walk_at "x"
          refine x_ixXL (w.seq hT) (at_int (ns := tabA zs m) (by omega) (by rw [tl2]; omega)) ?_
          walk_at "x"
          refine x_setL (w.get 0 rfl) (by rw [List.length_map, tl_len]; exact ixN_int (by omega) (by omega)) ?_
          rw [map_set_int, Int.toNat_natCast, gi_tln hg2, tl_set hg2]
          have w3 := w.put (o' := .lst ((tl (2 ^ m) fun i => if i = g then partL (fun j => someSum (fn (tabA zs m)) j j) g (someSum (fn (tabA zs m)) g g - someSum (fn (tabA zs m)) g p) g + gi (tabA zs m) (p : Int) else partL (fun j => someSum (fn (tabA zs m)) j j) g (someSum (fn (tabA zs m)) g g - someSum (fn (tabA zs m)) g p) i).map V.int)) 0 rfl
          have e3 : (tl (2 ^ m) fun i => if i = g then partL (fun j => someSum (fn (tabA zs m)) j j) g (someSum (fn (tabA zs m)) g g - someSum (fn (tabA zs m)) g p) g + gi (tabA zs m) (p : Int) else partL (fun j => someSum (fn (tabA zs m)) j j) g (someSum (fn (tabA zs m)) g g - someSum (fn (tabA zs m)) g p) i) = tl (2 ^ m) (partL (fun j => someSum (fn (tabA zs m)) j j) g (someSum (fn (tabA zs m)) g g - someSum (fn (tabA zs m)) g ((p - 1) &&& g))) := tl_congr fun i _ => by
            by_cases e : i = g
            · subst e
              unfold partL
              rw [if_pos rfl, if_neg (Nat.lt_irrefl i), if_neg (Nat.lt_irrefl i), if_pos rfl, if_pos rfl]
              rw [show gi (tabA zs m) (p : Int) = fn (tabA zs m) p from rfl]
              omega
            · unfold partL
              rw [if_neg e, if_neg e, if_neg e]
          walk_at "x"
          rw [show (p : Int) - 1 = ((p - 1 : Nat) : Int) by omega, and_nat]
          refine ⟨(p - 1) &&& g, by omega, (p - 1) &&& g, rfl, rfl, by omega, st3, ?_⟩
          rw [← e3]
          exact w3
        · have hp0 : p = 0 := by have := of_decide_eq_false (Bool.eq_false_iff.mpr c); omega
          subst hp0
          walk_at "x"
          refine ⟨⟨_, _, rfl⟩, ?_⟩
          have e4 : tl (2 ^ m) (partL (fun j => someSum (fn (tabA zs m)) j j) g (someSum (fn (tabA zs m)) g g - someSum (fn (tabA zs m)) g 0)) = tl (2 ^ m) (partL (fun j => someSum (fn (tabA zs m)) j j) (g + 1) 0) := tl_congr fun i _ => by
            have z0 : someSum (fn (tabA zs m)) g 0 = 0 := by unfold someSum; rw [someSubs_zero] <;> rfl
            unfold partL
            rw [z0]
            by_cases e : i < g
            · rw [if_pos e, if_pos (by omega)]
            · by_cases e2 : i = g
              · subst e2; rw [if_neg e, if_pos rfl, if_pos (by omega), Int.sub_zero]
              · rw [if_neg e, if_neg e2, if_neg (by omega)]; by_cases e5 : i = g + 1 <;> simp [e5]
          rw [← e4]
          exact w
      · rintro σ' H' ⟨⟨v6, v7, rfl⟩, w⟩
        rw [Int.toNat_natCast] at w
        have e5 : tl (2 ^ m) (partL (fun j => someSum (fn (tabA zs m)) j j) (2 ^ m) 0) = sumsM (tabA zs m) m := by
          unfold sumsM
          rw [tl2]
          refine tl_congr fun i hi => ?_
          unfold partL
          rw [if_pos hi, sums_at tbA (by rw [tl2]; exact hi)]
        rw [e5] at w
        walk_at "x"
        exact k _ _ w.ex (.lst (w.sq 0 rfl) (dpAll_ints (sumsM (tabA zs m) m)))
    walk_at "x"
    refine ite2 (fun c => ?_) (fun c3 => x_next ?_)
    · obtain rfl : w = 3 := by have := of_decide_eq_true c; omega
      walk_at "x"
      have hfl : (zs.map fun z => (z, (1 : Int))).length = zs.length := List.length_map ..
      refine ⟨a, rfl, ⟨_, hS⟩, fun D hD => lc_list (xs := zs.map V.int) (fun i H' => OwnF H [] D ((zs.map fun z => (z, (1 : Int))).take i) H') (OwnF.start w0 hD) (fun i H' hi p => Own.seq p.cell hS) ?_ ?_⟩
      · intro i x H' hx o
        obtain ⟨y, hy, rfl⟩ := map_at hx
        have hi := (List.getElem?_eq_some_iff.mp hy).1
        walk_at "x"
        refine ⟨rfl, ?_⟩
        walk_at "x"
        refine iteT ?_
        walk_at "x"
        refine ⟨(by show 2 ≤ sizeLine; decide), fun t nt => ?_⟩
        exact o.next (f := (y, 1)) (by rw [List.getElem?_map, hy] <;> rfl) (by rw [hfl]; omega) nt (same_upd nt) upd_same
      · intro H' o
        rw [List.length_map, ← hfl, List.take_length] at o
        walk_at "x"
        refine o.ret fun p ts H2 np nt s c f => k _ _ s (dp_fr (SqL.of c) f)
    walk_at "x"
    refine ite2 (fun c => ?_) (fun c4 => x_next ?_)
    · obtain rfl : w = 4 := by have := of_decide_eq_true c; omega
      walk_at "x"
      refine ⟨a, rfl, ⟨_, hS⟩, cp_list (xs := zs.map V.int) (fun i => ((zs.take i).map fun z => z * ((2 ^ (m - 1) : Nat) : Int)).map V.int) w0 hS rfl ?_ ?_⟩
      · intro D i x H' hx p
        obtain ⟨y, hy, rfl⟩ := map_at hx
        have hi := (List.getElem?_eq_some_iff.mp hy).1
        walk_at "x"
        refine ⟨rfl, ?_⟩
        walk_at "x"
        refine iteT ?_
        walk_at "x"
        refine x_lenL (Own.seq p hT) ?_
        rw [List.length_map, tl2]
        walk_at "x"
        refine x_divP (by decide) (by decide) ?_
        have eh : ((2 ^ m : Nat) : Int) / 2 = ((2 ^ (m - 1) : Nat) : Int) := by
          obtain ⟨j, rfl⟩ : ∃ j, m = j + 1 := ⟨m - 1, by omega⟩
          rw [Nat.add_sub_cancel, Nat.pow_succ]
          omega
        rw [eh]
        have hpm : 2 ^ (m - 1) ≤ 64 := Nat.pow_le_pow_right (n := 2) (by decide) (show m - 1 ≤ 6 by omega)
        refine x_mulI (.of_right (intBits_le_64 (by omega) (by omega))) ?_
        exact cp_fin p (by rw [List.take_add_one, hy, List.map_append, List.map_append] <;> rfl) (by rw [List.length_map, List.length_map, List.length_take]; omega)
      · intro D H' w3
        rw [List.length_map, List.take_length] at w3
        walk_at "x"
        exact k _ _ w3.ex (.lst (w3.sq 0 rfl) (dpAll_ints (zs.map fun z => z * ((2 ^ (m - 1) : Nat) : Int))))
    walk_at "x"
    refine ite2 (fun c => ?_) (fun c5 => x_next ?_)
    · obtain rfl : w = 5 := by have := of_decide_eq_true c; omega
      walk_at "x"
      refine ⟨a, rfl, ⟨_, hS⟩, cp_list (xs := zs.map V.int) (fun i => ((List.range i).map (leastA (tabA zs m))).map vnat) w0 hS rfl ?_ ?_⟩
      · intro D i x H' hx p
        obtain ⟨y, hy, rfl⟩ := map_at hx
        have hi := (List.getElem?_eq_some_iff.mp hy).1
        have hy2 : y = T6 zs i := by
          unfold T6 gi
          rw [Int.toNat_natCast, List.getD_eq_getElem?_getD, hy] <;> rfl
        obtain ⟨l1, l2, l3⟩ := least_tabA hl m6 (show i < m by omega)
        have at6 : ∀ j, j < m → (zs.map V.int)[j]? = some (.int (T6 zs j)) := fun j hj => by
          rw [List.getElem?_map, List.getElem?_eq_getElem (by omega), Option.map_some]
          unfold T6 gi
          rw [Int.toNat_natCast, List.getD_eq_getElem?_getD, List.getElem?_eq_getElem (by omega)] <;> rfl
        walk_at "x"
        refine ⟨rfl, ?_⟩
        walk_at "x"
        refine iteT ?_
        walk_at "x"
        refine ⟨.inl ⟨rfl, _, Own.seq p hS⟩, ?_⟩
        walk_at "x"
        refine ⟨a, _, .int y, leastA (tabA zs m) i, _, rfl, rfl, Own.seq p hS, rfl, List.all_eq_true.mpr fun v hv => by obtain ⟨z, _, rfl⟩ := List.mem_map.mp hv; rfl, at6 _ (by omega), by rw [hy2]; exact beq_iff_eq.mpr l2, fun j z' hj hz => ?_, ?_⟩
        · rw [at6 j (by omega)] at hz
          obtain rfl := Option.some.inj hz
          show (T6 zs j == y) = false
          rw [hy2, beq_eq_false_iff_ne]
          exact l3 j hj
        · exact cp_fin p (by rw [range_map, List.map_append] <;> rfl) (by rw [List.length_map, List.length_map, List.length_range]; omega)
      · intro D H' w3
        rw [List.length_map, hl] at w3
        walk_at "x"
        exact k _ _ w3.ex (dp_nat (w3.sq 0 rfl))
    walk_at "x"
    refine ite2 (fun c => ?_) (fun c6 => x_next ?_)
    · obtain rfl : w = 6 := by have := of_decide_eq_true c; omega
      walk_at "x"
      refine x_lenL hS ?_
      rw [List.length_map, hl]
      refine ⟨_, rfl, by omega, by omega, cp_r0 (n := (m : Int)) (fun i => ((List.range i).filter (idleB (tabA zs m))).map vnat) w0 rfl ?_ ?_⟩
      · intro D i H' hi p
        have him : i < m := by omega
        walk_at "x"
        refine ⟨rfl, ?_⟩
        walk_at "x"
        refine x_ixXL (Own.seq p hS) (at_int (ns := zs) (by omega) (by omega)) ?_
        walk_at "x"
        rw [show decide (gi zs (i : Int) = 0) = idleB (tabA zs m) i from (idle_tabA hl m6 him).symm]
        cases c : idleB (tabA zs m) i with
        | true =>
          refine iteT ?_
          walk_at "x"
          exact cp_fin p (filter_yes (p := idleB (tabA zs m)) c vnat) (by rw [List.length_map]; have := filter_len (idleB (tabA zs m)) i; omega)
        | false =>
          exact iteF (cp_no p (filter_no (p := idleB (tabA zs m)) c vnat))
      · intro D H' w3
        rw [Int.toNat_natCast] at w3
        walk_at "x"
        exact k _ _ w3.ex (dp_nat (w3.sq 0 rfl))
    walk_at "x"
    obtain rfl : w = 2 := by
      have d0 := of_decide_eq_false (Bool.eq_false_iff.mpr c0)
      have d1 := of_decide_eq_false (Bool.eq_false_iff.mpr c1)
      have d3 := of_decide_eq_false (Bool.eq_false_iff.mpr c3)
      have d4 := of_decide_eq_false (Bool.eq_false_iff.mpr c4)
      have d5 := of_decide_eq_false (Bool.eq_false_iff.mpr c5)
      have d6 := of_decide_eq_false (Bool.eq_false_iff.mpr c6)
      omega
    exact k _ _ (Same.refl H) (.lst hS (dpAll_ints zs))

/-! ### law -/
def sp_law (K : PySem.W.Frag) : Sp := fun vs H Q _ => ∃ (a : Addr) (ns : List Int), vs = [.ref a] ∧ SqL K H a (ns.map V.int) ∧ ns.length ≤ 63 ∧ ∀ H', Q (.bl true) H'
theorem rep_none {H : Hp} {Q : VK} (q : ∀ H', Same H H' → Q (.bl true) H') : RetV (.bl true) H Q := q
theorem ok_law (T : Txt K mg A) : FnOk P w K mg base (L2.CX P w) 8 A.a_law A.d_law ["_law_script"] (sp_law K) := by
  refine T.F_law.okX sc_law (fun vs H Q E h => ?_) (fun cdv A0 outer s H vs Q E hr h => ?_)
  · obtain ⟨a, ns, rfl, _⟩ := h; rfl
  · obtain ⟨a, ns, rfl, hS, hl, k⟩ := h
    refine ⟨_, (pss_cons (ps_set (i := 1) sc_law.nd rfl (.inl rfl) (pe_call (ok__law_numbers T) (hr.mono (by decide)) (by rfl) T.g__law_numbers T.F__law_numbers.kp T.b__law_numbers .nil (passes_call (takes_of rfl rfl rfl rfl) (fun _ _ _ _ h => h)) (pa_cons (pv 0) pa_nil)))
      (pss_cons (ps_set (i := 2) sc_law.nd rfl (.inl rfl) (pe_call (ok__law_sums T) (hr.mono (by decide)) (by rfl) T.g__law_sums T.F__law_sums.kp T.b__law_sums .nil (passes_call (takes_of rfl rfl rfl rfl) (fun _ _ _ _ h => h)) (pa_cons (pv 1) pa_nil)))
      (pss_cons (ps_set (i := 3) sc_law.nd rfl (.inl rfl) (pe_call (ok__law_none T) (hr.mono (by decide)) (by rfl) T.g__law_none T.F__law_none.kp T.b__law_none .nil (passes_call (takes_of rfl rfl rfl rfl) (fun _ _ _ _ h => h)) (pa_cons (pv 0) (pa_cons (pv 2) pa_nil))))
      (pss_cons (ps_set (i := 4) sc_law.nd rfl (.inl rfl) (pe_callTy (call_listK (K := K) rfl) (by rfl) T.z_list (by decide +kernel) (pa_cons (pv 3) pa_nil)))
      (pss_cons (ps_set (i := 5) sc_law.nd rfl (.inl rfl) (pe_lst (pa_cons (pe_listRg rfl (by rfl) T.z_list (prg_1 (by rfl) T.z_range (pe_callB (call_lenK (K := K) rfl) (by rfl) T.z_len (by decide +kernel) (pa_cons (pv 1) pa_nil)))) (pa_cons (pe_revLK (K := K) rfl (pe_listRg rfl (by rfl) T.z_list (prg_1 (by rfl) T.z_range (pe_callB (call_lenK (K := K) rfl) (by rfl) T.z_len (by decide +kernel) (pa_cons (pv 1) pa_nil))))) (pa_cons (pe_lst (pa_cons pe_int (pa_cons pe_int pa_nil))) (pa_cons (pe_lst (pa_cons (pe_un un_neg pe_int) pa_nil)) pa_nil))))))
      (pss_cons (ps_set (i := 6) sc_law.nd rfl (.inl rfl) (pe_ix (ix_seqK (K := K) rfl) (pv 5) (pe_op op_modX (pe_call (ok__law_cell T) (hr.mono (by decide)) (by rfl) T.g__law_cell T.F__law_cell.kp T.b__law_cell .nil (passes_call (takes_of rfl rfl rfl rfl) (fun _ _ _ _ h => h)) (pa_cons (pv 0) (pa_cons pe_int pa_nil))) pe_int) (fun _ _ => rfl)))
      (pss_cons (ps_for (passes_of rfl) rfl (pi_range1 (by rfl) T.z_range (pa_cons pe_int pa_nil)) (pg_name (i := 7) sc_law.nd rfl (.inl rfl)) (pss_one (ps_if (PW.pt (pw_or (pt_not (pt_val (pe_call (ok__law_refused T) (hr.mono (by decide)) (by rfl) T.g__law_refused T.F__law_refused.kp T.b__law_refused .nil (passes_call (takes_of rfl rfl rfl rfl) (fun _ _ _ _ h => h)) (pa_cons (pv 7) (pa_cons (pv 3) (pa_cons (pv 6) pa_nil)))))) (pw_or1 (pt_cmpR (op_neK (K := K) rfl hr.units) (pv 3) (pv 4) (nomark _))))) (pss_one (ps_ret pe_bl)) pss_nil)))
      (pss_cons (ps_for (passes_of rfl) rfl (pi_range1 (by rfl) T.z_range (pa_cons pe_int pa_nil)) (pg_name (i := 7) sc_law.nd rfl (.inl rfl)) (pss_one (ps_if (pt_cmpR (op_neK (K := K) rfl hr.units) (pe_call (ok__law_told T) (hr.mono (by decide)) (by rfl) T.g__law_told T.F__law_told.kp T.b__law_told .nil (passes_call (takes_of rfl rfl rfl rfl) (fun _ _ _ _ h => h)) (pa_cons (pv 7) (pa_cons (pv 2) (pa_cons (pe_ix (ix_seqK (K := K) rfl) (pv 5) (pe_op op_modX (pe_call (ok__law_cell T) (hr.mono (by decide)) (by rfl) T.g__law_cell T.F__law_cell.kp T.b__law_cell .nil (passes_call (takes_of rfl rfl rfl rfl) (fun _ _ _ _ h => h)) (pa_cons (pv 0) (pa_cons pe_int pa_nil))) pe_int) (fun _ _ => rfl)) pa_nil)))) (pe_call (ok__law_due T) (hr.mono (by decide)) (by rfl) T.g__law_due T.F__law_due.kp T.b__law_due .nil (passes_call (takes_of rfl rfl rfl rfl) (fun _ _ _ _ h => h)) (pa_cons (pv 7) (pa_cons (pv 1) (pa_cons (pv 2) pa_nil)))) (nomark _)) (pss_one (ps_ret pe_bl)) pss_nil)))
      (pss_one (ps_ret (pe_cmpR op_isNX (pe_call (ok_swells T) (hr.mono (by decide)) (by rfl) T.g_swells T.F_swells.kp T.b_swells .nil (passes_call (takes_of rfl rfl rfl rfl) (fun _ _ _ _ h => h)) (pa_cons (pv 2) pa_nil)) pe_non (nomark _)))))))))))), ?_⟩
    walk_at "x"
    refine ⟨a, ns, rfl, hS, hl, fun zs z1 z6 hb p1 H1 n1 s1 c1 => ?_⟩
    have w1 : Own H [(p1, .lst (zs.map V.int))] H1 := Own.start.newE n1 s1 c1
    obtain ⟨m, hm⟩ : ∃ m, zs.length = m := ⟨_, rfl⟩
    rw [hm] at z1 z6
    walk_at "x"
    refine ⟨p1, zs, m, rfl, w1.sq 0 rfl, hm, z1, z6, fun p2 H2 n2 s2 c2 => ?_⟩
    have w2 := w1.newE n2 s2 c2
    have tb := tabA_tab hm z1 z6
    walk_at "x"
    refine ⟨a, p2, ns, tabA zs m, m, rfl, w2.seq hS, hl, w2.get 0 rfl, tb, tabA_bnd hm z6 hb, fun xs hno hxl p3 H3 n3 s3 c3 hel => ?_⟩
    have w3 := w2.newE n3 s3 c3
    walk_at "x"
    refine x_list (w3.sq 0 rfl) (fun p4 n4 => ?_)
    have w4 := w3.new (o := .lst xs) n4
    have hel4 := hel.same (same_upd (o := .lst xs) n4)
    walk_at "x"
    refine x_lenL (w4.sq 3 rfl) ?_
    rw [List.length_map, hm]
    refine ⟨_, rfl, RgOk.of_le (by decide) (by omega) (by decide) (by omega), fun p5 n5 => ?_⟩
    rw [rgV_nat]
    have w5 := w4.new (o := .lst ((List.range m).map vnat)) n5
    walk_at "x"
    refine x_lenL (w5.sq 4 rfl) ?_
    rw [List.length_map, hm]
    refine ⟨_, rfl, RgOk.of_le (by decide) (by omega) (by decide) (by omega), fun p6 n6 => ?_⟩
    rw [rgV_nat]
    have w6 := w5.new (o := .lst ((List.range m).map vnat)) n6
    refine ⟨p6, _, rfl, w6.sq 0 rfl, fun p7 n7 => ?_⟩
    rw [← List.map_reverse]
    have w7 := w6.new (o := .lst ((List.range m).reverse.map vnat)) n7
    walk_at "x"
    refine ⟨(by show 2 ≤ sizeLine; decide), fun p8 n8 => ?_⟩
    have w8 := w7.new (o := .lst ([0, 0].map V.int)) n8
    walk_at "x"
    refine ⟨(by show 1 ≤ sizeLine; decide), fun p9 n9 => ?_⟩
    have w9 := w8.new (o := .lst ([-1].map V.int)) n9
    walk_at "x"
    refine ⟨(by show 4 ≤ sizeLine; decide), fun p10 n10 => ?_⟩
    have w10 := w9.new (o := .lst [.ref p5, .ref p7, .ref p8, .ref p9]) n10
    walk_at "x"
    refine ⟨a, ns, 9, rfl, w10.seq hS, hl, by decide, by decide, fun z11 H11 s11 => ?_⟩
    have w11 := w10.ext s11
    have hel11 := (hel4.same ((same_upd n5).trans ((same_upd n6).trans ((same_upd n7).trans ((same_upd n8).trans ((same_upd n9).trans ((same_upd n10).trans s11)))))) : Elts K H11 xs)
    refine x_modP (by decide) ?_
    walk_at "x"
    have hz : z11 % 4 = 0 ∨ z11 % 4 = 1 ∨ z11 % 4 = 2 ∨ z11 % 4 = 3 := by omega
    have o5 : Ordr (List.range m) m := ⟨List.nodup_range, fun n hn => List.mem_range.mp hn, List.length_range⟩
    have o7 : Ordr (List.range m).reverse m := ⟨(List.reverse_perm _).nodup_iff.mpr o5.nd, fun n hn => o5.lt n (List.mem_reverse.mp hn), by rw [List.length_reverse]; exact o5.len⟩
    have g5 : H11 p5 = some (.lst ((List.range m).map vnat)) := w11.get 5 rfl
    have g7 : H11 p7 = some (.lst ((List.range m).reverse.map vnat)) := w11.get 3 rfl
    have g8 : H11 p8 = some (.lst ([0, 0].map V.int)) := w11.get 2 rfl
    have g9 : H11 p9 = some (.lst ([-1].map V.int)) := w11.get 1 rfl
    obtain ⟨q, ys, hat, hq, hyl, hye⟩ : ∃ q ys, atI [V.ref p5, .ref p7, .ref p8, .ref p9] (z11 % 4) = some (.ref q) ∧ H11 q = some (.lst ys) ∧ ys.length ≤ 1000 ∧ Elts K H11 ys := by
      rcases hz with e | e | e | e <;> rw [e]
      · exact ⟨p5, _, rfl, g5, by rw [List.length_map, List.length_range]; omega, elts_nat⟩
      · exact ⟨p7, _, rfl, g7, by rw [List.length_map, List.length_reverse, List.length_range]; omega, elts_nat⟩
      · exact ⟨p8, _, rfl, g8, by decide, elts_int⟩
      · exact ⟨p9, _, rfl, g9, by decide, elts_int⟩
    refine x_ixXL (w11.sq 0 rfl) hat ?_
    walk_at "x"
    have hS11 := w11.seq hS
    have gz : H11 p1 = some (.lst (zs.map V.int)) := w11.get 9 rfl
    have gt : H11 p2 = some (.lst ((tabA zs m).map V.int)) := w11.get 8 rfl
    have gn : H11 p3 = some (.lst xs) := w11.get 7 rfl
    have gk : H11 p4 = some (.lst xs) := w11.get 6 rfl
    have go : H11 p10 = some (.lst [.ref p5, .ref p7, .ref p8, .ref p9]) := w11.get 0 rfl
    clear w1 w2 w3 w4 w5 w6 w7 w8 w9 w10 w11
    refine ⟨_, rfl, by decide, by decide, for_r0 (n := 8) (fun i σ' H' => (∃ v7, σ' = [some (.ref a), some (.ref p1), some (.ref p2), some (.ref p3), some (.ref p4), some (.ref p10), some (.ref q), v7]) ∧ Same H11 H') ⟨⟨_, rfl⟩, Same.refl _⟩ ?_ ?_⟩
    · rintro i σ' H' hi ⟨⟨v7, rfl⟩, s⟩
      walk_at "x"
      refine ⟨i, p3, q, xs, ys, rfl, .inl (s _ _ gn), (hel11.same s).thing, .inl (s _ _ hq), hyl, (hye.same s).thing, hno, fun H2 s2 => ?_⟩
      have t := s.trans s2
      walk_at "x"
      refine iteF ?_
      walk_at "x"
      obtain ⟨ds, hd1, hd2⟩ := (hel11.same t).dp
      refine x_neD (.lst (SqL.of (t _ _ gn)) hd1) (.lst (SqL.of (t _ _ gk)) hd1) (LayD.list hd2) ?_
      walk_at "x"
      refine iteF ?_
      exact ⟨⟨_, rfl⟩, t⟩
    · rintro σ' H' ⟨⟨v7, rfl⟩, s⟩
      walk_at "x"
      refine ⟨_, rfl, by decide, by decide, for_r0 (n := 7) (fun i σ' H' => (∃ v7, σ' = [some (.ref a), some (.ref p1), some (.ref p2), some (.ref p3), some (.ref p4), some (.ref p10), some (.ref q), v7]) ∧ Same H11 H') ⟨⟨_, rfl⟩, s⟩ ?_ ?_⟩
      · rintro i σ' H' hi ⟨⟨v7, rfl⟩, s⟩
        have hi7 : i < 7 := by omega
        walk_at "x"
        refine ⟨a, ns, 9, rfl, s.seq hS11, hl, by decide, by decide, fun z2 H2 s2 => ?_⟩
        have t := s.trans s2
        refine x_modP (by decide) ?_
        walk_at "x"
        obtain ⟨q2, os, hat2, hq2, ho2⟩ : ∃ q2 os, atI [V.ref p5, .ref p7, .ref p8, .ref p9] (z2 % 2) = some (.ref q2) ∧ H11 q2 = some (.lst (os.map vnat)) ∧ Ordr os m := by
          have hz2 : z2 % 2 = 0 ∨ z2 % 2 = 1 := by omega
          rcases hz2 with e | e <;> rw [e]
          · exact ⟨p5, _, rfl, g5, o5⟩
          · exact ⟨p7, _, rfl, g7, o7⟩
        refine x_ixXL (SqL.of (t _ _ go)) hat2 ?_
        walk_at "x"
        refine ⟨i, p2, q2, _, _, rfl, .inl (t _ _ gt), (elts_int (K := K)).thing, .inl (t _ _ hq2), by rw [List.length_map, ho2.len]; omega, (elts_nat (K := K)).thing, .inr ⟨zs, m, os, hm, z1, z6, hb, rfl, rfl, ho2, hi7, fun v3 H3 s3 d3 => ?_⟩⟩
        have t3 := t.trans s3
        walk_at "x"
        refine ⟨i, p1, p2, zs, m, rfl, SqL.of (t3 _ _ gz), SqL.of (t3 _ _ gt), hm, z1, z6, hb, hi7, fun v4 H4 s4 d4 => ?_⟩
        have t4 := t3.trans s4
        walk_at "x"
        refine x_neD (Dp.same s4 _ _ d3) d4 (lay_which zs m i) ?_
        walk_at "x"
        refine iteF ?_
        exact ⟨⟨_, rfl⟩, t4⟩
      · rintro σ' H' ⟨⟨v7, rfl⟩, s⟩
        walk_at "x"
        refine ⟨p2, _, rfl, .inl (s _ _ gt), (elts_int (K := K)).thing, fun ms m' tb' e => ?_, fun hn => ?_⟩
        · obtain rfl : tabA zs m = ms := map_int_inj e
          refine ⟨fun _ H2 s2 => ?_, fun i o hi ho hb => ?_⟩
          · walk_at "x"
            exact k _
          · exact absurd hb (by have := sup_tabA hm z6 i o hi ho; omega)
        · rw [tb.look] at hn; cases hn

end
theorem all_mk {l : PySem.W.OpenLaw} {w : World} {K : PySem.W.Frag} {h : Heap} {mg : Str → Option Value} {fa f_is_whole f_divisor f_shortest f_fraction f_look_group f_whole_of f_hands_of f_size_of f_look f_dividends f_earned f_look_order f_order_shares f_mean_shares f_adds_of f_turns f_are_alike f_alike f_idle f_swells f__law_cell f__law_numbers f__law_sums f__law_none f__law_told f__law_refused f__law_due f_law C_ShareError C_NoNumber C_NoGroup C_NoRule C_NoText C_NoTable C_Unlike C_TooMany C_NoOrder C_NoRows C_NoShares C_NoVotes : Addr} (X : K.In h) (G : h.Ns mainGlobals mg) (hfa : mg "law" = some (.ref fa))
    {t_MOST t_SIXTY : Tok} {od_is_whole an_is_whole od_divisor an_divisor od_shortest an_shortest od_fraction an_fraction od_look_group an_look_group od_whole_of an_whole_of od_hands_of an_hands_of od_size_of an_size_of od_look an_look od_dividends an_dividends od_earned an_earned od_look_order an_look_order od_order_shares an_order_shares od_mean_shares an_mean_shares od_adds_of an_adds_of od_turns an_turns od_are_alike an_are_alike od_alike an_alike od_idle an_idle od_swells an_swells od__law_cell an__law_cell od__law_numbers an__law_numbers od__law_sums an__law_sums od__law_none an__law_none od__law_told an__law_told od__law_refused an__law_refused od__law_due an__law_due od_law an_law : Option Addr} {sl_is_whole sl_divisor sl_shortest sl_fraction sl_look_group sl_whole_of sl_hands_of sl_size_of sl_look sl_dividends sl_earned sl_look_order sl_order_shares sl_mean_shares sl_adds_of sl_turns sl_are_alike sl_alike sl_idle sl_swells sl__law_cell sl__law_numbers sl__law_sums sl__law_none sl__law_told sl__law_refused sl__law_due sl_law : Array (Option Value)} {oc_is_whole kV_is_whole dc_is_whole pm_is_whole cd_is_whole ct_is_whole oc_divisor kV_divisor dc_divisor pm_divisor cd_divisor ct_divisor oc_shortest kV_shortest dc_shortest pm_shortest cd_shortest ct_shortest oc_fraction kV_fraction dc_fraction pm_fraction cd_fraction ct_fraction oc_look_group kV_look_group dc_look_group pm_look_group cd_look_group ct_look_group oc_whole_of kV_whole_of dc_whole_of pm_whole_of cd_whole_of ct_whole_of oc_hands_of kV_hands_of dc_hands_of pm_hands_of cd_hands_of ct_hands_of oc_size_of kV_size_of dc_size_of pm_size_of cd_size_of ct_size_of oc_look kV_look dc_look pm_look cd_look ct_look oc_dividends kV_dividends dc_dividends pm_dividends cd_dividends ct_dividends oc_earned kV_earned dc_earned pm_earned cd_earned ct_earned oc_look_order kV_look_order dc_look_order pm_look_order cd_look_order ct_look_order oc_order_shares kV_order_shares dc_order_shares pm_order_shares cd_order_shares ct_order_shares oc_mean_shares kV_mean_shares dc_mean_shares pm_mean_shares cd_mean_shares ct_mean_shares oc_adds_of kV_adds_of dc_adds_of pm_adds_of cd_adds_of ct_adds_of oc_turns kV_turns dc_turns pm_turns cd_turns ct_turns oc_are_alike kV_are_alike dc_are_alike pm_are_alike cd_are_alike ct_are_alike oc_alike kV_alike dc_alike pm_alike cd_alike ct_alike oc_idle kV_idle dc_idle pm_idle cd_idle ct_idle oc_swells kV_swells dc_swells pm_swells cd_swells ct_swells oc__law_cell kV__law_cell dc__law_cell pm__law_cell cd__law_cell ct__law_cell oc__law_numbers kV__law_numbers dc__law_numbers pm__law_numbers cd__law_numbers ct__law_numbers oc__law_sums kV__law_sums dc__law_sums pm__law_sums cd__law_sums ct__law_sums oc__law_none kV__law_none dc__law_none pm__law_none cd__law_none ct__law_none oc__law_told kV__law_told dc__law_told pm__law_told cd__law_told ct__law_told oc__law_refused kV__law_refused dc__law_refused pm__law_refused cd__law_refused ct__law_refused oc__law_due kV__law_due dc__law_due pm__law_due cd__law_due ct__law_due oc_law kV_law dc_law pm_law cd_law ct_law : Value}
    (a_is_whole : PySem.W.nsIn K mainGlobals "is_whole" = some (some (.ref f_is_whole)))
    (l_is_whole : K.lookup f_is_whole = some ⟨oc_is_whole, od_is_whole, .func (PySem.W.fnOf "is_whole" "is_whole" (defArgs s_is_whole) (defBody s_is_whole) (defScope s_is_whole) .none kV_is_whole dc_is_whole pm_is_whole an_is_whole cd_is_whole ct_is_whole), sl_is_whole⟩)
    (c_is_whole : PySem.W.codeIn K cd_is_whole "is_whole" = true)
    (k_is_whole : PySem.W.keepIn K (.ref f_is_whole) = true)
    (a_divisor : PySem.W.nsIn K mainGlobals "divisor" = some (some (.ref f_divisor)))
    (l_divisor : K.lookup f_divisor = some ⟨oc_divisor, od_divisor, .func (PySem.W.fnOf "divisor" "divisor" (defArgs s_divisor) (defBody s_divisor) (defScope s_divisor) .none kV_divisor dc_divisor pm_divisor an_divisor cd_divisor ct_divisor), sl_divisor⟩)
    (c_divisor : PySem.W.codeIn K cd_divisor "divisor" = true)
    (k_divisor : PySem.W.keepIn K (.ref f_divisor) = true)
    (a_shortest : PySem.W.nsIn K mainGlobals "shortest" = some (some (.ref f_shortest)))
    (l_shortest : K.lookup f_shortest = some ⟨oc_shortest, od_shortest, .func (PySem.W.fnOf "shortest" "shortest" (defArgs s_shortest) (defBody s_shortest) (defScope s_shortest) .none kV_shortest dc_shortest pm_shortest an_shortest cd_shortest ct_shortest), sl_shortest⟩)
    (c_shortest : PySem.W.codeIn K cd_shortest "shortest" = true)
    (k_shortest : PySem.W.keepIn K (.ref f_shortest) = true)
    (a_fraction : PySem.W.nsIn K mainGlobals "fraction" = some (some (.ref f_fraction)))
    (l_fraction : K.lookup f_fraction = some ⟨oc_fraction, od_fraction, .func (PySem.W.fnOf "fraction" "fraction" (defArgs s_fraction) (defBody s_fraction) (defScope s_fraction) .none kV_fraction dc_fraction pm_fraction an_fraction cd_fraction ct_fraction), sl_fraction⟩)
    (c_fraction : PySem.W.codeIn K cd_fraction "fraction" = true)
    (k_fraction : PySem.W.keepIn K (.ref f_fraction) = true)
    (a_look_group : PySem.W.nsIn K mainGlobals "look_group" = some (some (.ref f_look_group)))
    (l_look_group : K.lookup f_look_group = some ⟨oc_look_group, od_look_group, .func (PySem.W.fnOf "look_group" "look_group" (defArgs s_look_group) (defBody s_look_group) (defScope s_look_group) .none kV_look_group dc_look_group pm_look_group an_look_group cd_look_group ct_look_group), sl_look_group⟩)
    (c_look_group : PySem.W.codeIn K cd_look_group "look_group" = true)
    (k_look_group : PySem.W.keepIn K (.ref f_look_group) = true)
    (a_whole_of : PySem.W.nsIn K mainGlobals "whole_of" = some (some (.ref f_whole_of)))
    (l_whole_of : K.lookup f_whole_of = some ⟨oc_whole_of, od_whole_of, .func (PySem.W.fnOf "whole_of" "whole_of" (defArgs s_whole_of) (defBody s_whole_of) (defScope s_whole_of) .none kV_whole_of dc_whole_of pm_whole_of an_whole_of cd_whole_of ct_whole_of), sl_whole_of⟩)
    (c_whole_of : PySem.W.codeIn K cd_whole_of "whole_of" = true)
    (k_whole_of : PySem.W.keepIn K (.ref f_whole_of) = true)
    (a_hands_of : PySem.W.nsIn K mainGlobals "hands_of" = some (some (.ref f_hands_of)))
    (l_hands_of : K.lookup f_hands_of = some ⟨oc_hands_of, od_hands_of, .func (PySem.W.fnOf "hands_of" "hands_of" (defArgs s_hands_of) (defBody s_hands_of) (defScope s_hands_of) .none kV_hands_of dc_hands_of pm_hands_of an_hands_of cd_hands_of ct_hands_of), sl_hands_of⟩)
    (c_hands_of : PySem.W.codeIn K cd_hands_of "hands_of" = true)
    (k_hands_of : PySem.W.keepIn K (.ref f_hands_of) = true)
    (a_size_of : PySem.W.nsIn K mainGlobals "size_of" = some (some (.ref f_size_of)))
    (l_size_of : K.lookup f_size_of = some ⟨oc_size_of, od_size_of, .func (PySem.W.fnOf "size_of" "size_of" (defArgs s_size_of) (defBody s_size_of) (defScope s_size_of) .none kV_size_of dc_size_of pm_size_of an_size_of cd_size_of ct_size_of), sl_size_of⟩)
    (c_size_of : PySem.W.codeIn K cd_size_of "size_of" = true)
    (k_size_of : PySem.W.keepIn K (.ref f_size_of) = true)
    (a_look : PySem.W.nsIn K mainGlobals "look" = some (some (.ref f_look)))
    (l_look : K.lookup f_look = some ⟨oc_look, od_look, .func (PySem.W.fnOf "look" "look" (defArgs s_look) (defBody s_look) (defScope s_look) .none kV_look dc_look pm_look an_look cd_look ct_look), sl_look⟩)
    (c_look : PySem.W.codeIn K cd_look "look" = true)
    (k_look : PySem.W.keepIn K (.ref f_look) = true)
    (a_dividends : PySem.W.nsIn K mainGlobals "dividends" = some (some (.ref f_dividends)))
    (l_dividends : K.lookup f_dividends = some ⟨oc_dividends, od_dividends, .func (PySem.W.fnOf "dividends" "dividends" (defArgs s_dividends) (defBody s_dividends) (defScope s_dividends) .none kV_dividends dc_dividends pm_dividends an_dividends cd_dividends ct_dividends), sl_dividends⟩)
    (c_dividends : PySem.W.codeIn K cd_dividends "dividends" = true)
    (k_dividends : PySem.W.keepIn K (.ref f_dividends) = true)
    (a_earned : PySem.W.nsIn K mainGlobals "earned" = some (some (.ref f_earned)))
    (l_earned : K.lookup f_earned = some ⟨oc_earned, od_earned, .func (PySem.W.fnOf "earned" "earned" (defArgs s_earned) (defBody s_earned) (defScope s_earned) .none kV_earned dc_earned pm_earned an_earned cd_earned ct_earned), sl_earned⟩)
    (c_earned : PySem.W.codeIn K cd_earned "earned" = true)
    (k_earned : PySem.W.keepIn K (.ref f_earned) = true)
    (a_look_order : PySem.W.nsIn K mainGlobals "look_order" = some (some (.ref f_look_order)))
    (l_look_order : K.lookup f_look_order = some ⟨oc_look_order, od_look_order, .func (PySem.W.fnOf "look_order" "look_order" (defArgs s_look_order) (defBody s_look_order) (defScope s_look_order) .none kV_look_order dc_look_order pm_look_order an_look_order cd_look_order ct_look_order), sl_look_order⟩)
    (c_look_order : PySem.W.codeIn K cd_look_order "look_order" = true)
    (k_look_order : PySem.W.keepIn K (.ref f_look_order) = true)
    (a_order_shares : PySem.W.nsIn K mainGlobals "order_shares" = some (some (.ref f_order_shares)))
    (l_order_shares : K.lookup f_order_shares = some ⟨oc_order_shares, od_order_shares, .func (PySem.W.fnOf "order_shares" "order_shares" (defArgs s_order_shares) (defBody s_order_shares) (defScope s_order_shares) .none kV_order_shares dc_order_shares pm_order_shares an_order_shares cd_order_shares ct_order_shares), sl_order_shares⟩)
    (c_order_shares : PySem.W.codeIn K cd_order_shares "order_shares" = true)
    (k_order_shares : PySem.W.keepIn K (.ref f_order_shares) = true)
    (a_mean_shares : PySem.W.nsIn K mainGlobals "mean_shares" = some (some (.ref f_mean_shares)))
    (l_mean_shares : K.lookup f_mean_shares = some ⟨oc_mean_shares, od_mean_shares, .func (PySem.W.fnOf "mean_shares" "mean_shares" (defArgs s_mean_shares) (defBody s_mean_shares) (defScope s_mean_shares) .none kV_mean_shares dc_mean_shares pm_mean_shares an_mean_shares cd_mean_shares ct_mean_shares), sl_mean_shares⟩)
    (c_mean_shares : PySem.W.codeIn K cd_mean_shares "mean_shares" = true)
    (k_mean_shares : PySem.W.keepIn K (.ref f_mean_shares) = true)
    (a_adds_of : PySem.W.nsIn K mainGlobals "adds_of" = some (some (.ref f_adds_of)))
    (l_adds_of : K.lookup f_adds_of = some ⟨oc_adds_of, od_adds_of, .func (PySem.W.fnOf "adds_of" "adds_of" (defArgs s_adds_of) (defBody s_adds_of) (defScope s_adds_of) .none kV_adds_of dc_adds_of pm_adds_of an_adds_of cd_adds_of ct_adds_of), sl_adds_of⟩)
    (c_adds_of : PySem.W.codeIn K cd_adds_of "adds_of" = true)
    (k_adds_of : PySem.W.keepIn K (.ref f_adds_of) = true)
    (a_turns : PySem.W.nsIn K mainGlobals "turns" = some (some (.ref f_turns)))
    (l_turns : K.lookup f_turns = some ⟨oc_turns, od_turns, .func (PySem.W.fnOf "turns" "turns" (defArgs s_turns) (defBody s_turns) (defScope s_turns) .none kV_turns dc_turns pm_turns an_turns cd_turns ct_turns), sl_turns⟩)
    (c_turns : PySem.W.codeIn K cd_turns "turns" = true)
    (k_turns : PySem.W.keepIn K (.ref f_turns) = true)
    (a_are_alike : PySem.W.nsIn K mainGlobals "are_alike" = some (some (.ref f_are_alike)))
    (l_are_alike : K.lookup f_are_alike = some ⟨oc_are_alike, od_are_alike, .func (PySem.W.fnOf "are_alike" "are_alike" (defArgs s_are_alike) (defBody s_are_alike) (defScope s_are_alike) .none kV_are_alike dc_are_alike pm_are_alike an_are_alike cd_are_alike ct_are_alike), sl_are_alike⟩)
    (c_are_alike : PySem.W.codeIn K cd_are_alike "are_alike" = true)
    (k_are_alike : PySem.W.keepIn K (.ref f_are_alike) = true)
    (a_alike : PySem.W.nsIn K mainGlobals "alike" = some (some (.ref f_alike)))
    (l_alike : K.lookup f_alike = some ⟨oc_alike, od_alike, .func (PySem.W.fnOf "alike" "alike" (defArgs s_alike) (defBody s_alike) (defScope s_alike) .none kV_alike dc_alike pm_alike an_alike cd_alike ct_alike), sl_alike⟩)
    (c_alike : PySem.W.codeIn K cd_alike "alike" = true)
    (k_alike : PySem.W.keepIn K (.ref f_alike) = true)
    (a_idle : PySem.W.nsIn K mainGlobals "idle" = some (some (.ref f_idle)))
    (l_idle : K.lookup f_idle = some ⟨oc_idle, od_idle, .func (PySem.W.fnOf "idle" "idle" (defArgs s_idle) (defBody s_idle) (defScope s_idle) .none kV_idle dc_idle pm_idle an_idle cd_idle ct_idle), sl_idle⟩)
    (c_idle : PySem.W.codeIn K cd_idle "idle" = true)
    (k_idle : PySem.W.keepIn K (.ref f_idle) = true)
    (a_swells : PySem.W.nsIn K mainGlobals "swells" = some (some (.ref f_swells)))
    (l_swells : K.lookup f_swells = some ⟨oc_swells, od_swells, .func (PySem.W.fnOf "swells" "swells" (defArgs s_swells) (defBody s_swells) (defScope s_swells) .none kV_swells dc_swells pm_swells an_swells cd_swells ct_swells), sl_swells⟩)
    (c_swells : PySem.W.codeIn K cd_swells "swells" = true)
    (k_swells : PySem.W.keepIn K (.ref f_swells) = true)
    (a__law_cell : PySem.W.nsIn K mainGlobals "_law_cell" = some (some (.ref f__law_cell)))
    (l__law_cell : K.lookup f__law_cell = some ⟨oc__law_cell, od__law_cell, .func (PySem.W.fnOf "_law_cell" "_law_cell" (defArgs s__law_cell) (defBody s__law_cell) (defScope s__law_cell) .none kV__law_cell dc__law_cell pm__law_cell an__law_cell cd__law_cell ct__law_cell), sl__law_cell⟩)
    (c__law_cell : PySem.W.codeIn K cd__law_cell "_law_cell" = true)
    (k__law_cell : PySem.W.keepIn K (.ref f__law_cell) = true)
    (a__law_numbers : PySem.W.nsIn K mainGlobals "_law_numbers" = some (some (.ref f__law_numbers)))
    (l__law_numbers : K.lookup f__law_numbers = some ⟨oc__law_numbers, od__law_numbers, .func (PySem.W.fnOf "_law_numbers" "_law_numbers" (defArgs s__law_numbers) (defBody s__law_numbers) (defScope s__law_numbers) .none kV__law_numbers dc__law_numbers pm__law_numbers an__law_numbers cd__law_numbers ct__law_numbers), sl__law_numbers⟩)
    (c__law_numbers : PySem.W.codeIn K cd__law_numbers "_law_numbers" = true)
    (k__law_numbers : PySem.W.keepIn K (.ref f__law_numbers) = true)
    (a__law_sums : PySem.W.nsIn K mainGlobals "_law_sums" = some (some (.ref f__law_sums)))
    (l__law_sums : K.lookup f__law_sums = some ⟨oc__law_sums, od__law_sums, .func (PySem.W.fnOf "_law_sums" "_law_sums" (defArgs s__law_sums) (defBody s__law_sums) (defScope s__law_sums) .none kV__law_sums dc__law_sums pm__law_sums an__law_sums cd__law_sums ct__law_sums), sl__law_sums⟩)
    (c__law_sums : PySem.W.codeIn K cd__law_sums "_law_sums" = true)
    (k__law_sums : PySem.W.keepIn K (.ref f__law_sums) = true)
    (a__law_none : PySem.W.nsIn K mainGlobals "_law_none" = some (some (.ref f__law_none)))
    (l__law_none : K.lookup f__law_none = some ⟨oc__law_none, od__law_none, .func (PySem.W.fnOf "_law_none" "_law_none" (defArgs s__law_none) (defBody s__law_none) (defScope s__law_none) .none kV__law_none dc__law_none pm__law_none an__law_none cd__law_none ct__law_none), sl__law_none⟩)
    (c__law_none : PySem.W.codeIn K cd__law_none "_law_none" = true)
    (k__law_none : PySem.W.keepIn K (.ref f__law_none) = true)
    (a__law_told : PySem.W.nsIn K mainGlobals "_law_told" = some (some (.ref f__law_told)))
    (l__law_told : K.lookup f__law_told = some ⟨oc__law_told, od__law_told, .func (PySem.W.fnOf "_law_told" "_law_told" (defArgs s__law_told) (defBody s__law_told) (defScope s__law_told) .none kV__law_told dc__law_told pm__law_told an__law_told cd__law_told ct__law_told), sl__law_told⟩)
    (c__law_told : PySem.W.codeIn K cd__law_told "_law_told" = true)
    (k__law_told : PySem.W.keepIn K (.ref f__law_told) = true)
    (a__law_refused : PySem.W.nsIn K mainGlobals "_law_refused" = some (some (.ref f__law_refused)))
    (l__law_refused : K.lookup f__law_refused = some ⟨oc__law_refused, od__law_refused, .func (PySem.W.fnOf "_law_refused" "_law_refused" (defArgs s__law_refused) (defBody s__law_refused) (defScope s__law_refused) .none kV__law_refused dc__law_refused pm__law_refused an__law_refused cd__law_refused ct__law_refused), sl__law_refused⟩)
    (c__law_refused : PySem.W.codeIn K cd__law_refused "_law_refused" = true)
    (k__law_refused : PySem.W.keepIn K (.ref f__law_refused) = true)
    (a__law_due : PySem.W.nsIn K mainGlobals "_law_due" = some (some (.ref f__law_due)))
    (l__law_due : K.lookup f__law_due = some ⟨oc__law_due, od__law_due, .func (PySem.W.fnOf "_law_due" "_law_due" (defArgs s__law_due) (defBody s__law_due) (defScope s__law_due) .none kV__law_due dc__law_due pm__law_due an__law_due cd__law_due ct__law_due), sl__law_due⟩)
    (c__law_due : PySem.W.codeIn K cd__law_due "_law_due" = true)
    (k__law_due : PySem.W.keepIn K (.ref f__law_due) = true)
    (a_law : PySem.W.nsIn K mainGlobals "law" = some (some (.ref f_law)))
    (l_law : K.lookup f_law = some ⟨oc_law, od_law, .func (PySem.W.fnOf "law" "law" (defArgs s_law) (defBody s_law) (defScope s_law) .none kV_law dc_law pm_law an_law cd_law ct_law), sl_law⟩)
    (c_law : PySem.W.codeIn K cd_law "law" = true)
    (k_law : PySem.W.keepIn K (.ref f_law) = true)
    (ac_ShareError : PySem.W.nsIn K mainGlobals "ShareError" = some (some (.ref C_ShareError)))
    (tc_ShareError : PySem.W.typeIn K (.ref C_ShareError) = some (.type "type"))
    (ec_ShareError : PySem.W.subIn K (.ref C_ShareError) (.type "BaseException") = some true)
    (ac_NoNumber : PySem.W.nsIn K mainGlobals "NoNumber" = some (some (.ref C_NoNumber)))
    (kc_NoNumber : PySem.W.keepIn K (.ref C_NoNumber) = true)
    (ec_NoNumber : PySem.W.subIn K (.ref C_NoNumber) (.type "BaseException") = some true)
    (tc_NoNumber : PySem.W.typeIn K (.ref C_NoNumber) = some (.type "type"))
    (xc_NoNumber : PySem.W.excIn K C_NoNumber [.type "ValueError", .type "Exception", .type "BaseException", .type "object"] "ValueError.__new__" = true)
    (ac_NoGroup : PySem.W.nsIn K mainGlobals "NoGroup" = some (some (.ref C_NoGroup)))
    (kc_NoGroup : PySem.W.keepIn K (.ref C_NoGroup) = true)
    (ec_NoGroup : PySem.W.subIn K (.ref C_NoGroup) (.type "BaseException") = some true)
    (tc_NoGroup : PySem.W.typeIn K (.ref C_NoGroup) = some (.type "type"))
    (xc_NoGroup : PySem.W.excIn K C_NoGroup [.type "ValueError", .type "Exception", .type "BaseException", .type "object"] "ValueError.__new__" = true)
    (ac_NoRule : PySem.W.nsIn K mainGlobals "NoRule" = some (some (.ref C_NoRule)))
    (tc_NoRule : PySem.W.typeIn K (.ref C_NoRule) = some (.type "type"))
    (ec_NoRule : PySem.W.subIn K (.ref C_NoRule) (.type "BaseException") = some true)
    (ac_NoText : PySem.W.nsIn K mainGlobals "NoText" = some (some (.ref C_NoText)))
    (tc_NoText : PySem.W.typeIn K (.ref C_NoText) = some (.type "type"))
    (ec_NoText : PySem.W.subIn K (.ref C_NoText) (.type "BaseException") = some true)
    (ac_NoTable : PySem.W.nsIn K mainGlobals "NoTable" = some (some (.ref C_NoTable)))
    (kc_NoTable : PySem.W.keepIn K (.ref C_NoTable) = true)
    (ec_NoTable : PySem.W.subIn K (.ref C_NoTable) (.type "BaseException") = some true)
    (tc_NoTable : PySem.W.typeIn K (.ref C_NoTable) = some (.type "type"))
    (xc_NoTable : PySem.W.excIn K C_NoTable [.type "ValueError", .type "Exception", .type "BaseException", .type "object"] "ValueError.__new__" = true)
    (ac_Unlike : PySem.W.nsIn K mainGlobals "Unlike" = some (some (.ref C_Unlike)))
    (tc_Unlike : PySem.W.typeIn K (.ref C_Unlike) = some (.type "type"))
    (ec_Unlike : PySem.W.subIn K (.ref C_Unlike) (.type "BaseException") = some true)
    (ac_TooMany : PySem.W.nsIn K mainGlobals "TooMany" = some (some (.ref C_TooMany)))
    (tc_TooMany : PySem.W.typeIn K (.ref C_TooMany) = some (.type "type"))
    (ec_TooMany : PySem.W.subIn K (.ref C_TooMany) (.type "BaseException") = some true)
    (ac_NoOrder : PySem.W.nsIn K mainGlobals "NoOrder" = some (some (.ref C_NoOrder)))
    (kc_NoOrder : PySem.W.keepIn K (.ref C_NoOrder) = true)
    (ec_NoOrder : PySem.W.subIn K (.ref C_NoOrder) (.type "BaseException") = some true)
    (tc_NoOrder : PySem.W.typeIn K (.ref C_NoOrder) = some (.type "type"))
    (xc_NoOrder : PySem.W.excIn K C_NoOrder [.type "ValueError", .type "Exception", .type "BaseException", .type "object"] "ValueError.__new__" = true)
    (ac_NoRows : PySem.W.nsIn K mainGlobals "NoRows" = some (some (.ref C_NoRows)))
    (tc_NoRows : PySem.W.typeIn K (.ref C_NoRows) = some (.type "type"))
    (ec_NoRows : PySem.W.subIn K (.ref C_NoRows) (.type "BaseException") = some true)
    (ac_NoShares : PySem.W.nsIn K mainGlobals "NoShares" = some (some (.ref C_NoShares)))
    (tc_NoShares : PySem.W.typeIn K (.ref C_NoShares) = some (.type "type"))
    (ec_NoShares : PySem.W.subIn K (.ref C_NoShares) (.type "BaseException") = some true)
    (ac_NoVotes : PySem.W.nsIn K mainGlobals "NoVotes" = some (some (.ref C_NoVotes)))
    (tc_NoVotes : PySem.W.typeIn K (.ref C_NoVotes) = some (.type "type"))
    (ec_NoVotes : PySem.W.subIn K (.ref C_NoVotes) (.type "BaseException") = some true)
    (ic_NoGroup : PySem.W.isClsIn K C_NoGroup = true)
    (sc_NoGroup : PySem.W.subIn K (.ref C_NoGroup) (.ref C_NoGroup) = some true)
    (ic_NoNumber : PySem.W.isClsIn K C_NoNumber = true)
    (sc_NoNumber : PySem.W.subIn K (.ref C_NoNumber) (.ref C_NoNumber) = some true)
    (ic_NoOrder : PySem.W.isClsIn K C_NoOrder = true)
    (sc_NoOrder : PySem.W.subIn K (.ref C_NoOrder) (.ref C_NoOrder) = some true)
    (ic_NoRows : PySem.W.isClsIn K C_NoRows = true)
    (sc_NoRows : PySem.W.subIn K (.ref C_NoRows) (.ref C_NoRows) = some true)
    (ic_NoRule : PySem.W.isClsIn K C_NoRule = true)
    (sc_NoRule : PySem.W.subIn K (.ref C_NoRule) (.ref C_NoRule) = some true)
    (ic_NoShares : PySem.W.isClsIn K C_NoShares = true)
    (sc_NoShares : PySem.W.subIn K (.ref C_NoShares) (.ref C_NoShares) = some true)
    (ic_NoTable : PySem.W.isClsIn K C_NoTable = true)
    (sc_NoTable : PySem.W.subIn K (.ref C_NoTable) (.ref C_NoTable) = some true)
    (ic_NoText : PySem.W.isClsIn K C_NoText = true)
    (sc_NoText : PySem.W.subIn K (.ref C_NoText) (.ref C_NoText) = some true)
    (ic_NoVotes : PySem.W.isClsIn K C_NoVotes = true)
    (sc_NoVotes : PySem.W.subIn K (.ref C_NoVotes) (.ref C_NoVotes) = some true)
    (ic_ShareError : PySem.W.isClsIn K C_ShareError = true)
    (sc_ShareError : PySem.W.subIn K (.ref C_ShareError) (.ref C_ShareError) = some true)
    (ic_TooMany : PySem.W.isClsIn K C_TooMany = true)
    (sc_TooMany : PySem.W.subIn K (.ref C_TooMany) (.ref C_TooMany) = some true)
    (ic_Unlike : PySem.W.isClsIn K C_Unlike = true)
    (sc_Unlike : PySem.W.subIn K (.ref C_Unlike) (.ref C_Unlike) = some true)
    (xg_NoNumber : PySem.W.findIn K (.ref C_NoNumber) "__getattribute__" = some (some (.builtin "BaseException.__getattribute__")))
    (xk_NoNumber : PySem.W.findIn K (.ref C_NoNumber) "__getattr__" = some none)
    (xh_NoNumber : PySem.W.hasDictIn K C_NoNumber = true)
    (xa_NoNumber : PySem.W.findIn K (.ref C_NoNumber) "__class__" = some (some (.builtin "object.__class__")))
    (xm_NoNumber : PySem.W.mroIn K C_NoNumber (.type "object") = some true)
    (xn : PySem.W.specialIn K (.builtin "object.__class__") "__get__" = some (some (.builtin "getset_descriptor.__get__")))
    (xt : PySem.W.takesIn K (.builtin "object.__class__") = some true)
    (us_NoNumber_NoGroup : PySem.W.subIn K (.ref C_NoNumber) (.ref C_NoGroup) = some false)
    (us_NoNumber_NoNumber : PySem.W.subIn K (.ref C_NoNumber) (.ref C_NoNumber) = some true)
    (us_NoNumber_NoOrder : PySem.W.subIn K (.ref C_NoNumber) (.ref C_NoOrder) = some false)
    (us_NoNumber_NoRows : PySem.W.subIn K (.ref C_NoNumber) (.ref C_NoRows) = some false)
    (us_NoNumber_NoRule : PySem.W.subIn K (.ref C_NoNumber) (.ref C_NoRule) = some false)
    (us_NoNumber_NoShares : PySem.W.subIn K (.ref C_NoNumber) (.ref C_NoShares) = some false)
    (us_NoNumber_NoTable : PySem.W.subIn K (.ref C_NoNumber) (.ref C_NoTable) = some false)
    (us_NoNumber_NoText : PySem.W.subIn K (.ref C_NoNumber) (.ref C_NoText) = some false)
    (us_NoNumber_NoVotes : PySem.W.subIn K (.ref C_NoNumber) (.ref C_NoVotes) = some false)
    (us_NoNumber_ShareError : PySem.W.subIn K (.ref C_NoNumber) (.ref C_ShareError) = some true)
    (us_NoNumber_TooMany : PySem.W.subIn K (.ref C_NoNumber) (.ref C_TooMany) = some false)
    (us_NoNumber_Unlike : PySem.W.subIn K (.ref C_NoNumber) (.ref C_Unlike) = some false)
    (uv_NoNumber : PySem.W.subIn K (.ref C_NoNumber) (.type "ValueError") = some true)
    (hh_NoNumber_ShareError : PySem.W.hasDictIn K C_ShareError = true)
    (xg_NoGroup : PySem.W.findIn K (.ref C_NoGroup) "__getattribute__" = some (some (.builtin "BaseException.__getattribute__")))
    (xk_NoGroup : PySem.W.findIn K (.ref C_NoGroup) "__getattr__" = some none)
    (xh_NoGroup : PySem.W.hasDictIn K C_NoGroup = true)
    (xa_NoGroup : PySem.W.findIn K (.ref C_NoGroup) "__class__" = some (some (.builtin "object.__class__")))
    (xm_NoGroup : PySem.W.mroIn K C_NoGroup (.type "object") = some true)
    (us_NoGroup_NoGroup : PySem.W.subIn K (.ref C_NoGroup) (.ref C_NoGroup) = some true)
    (us_NoGroup_NoNumber : PySem.W.subIn K (.ref C_NoGroup) (.ref C_NoNumber) = some false)
    (us_NoGroup_NoOrder : PySem.W.subIn K (.ref C_NoGroup) (.ref C_NoOrder) = some false)
    (us_NoGroup_NoRows : PySem.W.subIn K (.ref C_NoGroup) (.ref C_NoRows) = some false)
    (us_NoGroup_NoRule : PySem.W.subIn K (.ref C_NoGroup) (.ref C_NoRule) = some false)
    (us_NoGroup_NoShares : PySem.W.subIn K (.ref C_NoGroup) (.ref C_NoShares) = some false)
    (us_NoGroup_NoTable : PySem.W.subIn K (.ref C_NoGroup) (.ref C_NoTable) = some false)
    (us_NoGroup_NoText : PySem.W.subIn K (.ref C_NoGroup) (.ref C_NoText) = some false)
    (us_NoGroup_NoVotes : PySem.W.subIn K (.ref C_NoGroup) (.ref C_NoVotes) = some false)
    (us_NoGroup_ShareError : PySem.W.subIn K (.ref C_NoGroup) (.ref C_ShareError) = some true)
    (us_NoGroup_TooMany : PySem.W.subIn K (.ref C_NoGroup) (.ref C_TooMany) = some false)
    (us_NoGroup_Unlike : PySem.W.subIn K (.ref C_NoGroup) (.ref C_Unlike) = some false)
    (uv_NoGroup : PySem.W.subIn K (.ref C_NoGroup) (.type "ValueError") = some true)
    (hh_NoGroup_ShareError : PySem.W.hasDictIn K C_ShareError = true)
    (xg_NoTable : PySem.W.findIn K (.ref C_NoTable) "__getattribute__" = some (some (.builtin "BaseException.__getattribute__")))
    (xk_NoTable : PySem.W.findIn K (.ref C_NoTable) "__getattr__" = some none)
    (xh_NoTable : PySem.W.hasDictIn K C_NoTable = true)
    (xa_NoTable : PySem.W.findIn K (.ref C_NoTable) "__class__" = some (some (.builtin "object.__class__")))
    (xm_NoTable : PySem.W.mroIn K C_NoTable (.type "object") = some true)
    (us_NoTable_NoGroup : PySem.W.subIn K (.ref C_NoTable) (.ref C_NoGroup) = some false)
    (us_NoTable_NoNumber : PySem.W.subIn K (.ref C_NoTable) (.ref C_NoNumber) = some false)
    (us_NoTable_NoOrder : PySem.W.subIn K (.ref C_NoTable) (.ref C_NoOrder) = some false)
    (us_NoTable_NoRows : PySem.W.subIn K (.ref C_NoTable) (.ref C_NoRows) = some false)
    (us_NoTable_NoRule : PySem.W.subIn K (.ref C_NoTable) (.ref C_NoRule) = some false)
    (us_NoTable_NoShares : PySem.W.subIn K (.ref C_NoTable) (.ref C_NoShares) = some false)
    (us_NoTable_NoTable : PySem.W.subIn K (.ref C_NoTable) (.ref C_NoTable) = some true)
    (us_NoTable_NoText : PySem.W.subIn K (.ref C_NoTable) (.ref C_NoText) = some false)
    (us_NoTable_NoVotes : PySem.W.subIn K (.ref C_NoTable) (.ref C_NoVotes) = some false)
    (us_NoTable_ShareError : PySem.W.subIn K (.ref C_NoTable) (.ref C_ShareError) = some true)
    (us_NoTable_TooMany : PySem.W.subIn K (.ref C_NoTable) (.ref C_TooMany) = some false)
    (us_NoTable_Unlike : PySem.W.subIn K (.ref C_NoTable) (.ref C_Unlike) = some false)
    (uv_NoTable : PySem.W.subIn K (.ref C_NoTable) (.type "ValueError") = some true)
    (hh_NoTable_ShareError : PySem.W.hasDictIn K C_ShareError = true)
    (xg_NoOrder : PySem.W.findIn K (.ref C_NoOrder) "__getattribute__" = some (some (.builtin "BaseException.__getattribute__")))
    (xk_NoOrder : PySem.W.findIn K (.ref C_NoOrder) "__getattr__" = some none)
    (xh_NoOrder : PySem.W.hasDictIn K C_NoOrder = true)
    (xa_NoOrder : PySem.W.findIn K (.ref C_NoOrder) "__class__" = some (some (.builtin "object.__class__")))
    (xm_NoOrder : PySem.W.mroIn K C_NoOrder (.type "object") = some true)
    (us_NoOrder_NoGroup : PySem.W.subIn K (.ref C_NoOrder) (.ref C_NoGroup) = some false)
    (us_NoOrder_NoNumber : PySem.W.subIn K (.ref C_NoOrder) (.ref C_NoNumber) = some false)
    (us_NoOrder_NoOrder : PySem.W.subIn K (.ref C_NoOrder) (.ref C_NoOrder) = some true)
    (us_NoOrder_NoRows : PySem.W.subIn K (.ref C_NoOrder) (.ref C_NoRows) = some false)
    (us_NoOrder_NoRule : PySem.W.subIn K (.ref C_NoOrder) (.ref C_NoRule) = some false)
    (us_NoOrder_NoShares : PySem.W.subIn K (.ref C_NoOrder) (.ref C_NoShares) = some false)
    (us_NoOrder_NoTable : PySem.W.subIn K (.ref C_NoOrder) (.ref C_NoTable) = some false)
    (us_NoOrder_NoText : PySem.W.subIn K (.ref C_NoOrder) (.ref C_NoText) = some false)
    (us_NoOrder_NoVotes : PySem.W.subIn K (.ref C_NoOrder) (.ref C_NoVotes) = some false)
    (us_NoOrder_ShareError : PySem.W.subIn K (.ref C_NoOrder) (.ref C_ShareError) = some true)
    (us_NoOrder_TooMany : PySem.W.subIn K (.ref C_NoOrder) (.ref C_TooMany) = some false)
    (us_NoOrder_Unlike : PySem.W.subIn K (.ref C_NoOrder) (.ref C_Unlike) = some false)
    (uv_NoOrder : PySem.W.subIn K (.ref C_NoOrder) (.type "ValueError") = some true)
    (hh_NoOrder_ShareError : PySem.W.hasDictIn K C_ShareError = true)
    (cn_MOST : PySem.W.nsIn K mainGlobals "MOST" = some (some (.int 6 t_MOST)))
    (cn_SIXTY : PySem.W.nsIn K mainGlobals "SIXTY" = some (some (.int 60 t_SIXTY)))
    (z_ValueError : PySem.W.nsIn K mainGlobals "ValueError" = some none)
    (z_abs : PySem.W.nsIn K mainGlobals "abs" = some none)
    (z_any : PySem.W.nsIn K mainGlobals "any" = some none)
    (z_int : PySem.W.nsIn K mainGlobals "int" = some none)
    (z_isinstance : PySem.W.nsIn K mainGlobals "isinstance" = some none)
    (z_len : PySem.W.nsIn K mainGlobals "len" = some none)
    (z_list : PySem.W.nsIn K mainGlobals "list" = some none)
    (z_range : PySem.W.nsIn K mainGlobals "range" = some none)
    (z_str : PySem.W.nsIn K mainGlobals "str" = some none)
    (z_sum : PySem.W.nsIn K mainGlobals "sum" = some none)
    : ∃ fd : FuncData, (∀ (s : Shared) (v : Value), BindsTo s fd ⟨[v], []⟩ [("_law_script", v)]) ∧ ∀ base : Heap, K.In base → base.Ns mainGlobals mg → FnOk l.prog w K mg base (L2.CX l.prog w) 8 fa fd ["_law_script"] (sp_law K) := by
  have e := hfa.symm.trans (PySem.W.mg_of X G a_law)
  cases e
  have T : Txt K mg ⟨f_is_whole, PySem.W.fnOf "is_whole" "is_whole" (defArgs s_is_whole) (defBody s_is_whole) (defScope s_is_whole) .none kV_is_whole dc_is_whole pm_is_whole an_is_whole cd_is_whole ct_is_whole, f_divisor, PySem.W.fnOf "divisor" "divisor" (defArgs s_divisor) (defBody s_divisor) (defScope s_divisor) .none kV_divisor dc_divisor pm_divisor an_divisor cd_divisor ct_divisor, f_shortest, PySem.W.fnOf "shortest" "shortest" (defArgs s_shortest) (defBody s_shortest) (defScope s_shortest) .none kV_shortest dc_shortest pm_shortest an_shortest cd_shortest ct_shortest, f_fraction, PySem.W.fnOf "fraction" "fraction" (defArgs s_fraction) (defBody s_fraction) (defScope s_fraction) .none kV_fraction dc_fraction pm_fraction an_fraction cd_fraction ct_fraction, f_look_group, PySem.W.fnOf "look_group" "look_group" (defArgs s_look_group) (defBody s_look_group) (defScope s_look_group) .none kV_look_group dc_look_group pm_look_group an_look_group cd_look_group ct_look_group, f_whole_of, PySem.W.fnOf "whole_of" "whole_of" (defArgs s_whole_of) (defBody s_whole_of) (defScope s_whole_of) .none kV_whole_of dc_whole_of pm_whole_of an_whole_of cd_whole_of ct_whole_of, f_hands_of, PySem.W.fnOf "hands_of" "hands_of" (defArgs s_hands_of) (defBody s_hands_of) (defScope s_hands_of) .none kV_hands_of dc_hands_of pm_hands_of an_hands_of cd_hands_of ct_hands_of, f_size_of, PySem.W.fnOf "size_of" "size_of" (defArgs s_size_of) (defBody s_size_of) (defScope s_size_of) .none kV_size_of dc_size_of pm_size_of an_size_of cd_size_of ct_size_of, f_look, PySem.W.fnOf "look" "look" (defArgs s_look) (defBody s_look) (defScope s_look) .none kV_look dc_look pm_look an_look cd_look ct_look, f_dividends, PySem.W.fnOf "dividends" "dividends" (defArgs s_dividends) (defBody s_dividends) (defScope s_dividends) .none kV_dividends dc_dividends pm_dividends an_dividends cd_dividends ct_dividends, f_earned, PySem.W.fnOf "earned" "earned" (defArgs s_earned) (defBody s_earned) (defScope s_earned) .none kV_earned dc_earned pm_earned an_earned cd_earned ct_earned, f_look_order, PySem.W.fnOf "look_order" "look_order" (defArgs s_look_order) (defBody s_look_order) (defScope s_look_order) .none kV_look_order dc_look_order pm_look_order an_look_order cd_look_order ct_look_order, f_order_shares, PySem.W.fnOf "order_shares" "order_shares" (defArgs s_order_shares) (defBody s_order_shares) (defScope s_order_shares) .none kV_order_shares dc_order_shares pm_order_shares an_order_shares cd_order_shares ct_order_shares, f_mean_shares, PySem.W.fnOf "mean_shares" "mean_shares" (defArgs s_mean_shares) (defBody s_mean_shares) (defScope s_mean_shares) .none kV_mean_shares dc_mean_shares pm_mean_shares an_mean_shares cd_mean_shares ct_mean_shares, f_adds_of, PySem.W.fnOf "adds_of" "adds_of" (defArgs s_adds_of) (defBody s_adds_of) (defScope s_adds_of) .none kV_adds_of dc_adds_of pm_adds_of an_adds_of cd_adds_of ct_adds_of, f_turns, PySem.W.fnOf "turns" "turns" (defArgs s_turns) (defBody s_turns) (defScope s_turns) .none kV_turns dc_turns pm_turns an_turns cd_turns ct_turns, f_are_alike, PySem.W.fnOf "are_alike" "are_alike" (defArgs s_are_alike) (defBody s_are_alike) (defScope s_are_alike) .none kV_are_alike dc_are_alike pm_are_alike an_are_alike cd_are_alike ct_are_alike, f_alike, PySem.W.fnOf "alike" "alike" (defArgs s_alike) (defBody s_alike) (defScope s_alike) .none kV_alike dc_alike pm_alike an_alike cd_alike ct_alike, f_idle, PySem.W.fnOf "idle" "idle" (defArgs s_idle) (defBody s_idle) (defScope s_idle) .none kV_idle dc_idle pm_idle an_idle cd_idle ct_idle, f_swells, PySem.W.fnOf "swells" "swells" (defArgs s_swells) (defBody s_swells) (defScope s_swells) .none kV_swells dc_swells pm_swells an_swells cd_swells ct_swells, f__law_cell, PySem.W.fnOf "_law_cell" "_law_cell" (defArgs s__law_cell) (defBody s__law_cell) (defScope s__law_cell) .none kV__law_cell dc__law_cell pm__law_cell an__law_cell cd__law_cell ct__law_cell, f__law_numbers, PySem.W.fnOf "_law_numbers" "_law_numbers" (defArgs s__law_numbers) (defBody s__law_numbers) (defScope s__law_numbers) .none kV__law_numbers dc__law_numbers pm__law_numbers an__law_numbers cd__law_numbers ct__law_numbers, f__law_sums, PySem.W.fnOf "_law_sums" "_law_sums" (defArgs s__law_sums) (defBody s__law_sums) (defScope s__law_sums) .none kV__law_sums dc__law_sums pm__law_sums an__law_sums cd__law_sums ct__law_sums, f__law_none, PySem.W.fnOf "_law_none" "_law_none" (defArgs s__law_none) (defBody s__law_none) (defScope s__law_none) .none kV__law_none dc__law_none pm__law_none an__law_none cd__law_none ct__law_none, f__law_told, PySem.W.fnOf "_law_told" "_law_told" (defArgs s__law_told) (defBody s__law_told) (defScope s__law_told) .none kV__law_told dc__law_told pm__law_told an__law_told cd__law_told ct__law_told, f__law_refused, PySem.W.fnOf "_law_refused" "_law_refused" (defArgs s__law_refused) (defBody s__law_refused) (defScope s__law_refused) .none kV__law_refused dc__law_refused pm__law_refused an__law_refused cd__law_refused ct__law_refused, f__law_due, PySem.W.fnOf "_law_due" "_law_due" (defArgs s__law_due) (defBody s__law_due) (defScope s__law_due) .none kV__law_due dc__law_due pm__law_due an__law_due cd__law_due ct__law_due, fa, PySem.W.fnOf "law" "law" (defArgs s_law) (defBody s_law) (defScope s_law) .none kV_law dc_law pm_law an_law cd_law ct_law, C_ShareError, C_NoNumber, C_NoGroup, C_NoRule, C_NoText, C_NoTable, C_Unlike, C_TooMany, C_NoOrder, C_NoRows, C_NoShares, C_NoVotes, t_MOST, t_SIXTY⟩ := {
    F_is_whole := fun_mk (st := s_is_whole) l_is_whole c_is_whole k_is_whole
    b_is_whole := (fun_mk (st := s_is_whole) l_is_whole c_is_whole k_is_whole).binds (ps := ["thing"]) fun _ _ _ _ _ _ us hl => match us, hl with | [_], _ => rfl
    g_is_whole := PySem.W.mg_of X G a_is_whole
    F_divisor := fun_mk (st := s_divisor) l_divisor c_divisor k_divisor
    b_divisor := (fun_mk (st := s_divisor) l_divisor c_divisor k_divisor).binds (ps := ["one", "other"]) fun _ _ _ _ _ _ us hl => match us, hl with | [_, _], _ => rfl
    g_divisor := PySem.W.mg_of X G a_divisor
    F_shortest := fun_mk (st := s_shortest) l_shortest c_shortest k_shortest
    b_shortest := (fun_mk (st := s_shortest) l_shortest c_shortest k_shortest).binds (ps := ["top", "bottom"]) fun _ _ _ _ _ _ us hl => match us, hl with | [_, _], _ => rfl
    g_shortest := PySem.W.mg_of X G a_shortest
    F_fraction := fun_mk (st := s_fraction) l_fraction c_fraction k_fraction
    b_fraction := (fun_mk (st := s_fraction) l_fraction c_fraction k_fraction).binds (ps := ["top", "bottom"]) fun _ _ _ _ _ _ us hl => match us, hl with | [_, _], _ => rfl
    g_fraction := PySem.W.mg_of X G a_fraction
    F_look_group := fun_mk (st := s_look_group) l_look_group c_look_group k_look_group
    b_look_group := (fun_mk (st := s_look_group) l_look_group c_look_group k_look_group).binds (ps := ["group", "least", "greatest"]) fun _ _ _ _ _ _ us hl => match us, hl with | [_, _, _], _ => rfl
    g_look_group := PySem.W.mg_of X G a_look_group
    F_whole_of := fun_mk (st := s_whole_of) l_whole_of c_whole_of k_whole_of
    b_whole_of := (fun_mk (st := s_whole_of) l_whole_of c_whole_of k_whole_of).binds (ps := ["many"]) fun _ _ _ _ _ _ us hl => match us, hl with | [_], _ => rfl
    g_whole_of := PySem.W.mg_of X G a_whole_of
    F_hands_of := fun_mk (st := s_hands_of) l_hands_of c_hands_of k_hands_of
    b_hands_of := (fun_mk (st := s_hands_of) l_hands_of c_hands_of k_hands_of).binds (ps := ["group"]) fun _ _ _ _ _ _ us hl => match us, hl with | [_], _ => rfl
    g_hands_of := PySem.W.mg_of X G a_hands_of
    F_size_of := fun_mk (st := s_size_of) l_size_of c_size_of k_size_of
    b_size_of := (fun_mk (st := s_size_of) l_size_of c_size_of k_size_of).binds (ps := ["group"]) fun _ _ _ _ _ _ us hl => match us, hl with | [_], _ => rfl
    g_size_of := PySem.W.mg_of X G a_size_of
    F_look := fun_mk (st := s_look) l_look c_look k_look
    b_look := (fun_mk (st := s_look) l_look c_look k_look).binds (ps := ["table"]) fun _ _ _ _ _ _ us hl => match us, hl with | [_], _ => rfl
    g_look := PySem.W.mg_of X G a_look
    F_dividends := fun_mk (st := s_dividends) l_dividends c_dividends k_dividends
    b_dividends := (fun_mk (st := s_dividends) l_dividends c_dividends k_dividends).binds (ps := ["table"]) fun _ _ _ _ _ _ us hl => match us, hl with | [_], _ => rfl
    g_dividends := PySem.W.mg_of X G a_dividends
    F_earned := fun_mk (st := s_earned) l_earned c_earned k_earned
    b_earned := (fun_mk (st := s_earned) l_earned c_earned k_earned).binds (ps := ["table"]) fun _ _ _ _ _ _ us hl => match us, hl with | [_], _ => rfl
    g_earned := PySem.W.mg_of X G a_earned
    F_look_order := fun_mk (st := s_look_order) l_look_order c_look_order k_look_order
    b_look_order := (fun_mk (st := s_look_order) l_look_order c_look_order k_look_order).binds (ps := ["order", "many"]) fun _ _ _ _ _ _ us hl => match us, hl with | [_, _], _ => rfl
    g_look_order := PySem.W.mg_of X G a_look_order
    F_order_shares := fun_mk (st := s_order_shares) l_order_shares c_order_shares k_order_shares
    b_order_shares := (fun_mk (st := s_order_shares) l_order_shares c_order_shares k_order_shares).binds (ps := ["table", "order"]) fun _ _ _ _ _ _ us hl => match us, hl with | [_, _], _ => rfl
    g_order_shares := PySem.W.mg_of X G a_order_shares
    F_mean_shares := fun_mk (st := s_mean_shares) l_mean_shares c_mean_shares k_mean_shares
    b_mean_shares := (fun_mk (st := s_mean_shares) l_mean_shares c_mean_shares k_mean_shares).binds (ps := ["table"]) fun _ _ _ _ _ _ us hl => match us, hl with | [_], _ => rfl
    g_mean_shares := PySem.W.mg_of X G a_mean_shares
    F_adds_of := fun_mk (st := s_adds_of) l_adds_of c_adds_of k_adds_of
    b_adds_of := (fun_mk (st := s_adds_of) l_adds_of c_adds_of k_adds_of).binds (ps := ["table", "hand"]) fun _ _ _ _ _ _ us hl => match us, hl with | [_, _], _ => rfl
    g_adds_of := PySem.W.mg_of X G a_adds_of
    F_turns := fun_mk (st := s_turns) l_turns c_turns k_turns
    b_turns := (fun_mk (st := s_turns) l_turns c_turns k_turns).binds (ps := ["table"]) fun _ _ _ _ _ _ us hl => match us, hl with | [_], _ => rfl
    g_turns := PySem.W.mg_of X G a_turns
    F_are_alike := fun_mk (st := s_are_alike) l_are_alike c_are_alike k_are_alike
    b_are_alike := (fun_mk (st := s_are_alike) l_are_alike c_are_alike k_are_alike).binds (ps := ["table", "one", "other"]) fun _ _ _ _ _ _ us hl => match us, hl with | [_, _, _], _ => rfl
    g_are_alike := PySem.W.mg_of X G a_are_alike
    F_alike := fun_mk (st := s_alike) l_alike c_alike k_alike
    b_alike := (fun_mk (st := s_alike) l_alike c_alike k_alike).binds (ps := ["table"]) fun _ _ _ _ _ _ us hl => match us, hl with | [_], _ => rfl
    g_alike := PySem.W.mg_of X G a_alike
    F_idle := fun_mk (st := s_idle) l_idle c_idle k_idle
    b_idle := (fun_mk (st := s_idle) l_idle c_idle k_idle).binds (ps := ["table"]) fun _ _ _ _ _ _ us hl => match us, hl with | [_], _ => rfl
    g_idle := PySem.W.mg_of X G a_idle
    F_swells := fun_mk (st := s_swells) l_swells c_swells k_swells
    b_swells := (fun_mk (st := s_swells) l_swells c_swells k_swells).binds (ps := ["table"]) fun _ _ _ _ _ _ us hl => match us, hl with | [_], _ => rfl
    g_swells := PySem.W.mg_of X G a_swells
    F__law_cell := fun_mk (st := s__law_cell) l__law_cell c__law_cell k__law_cell
    b__law_cell := (fun_mk (st := s__law_cell) l__law_cell c__law_cell k__law_cell).binds (ps := ["_law_script", "_law_k"]) fun _ _ _ _ _ _ us hl => match us, hl with | [_, _], _ => rfl
    g__law_cell := PySem.W.mg_of X G a__law_cell
    F__law_numbers := fun_mk (st := s__law_numbers) l__law_numbers c__law_numbers k__law_numbers
    b__law_numbers := (fun_mk (st := s__law_numbers) l__law_numbers c__law_numbers k__law_numbers).binds (ps := ["_law_script"]) fun _ _ _ _ _ _ us hl => match us, hl with | [_], _ => rfl
    g__law_numbers := PySem.W.mg_of X G a__law_numbers
    F__law_sums := fun_mk (st := s__law_sums) l__law_sums c__law_sums k__law_sums
    b__law_sums := (fun_mk (st := s__law_sums) l__law_sums c__law_sums k__law_sums).binds (ps := ["_law_some"]) fun _ _ _ _ _ _ us hl => match us, hl with | [_], _ => rfl
    g__law_sums := PySem.W.mg_of X G a__law_sums
    F__law_none := fun_mk (st := s__law_none) l__law_none c__law_none k__law_none
    b__law_none := (fun_mk (st := s__law_none) l__law_none c__law_none k__law_none).binds (ps := ["_law_script", "_law_table"]) fun _ _ _ _ _ _ us hl => match us, hl with | [_, _], _ => rfl
    g__law_none := PySem.W.mg_of X G a__law_none
    F__law_told := fun_mk (st := s__law_told) l__law_told c__law_told k__law_told
    b__law_told := (fun_mk (st := s__law_told) l__law_told c__law_told k__law_told).binds (ps := ["_law_which", "_law_table", "_law_order"]) fun _ _ _ _ _ _ us hl => match us, hl with | [_, _, _], _ => rfl
    g__law_told := PySem.W.mg_of X G a__law_told
    F__law_refused := fun_mk (st := s__law_refused) l__law_refused c__law_refused k__law_refused
    b__law_refused := (fun_mk (st := s__law_refused) l__law_refused c__law_refused k__law_refused).binds (ps := ["_law_which", "_law_table", "_law_order"]) fun _ _ _ _ _ _ us hl => match us, hl with | [_, _, _], _ => rfl
    g__law_refused := PySem.W.mg_of X G a__law_refused
    F__law_due := fun_mk (st := s__law_due) l__law_due c__law_due k__law_due
    b__law_due := (fun_mk (st := s__law_due) l__law_due c__law_due k__law_due).binds (ps := ["_law_which", "_law_some", "_law_table"]) fun _ _ _ _ _ _ us hl => match us, hl with | [_, _, _], _ => rfl
    g__law_due := PySem.W.mg_of X G a__law_due
    F_law := fun_mk (st := s_law) l_law c_law k_law
    b_law := (fun_mk (st := s_law) l_law c_law k_law).binds (ps := ["_law_script"]) fun _ _ _ _ _ _ us hl => match us, hl with | [_], _ => rfl
    g_law := PySem.W.mg_of X G a_law
    g_ShareError := PySem.W.mg_of X G ac_ShareError
    g_NoNumber := PySem.W.mg_of X G ac_NoNumber
    k_NoNumber := kc_NoNumber
    e_NoNumber := ec_NoNumber
    t_NoNumber := tc_NoNumber
    x_NoNumber := xc_NoNumber
    g_NoGroup := PySem.W.mg_of X G ac_NoGroup
    k_NoGroup := kc_NoGroup
    e_NoGroup := ec_NoGroup
    t_NoGroup := tc_NoGroup
    x_NoGroup := xc_NoGroup
    g_NoRule := PySem.W.mg_of X G ac_NoRule
    g_NoText := PySem.W.mg_of X G ac_NoText
    g_NoTable := PySem.W.mg_of X G ac_NoTable
    k_NoTable := kc_NoTable
    e_NoTable := ec_NoTable
    t_NoTable := tc_NoTable
    x_NoTable := xc_NoTable
    g_Unlike := PySem.W.mg_of X G ac_Unlike
    g_TooMany := PySem.W.mg_of X G ac_TooMany
    g_NoOrder := PySem.W.mg_of X G ac_NoOrder
    k_NoOrder := kc_NoOrder
    e_NoOrder := ec_NoOrder
    t_NoOrder := tc_NoOrder
    x_NoOrder := xc_NoOrder
    g_NoRows := PySem.W.mg_of X G ac_NoRows
    g_NoShares := PySem.W.mg_of X G ac_NoShares
    g_NoVotes := PySem.W.mg_of X G ac_NoVotes
    q_NoGroup := ⟨ic_NoGroup, tc_NoGroup, sc_NoGroup⟩
    q_NoNumber := ⟨ic_NoNumber, tc_NoNumber, sc_NoNumber⟩
    q_NoOrder := ⟨ic_NoOrder, tc_NoOrder, sc_NoOrder⟩
    q_NoRows := ⟨ic_NoRows, tc_NoRows, sc_NoRows⟩
    q_NoRule := ⟨ic_NoRule, tc_NoRule, sc_NoRule⟩
    q_NoShares := ⟨ic_NoShares, tc_NoShares, sc_NoShares⟩
    q_NoTable := ⟨ic_NoTable, tc_NoTable, sc_NoTable⟩
    q_NoText := ⟨ic_NoText, tc_NoText, sc_NoText⟩
    q_NoVotes := ⟨ic_NoVotes, tc_NoVotes, sc_NoVotes⟩
    q_ShareError := ⟨ic_ShareError, tc_ShareError, sc_ShareError⟩
    q_TooMany := ⟨ic_TooMany, tc_TooMany, sc_TooMany⟩
    q_Unlike := ⟨ic_Unlike, tc_Unlike, sc_Unlike⟩
    X_NoNumber := ⟨xg_NoNumber, xk_NoNumber, ec_NoNumber, xh_NoNumber, xa_NoNumber, xn, xt, xm_NoNumber⟩
    u_NoNumber_NoGroup := us_NoNumber_NoGroup
    u_NoNumber_NoNumber := us_NoNumber_NoNumber
    u_NoNumber_NoOrder := us_NoNumber_NoOrder
    u_NoNumber_NoRows := us_NoNumber_NoRows
    u_NoNumber_NoRule := us_NoNumber_NoRule
    u_NoNumber_NoShares := us_NoNumber_NoShares
    u_NoNumber_NoTable := us_NoNumber_NoTable
    u_NoNumber_NoText := us_NoNumber_NoText
    u_NoNumber_NoVotes := us_NoNumber_NoVotes
    u_NoNumber_ShareError := us_NoNumber_ShareError
    u_NoNumber_TooMany := us_NoNumber_TooMany
    u_NoNumber_Unlike := us_NoNumber_Unlike
    v_NoNumber := uv_NoNumber
    h_NoNumber_ShareError := PySem.W.exm_ref ec_ShareError hh_NoNumber_ShareError tc_ShareError us_NoNumber_ShareError
    X_NoGroup := ⟨xg_NoGroup, xk_NoGroup, ec_NoGroup, xh_NoGroup, xa_NoGroup, xn, xt, xm_NoGroup⟩
    u_NoGroup_NoGroup := us_NoGroup_NoGroup
    u_NoGroup_NoNumber := us_NoGroup_NoNumber
    u_NoGroup_NoOrder := us_NoGroup_NoOrder
    u_NoGroup_NoRows := us_NoGroup_NoRows
    u_NoGroup_NoRule := us_NoGroup_NoRule
    u_NoGroup_NoShares := us_NoGroup_NoShares
    u_NoGroup_NoTable := us_NoGroup_NoTable
    u_NoGroup_NoText := us_NoGroup_NoText
    u_NoGroup_NoVotes := us_NoGroup_NoVotes
    u_NoGroup_ShareError := us_NoGroup_ShareError
    u_NoGroup_TooMany := us_NoGroup_TooMany
    u_NoGroup_Unlike := us_NoGroup_Unlike
    v_NoGroup := uv_NoGroup
    h_NoGroup_ShareError := PySem.W.exm_ref ec_ShareError hh_NoGroup_ShareError tc_ShareError us_NoGroup_ShareError
    X_NoTable := ⟨xg_NoTable, xk_NoTable, ec_NoTable, xh_NoTable, xa_NoTable, xn, xt, xm_NoTable⟩
    u_NoTable_NoGroup := us_NoTable_NoGroup
    u_NoTable_NoNumber := us_NoTable_NoNumber
    u_NoTable_NoOrder := us_NoTable_NoOrder
    u_NoTable_NoRows := us_NoTable_NoRows
    u_NoTable_NoRule := us_NoTable_NoRule
    u_NoTable_NoShares := us_NoTable_NoShares
    u_NoTable_NoTable := us_NoTable_NoTable
    u_NoTable_NoText := us_NoTable_NoText
    u_NoTable_NoVotes := us_NoTable_NoVotes
    u_NoTable_ShareError := us_NoTable_ShareError
    u_NoTable_TooMany := us_NoTable_TooMany
    u_NoTable_Unlike := us_NoTable_Unlike
    v_NoTable := uv_NoTable
    h_NoTable_ShareError := PySem.W.exm_ref ec_ShareError hh_NoTable_ShareError tc_ShareError us_NoTable_ShareError
    X_NoOrder := ⟨xg_NoOrder, xk_NoOrder, ec_NoOrder, xh_NoOrder, xa_NoOrder, xn, xt, xm_NoOrder⟩
    u_NoOrder_NoGroup := us_NoOrder_NoGroup
    u_NoOrder_NoNumber := us_NoOrder_NoNumber
    u_NoOrder_NoOrder := us_NoOrder_NoOrder
    u_NoOrder_NoRows := us_NoOrder_NoRows
    u_NoOrder_NoRule := us_NoOrder_NoRule
    u_NoOrder_NoShares := us_NoOrder_NoShares
    u_NoOrder_NoTable := us_NoOrder_NoTable
    u_NoOrder_NoText := us_NoOrder_NoText
    u_NoOrder_NoVotes := us_NoOrder_NoVotes
    u_NoOrder_ShareError := us_NoOrder_ShareError
    u_NoOrder_TooMany := us_NoOrder_TooMany
    u_NoOrder_Unlike := us_NoOrder_Unlike
    v_NoOrder := uv_NoOrder
    h_NoOrder_ShareError := PySem.W.exm_ref ec_ShareError hh_NoOrder_ShareError tc_ShareError us_NoOrder_ShareError
    c_MOST := PySem.W.mg_of X G cn_MOST
    c_SIXTY := PySem.W.mg_of X G cn_SIXTY
    z_ValueError := PySem.W.mg_none_of X G z_ValueError
    z_abs := PySem.W.mg_none_of X G z_abs
    z_any := PySem.W.mg_none_of X G z_any
    z_int := PySem.W.mg_none_of X G z_int
    z_isinstance := PySem.W.mg_none_of X G z_isinstance
    z_len := PySem.W.mg_none_of X G z_len
    z_list := PySem.W.mg_none_of X G z_list
    z_range := PySem.W.mg_none_of X G z_range
    z_str := PySem.W.mg_none_of X G z_str
    z_sum := PySem.W.mg_none_of X G z_sum
  }
  exact ⟨_, fun s v => .of_eq rfl, fun base _ _ => ok_law T⟩
end Lw
open PySem PySem.W PyProof.Rows
set_option maxHeartbeats 0 in
theorem PySem.Challenge.cw_shareparley_k30_orders_refused_holds : PySem.Challenge.rw_shareparley_k30_orders_refused.Holds := by
  w_on; o_law; k_head; (case hw => w_witness2)
  k_fill
  refine L2.walk_of (l := PySem.Challenge.rw_shareparley_k30_orders_refused) (n := 63) (k := 8) (x := "_law_script") (CX := fun w => L2.CX (PySem.Challenge.rw_shareparley_k30_orders_refused).prog w) (sp := fun w => Lw.sp_law _) rfl (by decide) rfl ⟨rfl, by decide, by decide⟩ (fun w h Y => PySem.W.kIn_of Y) ?F (fun _ _ a ns hl _ hS => ⟨a, ns, rfl, hS, hl, fun _ => rfl⟩) (fun _ _ _ _ _ h => Sp.cx_none h)
  case F =>
    intro w mg fa h KX G hmg
    refine' Lw.all_mk KX G hmg ?a_is_whole ?l_is_whole ?c_is_whole ?k_is_whole ?a_divisor ?l_divisor ?c_divisor ?k_divisor ?a_shortest ?l_shortest ?c_shortest ?k_shortest ?a_fraction ?l_fraction ?c_fraction ?k_fraction ?a_look_group ?l_look_group ?c_look_group ?k_look_group ?a_whole_of ?l_whole_of ?c_whole_of ?k_whole_of ?a_hands_of ?l_hands_of ?c_hands_of ?k_hands_of ?a_size_of ?l_size_of ?c_size_of ?k_size_of ?a_look ?l_look ?c_look ?k_look ?a_dividends ?l_dividends ?c_dividends ?k_dividends ?a_earned ?l_earned ?c_earned ?k_earned ?a_look_order ?l_look_order ?c_look_order ?k_look_order ?a_order_shares ?l_order_shares ?c_order_shares ?k_order_shares ?a_mean_shares ?l_mean_shares ?c_mean_shares ?k_mean_shares ?a_adds_of ?l_adds_of ?c_adds_of ?k_adds_of ?a_turns ?l_turns ?c_turns ?k_turns ?a_are_alike ?l_are_alike ?c_are_alike ?k_are_alike ?a_alike ?l_alike ?c_alike ?k_alike ?a_idle ?l_idle ?c_idle ?k_idle ?a_swells ?l_swells ?c_swells ?k_swells ?a__law_cell ?l__law_cell ?c__law_cell ?k__law_cell ?a__law_numbers ?l__law_numbers ?c__law_numbers ?k__law_numbers ?a__law_sums ?l__law_sums ?c__law_sums ?k__law_sums ?a__law_none ?l__law_none ?c__law_none ?k__law_none ?a__law_told ?l__law_told ?c__law_told ?k__law_told ?a__law_refused ?l__law_refused ?c__law_refused ?k__law_refused ?a__law_due ?l__law_due ?c__law_due ?k__law_due ?a_law ?l_law ?c_law ?k_law ?ac_ShareError ?tc_ShareError ?ec_ShareError ?ac_NoNumber ?kc_NoNumber ?ec_NoNumber ?tc_NoNumber ?xc_NoNumber ?ac_NoGroup ?kc_NoGroup ?ec_NoGroup ?tc_NoGroup ?xc_NoGroup ?ac_NoRule ?tc_NoRule ?ec_NoRule ?ac_NoText ?tc_NoText ?ec_NoText ?ac_NoTable ?kc_NoTable ?ec_NoTable ?tc_NoTable ?xc_NoTable ?ac_Unlike ?tc_Unlike ?ec_Unlike ?ac_TooMany ?tc_TooMany ?ec_TooMany ?ac_NoOrder ?kc_NoOrder ?ec_NoOrder ?tc_NoOrder ?xc_NoOrder ?ac_NoRows ?tc_NoRows ?ec_NoRows ?ac_NoShares ?tc_NoShares ?ec_NoShares ?ac_NoVotes ?tc_NoVotes ?ec_NoVotes ?ic_NoGroup ?sc_NoGroup ?ic_NoNumber ?sc_NoNumber ?ic_NoOrder ?sc_NoOrder ?ic_NoRows ?sc_NoRows ?ic_NoRule ?sc_NoRule ?ic_NoShares ?sc_NoShares ?ic_NoTable ?sc_NoTable ?ic_NoText ?sc_NoText ?ic_NoVotes ?sc_NoVotes ?ic_ShareError ?sc_ShareError ?ic_TooMany ?sc_TooMany ?ic_Unlike ?sc_Unlike ?xg_NoNumber ?xk_NoNumber ?xh_NoNumber ?xa_NoNumber ?xm_NoNumber ?xn ?xt ?us_NoNumber_NoGroup ?us_NoNumber_NoNumber ?us_NoNumber_NoOrder ?us_NoNumber_NoRows ?us_NoNumber_NoRule ?us_NoNumber_NoShares ?us_NoNumber_NoTable ?us_NoNumber_NoText ?us_NoNumber_NoVotes ?us_NoNumber_ShareError ?us_NoNumber_TooMany ?us_NoNumber_Unlike ?uv_NoNumber ?hh_NoNumber_ShareError ?xg_NoGroup ?xk_NoGroup ?xh_NoGroup ?xa_NoGroup ?xm_NoGroup ?us_NoGroup_NoGroup ?us_NoGroup_NoNumber ?us_NoGroup_NoOrder ?us_NoGroup_NoRows ?us_NoGroup_NoRule ?us_NoGroup_NoShares ?us_NoGroup_NoTable ?us_NoGroup_NoText ?us_NoGroup_NoVotes ?us_NoGroup_ShareError ?us_NoGroup_TooMany ?us_NoGroup_Unlike ?uv_NoGroup ?hh_NoGroup_ShareError ?xg_NoTable ?xk_NoTable ?xh_NoTable ?xa_NoTable ?xm_NoTable ?us_NoTable_NoGroup ?us_NoTable_NoNumber ?us_NoTable_NoOrder ?us_NoTable_NoRows ?us_NoTable_NoRule ?us_NoTable_NoShares ?us_NoTable_NoTable ?us_NoTable_NoText ?us_NoTable_NoVotes ?us_NoTable_ShareError ?us_NoTable_TooMany ?us_NoTable_Unlike ?uv_NoTable ?hh_NoTable_ShareError ?xg_NoOrder ?xk_NoOrder ?xh_NoOrder ?xa_NoOrder ?xm_NoOrder ?us_NoOrder_NoGroup ?us_NoOrder_NoNumber ?us_NoOrder_NoOrder ?us_NoOrder_NoRows ?us_NoOrder_NoRule ?us_NoOrder_NoShares ?us_NoOrder_NoTable ?us_NoOrder_NoText ?us_NoOrder_NoVotes ?us_NoOrder_ShareError ?us_NoOrder_TooMany ?us_NoOrder_Unlike ?uv_NoOrder ?hh_NoOrder_ShareError ?cn_MOST ?cn_SIXTY ?z_ValueError ?z_abs ?z_any ?z_int ?z_isinstance ?z_len ?z_list ?z_range ?z_str ?z_sum
    (case ac_ShareError => k_is)
    (case ac_NoNumber => k_is)
    (case ac_NoGroup => k_is)
    (case ac_NoRule => k_is)
    (case ac_NoText => k_is)
    (case ac_NoTable => k_is)
    (case ac_Unlike => k_is)
    (case ac_TooMany => k_is)
    (case ac_NoOrder => k_is)
    (case ac_NoRows => k_is)
    (case ac_NoShares => k_is)
    (case ac_NoVotes => k_is)
    (case a_is_whole => k_is)
    (case l_is_whole => k_is)
    (case c_is_whole => k_is)
    (case k_is_whole => k_is)
    (case a_divisor => k_is)
    (case l_divisor => k_is)
    (case c_divisor => k_is)
    (case k_divisor => k_is)
    (case a_shortest => k_is)
    (case l_shortest => k_is)
    (case c_shortest => k_is)
    (case k_shortest => k_is)
    (case a_fraction => k_is)
    (case l_fraction => k_is)
    (case c_fraction => k_is)
    (case k_fraction => k_is)
    (case a_look_group => k_is)
    (case l_look_group => k_is)
    (case c_look_group => k_is)
    (case k_look_group => k_is)
    (case a_whole_of => k_is)
    (case l_whole_of => k_is)
    (case c_whole_of => k_is)
    (case k_whole_of => k_is)
    (case a_hands_of => k_is)
    (case l_hands_of => k_is)
    (case c_hands_of => k_is)
    (case k_hands_of => k_is)
    (case a_size_of => k_is)
    (case l_size_of => k_is)
    (case c_size_of => k_is)
    (case k_size_of => k_is)
    (case a_look => k_is)
    (case l_look => k_is)
    (case c_look => k_is)
    (case k_look => k_is)
    (case a_dividends => k_is)
    (case l_dividends => k_is)
    (case c_dividends => k_is)
    (case k_dividends => k_is)
    (case a_earned => k_is)
    (case l_earned => k_is)
    (case c_earned => k_is)
    (case k_earned => k_is)
    (case a_look_order => k_is)
    (case l_look_order => k_is)
    (case c_look_order => k_is)
    (case k_look_order => k_is)
    (case a_order_shares => k_is)
    (case l_order_shares => k_is)
    (case c_order_shares => k_is)
    (case k_order_shares => k_is)
    (case a_mean_shares => k_is)
    (case l_mean_shares => k_is)
    (case c_mean_shares => k_is)
    (case k_mean_shares => k_is)
    (case a_adds_of => k_is)
    (case l_adds_of => k_is)
    (case c_adds_of => k_is)
    (case k_adds_of => k_is)
    (case a_turns => k_is)
    (case l_turns => k_is)
    (case c_turns => k_is)
    (case k_turns => k_is)
    (case a_are_alike => k_is)
    (case l_are_alike => k_is)
    (case c_are_alike => k_is)
    (case k_are_alike => k_is)
    (case a_alike => k_is)
    (case l_alike => k_is)
    (case c_alike => k_is)
    (case k_alike => k_is)
    (case a_idle => k_is)
    (case l_idle => k_is)
    (case c_idle => k_is)
    (case k_idle => k_is)
    (case a_swells => k_is)
    (case l_swells => k_is)
    (case c_swells => k_is)
    (case k_swells => k_is)
    (case a__law_cell => k_is)
    (case l__law_cell => k_is)
    (case c__law_cell => k_is)
    (case k__law_cell => k_is)
    (case a__law_numbers => k_is)
    (case l__law_numbers => k_is)
    (case c__law_numbers => k_is)
    (case k__law_numbers => k_is)
    (case a__law_sums => k_is)
    (case l__law_sums => k_is)
    (case c__law_sums => k_is)
    (case k__law_sums => k_is)
    (case a__law_none => k_is)
    (case l__law_none => k_is)
    (case c__law_none => k_is)
    (case k__law_none => k_is)
    (case a__law_told => k_is)
    (case l__law_told => k_is)
    (case c__law_told => k_is)
    (case k__law_told => k_is)
    (case a__law_refused => k_is)
    (case l__law_refused => k_is)
    (case c__law_refused => k_is)
    (case k__law_refused => k_is)
    (case a__law_due => k_is)
    (case l__law_due => k_is)
    (case c__law_due => k_is)
    (case k__law_due => k_is)
    (case a_law => k_is)
    (case l_law => k_is)
    (case c_law => k_is)
    (case k_law => k_is)
    (case tc_ShareError => k_is)
    (case ec_ShareError => k_is)
    (case kc_NoNumber => k_is)
    (case ec_NoNumber => k_is)
    (case tc_NoNumber => k_is)
    (case xc_NoNumber => k_exc)
    (case kc_NoGroup => k_is)
    (case ec_NoGroup => k_is)
    (case tc_NoGroup => k_is)
    (case xc_NoGroup => k_exc)
    (case tc_NoRule => k_is)
    (case ec_NoRule => k_is)
    (case tc_NoText => k_is)
    (case ec_NoText => k_is)
    (case kc_NoTable => k_is)
    (case ec_NoTable => k_is)
    (case tc_NoTable => k_is)
    (case xc_NoTable => k_exc)
    (case tc_Unlike => k_is)
    (case ec_Unlike => k_is)
    (case tc_TooMany => k_is)
    (case ec_TooMany => k_is)
    (case kc_NoOrder => k_is)
    (case ec_NoOrder => k_is)
    (case tc_NoOrder => k_is)
    (case xc_NoOrder => k_exc)
    (case tc_NoRows => k_is)
    (case ec_NoRows => k_is)
    (case tc_NoShares => k_is)
    (case ec_NoShares => k_is)
    (case tc_NoVotes => k_is)
    (case ec_NoVotes => k_is)
    (case ic_NoGroup => k_is)
    (case sc_NoGroup => k_is)
    (case ic_NoNumber => k_is)
    (case sc_NoNumber => k_is)
    (case ic_NoOrder => k_is)
    (case sc_NoOrder => k_is)
    (case ic_NoRows => k_is)
    (case sc_NoRows => k_is)
    (case ic_NoRule => k_is)
    (case sc_NoRule => k_is)
    (case ic_NoShares => k_is)
    (case sc_NoShares => k_is)
    (case ic_NoTable => k_is)
    (case sc_NoTable => k_is)
    (case ic_NoText => k_is)
    (case sc_NoText => k_is)
    (case ic_NoVotes => k_is)
    (case sc_NoVotes => k_is)
    (case ic_ShareError => k_is)
    (case sc_ShareError => k_is)
    (case ic_TooMany => k_is)
    (case sc_TooMany => k_is)
    (case ic_Unlike => k_is)
    (case sc_Unlike => k_is)
    (case xg_NoNumber => k_is)
    (case xk_NoNumber => k_is)
    (case xh_NoNumber => k_is)
    (case xa_NoNumber => k_is)
    (case xm_NoNumber => k_is)
    (case xn => k_is)
    (case xt => k_is)
    (case us_NoNumber_NoGroup => k_is)
    (case us_NoNumber_NoNumber => k_is)
    (case us_NoNumber_NoOrder => k_is)
    (case us_NoNumber_NoRows => k_is)
    (case us_NoNumber_NoRule => k_is)
    (case us_NoNumber_NoShares => k_is)
    (case us_NoNumber_NoTable => k_is)
    (case us_NoNumber_NoText => k_is)
    (case us_NoNumber_NoVotes => k_is)
    (case us_NoNumber_ShareError => k_is)
    (case us_NoNumber_TooMany => k_is)
    (case us_NoNumber_Unlike => k_is)
    (case uv_NoNumber => k_is)
    (case hh_NoNumber_ShareError => k_is)
    (case xg_NoGroup => k_is)
    (case xk_NoGroup => k_is)
    (case xh_NoGroup => k_is)
    (case xa_NoGroup => k_is)
    (case xm_NoGroup => k_is)
    (case us_NoGroup_NoGroup => k_is)
    (case us_NoGroup_NoNumber => k_is)
    (case us_NoGroup_NoOrder => k_is)
    (case us_NoGroup_NoRows => k_is)
    (case us_NoGroup_NoRule => k_is)
    (case us_NoGroup_NoShares => k_is)
    (case us_NoGroup_NoTable => k_is)
    (case us_NoGroup_NoText => k_is)
    (case us_NoGroup_NoVotes => k_is)
    (case us_NoGroup_ShareError => k_is)
    (case us_NoGroup_TooMany => k_is)
    (case us_NoGroup_Unlike => k_is)
    (case uv_NoGroup => k_is)
    (case hh_NoGroup_ShareError => k_is)
    (case xg_NoTable => k_is)
    (case xk_NoTable => k_is)
    (case xh_NoTable => k_is)
    (case xa_NoTable => k_is)
    (case xm_NoTable => k_is)
    (case us_NoTable_NoGroup => k_is)
    (case us_NoTable_NoNumber => k_is)
    (case us_NoTable_NoOrder => k_is)
    (case us_NoTable_NoRows => k_is)
    (case us_NoTable_NoRule => k_is)
    (case us_NoTable_NoShares => k_is)
    (case us_NoTable_NoTable => k_is)
    (case us_NoTable_NoText => k_is)
    (case us_NoTable_NoVotes => k_is)
    (case us_NoTable_ShareError => k_is)
    (case us_NoTable_TooMany => k_is)
    (case us_NoTable_Unlike => k_is)
    (case uv_NoTable => k_is)
    (case hh_NoTable_ShareError => k_is)
    (case xg_NoOrder => k_is)
    (case xk_NoOrder => k_is)
    (case xh_NoOrder => k_is)
    (case xa_NoOrder => k_is)
    (case xm_NoOrder => k_is)
    (case us_NoOrder_NoGroup => k_is)
    (case us_NoOrder_NoNumber => k_is)
    (case us_NoOrder_NoOrder => k_is)
    (case us_NoOrder_NoRows => k_is)
    (case us_NoOrder_NoRule => k_is)
    (case us_NoOrder_NoShares => k_is)
    (case us_NoOrder_NoTable => k_is)
    (case us_NoOrder_NoText => k_is)
    (case us_NoOrder_NoVotes => k_is)
    (case us_NoOrder_ShareError => k_is)
    (case us_NoOrder_TooMany => k_is)
    (case us_NoOrder_Unlike => k_is)
    (case uv_NoOrder => k_is)
    (case hh_NoOrder_ShareError => k_is)
    (case cn_MOST => k_is)
    (case cn_SIXTY => k_is)
    (case z_ValueError => k_is)
    (case z_abs => k_is)
    (case z_any => k_is)
    (case z_int => k_is)
    (case z_isinstance => k_is)
    (case z_len => k_is)
    (case z_list => k_is)
    (case z_range => k_is)
    (case z_str => k_is)
    (case z_sum => k_is)
