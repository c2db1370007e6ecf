import PyProof.Rows.All
import Wide.All
import OpenK.AllK
import Wide.FinOn
import HandS.ForMost
import HandS.Exc
import HandS.TryOnly
import HandS.ExcOwn
import HandS.WordsExc
import HandS.IsInst
import HandS.Style
import HandS.Zip
import HandS.Conv
import HandS.WordsDict
import HandS.ExcIs
import HandS.HotCalls
import PySem.Challenge.RW_shareparley_k31_weigh_refused
set_option Elab.async false
set_option linter.all false
set_option maxRecDepth 100000
set_option maxHeartbeats 4000000
/-! Cm: what every text of ours leans on: the carried heap (Own), the readings walked step by step (x_..), own rules. -/
namespace Sp
open PySem L2 PyProof.Rows

/-! ### the carried heap: B is what stands and stays, cs the cells of our own that may still change -/
abbrev Cells := List (Addr × HO)
structure Own (B : Hp) (cs : Cells) (H : Hp) : Prop where
  ex : Same B H
  cell : ∀ p ∈ cs, H p.1 = some p.2 ∧ B p.1 = none
  nd : (cs.map (·.1)).Nodup
theorem same_upd {H : Hp} {p : Addr} {o : HO} (h : H p = none) : Same H (upd H p o) := fun b x e => by
  rw [upd_ne (ne_of_none e h)]
  exact e
theorem Own.start {H : Hp} : Own H [] H := ⟨Same.refl H, fun _ h => (nomatch h), List.nodup_nil⟩
section
variable {B H H' : Hp} {cs : Cells} {p : Addr} {o o' : HO} {K : PySem.W.Frag} {xs : List V}
theorem Own.ext (w : Own B cs H) (e : Same H H') : Own B cs H' := ⟨w.ex.trans e, fun q h => ⟨e _ _ (w.cell q h).1, (w.cell q h).2⟩, w.nd⟩
theorem Own.fresh (w : Own B cs H) (hp : H p = none) : B p = none := w.ex.free hp
theorem Own.off (w : Own B cs H) (hp : H p = none) : p ∉ cs.map (·.1) := fun m => by
  obtain ⟨q, hq, e⟩ := List.mem_map.mp m
  have := (w.cell q hq).1
  rw [e, hp] at this
  cases this
theorem Own.newE (w : Own B cs H) (hp : H p = none) (e : Same H H') (h : H' p = some o) : Own B ((p, o) :: cs) H' :=
  ⟨w.ex.trans e, fun q hq => by
    rcases List.mem_cons.mp hq with r | r
    · rw [r]; exact ⟨h, w.fresh hp⟩
    · exact ⟨e _ _ (w.cell q r).1, (w.cell q r).2⟩, List.nodup_cons.mpr ⟨w.off hp, w.nd⟩⟩
theorem Own.new (w : Own B cs H) (hp : H p = none) : Own B ((p, o) :: cs) (upd H p o) := w.newE hp (same_upd hp) upd_same
theorem Own.get (w : Own B cs H) (i : Nat) (h : cs[i]? = some (p, o)) : H p = some o := (w.cell _ (List.mem_of_getElem? h)).1
theorem Own.none (w : Own B cs H) (i : Nat) (h : cs[i]? = some (p, o)) : B p = none := (w.cell _ (List.mem_of_getElem? h)).2
theorem Own.put (w : Own B cs H) (i : Nat) (h : cs[i]? = some (p, o)) : Own B (cs.set i (p, o')) (upd H p o') := by
  have hi : i < cs.length := (List.getElem?_eq_some_iff.mp h).1
  have hm : (cs.set i (p, o')).map (·.1) = cs.map (·.1) := by
    rw [List.map_set]
    apply List.ext_getElem?
    intro j
    by_cases e : i = j
    · subst e
      rw [List.getElem?_set_self (by rw [List.length_map]; exact hi), List.getElem?_map, h] <;> rfl
    · rw [List.getElem?_set_ne e]
  refine ⟨fun b x e => ?_, fun q hq => ?_, by rw [hm]; exact w.nd⟩
  · rw [upd_ne (ne_of_none e (w.none i h))]
    exact w.ex b x e
  · obtain ⟨j, hj⟩ := List.mem_iff_getElem?.mp hq
    by_cases e : i = j
    · subst e
      rw [List.getElem?_set_self hi] at hj
      cases hj
      exact ⟨upd_same, w.none i h⟩
    · rw [List.getElem?_set_ne e] at hj
      have hq' := w.cell q (List.mem_of_getElem? hj)
      have hne : q.1 ≠ p := fun z => by
        have a1 : (cs.map (·.1))[i]? = some p := by rw [List.getElem?_map, h] <;> rfl
        have a2 : (cs.map (·.1))[j]? = some p := by rw [List.getElem?_map, hj, ← z] <;> rfl
        obtain ⟨l1, e1⟩ := List.getElem?_eq_some_iff.mp a1
        obtain ⟨l2, e2⟩ := List.getElem?_eq_some_iff.mp a2
        exact e ((List.getElem_inj w.nd).mp (e1.trans e2.symm))
      exact ⟨by rw [upd_ne hne]; exact hq'.1, hq'.2⟩
theorem Own.sub {ds : Cells} (w : Own B cs H) (h : ds.Sublist cs) : Own B ds H := ⟨w.ex, fun q hq => w.cell q (h.mem hq), (h.map (·.1)).nodup w.nd⟩
theorem Own.pop (w : Own B ((p, o) :: cs) H) : Own B cs H := w.sub (List.sublist_cons_self _ _)
theorem Own.freeze (w : Own B ((p, o) :: cs) H) : Own (upd B p o) cs H :=
  ⟨fun b x e => by
    by_cases z : b = p
    · subst z; rw [upd_same] at e; rw [← e]; exact w.get 0 rfl
    · rw [upd_ne z] at e; exact w.ex b x e,
   fun q hq => ⟨(w.cell q (List.mem_cons_of_mem _ hq)).1, by
    rw [upd_ne (fun z => ?_)]
    · exact (w.cell q (List.mem_cons_of_mem _ hq)).2
    · have := (List.nodup_cons.mp w.nd).1
      exact this (List.mem_map.mpr ⟨q, hq, z⟩)⟩, (List.nodup_cons.mp w.nd).2⟩
theorem Own.sq (w : Own B cs H) (i : Nat) (h : cs[i]? = some (p, .lst xs)) : SqL K H p xs := SqL.of (w.get i h)
theorem Own.sqT (w : Own B cs H) (i : Nat) (h : cs[i]? = some (p, .tup xs)) : SqT K H p xs := SqT.of (w.get i h)
theorem same_sqT (e : Same H H') (h : SqT K H p xs) : SqT K H' p xs := by
  rcases h with (h | ⟨u, h⟩) | h
  · exact .inl (.inl (e _ _ h))
  · exact .inl (.inr ⟨u, e _ _ h⟩)
  · exact .inr h
theorem Own.seq (w : Own B cs H) (h : SqL K B p xs) : SqL K H p xs := w.ex.seq h
theorem Own.seqT (w : Own B cs H) (h : SqT K B p xs) : SqT K H p xs := same_sqT w.ex h
end

/-! ### own rules -/
section
variable {X : Cx}
/-- a list that is read: ours, or frozen -/
abbrev RdL (H : Hp) (a : Addr) (xs : List V) : Prop := Rd H a (.lst xs)
theorem rd_list {pins : List (Addr × Obj)} {σ : L2.St} {H : Hp} {s : Shared} {p : Addr} {xs : List V} (I : Inv X pins σ H s) (h : RdL H p xs) :
    xs.length ≤ sizeLine ∧ ∃ (its : List Value) (n : Nat), Vals xs its ∧ xs.length = its.length ∧ s.heap.get? p = some { cls := .type "list", data := .seq its.toArray n } := by
  obtain ⟨z, its, n, r, e⟩ := h.ok I.hok
  exact ⟨z, its, n, r, r.length, e⟩
/-- + of lists (ours or frozen) -/
def rCatS : R2 := fun x y H Q => ∃ l b xs zs, x = .ref l ∧ y = .ref b ∧ RdL H l xs ∧ RdL H b zs ∧ xs.length + zs.length ≤ sizeLine ∧ ∀ p, H p = none → Q (.ref p) (upd H p (.lst (xs ++ zs)))
theorem op_catS : OpR X (binaryOp .Add) rCatS := by
  intro pins s σ H x y v u Q I rx ry h
  obtain ⟨l, b, xs, zs, rfl, rfl, hH, hB, hz, q⟩ := h
  cases rx
  cases ry
  obtain ⟨z, its, n, r, hl, e⟩ := rd_list I hH
  obtain ⟨z2, its2, n2, r2, hl2, e2⟩ := rd_list I hB
  refine PySem.P.add_list e e2 ?_ (by rw [List.size_toArray, List.size_toArray]; omega)
  have ea : its.toArray ++ its2.toArray = (its ++ its2).toArray := by simp
  rw [ea]
  exact ⟨.ref _, _, I.lnew (t' := s.toks) (r.append r2) (by rw [List.length_append]; omega), rfl, q _ I.fresh⟩
/-- + of ints, of lists, of texts: which one, the reading says -/
def rAddX : R2 := fun x y H Q => (rI0 (fun i j => .int (i + j))) x y H Q ∨ rCatS x y H Q ∨ (∃ i j, x = .str i ∧ y = .str j ∧ i.length + j.length ≤ sizeLine ∧ Q (.str (i ++ j)) H)
theorem op_addX : OpR X (binaryOp .Add) rAddX := op_add.or (op_catS.or op_add_str)
/-- * of ints (any that the machine multiplies); of a list and an int -/
def rMulI : R2 := rI IntMulOk fun i j => .int (i * j)
theorem op_mulI : OpR X (binaryOp .Mult) rMulI := opI fun _ _ _ _ _ _ _ hc q => mul_int q hc
def rMulX : R2 := fun x y H Q => rMulI x y H Q ∨ rRep x y H Q
theorem op_mulX : OpR X (binaryOp .Mult) rMulX := op_mulI.or op_rep
/-- // by a divisor that is not nought, below 2 ^ 9000 -/
def CDivX (_ j : Int) : Prop := j ≠ 0 ∧ j.natAbs.log2 < 9000
def rDivX : R2 := rI CDivX fun i j => .int (i.fdiv j)
theorem op_fdivX : OpR X (binaryOp .FloorDiv) rDivX := opI fun _ _ _ _ _ _ _ hc q => floordiv_int hc.1 q (.inl (PyProof.noPylong_of_log2 hc.2))
def rModX : R2 := rI (fun _ j => j ≠ 0) fun i j => .int (i.fmod j)
theorem op_modX : OpR X (binaryOp .Mod) rModX := op_modN
/-- ** and << of a small base; >> -/
def rPow : R2 := rI CPow fun i j => .int (i ^ j.toNat)
theorem op_powX : OpR X (binaryOp .Pow) rPow := op_pow
def rShl : R2 := rI CPow fun i j => .int (i * 2 ^ j.toNat)
theorem op_shlX : OpR X (binaryOp .LShift) rShl := op_shl
def rShr : R2 := rI (fun _ j => 0 ≤ j) fun i j => .int (i / 2 ^ j.toNat)
theorem op_shrX : OpR X (binaryOp .RShift) rShr := op_shr
def rSubI : R2 := rI0 fun i j => .int (i - j)
theorem op_subX : OpR X (binaryOp .Sub) rSubI := op_sub
def rAndI : R2 := rI0 fun i j => .int (Builtin.bitAnd i j)
theorem op_andX : OpR X (binaryOp .BitAnd) rAndI := op_and
def rOrI : R2 := rI0 fun i j => .int (Builtin.bitOr i j)
theorem op_orX : OpR X (binaryOp .BitOr) rOrI := op_or
def rXorI : R2 := rI0 fun i j => .int (Builtin.bitXor i j)
theorem op_xorX : OpR X (binaryOp .BitXor) rXorI := op_xor
def rLtI : R2 := rI0 fun i j => .bl (decide (i < j))
theorem op_ltX : OpR X (compareOp .Lt) rLtI := op_lt
def rLeI : R2 := rI0 fun i j => .bl (decide (i ≤ j))
theorem op_leX : OpR X (compareOp .LtE) rLeI := op_le
def rGtI : R2 := rI0 fun i j => .bl (decide (j < i))
theorem op_gtX : OpR X (compareOp .Gt) rGtI := op_gt
def rGeI : R2 := rI0 fun i j => .bl (decide (j ≤ i))
theorem op_geX : OpR X (compareOp .GtE) rGeI := op_ge
/-- == and != of plain values, of data -/
def rEqX (K : PySem.W.Frag) : R2 := fun x y H Q => rEq x y H Q ∨ rEqD K x y H Q
def rNeX (K : PySem.W.Frag) : R2 := fun x y H Q => rNe x y H Q ∨ rNeD K x y H Q
theorem op_eqX (hu : X.A.units + 64 < cLine) : OpR X (compareOp .Eq) (rEqX X.K) := op_eq.or (op_eqD hu)
theorem op_neX (hu : X.A.units + 64 < cLine) : OpR X (compareOp .NotEq) (rNeX X.K) := op_ne.or (op_neD hu)
/-- is, is not, of anything and a truth -/
def rIsX : R2 := fun x y H Q => ∃ b : Bool, y = .bl b ∧ Q (.bl (decide (x = .bl b))) H
/-- is None -/
def rIsNX : R2 := fun x y H Q => y = .non ∧ Q (.bl (decide (x = .non))) H
def rNotNX : R2 := fun x y H Q => y = .non ∧ Q (.bl (!decide (x = .non))) H
theorem op_isNX : OpR X (compareOp .Is) rIsNX := op_isN
theorem op_notNX : OpR X (compareOp .IsNot) rNotNX := op_notN
theorem op_isX : OpR X (compareOp .Is) rIsX := by
  intro pins s σ H x y v u Q I rx ry h
  obtain ⟨b, rfl, q⟩ := h
  cases (show u = Value.bool b from ry)
  cases x with
  | bl a =>
    cases (show v = Value.bool a from rx)
    by_cases e : a = b
    · subst e
      exact wpAny_is_self rfl ⟨.bl true, H, I, rfl, by simpa using q⟩
    · exact wpAny_is_other rfl (fun z => e (Value.bool.inj z)) ⟨.bl false, H, I, rfl, by simpa [e] using q⟩
  | non => cases (show v = Value.none from rx); exact wpAny_is_other rfl (fun z => nomatch z) ⟨.bl false, H, I, rfl, by simpa using q⟩
  | int i => obtain ⟨t, rfl⟩ := rx; exact wpAny_is_other rfl (fun z => nomatch z) ⟨.bl false, H, I, rfl, by simpa using q⟩
  | str i => obtain ⟨t, rfl⟩ := rx; exact wpAny_is_other rfl (fun z => nomatch z) ⟨.bl false, H, I, rfl, by simpa using q⟩
  | byt i => obtain ⟨t, rfl⟩ := rx; exact wpAny_is_other rfl (fun z => nomatch z) ⟨.bl false, H, I, rfl, by simpa using q⟩
  | flt i => obtain ⟨t, rfl⟩ := rx; exact wpAny_is_other rfl (fun z => nomatch z) ⟨.bl false, H, I, rfl, by simpa using q⟩
  | ref a => cases (show v = Value.ref a from rx); exact wpAny_is_other rfl (fun z => nomatch z) ⟨.bl false, H, I, rfl, by simpa using q⟩
  | ty a => cases (show v = Value.type a from rx); exact wpAny_is_other rfl (fun z => nomatch z) ⟨.bl false, H, I, rfl, by simpa using q⟩
/-- the place of a list's item is read, as a store by an operator reads it -/
theorem get_list : PGet X (rIxL X.K) := by
  intro pins s σ H x y v u Q I rx ry h
  obtain ⟨p, xs, i, z, rfl, rfl, hq, he, q⟩ := h
  cases rx
  obtain ⟨t, rfl⟩ := ry
  obtain ⟨its, r, pl, hz⟩ := I.list hq
  obtain ⟨j, h1, h2, h3, h4, h5⟩ := atI_get he
  obtain ⟨w, ew, rw'⟩ := r.get h2
  have hl := r.length
  have hn := line63
  have fin : EP X pins σ Q w s := ⟨z, H, I, rw', q⟩
  by_cases h0 : 0 ≤ i
  · have hj : i.toNat = j := by
      rw [seqIndex_of h0 h5] at h1
      exact Option.some.inj h1
    exact wpAny_getItem_list pl.isList h0 (by omega) (by rw [hj]; simpa using ew) fin
  · have hj : (i + (its.toArray.size : Int)).toNat = j := by
      rw [seqIndex_neg (by omega) h4] at h1
      rw [List.size_toArray, ← hl]
      exact Option.some.inj h1
    exact wpAny_getItem_list_neg pl.isList (by omega) (by rw [List.size_toArray] <;> omega) (by omega) (by rw [hj]; simpa using ew) fin
/-- len, list, sum, .. by names of ours -/
def rLen (K : PySem.W.Frag) : List V → Hp → VK → Prop := fun xs H Q => ∃ x n, xs = [x] ∧ LenV K x H n ∧ Q (.int n) H
theorem call_lenX : CallR X (.builtin "len") (rLen X.K) := call_len
def rList (K : PySem.W.Frag) : List V → Hp → VK → Prop := fun xs H Q => ∃ p ys, xs = [.ref p] ∧ (SqL K H p ys ∨ SqT K H p ys) ∧ ∀ l, H l = none → Q (.ref l) (upd H l (.lst ys))
theorem call_listX : CallR X (.type "list") (rList X.K) := call_list_of
def rAbs : List V → Hp → VK → Prop := fun xs H Q => ∃ i, xs = [.int i] ∧ Q (.int (if i < 0 then -i else i)) H
theorem call_absX : CallR X (.builtin "abs") rAbs := call_abs
def rMax2 : List V → Hp → VK → Prop := fun xs H Q => ∃ i j, xs = [.int i, .int j] ∧ Q (.int (if j > i then j else i)) H
theorem call_max2X (hc : X.calm = true) : CallR X (.builtin "max") rMax2 := call_max2 hc
def rMin2 : List V → Hp → VK → Prop := fun xs H Q => ∃ i j, xs = [.int i, .int j] ∧ Q (.int (if j < i then j else i)) H
theorem call_min2X (hc : X.calm = true) : CallR X (.builtin "min") rMin2 := call_min2 hc
def rInt1 : List V → Hp → VK → Prop := fun xs H Q => (∃ i, xs = [.int i] ∧ Q (.int i) H) ∨ ∃ k, xs = [.bl k] ∧ Q (.int (if k then 1 else 0)) H
theorem call_int1X : CallR X (.type "int") rInt1 := call_int1
end

/-! ### readings, step by step: each of these takes the head of a reading away -/
section
variable {K : PySem.W.Frag} {σ : L2.St} {H : Hp} {D : Ends} {Q : VK} {te ta tb tl th : TE} {t u : TS} {c c2 : TT} {g : TG} {i : Nat} {v x y : V} {r : R2} {QT : Bool → Hp → Prop} {QA : List V → Hp → Prop} {sp : Sp} {dvs vs : List V} {E : XK}
theorem x_seq (h : t { D with nx := u D } σ H) : tSeq t u D σ H := h
theorem x_next (h : D.nx σ H) : tNext D σ H := h
theorem x_asg (h : te σ H fun x H1 => D.nx (σ.set i (some x)) H1) : tAsg te (gName i) D σ H := h
theorem x_asgS {to ti : TE} {s : TSet} (h : te σ H fun x H1 => to σ H1 fun o H2 => ti σ H2 fun k H3 => s o k x H3 fun H4 => D.nx σ H4) : tAsg te (gSub to ti s) D σ H := h
theorem x_augS {to ti : TE} {tg : V → V → Hp → VK → Prop} {tip : TIp} {ts : TSet} (h : to σ H fun o H1 => ti σ H1 fun k H2 => tg o k H2 fun x H3 => te σ H3 fun y H4 => tip x y H4 fun z H5 => ts o k z H5 fun H6 => D.nx σ H6) : tAugS to ti te tg tip ts D σ H := h
theorem x_aug {tip : TIp} (e : σ[i]? = some (some x)) (h : te σ H fun y H1 => tip x y H1 fun z H2 => D.nx (σ.set i (some z)) H2) : tAug i te tip D σ H := ⟨x, e, h⟩
theorem x_gn {QS : L2.St → Hp → Prop} (h : QS (σ.set i (some v)) H) : gName i v σ H QS := h
theorem x_gt {n : Nat} {gs : TGs} {a : Addr} {xs : List V} {QS : L2.St → Hp → Prop} (h : SqT K H a xs) (hn : xs.length = n) (q : gs xs σ H QS) : gTup K n gs (.ref a) σ H QS := ⟨a, xs, rfl, h, hn, q⟩
theorem x_gc {gs : TGs} {r : List V} {QS : L2.St → Hp → Prop} (q : g v σ H fun σ' H' => gs r σ' H' QS) : gCons g gs (v :: r) σ H QS := ⟨v, r, rfl, q⟩
theorem x_g0 {QS : L2.St → Hp → Prop} (q : QS σ H) : gNil [] σ H QS := ⟨rfl, q⟩
theorem x_ret (h : te σ H D.rt) : tRet te D σ H := h
theorem x_retN (h : D.rt .non H) : tRetN D σ H := h
theorem x_drop (h : te σ H fun _ H1 => D.nx σ H1) : tDrop te D σ H := h
theorem x_if (h : c σ H fun b H1 => if b = true then t D σ H1 else u D σ H1) : tIfS c t u D σ H := h
theorem x_brk (h : D.bk σ H) : tBreak D σ H := h
theorem x_ct (h : D.ct σ H) : tCont D σ H := h
theorem x_var (e : σ[i]? = some (some v)) (q : Q v H) : tVar i σ H Q := ⟨v, e, q⟩
theorem x_c (q : Q v H) : tC v σ H Q := q
theorem x_op (h : ta σ H fun x H1 => tb σ H1 fun y H2 => r x y H2 Q) : tOp r ta tb σ H Q := h
theorem x_un {r : V → Hp → VK → Prop} (h : ta σ H fun x H1 => r x H1 Q) : tUn r ta σ H Q := h
theorem x_test (h : te σ H fun x H1 => ∃ k, x = .bl k ∧ QT k H1) : tTest te σ H QT := h
theorem x_B (h : te σ H fun x H1 => ∃ k, x = .bl k ∧ QT k H1) : tB te σ H QT := h
theorem x_ex {b : Bool} {P : Bool → Prop} (q : P b) : ∃ k, V.bl b = .bl k ∧ P k := ⟨b, rfl, q⟩
theorem x_and (h : c σ H fun b H1 => if b = true then c2 σ H1 QT else QT false H1) : tAnd c c2 σ H QT := h
theorem x_or (h : c σ H fun b H1 => if b = true then QT true H1 else c2 σ H1 QT) : tOr c c2 σ H QT := h
theorem x_not (h : c σ H fun b H1 => QT (!b) H1) : tNot c σ H QT := h
theorem x_andV (h : ta σ H fun x H1 => ∃ b, x = .bl b ∧ if b = true then tb σ H1 Q else Q (.bl false) H1) : tAndV ta tb σ H Q := h
theorem x_orV (h : ta σ H fun x H1 => ∃ b, x = .bl b ∧ if b = true then Q (.bl true) H1 else tb σ H1 Q) : tOrV ta tb σ H Q := h
theorem x_notV (h : ta σ H fun x H1 => ∃ b, x = .bl b ∧ Q (.bl (!b)) H1) : tNotV ta σ H Q := h
theorem x_ifE (h : c σ H fun b H1 => if b = true then ta σ H1 Q else tb σ H1 Q) : tIf c ta tb σ H Q := h
theorem x_nil (q : QA [] H) : tNil σ H QA := q
theorem x_cons {tr : TA} (h : te σ H fun v H1 => tr σ H1 fun vs H2 => QA (v :: vs) H2) : tCons te tr σ H QA := h
theorem x_call {tr : TA} (h : tr σ H fun vs H1 => sp (vs ++ dvs) H1 Q E) : tCall sp dvs E tr σ H Q := h
theorem x_cb {tr : TA} {rc : List V → Hp → VK → Prop} (h : tr σ H fun vs H1 => rc vs H1 Q) : tCB rc tr σ H Q := h
theorem x_tup {tr : TA} (h : tr σ H fun xs H1 => xs.length ≤ sizeLine ∧ ∀ p, H1 p = none → Q (.ref p) (upd H1 p (.tup xs))) : tTup tr σ H Q := h
theorem x_lst {tr : TA} (h : tr σ H fun xs H1 => xs.length ≤ sizeLine ∧ ∀ p, H1 p = none → Q (.ref p) (upd H1 p (.lst xs))) : tLst tr σ H Q := h
theorem x_for {wi : TI} (h : wi σ H fun J H1 => ∃ W : Nat → Nat → L2.St → Hp → Prop, (∃ m, W 0 m σ H1) ∧ ∀ i m σ H, W i m σ H →
  (J.stop i H ∧ D.nx σ H) ∨ (J.go i H ∧ ∃ N : L2.St → Hp → Prop, (∀ σ' H', N σ' H' → ∃ m', m' < m ∧ W (i + 1) m' σ' H') ∧ ∀ x H', J.yld i H x H' → g x σ H' fun σ2 H2 => t { D with nx := N, ct := N, bk := D.nx } σ2 H2)) : tFor wi g t D σ H := h
theorem x_iList {R : It → Hp → Prop} (h : tl σ H fun x H1 => ∃ a, x = .ref a ∧ (∃ xs, SqL K H1 a xs) ∧ R (Itl K a) H1) : iList K tl σ H R := h
theorem x_iTup {R : It → Hp → Prop} (h : tl σ H fun x H1 => ∃ a, x = .ref a ∧ (∃ xs, SqT K H1 a xs) ∧ R (Itt K a) H1) : iTup K tl σ H R := h
theorem x_iR1 {R : It → Hp → Prop} {tr : TA} (h : tr σ H fun vs H1 => ∃ j : Int, vs = [.int j] ∧ -(2 ^ 62) ≤ j ∧ j < 2 ^ 62 ∧ R (Itr 0 j.toNat) H1) : iRng1 tr σ H R := h
theorem x_iR2 {R : It → Hp → Prop} {tr : TA} (h : tr σ H fun vs H1 => ∃ i j : Int, vs = [.int i, .int j] ∧ (-(2 ^ 62) ≤ i ∧ i < 2 ^ 62 ∧ -(2 ^ 62) ≤ j ∧ j < 2 ^ 62) ∧ R (Itr i (j - i).toNat) H1) : iRng2 tr σ H R := h
theorem x_iZip {R : It → Hp → Prop} {tr : TA} (h : tr σ H fun vs H1 => ∃ a b xs ys, vs = [.ref a, .ref b] ∧ SqL K H1 a xs ∧ SqL K H1 b ys ∧ R (Itz K a b) H1) : iZip K tr σ H R := h
theorem x_iEnum {R : It → Hp → Prop} {tr : TA} (h : tr σ H fun vs H1 => ∃ a xs, vs = [.ref a] ∧ SqL K H1 a xs ∧ R (Ite K a) H1) : iEnum K tr σ H R := h
theorem x_lc {wi : TI} {tt : TT} {ws : List Nat} (h : wi σ H fun J H1 => ∀ D, H1 D = none → ∃ W : Nat → Nat → Hp → Prop, (∃ m, W 0 m (upd H1 D (.lst []))) ∧ ∀ i m H, W i m H →
  (J.stop i H ∧ Q (.ref D) H) ∨ (J.go i H ∧ ∃ Nx : Hp → Prop, (∀ H', Nx H' → ∃ m', m' < m ∧ W (i + 1) m' H') ∧ ∀ x H', J.yld i H x H' → g x (wipe σ ws) H' fun σ2 H2 => wipe σ2 ws = wipe σ ws ∧ tt σ2 H2 fun b H3 =>
    if b = true then te σ2 H3 fun y H4 => ∃ acc, H4 D = some (.lst acc) ∧ acc.length < sizeLine ∧ Nx (upd H4 D (.lst (acc ++ [y]))) else Nx H3)) : tLc wi g tt te ws σ H Q := h
theorem x_yes (h : QT true H) : tYes σ H QT := h
theorem x_sl {rs : V → Option Int → Option Int → Hp → VK → Prop} {tlo thi : TO} (h : te σ H fun x H1 => tlo σ H1 fun l H2 => thi σ H2 fun u H3 => rs x l u H3 Q) : tSl rs te tlo thi σ H Q := h
theorem x_noPart {QO : Option Int → Hp → Prop} (h : QO none H) : tNoPart σ H QO := h
theorem x_part {QO : Option Int → Hp → Prop} (h : te σ H fun x H1 => ∃ i, x = .int i ∧ QO (some i) H1) : tPart te σ H QO := h
theorem x_exI {j : Int} {P : Int → Prop} (q : P j) : ∃ k, V.int j = .int k ∧ P k := ⟨j, rfl, q⟩
theorem x_bm {T : String} {rm : V → List V → Hp → VK → Prop} {tr : TA} (h : te σ H fun x H1 => tyV K T x H1 ∧ tr σ H1 fun xs H2 => rm x xs H2 Q) : tBM K T rm te tr σ H Q := h
theorem x_bm0 {T : String} {rm : V → List V → Hp → VK → Prop} (h : te σ H fun x H1 => tyV K T x H1 ∧ rm x [] H1 Q) : tBM0 K T rm te σ H Q := h
/- operators by values -/
theorem x_I0 {G : Int → Int → V} {a b : Int} (q : Q (G a b) H) : rI0 G (.int a) (.int b) H Q := ⟨a, b, rfl, rfl, q⟩
theorem x_I {C : Int → Int → Prop} {G : Int → Int → V} {a b : Int} (hc : C a b) (q : Q (G a b) H) : rI C G (.int a) (.int b) H Q := ⟨a, b, rfl, rfl, hc, q⟩
theorem x_U {G : Int → V} {a : Int} (q : Q (G a) H) : rU G (.int a) H Q := ⟨a, rfl, q⟩
theorem x_addI {a b : Int} (q : Q (.int (a + b)) H) : rAddX (.int a) (.int b) H Q := .inl ⟨a, b, rfl, rfl, q⟩
theorem x_addL {l b : Addr} {xs zs : List V} (h1 : RdL H l xs) (h2 : RdL H b zs) (hz : xs.length + zs.length ≤ sizeLine) (q : ∀ p, H p = none → Q (.ref p) (upd H p (.lst (xs ++ zs)))) : rAddX (.ref l) (.ref b) H Q := .inr (.inl ⟨l, b, xs, zs, rfl, rfl, h1, h2, hz, q⟩)
theorem x_addS {a b : Str} (h : a.length + b.length ≤ sizeLine) (q : Q (.str (a ++ b)) H) : rAddX (.str a) (.str b) H Q := .inr (.inr ⟨a, b, rfl, rfl, h, q⟩)
theorem x_subI {a b : Int} (q : Q (.int (a - b)) H) : rSubI (.int a) (.int b) H Q := ⟨a, b, rfl, rfl, q⟩
theorem x_mulI {a b : Int} (h : IntMulOk a b) (q : Q (.int (a * b)) H) : rMulX (.int a) (.int b) H Q := .inl ⟨a, b, rfl, rfl, h, q⟩
theorem x_mulL {l : Addr} {k : Int} {xs : List V} (h1 : H l = some (.lst xs)) (h2 : -(2 ^ 63) ≤ k ∧ k < 2 ^ 63 ∧ xs.length * k.toNat ≤ sizeLine) (q : ∀ p, H p = none → Q (.ref p) (upd H p (.lst (List.replicate k.toNat xs).flatten))) : rMulX (.ref l) (.int k) H Q :=
  .inr ⟨l, k, xs, rfl, rfl, h1, h2.1, h2.2.1, h2.2.2, q⟩
theorem x_divI {a b : Int} (h : b ≠ 0 ∧ b.natAbs.log2 < 9000) (q : Q (.int (a.fdiv b)) H) : rDivX (.int a) (.int b) H Q := ⟨a, b, rfl, rfl, h, q⟩
theorem x_divP {a b : Int} (h0 : 0 < b) (h : b.natAbs.log2 < 9000) (q : Q (.int (a / b)) H) : rDivX (.int a) (.int b) H Q := ⟨a, b, rfl, rfl, ⟨by omega, h⟩, by show Q (.int (a.fdiv b)) H; rw [Int.fdiv_eq_ediv_of_nonneg a (by omega)]; exact q⟩
theorem x_modP {a b : Int} (h0 : 0 < b) (q : Q (.int (a % b)) H) : rModX (.int a) (.int b) H Q := ⟨a, b, rfl, rfl, by omega, by show Q (.int (a.fmod b)) H; rw [Int.fmod_eq_emod_of_nonneg a (by omega)]; exact q⟩
theorem x_powN {a b : Int} (h : CPow a b) (q : Q (.int (a ^ b.toNat)) H) : rPow (.int a) (.int b) H Q := ⟨a, b, rfl, rfl, h, q⟩
theorem x_shl {a b : Int} (h : CPow a b) (q : Q (.int (a * 2 ^ b.toNat)) H) : rShl (.int a) (.int b) H Q := ⟨a, b, rfl, rfl, h, q⟩
theorem x_shr {a b : Int} (h : 0 ≤ b) (q : Q (.int (a / 2 ^ b.toNat)) H) : rShr (.int a) (.int b) H Q := ⟨a, b, rfl, rfl, h, q⟩
theorem x_andI {a b : Int} (q : Q (.int (Builtin.bitAnd a b)) H) : rAndI (.int a) (.int b) H Q := ⟨a, b, rfl, rfl, q⟩
theorem x_orI {a b : Int} (q : Q (.int (Builtin.bitOr a b)) H) : rOrI (.int a) (.int b) H Q := ⟨a, b, rfl, rfl, q⟩
theorem x_xorI {a b : Int} (q : Q (.int (Builtin.bitXor a b)) H) : rXorI (.int a) (.int b) H Q := ⟨a, b, rfl, rfl, q⟩
theorem x_ltI {a b : Int} (q : Q (.bl (decide (a < b))) H) : rLtI (.int a) (.int b) H Q := ⟨a, b, rfl, rfl, q⟩
theorem x_leI {a b : Int} (q : Q (.bl (decide (a ≤ b))) H) : rLeI (.int a) (.int b) H Q := ⟨a, b, rfl, rfl, q⟩
theorem x_gtI {a b : Int} (q : Q (.bl (decide (b < a))) H) : rGtI (.int a) (.int b) H Q := ⟨a, b, rfl, rfl, q⟩
theorem x_geI {a b : Int} (q : Q (.bl (decide (b ≤ a))) H) : rGeI (.int a) (.int b) H Q := ⟨a, b, rfl, rfl, q⟩
theorem dec_int' {a b : Int} : decide (V.int a = V.int b) = decide (a = b) := by
  by_cases e : a = b
  · subst e; simp
  · rw [decide_eq_false e, decide_eq_false (fun z => e (V.int.inj z))]
theorem x_eqI {a b : Int} (q : Q (.bl (decide (a = b))) H) : rEqX K (.int a) (.int b) H Q := .inl ⟨rfl, by rw [dec_int']; exact q⟩
theorem x_neI {a b : Int} (q : Q (.bl (!decide (a = b))) H) : rNeX K (.int a) (.int b) H Q := .inl ⟨rfl, by rw [dec_int']; exact q⟩
theorem x_eqS {a b : Str} (q : Q (.bl (decide (a = b))) H) : rEqX K (.str a) (.str b) H Q := .inl ⟨rfl, by
  have e : decide (V.str a = V.str b) = decide (a = b) := by
    by_cases e : a = b
    · subst e; simp
    · rw [decide_eq_false e, decide_eq_false (fun z => e (V.str.inj z))]
  rw [e]; exact q⟩
theorem x_eqB {a b : Bool} (q : Q (.bl (decide (a = b))) H) : rEqX K (.bl a) (.bl b) H Q := .inl ⟨rfl, by
  have e : decide (V.bl a = V.bl b) = decide (a = b) := by cases a <;> cases b <;> rfl
  rw [e]; exact q⟩
theorem x_isX {b : Bool} (q : Q (.bl (decide (x = .bl b))) H) : rIsX x (.bl b) H Q := ⟨b, rfl, q⟩
theorem x_isN (q : Q (.bl (decide (x = .non))) H) : rIsNX x .non H Q := ⟨rfl, q⟩
theorem x_notN (q : Q (.bl (!decide (x = .non))) H) : rNotNX x .non H Q := ⟨rfl, q⟩
theorem x_ipI {f : Int → Int → Int} {a b : Int} (q : Q (.int (f a b)) H) : ipI f (.int a) (.int b) H Q := ⟨a, b, rfl, rfl, q⟩
/- lists by values -/
theorem x_ixL {p : Addr} {xs : List V} {i : Int} (h : SqL K H p xs) (ha : atI xs i = some v) (q : Q v H) : rIxL K (.ref p) (.int i) H Q := ⟨p, xs, i, v, rfl, rfl, h, ha, q⟩
theorem x_ixT {p : Addr} {xs : List V} {i : Int} (h : SqT K H p xs) (ha : atI xs i = some v) (q : Q v H) : rIxT K (.ref p) (.int i) H Q := ⟨p, xs, i, v, rfl, rfl, h, ha, q⟩
theorem x_ixXL {p : Addr} {xs : List V} {i : Int} (h : SqL K H p xs) (ha : atI xs i = some v) (q : Q v H) : rIx K (.ref p) (.int i) H Q := .inl ⟨p, xs, i, v, rfl, rfl, h, ha, q⟩
theorem x_ixXT {p : Addr} {xs : List V} {i : Int} (h : SqT K H p xs) (ha : atI xs i = some v) (q : Q v H) : rIx K (.ref p) (.int i) H Q := .inr (.inl ⟨p, xs, i, v, rfl, rfl, h, ha, q⟩)
theorem x_lenL {p : Addr} {xs : List V} (h : SqL K H p xs) (q : Q (.int (xs.length : Int)) H) : rLen K [.ref p] H Q := ⟨_, _, rfl, .inl ⟨xs, h, rfl⟩, q⟩
theorem x_lenT {p : Addr} {xs : List V} (h : SqT K H p xs) (q : Q (.int (xs.length : Int)) H) : rLen K [.ref p] H Q := ⟨_, _, rfl, .inr ⟨xs, h, rfl⟩, q⟩
theorem x_lenS {z : Str} (h : z.length ≤ sizeLine) (q : Q (.int (z.length : Int)) H) : rLen K [.str z] H Q := ⟨_, _, rfl, ⟨h, rfl⟩, q⟩
theorem x_list {p : Addr} {xs : List V} (h : SqL K H p xs) (q : ∀ l, H l = none → Q (.ref l) (upd H l (.lst xs))) : rList K [.ref p] H Q := ⟨p, xs, rfl, .inl h, q⟩
theorem x_append {l : Addr} {xs : List V} (h : H l = some (.lst xs)) (hz : xs.length < sizeLine) (q : Q .non (upd H l (.lst (xs ++ [y])))) : rAppend (.ref l) [y] H Q := ⟨l, xs, y, rfl, rfl, h, hz, q⟩
theorem x_setL {p : Addr} {xs : List V} {k : Int} {j : Nat} {QH : Hp → Prop} (h : H p = some (.lst xs)) (hj : ixN xs.length k = some j) (q : QH (upd H p (.lst (xs.set j v)))) : rSetL (.ref p) (.int k) v H QH := ⟨p, xs, k, j, rfl, rfl, h, hj, q⟩
theorem x_tyL {p : Addr} {xs : List V} (h : H p = some (.lst xs)) : tyV K "list" (.ref p) H := .inl ⟨rfl, _, SqL.of h⟩
theorem x_abs {j : Int} (q : Q (.int (if j < 0 then -j else j)) H) : rAbs [.int j] H Q := ⟨j, rfl, q⟩
theorem x_max2 {a b : Int} (q : Q (.int (if b > a then b else a)) H) : rMax2 [.int a, .int b] H Q := ⟨a, b, rfl, q⟩
theorem x_min2 {a b : Int} (q : Q (.int (if b < a then b else a)) H) : rMin2 [.int a, .int b] H Q := ⟨a, b, rfl, q⟩
theorem x_sum {p : Addr} {ns : List Int} (h : SqL K H p (ns.map V.int)) (q : Q (.int ns.sum) H) : rSum K [.ref p] H Q := ⟨p, ns, rfl, h, q⟩
/-- while: W falls; the turn's test is read as it stands -/
theorem x_while (W : Nat → L2.St → Hp → Prop) (m0 : Nat) (h0 : W m0 σ H) (hs : ∀ m σ H, W m σ H → c σ H fun b H1 => if b = true then ∃ N : L2.St → Hp → Prop, (∀ σ' H', N σ' H' → ∃ m', m' < m ∧ W m' σ' H') ∧ t { D with nx := N, ct := N, bk := D.nx } σ H1 else D.nx σ H1) : tWhile c t D σ H := ⟨W, ⟨m0, h0⟩, hs⟩
theorem x_N {m : Nat} {W : Nat → L2.St → Hp → Prop} {B : L2.St → Hp → Prop} (h : t { D with nx := fun σ' H' => ∃ m', m' < m ∧ W m' σ' H', ct := fun σ' H' => ∃ m', m' < m ∧ W m' σ' H', bk := B } σ H) :
    ∃ N : L2.St → Hp → Prop, (∀ σ' H', N σ' H' → ∃ m', m' < m ∧ W m' σ' H') ∧ t { D with nx := N, ct := N, bk := B } σ H := ⟨_, fun _ _ z => z, h⟩
end
/-! ### places in lists of ints -/
def gi (ns : List Int) (i : Int) : Int := ns.getD i.toNat 0
theorem at_int {ns : List Int} {i : Int} (h0 : 0 ≤ i) (h1 : i < ns.length) : atI (ns.map V.int) i = some (.int (gi ns i)) := by
  obtain ⟨n, rfl⟩ := Int.eq_ofNat_of_zero_le h0
  have hn : n < ns.length := by omega
  refine atI_nat ?_
  rw [List.getElem?_map, List.getElem?_eq_getElem hn]
  show some (V.int ns[n]) = some (V.int (ns.getD n 0))
  rw [List.getD_eq_getElem?_getD, List.getElem?_eq_getElem hn] <;> rfl
theorem ixN_int {n : Nat} {i : Int} (h0 : 0 ≤ i) (h1 : i < n) : ixN n i = some i.toNat := by
  unfold ixN
  rw [if_pos h0, if_pos h1]
theorem map_set_int {ns : List Int} {j : Nat} {z : Int} : (ns.map V.int).set j (.int z) = (ns.set j z).map V.int := (List.map_set).symm
theorem map_app_int {ns : List Int} {z : Int} : ns.map V.int ++ [.int z] = (ns ++ [z]).map V.int := by rw [List.map_append] <;> rfl
theorem mulok {a b : Int} {n m : Nat} (ha : a.natAbs < 2 ^ n) (hb : b.natAbs < 2 ^ m) (h0 : 0 < n) (h1 : 0 < m) (h : n + m ≤ 100000000) : IntMulOk a b := by
  have bb : ∀ x : Int, ∀ k, 0 < k → x.natAbs < 2 ^ k → Builtin.Int.intBits x ≤ k := fun x k hk hx => by
    have := PySem.Flt.log2_lt_of hk hx
    unfold Builtin.Int.intBits
    split <;> omega
  have h2 := bb a n h0 ha
  have h3 := bb b m h1 hb
  have e : bitsLine = 134217728 := by decide
  unfold IntMulOk
  intro z
  rw [Bool.and_eq_true] at z
  have z2 := z.2
  unfold Builtin.Int.intTooBig at z2
  have z3 := of_decide_eq_true z2
  rw [e] at z3
  omega

/-! ### things of any kind, as a caller hands them in -/
inductive Thing (H : Hp) : V → Prop
  | non : Thing H .non
  | bl (b : Bool) : Thing H (.bl b)
  | int (i : Int) : Thing H (.int i)
  | str (x : Str) : Thing H (.str x)
  | lst {a : Addr} {xs : List V} (e : Rd H a (.lst xs)) : Thing H (.ref a)
  | tup {a : Addr} {xs : List V} (e : Rd H a (.tup xs)) : Thing H (.ref a)
  | dic {a : Addr} {kvs : List (Key × V)} (e : H a = some (.dK kvs)) : Thing H (.ref a)
/-- v is a whole number from l to g -/
def inR (v : V) (l g : Int) : Prop := ∃ z, v = .int z ∧ l ≤ z ∧ z ≤ g
def isI : V → Bool
  | .int _ => true
  | _ => false
def isB : V → Bool
  | .bl _ => true
  | _ => false
theorem rd_same {H H' : Hp} {a : Addr} {u : HO} (e : Same H H') (h : Rd H a u) : Rd H' a u := by
  rcases h with h | ⟨o, h⟩
  · exact .inl (e _ _ h)
  · exact .inr ⟨o, e _ _ h⟩
theorem Thing.same {H H' : Hp} {v : V} (e : Same H H') (h : Thing H v) : Thing H' v := by
  cases h with
  | non => exact .non
  | bl b => exact .bl b
  | int i => exact .int i
  | str x => exact .str x
  | lst q => exact .lst (rd_same e q)
  | tup q => exact .tup (rd_same e q)
  | dic q => exact .dic (e _ _ q)
theorem Thing.ty {K : PySem.W.Frag} {H : Hp} {v : V} (h : Thing H v) : ∃ t : String, TyX K H v (.type t) ∧ kitB t "int" = some (isI v || isB v) ∧ kitB t "bool" = some (isB v) := by
  cases h with
  | non => exact ⟨"NoneType", .base .non, by decide +kernel, by decide +kernel⟩
  | bl b => exact ⟨"bool", .base (.bl b), by cases b <;> decide +kernel, by cases b <;> decide +kernel⟩
  | int i => exact ⟨"int", .base (.int i), by show kitB "int" "int" = some true; decide +kernel, by show kitB "int" "bool" = some false; decide +kernel⟩
  | str x => exact ⟨"str", .base (.str x), by show kitB "str" "int" = some false; decide +kernel, by show kitB "str" "bool" = some false; decide +kernel⟩
  | lst q =>
    rcases q with q | ⟨o, q⟩
    · exact ⟨"list", .base (.lst q), by show kitB "list" "int" = some false; decide +kernel, by show kitB "list" "bool" = some false; decide +kernel⟩
    · exact ⟨"list", .base (.frz q), by show kitB "list" "int" = some false; decide +kernel, by show kitB "list" "bool" = some false; decide +kernel⟩
  | tup q =>
    rcases q with q | ⟨o, q⟩
    · exact ⟨"tuple", .base (.tup q), by show kitB "tuple" "int" = some false; decide +kernel, by show kitB "tuple" "bool" = some false; decide +kernel⟩
    · exact ⟨"tuple", .fTuple q, by show kitB "tuple" "int" = some false; decide +kernel, by show kitB "tuple" "bool" = some false; decide +kernel⟩
  | dic q => exact ⟨"dict", .base (.dK q), by show kitB "dict" "int" = some false; decide +kernel, by show kitB "dict" "bool" = some false; decide +kernel⟩
section
variable {K : PySem.W.Frag} {H : Hp} {Q : VK} {v : V}
theorem x_isiInt (h : Thing H v) (q : Q (.bl (isI v || isB v)) H) : rIsi K [v, .ty "int"] H Q := by
  obtain ⟨t, h1, h2, _⟩ := h.ty (K := K)
  exact ⟨v, .ty "int", _, _, _, rfl, .ty _, h1, kit_ty h2, q⟩
theorem x_isiBool (h : Thing H v) (q : Q (.bl (isB v)) H) : rIsi K [v, .ty "bool"] H Q := by
  obtain ⟨t, h1, _, h2⟩ := h.ty (K := K)
  exact ⟨v, .ty "bool", _, _, _, rfl, .ty _, h1, kit_ty h2, q⟩
theorem x_isiListL {a : Addr} {xs : List V} (h : Rd H a (.lst xs)) (q : Q (.bl true) H) : rIsi K [.ref a, .ty "list"] H Q := by
  rcases h with h | ⟨o, h⟩
  · exact ⟨_, .ty "list", _, _, _, rfl, .ty _, .base (.lst h), kit_ty (by decide +kernel), q⟩
  · exact ⟨_, .ty "list", _, _, _, rfl, .ty _, .base (.frz h), kit_ty (by decide +kernel), q⟩
theorem x_isiTupT {a : Addr} {xs : List V} (h : Rd H a (.tup xs)) (q : Q (.bl true) H) : rIsi K [.ref a, .ty "tuple"] H Q := by
  rcases h with h | ⟨o, h⟩
  · exact ⟨_, .ty "tuple", _, _, _, rfl, .ty _, .base (.tup h), kit_ty (by decide +kernel), q⟩
  · exact ⟨_, .ty "tuple", _, _, _, rfl, .ty _, .fTuple h, kit_ty (by decide +kernel), q⟩
end
/-- what a def tells and leaves: a value; a new list -/
def RetV (v : V) (H : Hp) (Q : VK) : Prop := ∀ H', Same H H' → Q v H'
def RetL (xs : List V) (H : Hp) (Q : VK) : Prop := ∀ p H', H p = none → Same H H' → H' p = some (.lst xs) → Q (.ref p) H'
def RetT (xs : List V) (H : Hp) (Q : VK) : Prop := ∀ p H', H p = none → Same H H' → H' p = some (.tup xs) → Q (.ref p) H'
theorem RetV.go {v : V} {H H' : Hp} {Q : VK} (h : RetV v H Q) (e : Same H H') : Q v H' := h H' e
theorem RetL.go {xs : List V} {H H' : Hp} {Q : VK} (h : RetL xs H Q) {p : Addr} (w : Own H ((p, .lst xs) :: []) H') : Q (.ref p) H' := h p H' (w.none 0 rfl) w.ex (w.get 0 rfl)
theorem RetT.go {xs : List V} {H H' : Hp} {Q : VK} (h : RetT xs H Q) {p : Addr} (w : Own H ((p, .tup xs) :: []) H') : Q (.ref p) H' := h p H' (w.none 0 rfl) w.ex (w.get 0 rfl)

/-! ### comprehensions: what the list at D holds behind i turns: F i -/
def PvC (B : Hp) (cs : Cells) (D : Addr) (F : Nat → List V) (i : Nat) (H : Hp) : Prop := Own B ((D, .lst (F i)) :: cs) H
section
variable {K : PySem.W.Frag} {σ : L2.St} {B H : Hp} {cs : Cells} {Q : VK} {te : TE} {g : TG} {tt : TT} {vs : List Nat}
/-- a turn's end: the item goes behind what is there -/
theorem cp_fin {D : Addr} {F : Nat → List V} {i : Nat} {H4 : Hp} {y : V} (w : PvC B cs D F i H4) (e : F (i + 1) = F i ++ [y]) (hl : (F i).length < 1000000) :
    ∃ acc, H4 D = some (.lst acc) ∧ acc.length < sizeLine ∧ PvC B cs D F (i + 1) (upd H4 D (.lst (acc ++ [y]))) := by
  refine ⟨F i, Own.get w 0 rfl, Nat.lt_of_lt_of_le hl (by decide), ?_⟩
  have := Own.put (o' := .lst (F i ++ [y])) w 0 rfl
  rw [← e] at this
  rw [← e]
  exact this
/-- the same where the test says no -/
theorem cp_no {D : Addr} {F : Nat → List V} {i : Nat} {H4 : Hp} (w : PvC B cs D F i H4) (e : F (i + 1) = F i) : PvC B cs D F (i + 1) H4 := by
  unfold PvC at *
  rw [e]
  exact w
theorem cp_range {QD : Addr → Hp → Prop} {lo : Int} {n : Nat} (F : Nat → List V) (w : Own B cs H) (h0 : F 0 = [])
    (hs : ∀ D i H', i < n → PvC B cs D F i H' → g (.int (lo + i)) (wipe σ vs) H' fun σ2 H2 => wipe σ2 vs = wipe σ vs ∧ tt σ2 H2 fun b H3 =>
      if b = true then te σ2 H3 fun y H4 => ∃ acc, H4 D = some (.lst acc) ∧ acc.length < sizeLine ∧ PvC B cs D F (i + 1) (upd H4 D (.lst (acc ++ [y]))) else PvC B cs D F (i + 1) H3)
    (hq : ∀ D H', Own B ((D, .lst (F n)) :: cs) H' → QD D H') : ∀ D, H D = none → ∃ W : Nat → Nat → Hp → Prop, (∃ m, W 0 m (upd H D (.lst []))) ∧ ∀ i m H, W i m H →
      ((Itr lo n).stop i H ∧ QD D H) ∨ ((Itr lo n).go i H ∧ ∃ Nx : Hp → Prop, (∀ H', Nx H' → ∃ m', m' < m ∧ W (i + 1) m' H') ∧ ∀ x H', (Itr lo n).yld i H x H' → g x (wipe σ vs) H' fun σ2 H2 => wipe σ2 vs = wipe σ vs ∧ tt σ2 H2 fun b H3 =>
        if b = true then te σ2 H3 fun y H4 => ∃ acc, H4 D = some (.lst acc) ∧ acc.length < sizeLine ∧ Nx (upd H4 D (.lst (acc ++ [y]))) else Nx H3) := fun D hD =>
  lc_range (PvC B cs D F) (by unfold PvC; rw [h0]; exact w.new hD) (fun i H' hi p => hs D i H' hi p) (fun H' p => hq D H' p)
theorem cp_list {QD : Addr → Hp → Prop} {a : Addr} {xs : List V} (F : Nat → List V) (w : Own B cs H) (hx : SqL K B a xs) (h0 : F 0 = [])
    (hs : ∀ D i x H', xs[i]? = some x → PvC B cs D F i H' → g x (wipe σ vs) H' fun σ2 H2 => wipe σ2 vs = wipe σ vs ∧ tt σ2 H2 fun b H3 =>
      if b = true then te σ2 H3 fun y H4 => ∃ acc, H4 D = some (.lst acc) ∧ acc.length < sizeLine ∧ PvC B cs D F (i + 1) (upd H4 D (.lst (acc ++ [y]))) else PvC B cs D F (i + 1) H3)
    (hq : ∀ D H', Own B ((D, .lst (F xs.length)) :: cs) H' → QD D H') : ∀ D, H D = none → ∃ W : Nat → Nat → Hp → Prop, (∃ m, W 0 m (upd H D (.lst []))) ∧ ∀ i m H, W i m H →
      ((Itl K a).stop i H ∧ QD D H) ∨ ((Itl K a).go i H ∧ ∃ Nx : Hp → Prop, (∀ H', Nx H' → ∃ m', m' < m ∧ W (i + 1) m' H') ∧ ∀ x H', (Itl K a).yld i H x H' → g x (wipe σ vs) H' fun σ2 H2 => wipe σ2 vs = wipe σ vs ∧ tt σ2 H2 fun b H3 =>
        if b = true then te σ2 H3 fun y H4 => ∃ acc, H4 D = some (.lst acc) ∧ acc.length < sizeLine ∧ Nx (upd H4 D (.lst (acc ++ [y]))) else Nx H3) := fun D hD =>
  lc_list (PvC B cs D F) (by unfold PvC; rw [h0]; exact w.new hD) (fun i H' hi p => Own.seq p hx) (fun i x H' hi p => hs D i x H' hi p) (fun H' p => hq D H' p)
/-- behind the first i items of a range: their images -/
theorem range_map {α : Type} (f : Nat → α) (i : Nat) : (List.range (i + 1)).map f = (List.range i).map f ++ [f i] := by rw [List.range_succ, List.map_append] <;> rfl
end

/-! ### the rules with the written part told (a comprehension's block has its own context) -/
section
variable {X : Cx} {K : PySem.W.Frag}
theorem ix_seqK (h : X.K = K) : IxR X (rIx K) := h ▸ ix_seq
theorem get_listK (h : X.K = K) : PGet X (rIxL K) := h ▸ get_list
theorem op_eqK (h : X.K = K) (hu : X.A.units + 64 < cLine) : OpR X (compareOp .Eq) (rEqX K) := h ▸ op_eqX hu
theorem op_neK (h : X.K = K) (hu : X.A.units + 64 < cLine) : OpR X (compareOp .NotEq) (rNeX K) := h ▸ op_neX hu
theorem call_lenK (h : X.K = K) : CallR X (.builtin "len") (rLen K) := h ▸ call_lenX
theorem call_listK (h : X.K = K) : CallR X (.type "list") (rList K) := h ▸ call_listX
theorem cr_sumK (h : X.K = K) (hc : X.calm = true) : CallR X (.builtin "sum") (rSum K) := h ▸ cr_sum hc
theorem cr_anyK (h : X.K = K) (hc : X.calm = true) : CallR X (.builtin "any") (rAny K) := h ▸ cr_any hc
theorem cr_maxK (h : X.K = K) (hc : X.calm = true) : CallR X (.builtin "max") (rMax K) := h ▸ cr_max hc
theorem cr_minK (h : X.K = K) (hc : X.calm = true) : CallR X (.builtin "min") (rMin K) := h ▸ cr_min hc
theorem cr_sortedK (h : X.K = K) : CallR X (.builtin "sorted") (rSorted K) := h ▸ cr_sorted
theorem call_isiX (h : X.K = K) : CallR X (.builtin "isinstance") (rIsi K) := h ▸ call_isi
theorem call_isiTX (h : X.K = K) : CallR X (.builtin "isinstance") (rIsiT K) := h ▸ call_isiT
theorem op_in_seqK (h : X.K = K) : OpR X (compareOp .In) (rIn K false) := h ▸ op_in_seq
theorem op_notIn_seqK (h : X.K = K) : OpR X (compareOp .NotIn) (rIn K true) := h ▸ op_notIn_seq
theorem sl_listK (h : X.K = K) : SlR X (rSlL K) := h ▸ sl_list
theorem sl_tupK (h : X.K = K) : SlR X (rSlT K) := h ▸ sl_tup
theorem pi_listK (h : X.K = K) {tg l : Expr} {tl : TE} (hl : PE X l tl) : PI X tg l (iList K tl) := h ▸ pi_list hl
theorem pi_tupK (h : X.K = K) {tg l : Expr} {tl : TE} (hl : PE X l tl) : PI X tg l (iTup K tl) := h ▸ pi_tup hl
theorem pi_zipK (h : X.K = K) {e e2 : Expr} {ta : TA} {p pos tpos : Pos} {elts : List Expr} {kk : Nat} (hg : Gl X "zip") (hm : X.mg "zip" = none) (ha : PA X [e, e2] ta)
    (hs : starEach [e, e2] X.env = (false, eval e X.env) :: starEach [e2] X.env := by rfl) (hpl : (backTo pos (starEach [e2] X.env)).any (·.1) = false := by rfl) :
    PI X (.Tuple elts kk tpos) (.Call (.Name "zip" p) [e, e2] [] pos) (iZip K ta) := h ▸ pi_zip hg hm ha hs hpl
theorem pi_enumK (h : X.K = K) {e : Expr} {ta : TA} {p pos tpos : Pos} {elts : List Expr} {kk : Nat} (hg : Gl X "enumerate") (hm : X.mg "enumerate" = none) (ha : PA X [e] ta) (hs : starEach [e] X.env = [(false, eval e X.env)] := by rfl) :
    PI X (.Tuple elts kk tpos) (.Call (.Name "enumerate" p) [e] [] pos) (iEnum K ta) := h ▸ pi_enum hg hm ha hs
theorem pi_reversedK (h : X.K = K) {tg e : Expr} {ta : TA} {p pos : Pos} (hg : Gl X "reversed") (hm : X.mg "reversed" = none) (ha : PA X [e] ta) (hs : starEach [e] X.env = [(false, eval e X.env)] := by rfl) :
    PI X tg (.Call (.Name "reversed" p) [e] [] pos) (iRev K ta) := h ▸ pi_reversed hg hm ha hs
theorem pg_tupK (h : X.K = K) {pos : Pos} {es : List Expr} {k : Nat} {t : TGs} {n : Nat} (hc : X.calm = true) (hg : PGs X es t)
    (hn : (assignEach es X.env).length = n := by rfl) (hst : (assignEach es X.env).findIdx? (·.1) = none := by rfl) : PG X (.Tuple es k pos) (gTup K n t) := h ▸ pg_tup hc hg hn hst
theorem pe_bmK (h : X.K = K) {T : String} {name : Str} {id : String} {r : V → List V → Hp → VK → Prop} {o e : Expr} {es : List Expr} {to : TE} {t : TA} {apos cpos : Pos}
    (pa : PlainAttrs T) (slot : Slot T name id) (hty : typeOf (.builtin id) = pure (.type "method_descriptor")) (hm : MtR X id r) (ho : PE X o to) (ha : PA X (e :: es) t)
    (f : PE X (.Call (.Attribute o name apos) (e :: es) [] cpos) (tBM X.K T r to t)) : PE X (.Call (.Attribute o name apos) (e :: es) [] cpos) (tBM K T r to t) := h ▸ f
theorem pe_fldK (h : X.K = K) {e : Expr} {f : Str} {ta : TE} {pos : Pos} (he : PE X e ta) (hb : attributeBase e f X.env (eval e X.env) = eval e X.env) : PE X (.Attribute e f pos) (tFld K ta f) := h ▸ pe_fld he hb
end

/-! ### == of lists of ints -/
theorem dpAll_ints {K : PySem.W.Frag} {H : Hp} : ∀ ns : List Int, DpAll K H (ns.map V.int) (ns.map PyData.int)
  | [] => .nil
  | n :: r => .cons (.int n) (dpAll_ints r)
theorem dp_ints {K : PySem.W.Frag} {H : Hp} {p : Addr} {ns : List Int} (h : SqL K H p (ns.map V.int)) : Dp K H (.ref p) (.list (ns.map PyData.int)) := .lst h (dpAll_ints ns)
theorem canLay_ints : ∀ ns : List Int, PyData.canLayAll0 (ns.map PyData.int) = true
  | [] => by simp [PyData.canLayAll0]
  | n :: r => by simp [PyData.canLayAll0, PyData.canLay0, canLay_ints r]
theorem depth_ints : ∀ ns : List Int, PyData.depthAll (ns.map PyData.int) ≤ 1
  | [] => by simp [PyData.depthAll]
  | n :: r => by
    have := depth_ints r
    simp only [List.map_cons, PyData.depthAll, PyData.depth]
    omega
theorem shaped_ints (ns : List Int) : SeqAt.shaped (.list (ns.map PyData.int)) = true := by
  have := depth_ints ns
  unfold SeqAt.shaped
  rw [Bool.and_eq_true]
  refine ⟨by simp [PyData.canLay0, canLay_ints ns], decide_eq_true ?_⟩
  simp only [PyData.depth]
  omega
theorem eqvAll_ints : ∀ ns ms : List Int, PyData.eqvAll (ns.map PyData.int) (ms.map PyData.int) = decide (ns = ms)
  | [], [] => by simp [PyData.eqvAll]
  | [], m :: r => by simp [PyData.eqvAll]
  | n :: r, [] => by simp [PyData.eqvAll]
  | n :: r, m :: q => by
    simp only [List.map_cons, PyData.eqvAll, PyData.eqv, eqvAll_ints r q, List.cons.injEq]
    by_cases e : n = m
    · subst e; simp
    · simp [e]
theorem eqv_ints (ns ms : List Int) : PyData.eqv (.list (ns.map PyData.int)) (.list (ms.map PyData.int)) = decide (ns = ms) := by
  rw [PyData.eqv, eqvAll_ints]
section
variable {K : PySem.W.Frag} {H : Hp} {Q : VK} {p q : Addr} {ns ms : List Int}
theorem x_eqLI (h1 : SqL K H p (ns.map V.int)) (h2 : SqL K H q (ms.map V.int)) (k : Q (.bl (decide (ns = ms))) H) : rEqX K (.ref p) (.ref q) H Q :=
  .inr ⟨_, _, dp_ints h1, dp_ints h2, shaped_ints ns, shaped_ints ms, by rw [eqv_ints]; exact k⟩
theorem x_neLI (h1 : SqL K H p (ns.map V.int)) (h2 : SqL K H q (ms.map V.int)) (k : Q (.bl (!decide (ns = ms))) H) : rNeX K (.ref p) (.ref q) H Q :=
  .inr ⟨_, _, dp_ints h1, dp_ints h2, shaped_ints ns, shaped_ints ms, by rw [eqv_ints]; exact k⟩
end

theorem cx_none {P : Program} {w : World} {H : Hp} {s : Shared} {e : Value} {s' : Shared} (h : L2.CX P w [] H s (fun _ _ _ => False) e s') : False := by
  obtain ⟨_, _, _, _, _, _, _, _, _, _, _, _, z⟩ := h
  exact z.elim

/-! ### for over range(n), the number told plainly -/
theorem for_r0 {n : Int} {g : TG} {tb : TS} {D : Ends} {σ : L2.St} {H : Hp} (Pv : Nat → L2.St → Hp → Prop) (h0 : Pv 0 σ H)
    (hs : ∀ (i : Nat) σ H, (i : Int) < n → Pv i σ H → g (.int (i : Int)) σ H fun σ2 H2 => tb { D with nx := Pv (i + 1), ct := Pv (i + 1), bk := D.nx } σ2 H2) (hd : ∀ σ H, Pv n.toNat σ H → D.nx σ H) :
    ∃ W : Nat → Nat → L2.St → Hp → Prop, (∃ m, W 0 m σ H) ∧ ∀ i m σ H, W i m σ H →
      ((Itr 0 n.toNat).stop i H ∧ D.nx σ H) ∨ ((Itr 0 n.toNat).go i H ∧ ∃ N : L2.St → Hp → Prop, (∀ σ' H', N σ' H' → ∃ m', m' < m ∧ W (i + 1) m' σ' H') ∧ ∀ x H', (Itr 0 n.toNat).yld i H x H' → g x σ H' fun σ2 H2 => tb { D with nx := N, ct := N, bk := D.nx } σ2 H2) :=
  for_range (lo := 0) (n := n.toNat) Pv h0 (fun i σ H hi p => by rw [Int.zero_add]; exact hs i σ H (by omega) p) hd
theorem cp_r0 {QD : Addr → Hp → Prop} {B : Hp} {cs : Cells} {n : Int} {σ : L2.St} {H : Hp} {te : TE} {g : TG} {tt : TT} {vs : List Nat} (F : Nat → List V) (w : Own B cs H) (h0 : F 0 = [])
    (hs : ∀ D (i : Nat) H', (i : Int) < n → PvC B cs D F i H' → g (.int (i : Int)) (wipe σ vs) H' fun σ2 H2 => wipe σ2 vs = wipe σ vs ∧ tt σ2 H2 fun b H3 =>
      if b = true then te σ2 H3 fun y H4 => ∃ acc, H4 D = some (.lst acc) ∧ acc.length < sizeLine ∧ PvC B cs D F (i + 1) (upd H4 D (.lst (acc ++ [y]))) else PvC B cs D F (i + 1) H3)
    (hq : ∀ D H', Own B ((D, .lst (F n.toNat)) :: cs) H' → QD D H') : ∀ D, H D = none → ∃ W : Nat → Nat → Hp → Prop, (∃ m, W 0 m (upd H D (.lst []))) ∧ ∀ i m H, W i m H →
      ((Itr 0 n.toNat).stop i H ∧ QD D H) ∨ ((Itr 0 n.toNat).go i H ∧ ∃ Nx : Hp → Prop, (∀ H', Nx H' → ∃ m', m' < m ∧ W (i + 1) m' H') ∧ ∀ x H', (Itr 0 n.toNat).yld i H x H' → g x (wipe σ vs) H' fun σ2 H2 => wipe σ2 vs = wipe σ vs ∧ tt σ2 H2 fun b H3 =>
        if b = true then te σ2 H3 fun y H4 => ∃ acc, H4 D = some (.lst acc) ∧ acc.length < sizeLine ∧ Nx (upd H4 D (.lst (acc ++ [y]))) else Nx H3) :=
  cp_range (lo := 0) F w h0 (fun D i H' hi p => by rw [Int.zero_add]; exact hs D i H' (by omega) p) hq

/-! ### enumerate, zip: loops and comprehensions -/
section
variable {K : PySem.W.Frag} {a b : Addr} {xs ys : List V} {g : TG} {tb : TS} {D : Ends} {σ : L2.St} {H B : Hp} {cs : Cells} {te : TE} {tt : TT} {vs : List Nat} {Q : VK}
theorem for_enumL (Pv : Nat → L2.St → Hp → Prop) (h0 : Pv 0 σ H) (hq : ∀ i σ H, Pv i σ H → SqL K H a xs)
    (hs : ∀ (i : Nat) (x : V) (T : Addr) (σ : L2.St) (H : Hp), xs[i]? = some x → Pv i σ H → H T = none → g (.ref T) σ (upd H T (.tup [.int (i : Int), x])) fun σ2 H2 => tb { D with nx := Pv (i + 1), ct := Pv (i + 1), bk := D.nx } σ2 H2) (hd : ∀ σ H, Pv xs.length σ H → D.nx σ H) :
    ∃ W : Nat → Nat → L2.St → Hp → Prop, (∃ m, W 0 m σ H) ∧ ∀ i m σ H, W i m σ H →
      ((Ite K a).stop i H ∧ D.nx σ H) ∨ ((Ite K a).go i H ∧ ∃ N : L2.St → Hp → Prop, (∀ σ' H', N σ' H' → ∃ m', m' < m ∧ W (i + 1) m' σ' H') ∧ ∀ v H', (Ite K a).yld i H v H' → g v σ H' fun σ2 H2 => tb { D with nx := N, ct := N, bk := D.nx } σ2 H2) := by
  refine ⟨fun i m σ H => m = xs.length - i ∧ i ≤ xs.length ∧ Pv i σ H, ⟨xs.length, rfl, Nat.zero_le _, h0⟩, ?_⟩
  rintro i m σ H ⟨rfl, hi, p⟩
  have qx := hq i σ H p
  by_cases hlt : i < xs.length
  · have hx : xs[i]? = some xs[i] := List.getElem?_eq_getElem hlt
    refine .inr ⟨⟨xs, _, qx, hx⟩, Pv (i + 1), fun σ' H' p' => ⟨xs.length - (i + 1), by omega, rfl, hlt, p'⟩, fun v H' y => ?_⟩
    obtain ⟨T, x', rfl, hT, rfl, f1⟩ := y
    exact hs i x' T σ H (f1 xs qx) p hT
  · have e : i = xs.length := by omega
    subst e
    exact .inl ⟨⟨xs, qx, Nat.le_refl _⟩, hd σ H p⟩
theorem cp_enum {QD : Addr → Hp → Prop} (F : Nat → List V) (w : Own B cs H) (hx : SqL K B a xs) (h0 : F 0 = [])
    (hs : ∀ D i x T H', xs[i]? = some x → PvC B cs D F i H' → H' T = none → g (.ref T) (wipe σ vs) (upd H' T (.tup [.int ((i : Nat) : Int), x])) fun σ2 H2 => wipe σ2 vs = wipe σ vs ∧ tt σ2 H2 fun b H3 =>
      if b = true then te σ2 H3 fun y H4 => ∃ acc, H4 D = some (.lst acc) ∧ acc.length < sizeLine ∧ PvC B cs D F (i + 1) (upd H4 D (.lst (acc ++ [y]))) else PvC B cs D F (i + 1) H3)
    (hq : ∀ D H', Own B ((D, .lst (F xs.length)) :: cs) H' → QD D H') : ∀ D, H D = none → ∃ W : Nat → Nat → Hp → Prop, (∃ m, W 0 m (upd H D (.lst []))) ∧ ∀ i m H, W i m H →
      ((Ite K a).stop i H ∧ QD D H) ∨ ((Ite K a).go i H ∧ ∃ Nx : Hp → Prop, (∀ H', Nx H' → ∃ m', m' < m ∧ W (i + 1) m' H') ∧ ∀ x H', (Ite K a).yld i H x H' → g x (wipe σ vs) H' fun σ2 H2 => wipe σ2 vs = wipe σ vs ∧ tt σ2 H2 fun b H3 =>
        if b = true then te σ2 H3 fun y H4 => ∃ acc, H4 D = some (.lst acc) ∧ acc.length < sizeLine ∧ Nx (upd H4 D (.lst (acc ++ [y]))) else Nx H3) := fun D hD => by
  refine ⟨fun i m H => m = xs.length - i ∧ i ≤ xs.length ∧ PvC B cs D F i H, ⟨xs.length, rfl, Nat.zero_le _, by unfold PvC; rw [h0]; exact w.new hD⟩, ?_⟩
  rintro i m H ⟨rfl, hi, p⟩
  have qx : SqL K H a xs := Own.seq p hx
  by_cases hlt : i < xs.length
  · have hxi : xs[i]? = some xs[i] := List.getElem?_eq_getElem hlt
    refine .inr ⟨⟨xs, _, qx, hxi⟩, PvC B cs D F (i + 1), fun H' p' => ⟨xs.length - (i + 1), by omega, rfl, hlt, p'⟩, fun v H' y => ?_⟩
    obtain ⟨T, x', rfl, hT, rfl, f1⟩ := y
    exact hs D i x' T H (f1 xs qx) p hT
  · have e : i = xs.length := by omega
    subst e
    exact .inl ⟨⟨xs, qx, Nat.le_refl _⟩, hq D H p⟩
theorem cp_zip {QD : Addr → Hp → Prop} (F : Nat → List V) (w : Own B cs H) (hl : xs.length = ys.length) (hx : SqL K B a xs) (hy : SqL K B b ys) (h0 : F 0 = [])
    (hs : ∀ D i x y T H', xs[i]? = some x → ys[i]? = some y → PvC B cs D F i H' → H' T = none → g (.ref T) (wipe σ vs) (upd H' T (.tup [x, y])) fun σ2 H2 => wipe σ2 vs = wipe σ vs ∧ tt σ2 H2 fun b H3 =>
      if b = true then te σ2 H3 fun y H4 => ∃ acc, H4 D = some (.lst acc) ∧ acc.length < sizeLine ∧ PvC B cs D F (i + 1) (upd H4 D (.lst (acc ++ [y]))) else PvC B cs D F (i + 1) H3)
    (hq : ∀ D H', Own B ((D, .lst (F xs.length)) :: cs) H' → QD D H') : ∀ D, H D = none → ∃ W : Nat → Nat → Hp → Prop, (∃ m, W 0 m (upd H D (.lst []))) ∧ ∀ i m H, W i m H →
      ((Itz K a b).stop i H ∧ QD D H) ∨ ((Itz K a b).go i H ∧ ∃ Nx : Hp → Prop, (∀ H', Nx H' → ∃ m', m' < m ∧ W (i + 1) m' H') ∧ ∀ x H', (Itz K a b).yld i H x H' → g x (wipe σ vs) H' fun σ2 H2 => wipe σ2 vs = wipe σ vs ∧ tt σ2 H2 fun b H3 =>
        if b = true then te σ2 H3 fun y H4 => ∃ acc, H4 D = some (.lst acc) ∧ acc.length < sizeLine ∧ Nx (upd H4 D (.lst (acc ++ [y]))) else Nx H3) := fun D hD => by
  refine ⟨fun i m H => m = xs.length - i ∧ i ≤ xs.length ∧ PvC B cs D F i H, ⟨xs.length, rfl, Nat.zero_le _, by unfold PvC; rw [h0]; exact w.new hD⟩, ?_⟩
  rintro i m H ⟨rfl, hi, p⟩
  have qx : SqL K H a xs := Own.seq p hx
  have qy : SqL K H b ys := Own.seq p hy
  by_cases hlt : i < xs.length
  · have hxi : xs[i]? = some xs[i] := List.getElem?_eq_getElem hlt
    have hlt2 : i < ys.length := by omega
    have hyi : ys[i]? = some ys[i] := List.getElem?_eq_getElem hlt2
    refine .inr ⟨⟨xs, ys, _, _, qx, qy, hxi, hyi⟩, PvC B cs D F (i + 1), fun H' p' => ⟨xs.length - (i + 1), by omega, rfl, hlt, p'⟩, fun v H' y => ?_⟩
    obtain ⟨T, x', y', rfl, hT, rfl, f1, f2⟩ := y
    exact hs D i x' y' T H (f1 xs qx) (f2 ys qy) p hT
  · have e : i = xs.length := by omega
    subst e
    exact .inl ⟨⟨xs, ys, qx, qy, .inl (Nat.le_refl _)⟩, hq D H p⟩
end

def rStr : List V → Hp → VK → Prop := fun xs H Q => ∃ i, xs = [.int i] ∧ i.natAbs.log2 < 1920 ∧ Q (.str (toString i)) H
theorem call_strX {X : Cx} : CallR X (.type "str") rStr := call_str_int
theorem x_str {H : Hp} {Q : VK} {i : Int} (h : i.natAbs.log2 < 1920) (q : Q (.str (toString i)) H) : rStr [.int i] H Q := ⟨i, rfl, h, q⟩
theorem log2_small {n : Nat} {k : Nat} (h0 : 0 < k) (h : n < 2 ^ k) (hk : k ≤ 1920) : n.log2 < 1920 := Nat.lt_of_lt_of_le (PySem.Flt.log2_lt_of h0 h) hk
end Sp

/-! Jn: a join: what follows a statement is shown once. -/
namespace Sp
open PySem PySem.Spec L2 PyProof.Rows
theorem x_seqJ {t u : TS} {D : Ends} {σ : L2.St} {H : Hp} (P : L2.St → Hp → Prop) (hP : ∀ σ H, P σ H → u D σ H) (h : (∀ σ H, P σ H → u D σ H) → t { D with nx := u D } σ H) : tSeq t u D σ H := h hP
section
variable {X : Cx} {K : PySem.W.Frag} {T : String} {name : Str} {id : String} {r : V → List V → Hp → VK → Prop} {o e : Expr} {es : List Expr} {to : TE} {t : TA} {apos cpos : Pos}
theorem pe_bm0KK (h : X.K = K) (pa : PlainAttrs T) (slot : Slot T name id) (hty : typeOf (.builtin id) = pure (.type "method_descriptor")) (hm : MtR X id r) (ho : PE X o to)
    (hbase : attributeBase o name X.env (eval o X.env) = eval o X.env := by rfl) (hline : (apos.endLine == cpos.line) = true := by rfl) : PE X (.Call (.Attribute o name apos) [] [] cpos) (tBM0 K T r to) := h ▸ pe_bm0 pa slot hty hm ho hbase hline
theorem pe_bmKK (h : X.K = K) (pa : PlainAttrs T) (slot : Slot T name id) (hty : typeOf (.builtin id) = pure (.type "method_descriptor")) (hm : MtR X id r) (ho : PE X o to) (ha : PA X (e :: es) t)
    (hbase : attributeBase o name X.env (eval o X.env) = eval o X.env := by rfl)
    (hfew : ((backTo cpos (starEach (e :: es) X.env)).all (fun x => !x.1) && (backToKw cpos (keywordEach [] X.env)).all (fun x => x.1.isSome)
      && decide ((e :: es).length + ([] : List Keyword).length + (if ([] : List Keyword).isEmpty then 0 else 1) < 30)) = true := by rfl)
    (hline : (apos.endLine == cpos.line) = true := by rfl) (hs : starEach (e :: es) X.env = (false, eval e X.env) :: starEach es X.env := by rfl) (hplain : (backTo cpos (starEach es X.env)).any (·.1) = false := by rfl) :
    PE X (.Call (.Attribute o name apos) (e :: es) [] cpos) (tBM K T r to t) := h ▸ pe_bm pa slot hty hm ho ha hbase hfew hline hs hplain
end
end Sp

/-! Ml: tables, bounds: plain words about lists of ints. -/
namespace Sp
open PySem L2 PyProof.Rows
def manyOf (n : Nat) : Nat := if n ≤ 2 then 1 else if n ≤ 4 then 2 else if n ≤ 8 then 3 else if n ≤ 16 then 4 else if n ≤ 32 then 5 else 6
theorem manyOf_lo (n : Nat) : 1 ≤ manyOf n ∧ manyOf n ≤ 6 := by
  unfold manyOf
  repeat' split
  all_goals omega
theorem manyOf_is {n k : Nat} (h1 : 1 ≤ k) (h6 : k ≤ 6) (hlo : k = 1 ∨ 2 ^ (k - 1) < n) (hhi : k = 6 ∨ n ≤ 2 ^ k) : manyOf n = k := by
  unfold manyOf
  have h : k = 1 ∨ k = 2 ∨ k = 3 ∨ k = 4 ∨ k = 5 ∨ k = 6 := by omega
  rcases h with rfl | rfl | rfl | rfl | rfl | rfl <;> simp only [Nat.reducePow, Nat.reduceSub] at hlo hhi <;> repeat' split
  all_goals omega
def lookM (xs : List V) : Option Int := if xs.length = 2 ^ manyOf xs.length ∧ xs.all isI = true ∧ xs[0]? = some (.int 0) then some (manyOf xs.length : Nat) else none
/-- a table of k hands -/
structure Tab (ns : List Int) (k : Nat) : Prop where
  len : ns.length = 2 ^ k
  lo : 1 ≤ k
  hi : k ≤ 6
  zero : ns[0]? = some 0
theorem Tab.look {ns : List Int} {k : Nat} (h : Tab ns k) : lookM (ns.map V.int) = some (k : Int) := by
  have e : manyOf (ns.map V.int).length = k := by
    rw [List.length_map, h.len]
    exact manyOf_is h.lo h.hi (by
      have := h.lo
      by_cases e : k = 1
      · exact .inl e
      · refine .inr (Nat.pow_lt_pow_right (by decide) (by omega))) (.inr (Nat.le_refl _))
  unfold lookM
  rw [e, if_pos]
  refine ⟨by rw [List.length_map]; exact h.len, ?_, ?_⟩
  · rw [List.all_map]; exact List.all_eq_true.mpr fun _ _ => rfl
  · rw [List.getElem?_map, h.zero] <;> rfl
theorem things_int {H : Hp} {ns : List Int} : ∀ v ∈ ns.map V.int, Thing H v := fun v hv => by
  obtain ⟨z, _, rfl⟩ := List.mem_map.mp hv
  exact .int z
theorem look_tab {xs : List V} {n : Int} (h : lookM xs = some n) : ∃ ns k, Tab ns k ∧ xs = ns.map V.int ∧ n = (k : Nat) := by
  unfold lookM at h
  by_cases c : xs.length = 2 ^ manyOf xs.length ∧ xs.all isI = true ∧ xs[0]? = some (.int 0)
  · rw [if_pos c] at h
    obtain ⟨c1, c2, c3⟩ := c
    have hm := manyOf_lo xs.length
    have all : ∀ ys : List V, ys.all isI = true → ∃ ns : List Int, ys = ns.map V.int := by
      intro ys
      induction ys with
      | nil => intro _; exact ⟨[], rfl⟩
      | cons y r ih =>
        intro e
        rw [List.all_cons, Bool.and_eq_true] at e
        obtain ⟨ns, rfl⟩ := ih e.2
        cases y with
        | int z => exact ⟨z :: ns, rfl⟩
        | _ => exact absurd e.1 Bool.false_ne_true
    obtain ⟨ns, rfl⟩ := all xs c2
    refine ⟨ns, manyOf (ns.map V.int).length, ⟨by rw [List.length_map] at c1; rw [List.length_map]; exact c1, hm.1, hm.2, ?_⟩, rfl, (Option.some.inj h).symm⟩
    rw [List.getElem?_map] at c3
    cases e : ns[0]? with
    | none => rw [e] at c3; cases c3
    | some z => rw [e] at c3; exact congrArg some (V.int.inj (Option.some.inj c3))
  · rw [if_neg c] at h; cases h
/-- a number of these laws' tables -/
def Small (z : Int) : Prop := -1000000000000000000 ≤ z ∧ z ≤ 1000000000000000000
/-- bounds of a table's numbers -/
def Bnd (b : Int) (ns : List Int) : Prop := ∀ z ∈ ns, -b ≤ z ∧ z ≤ b
theorem Bnd.app {b : Int} {ns : List Int} {z : Int} (h : Bnd b ns) (h1 : -b ≤ z) (h2 : z ≤ b) : Bnd b (ns ++ [z]) := fun y hy => by
  rcases List.mem_append.mp hy with m | m
  · exact h y m
  · rw [List.mem_singleton.mp m]; exact ⟨h1, h2⟩
theorem Bnd.set {b : Int} {ns : List Int} {j : Nat} {z : Int} (h : Bnd b ns) (h1 : -b ≤ z) (h2 : z ≤ b) : Bnd b (ns.set j z) := fun y hy => by
  rcases List.mem_or_eq_of_mem_set hy with m | rfl
  · exact h y m
  · exact ⟨h1, h2⟩
theorem Bnd.mono {b c : Int} {ns : List Int} (h : Bnd b ns) (hbc : b ≤ c) : Bnd c ns := fun y hy => by
  have := h y hy
  exact ⟨by omega, by omega⟩
theorem Bnd.at {b : Int} {ns : List Int} (hb : 0 ≤ b) (h : Bnd b ns) (i : Int) : -b ≤ gi ns i ∧ gi ns i ≤ b := by
  unfold gi
  rw [List.getD_eq_getElem?_getD]
  cases e : ns[i.toNat]? with
  | none => exact ⟨by show -b ≤ 0; omega, by show (0 : Int) ≤ b; omega⟩
  | some z => exact h z (List.mem_of_getElem? e)
theorem pow_toNat {k : Nat} {i : Int} (h : i = (k : Int)) : (1 : Int) * 2 ^ i.toNat = ((2 ^ k : Nat) : Int) := by
  rw [h, Int.one_mul, Int.toNat_natCast, Int.natCast_pow] <;> rfl
/-- the table turned about -/
def turnM (ns : List Int) : List Int := (List.range ns.length).map fun g : Nat => gi ns ((ns.length : Int) - 1) - gi ns ((ns.length : Int) - 1 - (g : Int))
theorem turnM_len (ns : List Int) : (turnM ns).length = ns.length := by unfold turnM; rw [List.length_map, List.length_range]
theorem gi_map_range {n : Nat} {f : Nat → Int} {i : Int} (h0 : 0 ≤ i) (h : i < n) : gi ((List.range n).map f) i = f i.toNat := by
  unfold gi
  rw [List.getD_eq_getElem?_getD, List.getElem?_map, List.getElem?_range (by omega)] <;> rfl
theorem turnM_at {ns : List Int} {i : Int} (h0 : 0 ≤ i) (h : i < ns.length) : gi (turnM ns) i = gi ns ((ns.length : Int) - 1) - gi ns ((ns.length : Int) - 1 - i) := by
  unfold turnM
  rw [gi_map_range h0 h, Int.toNat_of_nonneg h0]
theorem gi_ext {ns ms : List Int} (hl : ns.length = ms.length) (h : ∀ i : Int, 0 ≤ i → i < ns.length → gi ns i = gi ms i) : ns = ms := by
  apply List.ext_getElem hl
  intro i h1 h2
  have := h (i : Int) (by omega) (by omega)
  unfold gi at this
  rw [Int.toNat_natCast, List.getD_eq_getElem?_getD, List.getD_eq_getElem?_getD, List.getElem?_eq_getElem h1, List.getElem?_eq_getElem h2] at this
  exact this
theorem Tab.pos {ns : List Int} {k : Nat} (h : Tab ns k) : 2 ≤ ns.length ∧ ns.length ≤ 64 := by
  rw [h.len]
  exact ⟨Nat.pow_le_pow_right (n := 2) (by decide) h.lo, Nat.pow_le_pow_right (n := 2) (by decide) h.hi⟩
theorem Tab.gi0 {ns : List Int} {k : Nat} (h : Tab ns k) : gi ns 0 = 0 := by
  unfold gi
  rw [List.getD_eq_getElem?_getD, show (0 : Int).toNat = 0 from rfl, h.zero] <;> rfl
theorem gi_zero {ns : List Int} (h : 0 < ns.length) (e : gi ns 0 = 0) : ns[0]? = some 0 := by
  unfold gi at e
  rw [List.getD_eq_getElem?_getD, show (0 : Int).toNat = 0 from rfl, List.getElem?_eq_getElem h] at e
  rw [List.getElem?_eq_getElem h]
  exact congrArg some e
theorem Tab.turn {ns : List Int} {k : Nat} (h : Tab ns k) : Tab (turnM ns) k := by
  have hp := h.pos
  refine ⟨by rw [turnM_len]; exact h.len, h.lo, h.hi, gi_zero (by rw [turnM_len]; omega) ?_⟩
  rw [turnM_at (by decide) (by omega)]
  simp
theorem turnM_turnM {ns : List Int} {k : Nat} (h : Tab ns k) : turnM (turnM ns) = ns := by
  have hp := h.pos
  refine gi_ext (by rw [turnM_len, turnM_len]) fun i h0 h1 => ?_
  rw [turnM_len, turnM_len] at h1
  rw [turnM_at h0 (by rw [turnM_len]; exact h1), turnM_len, turnM_at (by omega) (by omega), turnM_at (by omega) (by omega)]
  have e1 : (ns.length : Int) - 1 - ((ns.length : Int) - 1) = 0 := by omega
  have e2 : (ns.length : Int) - 1 - ((ns.length : Int) - 1 - i) = i := by omega
  rw [e1, e2, h.gi0]
  omega
theorem Tab.set {ns : List Int} {k : Nat} (h : Tab ns k) {j : Nat} {z : Int} (hj : 0 < j) : Tab (ns.set j z) k :=
  ⟨by rw [List.length_set]; exact h.len, h.lo, h.hi, by rw [List.getElem?_set_ne (by omega)]; exact h.zero⟩
theorem map_int_inj {ns ms : List Int} (h : ns.map V.int = ms.map V.int) : ns = ms := (List.map_inj_right (f := V.int) fun _ _ => V.int.inj).mp h
theorem Tab.same {ns : List Int} {j k : Nat} (h : Tab ns j) (h' : Tab ns k) : j = k := by
  have e : 2 ^ j = 2 ^ k := h.len.symm.trans h'.len
  rcases Nat.lt_trichotomy j k with l | l | l
  · have := Nat.pow_lt_pow_right (a := 2) (by decide) l; omega
  · exact l
  · have := Nat.pow_lt_pow_right (a := 2) (by decide) l; omega
end Sp

/-! Drw: what a law's draws are: sixty-four or more digits. -/
namespace Sp
open PySem PySem.Spec L2 PyProof.Rows
def baseN : Int := 100000000000000000039
def DrawnL (ds : List Int) : Prop := 64 ≤ ds.length ∧ ds.length ≤ 127 ∧ ∀ d ∈ ds, 0 ≤ d ∧ d < baseN
theorem drawn_app {ds : List Int} {x : Int} (h : ∀ d ∈ ds, 0 ≤ d ∧ d < baseN) (h0 : 0 ≤ x) (h1 : x < baseN) : ∀ d ∈ ds ++ [x], 0 ≤ d ∧ d < baseN := fun d hd => by
  rcases List.mem_append.mp hd with z | z
  · exact h d z
  · rw [List.mem_singleton] at z; subst z; exact ⟨h0, h1⟩
end Sp

/-! Sub: groups as numbers below 64, their parts, sums over parts, dividends. -/
namespace Sp
open PySem L2 PyProof.Rows
/-- hand h stands in group g -/
def bitOn (h g : Nat) : Bool := (g &&& 2 ^ h) != 0
theorem bit_facts : ∀ h, h < 6 → ∀ g, g < 64 → (bitOn h g = true → g ^^^ 2 ^ h < g ∧ bitOn h (g ^^^ 2 ^ h) = false) ∧ (∀ j, j < 6 → j ≠ h → bitOn j (g ^^^ 2 ^ h) = bitOn j g) := by decide +kernel
def stepD (h : Nat) (f : Nat → Int) : Nat → Int := fun g => if bitOn h g = true then f g - f (g ^^^ 2 ^ h) else f g
def stepE (h : Nat) (f : Nat → Int) : Nat → Int := fun g => if bitOn h g = true then f g + f (g ^^^ 2 ^ h) else f g
def allD : Nat → (Nat → Int) → Nat → Int
  | 0, f => f
  | k + 1, f => stepD k (allD k f)
def allE : Nat → (Nat → Int) → Nat → Int
  | 0, f => f
  | k + 1, f => stepE k (allE k f)
def On64 (f f' : Nat → Int) : Prop := ∀ g, g < 64 → f g = f' g
theorem On64.trans {f f' f'' : Nat → Int} (a : On64 f f') (b : On64 f' f'') : On64 f f'' := fun g h => (a g h).trans (b g h)
theorem On64.symm {f f' : Nat → Int} (a : On64 f f') : On64 f' f := fun g h => (a g h).symm
theorem stepD_on {h : Nat} (hh : h < 6) {f f' : Nat → Int} (e : On64 f f') : On64 (stepD h f) (stepD h f') := fun g hg => by
  unfold stepD
  by_cases c : bitOn h g = true
  · have := ((bit_facts h hh g hg).1 c).1
    rw [if_pos c, if_pos c, e g hg, e _ (by omega)]
  · rw [if_neg c, if_neg c, e g hg]
theorem stepE_on {h : Nat} (hh : h < 6) {f f' : Nat → Int} (e : On64 f f') : On64 (stepE h f) (stepE h f') := fun g hg => by
  unfold stepE
  by_cases c : bitOn h g = true
  · have := ((bit_facts h hh g hg).1 c).1
    rw [if_pos c, if_pos c, e g hg, e _ (by omega)]
  · rw [if_neg c, if_neg c, e g hg]
theorem stepED {h : Nat} (hh : h < 6) (f : Nat → Int) : On64 (stepE h (stepD h f)) f := fun g hg => by
  unfold stepE
  by_cases c : bitOn h g = true
  · have b := (bit_facts h hh g hg).1 c
    rw [if_pos c]
    unfold stepD
    rw [if_pos c, if_neg (by rw [b.2]; exact Bool.false_ne_true)]
    omega
  · rw [if_neg c]; unfold stepD; rw [if_neg c]
theorem stepDE {h : Nat} (hh : h < 6) (f : Nat → Int) : On64 (stepD h (stepE h f)) f := fun g hg => by
  unfold stepD
  by_cases c : bitOn h g = true
  · have b := (bit_facts h hh g hg).1 c
    rw [if_pos c]
    unfold stepE
    rw [if_pos c, if_neg (by rw [b.2]; exact Bool.false_ne_true)]
    omega
  · rw [if_neg c]; unfold stepE; rw [if_neg c]
theorem xor_swap (g a b : Nat) : (g ^^^ a) ^^^ b = (g ^^^ b) ^^^ a := by rw [Nat.xor_assoc, Nat.xor_comm a b, ← Nat.xor_assoc]
theorem step_comm {h j : Nat} (hh : h < 6) (hj : j < 6) (hne : j ≠ h) (f : Nat → Int) : On64 (stepE h (stepD j f)) (stepD j (stepE h f)) := fun g hg => by
  have bh := bit_facts h hh g hg
  have bj := bit_facts j hj g hg
  have e1 : bitOn j (g ^^^ 2 ^ h) = bitOn j g := bh.2 j hj hne
  have e2 : bitOn h (g ^^^ 2 ^ j) = bitOn h g := bj.2 h hh (Ne.symm hne)
  unfold stepE stepD
  simp only [e1, e2, xor_swap g (2 ^ j) (2 ^ h)]
  by_cases c : bitOn h g = true <;> by_cases d : bitOn j g = true <;> simp [c, d] <;> omega
theorem allE_comm {j : Nat} (hj : j < 6) (f : Nat → Int) : ∀ k, k ≤ j → On64 (allE k (stepD j f)) (stepD j (allE k f))
  | 0, _ => fun _ _ => rfl
  | k + 1, hk => by
    have ih := allE_comm hj f k (by omega)
    exact (stepE_on (by omega) ih).trans (step_comm (by omega) hj (by omega) (allE k f))
theorem allED (f : Nat → Int) : ∀ k, k ≤ 6 → On64 (allE k (allD k f)) f
  | 0, _ => fun _ _ => rfl
  | k + 1, hk => by
    have ih := allED f k (by omega)
    have c := allE_comm (j := k) (by omega) (allD k f) k (Nat.le_refl k)
    have a : On64 (allE (k + 1) (allD (k + 1) f)) (stepE k (stepD k (allE k (allD k f)))) := stepE_on (by omega) c
    exact (a.trans (stepED (by omega) _)).trans ih
theorem allD_comm {j : Nat} (hj : j < 6) (f : Nat → Int) : ∀ k, k ≤ j → On64 (allD k (stepE j f)) (stepE j (allD k f))
  | 0, _ => fun _ _ => rfl
  | k + 1, hk => by
    have ih := allD_comm hj f k (by omega)
    exact (stepD_on (by omega) ih).trans (step_comm hj (by omega) (by omega) (allD k f)).symm
theorem allDE (f : Nat → Int) : ∀ k, k ≤ 6 → On64 (allD k (allE k f)) f
  | 0, _ => fun _ _ => rfl
  | k + 1, hk => by
    have ih := allDE f k (by omega)
    have c := allD_comm (j := k) (by omega) (allE k f) k (Nat.le_refl k)
    have a : On64 (allD (k + 1) (allE (k + 1) f)) (stepD k (stepE k (allD k (allE k f)))) := stepD_on (by omega) c
    exact (a.trans (stepDE (by omega) _)).trans ih
/-! ### parts of a group, rising -/
def subs (g : Nat) : List Nat := (List.range 64).filter fun q => (q &&& g) == q
def partSum (f : Nat → Int) (g : Nat) : Int := ((subs g).map f).sum
def el : Nat → Nat → List Nat
  | 0, g => [g]
  | k + 1, g => if bitOn k g = true then el k (g ^^^ 2 ^ k) ++ el k g else el k g
theorem el_subs : ∀ k, k < 7 → ∀ g, g < 2 ^ k → el k g = subs g := by decide +kernel
theorem sum_app (a b : List Int) : (a ++ b).sum = a.sum + b.sum := List.sum_append
theorem allE_el (f : Nat → Int) : ∀ k g, allE k f g = ((el k g).map f).sum
  | 0, g => by show f g = ([g].map f).sum; simp
  | k + 1, g => by
    show stepE k (allE k f) g = _
    unfold stepE el
    by_cases c : bitOn k g = true
    · rw [if_pos c, if_pos c, List.map_append, sum_app, allE_el f k g, allE_el f k _]
      omega
    · rw [if_neg c, if_neg c, allE_el f k g]
theorem allE_sum (f : Nat → Int) {k g : Nat} (hk : k ≤ 6) (hg : g < 2 ^ k) : allE k f g = partSum f g := by
  rw [allE_el, el_subs k (by omega) g hg]
  rfl
/-- the parts but nobody, up to p -/
def someSubs (g p : Nat) : List Nat := (List.range (p + 1)).filter fun q => (q &&& g) == q && decide (0 < q)
theorem someSubs_step : ∀ g, g < 64 → ∀ p, p < 64 → (0 < p ∧ p &&& g = p) → someSubs g p = someSubs g ((p - 1) &&& g) ++ [p] ∧ (p - 1) &&& g < p ∧ ((p - 1) &&& g) &&& g = (p - 1) &&& g := by decide +kernel
theorem someSubs_all : ∀ g, g < 64 → subs g = 0 :: someSubs g g := by decide +kernel
theorem someSubs_zero (g : Nat) : someSubs g 0 = [] := by
  unfold someSubs
  rw [show List.range (0 + 1) = [0] from rfl]
  simp
def someSum (f : Nat → Int) (g p : Nat) : Int := ((someSubs g p).map f).sum
theorem someSum_step (f : Nat → Int) {g p : Nat} (hg : g < 64) (hp : p < 64) (h0 : 0 < p) (hs : p &&& g = p) : someSum f g p = someSum f g ((p - 1) &&& g) + f p := by
  unfold someSum
  rw [(someSubs_step g hg p hp ⟨h0, hs⟩).1, List.map_append, sum_app]
  simp
theorem partSum_some (f : Nat → Int) {g : Nat} (hg : g < 64) : partSum f g = f 0 + someSum f g g := by
  unfold partSum someSum
  rw [someSubs_all g hg, List.map_cons, List.sum_cons]
/-! ### lists by their places -/
/-- the list of f's values at 0 .. n - 1 -/
def tl (n : Nat) (f : Nat → Int) : List Int := (List.range n).map f
def fn (ns : List Int) : Nat → Int := fun g => gi ns (g : Int)
def divM (ns : List Int) (k : Nat) : List Int := tl ns.length (allD k (fn ns))
theorem tl_len (n : Nat) (f : Nat → Int) : (tl n f).length = n := by unfold tl; rw [List.length_map, List.length_range]
theorem gi_tl {n : Nat} {f : Nat → Int} {i : Int} (h0 : 0 ≤ i) (h : i < n) : gi (tl n f) i = f i.toNat := gi_map_range h0 h
theorem gi_tln {n : Nat} {f : Nat → Int} {i : Nat} (h : i < n) : gi (tl n f) (i : Int) = f i := by rw [gi_tl (by omega) (by omega), Int.toNat_natCast]
theorem tl_fn (ns : List Int) : tl ns.length (fn ns) = ns := by
  refine gi_ext (tl_len _ _) fun i h0 h1 => ?_
  rw [tl_len] at h1
  rw [gi_tl h0 h1]
  unfold fn
  rw [Int.toNat_of_nonneg h0]
theorem tl_congr {n : Nat} {f f' : Nat → Int} (h : ∀ i, i < n → f i = f' i) : tl n f = tl n f' := by
  unfold tl
  exact List.map_congr_left fun i hi => h i (List.mem_range.mp hi)
theorem tl_set {n : Nat} {f : Nat → Int} {j : Nat} {z : Int} (hj : j < n) : (tl n f).set j z = tl n fun i => if i = j then z else f i := by
  apply List.ext_getElem?
  intro i
  unfold tl
  by_cases e : j = i
  · subst e
    rw [List.getElem?_set_self (by rw [List.length_map, List.length_range]; exact hj), List.getElem?_map, List.getElem?_range hj]
    simp
  · rw [List.getElem?_set_ne e, List.getElem?_map, List.getElem?_map]
    cases h : (List.range n)[i]? with
    | none => rfl
    | some x =>
      have : x = i := by
        have hi := (List.getElem?_eq_some_iff.mp h).1
        rw [List.length_range] at hi
        rw [List.getElem?_range hi] at h
        exact (Option.some.inj h).symm
      subst this
      simp [Ne.symm e]
/-! ### bits of Python's ints -/
theorem and_nat (a b : Nat) : Builtin.bitAnd (a : Int) (b : Int) = ((a &&& b : Nat) : Int) := by rw [bitAnd_pp (by omega) (by omega), Int.toNat_natCast, Int.toNat_natCast]
theorem or_nat (a b : Nat) : Builtin.bitOr (a : Int) (b : Int) = ((a ||| b : Nat) : Int) := by rw [Bits.bitOr_pp (by omega) (by omega), Int.toNat_natCast, Int.toNat_natCast]
theorem xor_nat (a b : Nat) : Builtin.bitXor (a : Int) (b : Int) = ((a ^^^ b : Nat) : Int) := by rw [Bits.bitXor_pp (by omega) (by omega), Int.toNat_natCast, Int.toNat_natCast]
theorem shl_nat (h : Nat) : (1 : Int) * 2 ^ ((h : Int)).toNat = ((2 ^ h : Nat) : Int) := pow_toNat rfl
theorem bitOn_iff {h g : Nat} : (!decide (((g &&& 2 ^ h : Nat) : Int) = 0)) = bitOn h g := by
  unfold bitOn
  by_cases e : g &&& 2 ^ h = 0
  · rw [e]; rfl
  · rw [decide_eq_false (by omega), bne_iff_ne.mpr e] <;> rfl
/-- below 2 ^ k only the values below 2 ^ k are asked -/
theorem bit_cut : ∀ k, k < 7 → ∀ h, h < k → ∀ g, g < 2 ^ k → bitOn h g = true → g ^^^ 2 ^ h < 2 ^ k := by decide +kernel
theorem allE_cut' {k : Nat} (hk : k ≤ 6) {f f' : Nat → Int} (e : ∀ i, i < 2 ^ k → f i = f' i) : ∀ j, j ≤ k → ∀ g, g < 2 ^ k → allE j f g = allE j f' g
  | 0, _, g, hg => e g hg
  | j + 1, hj, g, hg => by
    show stepE j (allE j f) g = stepE j (allE j f') g
    unfold stepE
    by_cases c : bitOn j g = true
    · rw [if_pos c, if_pos c, allE_cut' hk e j (by omega) g hg, allE_cut' hk e j (by omega) _ (bit_cut k (by omega) j (by omega) g hg c)]
    · rw [if_neg c, if_neg c, allE_cut' hk e j (by omega) g hg]
theorem allE_cut {k : Nat} (hk : k ≤ 6) {f f' : Nat → Int} (e : ∀ i, i < 2 ^ k → f i = f' i) {g : Nat} (hg : g < 2 ^ k) : allE k f g = allE k f' g := allE_cut' hk e k (Nat.le_refl k) g hg
theorem allD_cut' {k : Nat} (hk : k ≤ 6) {f f' : Nat → Int} (e : ∀ i, i < 2 ^ k → f i = f' i) : ∀ j, j ≤ k → ∀ g, g < 2 ^ k → allD j f g = allD j f' g
  | 0, _, g, hg => e g hg
  | j + 1, hj, g, hg => by
    show stepD j (allD j f) g = stepD j (allD j f') g
    unfold stepD
    by_cases c : bitOn j g = true
    · rw [if_pos c, if_pos c, allD_cut' hk e j (by omega) g hg, allD_cut' hk e j (by omega) _ (bit_cut k (by omega) j (by omega) g hg c)]
    · rw [if_neg c, if_neg c, allD_cut' hk e j (by omega) g hg]
theorem allD_cut {k : Nat} (hk : k ≤ 6) {f f' : Nat → Int} (e : ∀ i, i < 2 ^ k → f i = f' i) {g : Nat} (hg : g < 2 ^ k) : allD k f g = allD k f' g := allD_cut' hk e k (Nat.le_refl k) g hg
/-! ### hands of a group -/
theorem bitOn_div : ∀ h, h < 6 → ∀ g, g < 64 → bitOn h g = decide (g / 2 ^ h % 2 = 1) := by decide +kernel
theorem bit_int {h g : Nat} (hh : h < 6) (hg : g < 64) : decide (Builtin.bitAnd ((g : Int) / 2 ^ ((h : Int)).toNat) 1 = 1) = bitOn h g := by
  rw [bitOn_div h hh g hg, bitAnd_m1, Int.toNat_natCast]
  have e : (g : Int) / 2 ^ h % 2 = ((g / 2 ^ h % 2 : Nat) : Int) := by
    rw [Int.natCast_emod, Int.natCast_ediv, Int.natCast_pow] <;> rfl
  rw [e]
  by_cases c : g / 2 ^ h % 2 = 1
  · rw [c]; rfl
  · rw [decide_eq_false c, decide_eq_false (by omega)]
def handsM (g : Nat) : List Nat := (List.range 6).filter fun h => bitOn h g
theorem filter_yes {p : Nat → Bool} {n : Nat} (h : p n = true) {α : Type} (f : Nat → α) : ((List.range (n + 1)).filter p).map f = ((List.range n).filter p).map f ++ [f n] := by
  rw [List.range_succ, List.filter_append, List.map_append, List.filter_cons, if_pos h] <;> rfl
theorem filter_no {p : Nat → Bool} {n : Nat} (h : p n = false) {α : Type} (f : Nat → α) : ((List.range (n + 1)).filter p).map f = ((List.range n).filter p).map f := by
  rw [List.range_succ, List.filter_append, List.map_append, List.filter_cons, if_neg (by rw [h]; exact Bool.false_ne_true)]
  show _ ++ [] = _
  rw [List.append_nil]
theorem filter_len (p : Nat → Bool) (n : Nat) : ((List.range n).filter p).length ≤ n := by
  have := List.length_filter_le p (List.range n)
  rw [List.length_range] at this
  exact this
/-- a list of naturals as Python's ints -/
abbrev vnat : Nat → V := fun n => .int (n : Int)
theorem vnat_map (l : List Nat) : l.map vnat = (l.map fun n : Nat => (n : Int)).map V.int := by rw [List.map_map] <;> rfl
theorem handsM_lt {g h : Nat} (hm : h ∈ handsM g) : h < 6 := by
  unfold handsM at hm
  exact List.mem_range.mp (List.mem_filter.mp hm).1
/-! ### spread: the hands of a group of blocks -/
def spreadTo (g : Nat) (bs : List Nat) : Nat → Nat
  | 0 => 0
  | i + 1 => if bitOn i g = true then spreadTo g bs i ||| bs.getD i 0 else spreadTo g bs i
def spreadM (g : Nat) (bs : List Nat) : Nat := spreadTo g bs bs.length
theorem spreadTo_step {g : Nat} {bs : List Nat} {i z : Nat} (h : bs[i]? = some z) : spreadTo g bs (i + 1) = if bitOn i g = true then spreadTo g bs i ||| z else spreadTo g bs i := by
  show (if bitOn i g = true then spreadTo g bs i ||| bs.getD i 0 else spreadTo g bs i) = _
  rw [List.getD_eq_getElem?_getD, h] <;> rfl
theorem map_at {α : Type} {f : α → V} {l : List α} {i : Nat} {x : V} (h : (l.map f)[i]? = some x) : ∃ z, l[i]? = some z ∧ x = f z := by
  rw [List.getElem?_map] at h
  cases e : l[i]? with
  | none => rw [e] at h; cases h
  | some z => rw [e] at h; exact ⟨z, rfl, (Option.some.inj h).symm⟩
theorem take_map {α β : Type} {l : List α} {i : Nat} {z : α} (h : l[i]? = some z) (f : α → β) : (l.take (i + 1)).map f = (l.take i).map f ++ [f z] := by
  rw [List.take_add_one, h, List.map_append] <;> rfl
theorem handsM_len (g : Nat) : (handsM g).length ≤ 6 := filter_len _ 6
theorem pow6 {n : Nat} (h : n ≤ 6) : 2 ^ n ≤ 64 := Nat.pow_le_pow_right (n := 2) (by decide) h
/-- the table cut to g -/
def cutM (ns : List Int) (g : Nat) : List Int := (List.range (2 ^ (handsM g).length)).map fun q => gi ns ((spreadM q ((handsM g).map (2 ^ ·)) : Nat) : Int)
theorem spread_le : ∀ {g : Nat}, g < 64 → ∀ q, q < 2 ^ (handsM g).length → spreadM q ((handsM g).map (2 ^ ·)) ≤ g := by decide +kernel
theorem at_mem {xs : List V} {i : Int} (h0 : 0 ≤ i) (h1 : i < xs.length) : ∃ v, atI xs i = some v ∧ v ∈ xs := by
  obtain ⟨n, rfl⟩ := Int.eq_ofNat_of_zero_le h0
  have hn : n < xs.length := by omega
  exact ⟨xs[n], atI_nat (List.getElem?_eq_getElem hn), List.getElem_mem hn⟩
theorem ixN_last {n : Nat} (h : 0 < n) : ixN n (-1) = some (n - 1) := by
  unfold ixN
  rw [if_neg (by decide), if_pos (by omega)]
  congr 1
  omega
theorem at_last {ns : List Int} (h : 0 < ns.length) : atI (ns.map V.int) (-1) = some (.int (gi ns ((ns.length : Int) - 1))) := by
  unfold atI
  rw [List.length_map, ixN_last h, Option.bind_some, List.getElem?_map, List.getElem?_eq_getElem (by omega)]
  unfold gi
  rw [List.getD_eq_getElem?_getD, show ((ns.length : Int) - 1).toNat = ns.length - 1 by omega, List.getElem?_eq_getElem (by omega)]
  rfl
theorem handsM_whole : ∀ k, k < 7 → (handsM (2 ^ k - 1)).length = k := by decide +kernel
theorem handsM_pos : ∀ g, g < 64 → 0 < g → 1 ≤ (handsM g).length := by decide +kernel
theorem spread_whole : ∀ k, k < 7 → ∀ q, q < 2 ^ k → spreadM q ((handsM (2 ^ k - 1)).map (2 ^ ·)) = q := by decide +kernel
theorem spread_nought : ∀ g, g < 64 → spreadM 0 ((handsM g).map (2 ^ ·)) = 0 := by decide +kernel
theorem cutM_len (ns : List Int) (g : Nat) : (cutM ns g).length = 2 ^ (handsM g).length := by unfold cutM; rw [List.length_map, List.length_range]
theorem cutM_tab {ns : List Int} {k g : Nat} (tb : Tab ns k) (h0 : 0 < g) (hg : g < ns.length) : Tab (cutM ns g) (handsM g).length := by
  have hp := tb.pos
  have h64 : g < 64 := by omega
  refine ⟨cutM_len _ _, handsM_pos g h64 h0, handsM_len g, gi_zero (by rw [cutM_len]; exact Nat.two_pow_pos _) ?_⟩
  unfold cutM
  rw [gi_map_range (by decide) (by have := Nat.two_pow_pos (handsM g).length; omega), show (0 : Int).toNat = 0 from rfl, spread_nought g h64]
  exact tb.gi0
theorem cutM_whole {ns : List Int} {k : Nat} (tb : Tab ns k) : cutM ns (ns.length - 1) = ns := by
  have e : (handsM (ns.length - 1)).length = k := by rw [tb.len]; exact handsM_whole k (by have := tb.hi; omega)
  refine gi_ext (by rw [cutM_len, e, tb.len]) fun i h0 h1 => ?_
  rw [cutM_len, e] at h1
  unfold cutM
  rw [gi_map_range h0 (by rw [e]; exact h1), tb.len, spread_whole k (by have := tb.hi; omega) i.toNat (by omega), Int.toNat_of_nonneg h0]
def sumSpread (q : Nat) (bs : List Nat) : Nat := (((List.range bs.length).filter fun j => bitOn j q).map fun j => bs.getD j 0).sum
theorem sumSpread_is : ∀ g, g < 64 → ∀ q, q < 2 ^ (handsM g).length → sumSpread q ((handsM g).map (2 ^ ·)) = spreadM q ((handsM g).map (2 ^ ·)) := by decide +kernel
theorem sum_cast (l : List Nat) : (l.map fun n : Nat => (n : Int)).sum = ((l.sum : Nat) : Int) := by
  induction l with
  | nil => rfl
  | cons x r ih => rw [List.map_cons, List.sum_cons, List.sum_cons, ih, Int.natCast_add]
end Sp

/-! Mg: a table with the hands of a group merged into one. -/
namespace Sp
open PySem PySem.Spec L2 PyProof.Rows
def leastM (g : Nat) : Nat := (handsM g).headD 0
def keepP (g h : Nat) : Bool := h == leastM g || !bitOn h g
def keptM (g k : Nat) : List Nat := (List.range k).filter (keepP g)
def blockOf (g h : Nat) : Nat := if h = leastM g then g else 2 ^ h
def blocksM (g k : Nat) : List Nat := (keptM g k).map (blockOf g)
def mergedM (ns : List Int) (g k : Nat) : List Int := (List.range (2 ^ (keptM g k).length)).map fun q => gi ns ((spreadM q (blocksM g k) : Nat) : Int)
def leftP (g k h : Nat) : Bool := decide (2 ^ h < 2 ^ k) && (h == leastM g || !decide (h ∈ handsM g))
def lawW (g q : Nat) (ls : List Nat) : Nat := if bitOn (leastM g) (sumSpread q (ls.map (2 ^ ·))) = true then sumSpread q (ls.map (2 ^ ·)) - 2 ^ leastM g + g else sumSpread q (ls.map (2 ^ ·))
def mgOne (g k q : Nat) : Bool := decide (spreadM q (blocksM g k) < 2 ^ k) && (lawW g q (keptM g k) == spreadM q (blocksM g k)) && (!bitOn (leastM g) (sumSpread q ((keptM g k).map (2 ^ ·))) || decide (2 ^ leastM g ≤ sumSpread q ((keptM g k).map (2 ^ ·)))) && decide (sumSpread q ((keptM g k).map (2 ^ ·)) < 64)
def mgOk (g k : Nat) : Bool := decide (1 ≤ (keptM g k).length) && ((List.range 6).filter (leftP g k) == keptM g k) && (spreadM 0 (blocksM g k) == 0) && (List.range (2 ^ (keptM g k).length)).all (mgOne g k)
theorem mgOk_all : ∀ k, k < 7 → ∀ g, g < 2 ^ k → 0 < g → mgOk g k = true := by decide +kernel
theorem mgF (k : Nat) (hk : k < 7) (g : Nat) (hg : g < 2 ^ k) (h0 : 0 < g) : 1 ≤ (keptM g k).length ∧ (List.range 6).filter (leftP g k) = keptM g k ∧ spreadM 0 (blocksM g k) = 0 ∧
    ∀ q, q < 2 ^ (keptM g k).length → spreadM q (blocksM g k) < 2 ^ k ∧ lawW g q (keptM g k) = spreadM q (blocksM g k) ∧ (bitOn (leastM g) (sumSpread q ((keptM g k).map (2 ^ ·))) = true → 2 ^ leastM g ≤ sumSpread q ((keptM g k).map (2 ^ ·))) ∧ sumSpread q ((keptM g k).map (2 ^ ·)) < 64 := by
  have h := mgOk_all k hk g hg h0
  unfold mgOk at h
  simp only [Bool.and_eq_true, decide_eq_true_eq, beq_iff_eq, List.all_eq_true] at h
  obtain ⟨⟨⟨a, b⟩, c⟩, d⟩ := h
  refine ⟨a, b, c, fun q hq => ?_⟩
  have h2 := d q (List.mem_range.mpr hq)
  unfold mgOne at h2
  simp only [Bool.and_eq_true, decide_eq_true_eq, beq_iff_eq, Bool.or_eq_true, Bool.not_eq_true'] at h2
  obtain ⟨⟨⟨a2, b2⟩, c2⟩, d2⟩ := h2
  refine ⟨a2, b2, fun e => ?_, d2⟩
  rcases c2 with c2 | c2
  · rw [e] at c2; cases c2
  · exact c2
theorem leastF : ∀ g, g < 64 → 0 < g → (handsM g)[0]? = some (leastM g) ∧ leastM g < 6 := by decide +kernel
theorem mgWhole : ∀ k, k < 7 → 1 ≤ k → keptM (2 ^ k - 1) k = [0] ∧ spreadM 0 (blocksM (2 ^ k - 1) k) = 0 ∧ spreadM 1 (blocksM (2 ^ k - 1) k) = 2 ^ k - 1 := by decide +kernel
theorem handsM_all : ∀ k, k < 7 → handsM (2 ^ k - 1) = List.range k := by decide +kernel
theorem keptM_len (g k : Nat) : (keptM g k).length ≤ k := filter_len _ k
theorem blocksM_len (g k : Nat) : (blocksM g k).length = (keptM g k).length := by unfold blocksM; rw [List.length_map]
theorem mergedM_len (ns : List Int) (g k : Nat) : (mergedM ns g k).length = 2 ^ (keptM g k).length := by unfold mergedM; rw [List.length_map, List.length_range]
theorem mergedM_tab {ns : List Int} {k g : Nat} (tb : Tab ns k) (h0 : 0 < g) (hg : g < ns.length) : Tab (mergedM ns g k) (keptM g k).length := by
  have hp := tb.pos
  obtain ⟨f1, _, f3, _⟩ := mgF k (by have := tb.hi; omega) g (by rw [← tb.len]; exact hg) h0
  refine ⟨mergedM_len _ _ _, f1, Nat.le_trans (keptM_len g k) tb.hi, gi_zero (by rw [mergedM_len]; exact Nat.two_pow_pos _) ?_⟩
  unfold mergedM
  rw [gi_map_range (by decide) (by have := Nat.two_pow_pos (keptM g k).length; omega), show (0 : Int).toNat = 0 from rfl, f3]
  exact tb.gi0
theorem mergedM_whole {ns : List Int} {k : Nat} (tb : Tab ns k) : mergedM ns (ns.length - 1) k = [0, gi ns ((ns.length : Int) - 1)] := by
  have hp := tb.pos
  obtain ⟨f1, f2, f3⟩ := mgWhole k (by have := tb.hi; omega) tb.lo
  unfold mergedM
  rw [tb.len, f1, show List.range (2 ^ [0].length) = [0, 1] from rfl]
  show [gi ns _, gi ns _] = _
  rw [f2, f3, show gi ns ((0 : Nat) : Int) = 0 from tb.gi0]
  have h2 : 1 ≤ 2 ^ k := Nat.two_pow_pos k
  congr 3
  omega
theorem bit_int0 {h g : Nat} (hh : h < 6) (hg : g < 64) : decide (Builtin.bitAnd ((g : Int) / 2 ^ ((h : Int)).toNat) 1 = 0) = !bitOn h g := by
  have e := bit_int hh hg
  rw [← e, bitAnd_m1]
  by_cases c : (g : Int) / 2 ^ ((h : Int)).toNat % 2 = 1
  · rw [c]; rfl
  · rw [decide_eq_false c, decide_eq_true (by omega)] <;> rfl
theorem range_at {n i z : Nat} (h : (List.range n)[i]? = some z) : z = i ∧ i < n := by
  obtain ⟨h1, h2⟩ := List.getElem?_eq_some_iff.mp h
  rw [List.length_range] at h1
  rw [List.getElem_range] at h2
  exact ⟨h2.symm, h1⟩
theorem keep_yes {g i : Nat} (h : keepP g i = true) : (((List.range (i + 1)).filter (keepP g)).map (blockOf g)).map vnat = (((List.range i).filter (keepP g)).map (blockOf g)).map vnat ++ [vnat (blockOf g i)] := by
  rw [List.range_succ, List.filter_append, List.map_append, List.map_append, List.filter_cons, if_pos h] <;> rfl
theorem keep_no {g i : Nat} (h : keepP g i = false) : (((List.range (i + 1)).filter (keepP g)).map (blockOf g)).map vnat = (((List.range i).filter (keepP g)).map (blockOf g)).map vnat := by
  rw [List.range_succ, List.filter_append, List.map_append, List.map_append, List.filter_cons, if_neg (by rw [h]; exact Bool.false_ne_true)]
  show _ ++ [] = _
  rw [List.append_nil]
def offOk (m h g : Nat) : Bool := bitOn h g || (decide (g ||| 2 ^ h = g + 2 ^ h) && decide (g + 2 ^ h < 2 ^ m))
theorem off_all : ∀ m, m < 7 → ∀ h, h < m → ∀ g, g < 2 ^ m → offOk m h g = true := by decide +kernel
theorem off_bit {m h g : Nat} (hm : m < 7) (hh : h < m) (hg : g < 2 ^ m) (hb : bitOn h g = false) : g ||| 2 ^ h = g + 2 ^ h ∧ g + 2 ^ h < 2 ^ m := by
  have e := off_all m hm h hh g hg
  unfold offOk at e
  rw [hb, Bool.false_or, Bool.and_eq_true, decide_eq_true_eq, decide_eq_true_eq] at e
  exact e
theorem bits_len : ∀ m, m < 7 → (List.range 6).filter (fun k => decide (2 ^ k < 2 ^ m)) = List.range m := by decide +kernel
theorem rep_flat (m : Nat) : (List.replicate m [V.int 0]).flatten = (List.replicate m (0 : Int)).map V.int := by
  induction m with
  | zero => rfl
  | succ m ih => rw [List.replicate_succ, List.replicate_succ, List.flatten_cons, List.map_cons, ih] <;> rfl
theorem rep_tl {m : Nat} {f : Nat → Int} (h : ∀ i, i < m → f i = 0) : List.replicate m (0 : Int) = tl m f := by
  unfold tl
  apply List.ext_getElem?
  intro i
  rw [List.getElem?_map, List.getElem?_replicate]
  by_cases hi : i < m
  · rw [if_pos hi, List.getElem?_range hi, Option.map_some, h i hi]
  · rw [if_neg hi, List.getElem?_eq_none (by rw [List.length_range]; omega)] <;> rfl
/-- the comprehension over a list of our own -/
theorem cp_listO {K : PySem.W.Frag} {B : Hp} {cs : Cells} {H : Hp} {σ : L2.St} {te : TE} {g : TG} {tt : TT} {vs : List Nat} {QD : Addr → Hp → Prop} {a : Addr} {xs : List V} (F : Nat → List V) (w : Own B cs H) (j : Nat) (hx : cs[j]? = some (a, .lst xs)) (h0 : F 0 = [])
    (hs : ∀ D i x H', xs[i]? = some x → PvC B cs D F i H' → g x (wipe σ vs) H' fun σ2 H2 => wipe σ2 vs = wipe σ vs ∧ tt σ2 H2 fun b H3 =>
      if b = true then te σ2 H3 fun y H4 => ∃ acc, H4 D = some (.lst acc) ∧ acc.length < sizeLine ∧ PvC B cs D F (i + 1) (upd H4 D (.lst (acc ++ [y]))) else PvC B cs D F (i + 1) H3)
    (hq : ∀ D H', Own B ((D, .lst (F xs.length)) :: cs) H' → QD D H') : ∀ D, H D = none → ∃ W : Nat → Nat → Hp → Prop, (∃ m, W 0 m (upd H D (.lst []))) ∧ ∀ i m H, W i m H →
      ((Itl K a).stop i H ∧ QD D H) ∨ ((Itl K a).go i H ∧ ∃ Nx : Hp → Prop, (∀ H', Nx H' → ∃ m', m' < m ∧ W (i + 1) m' H') ∧ ∀ x H', (Itl K a).yld i H x H' → g x (wipe σ vs) H' fun σ2 H2 => wipe σ2 vs = wipe σ vs ∧ tt σ2 H2 fun b H3 =>
        if b = true then te σ2 H3 fun y H4 => ∃ acc, H4 D = some (.lst acc) ∧ acc.length < sizeLine ∧ Nx (upd H4 D (.lst (acc ++ [y]))) else Nx H3) := fun D hD =>
  lc_list (PvC B cs D F) (by unfold PvC; rw [h0]; exact w.new hD) (fun i H' hi p => Own.sq p (j + 1) hx) (fun i x H' hi p => hs D i x H' hi p) (fun H' p => hq D H' p)
theorem cut_to {xs : List V} {i : Nat} : cutV xs none (some (i : Int)) = xs.take i := by
  unfold cutV
  rw [HT.sIx_none, HT.sIx_nat, List.drop_zero, Nat.sub_zero]
  by_cases h : i ≤ xs.length
  · rw [Nat.min_eq_left h]
  · rw [Nat.min_eq_right (by omega), List.take_of_length_le (Nat.le_refl _), List.take_of_length_le (by omega)]
theorem cut_from {xs : List V} {i : Nat} : cutV xs (some (i : Int)) none = xs.drop i := by
  unfold cutV
  rw [HT.sIx_none, HT.sIx_nat, List.take_of_length_le (by rw [List.length_drop]; omega)]
  by_cases h : i ≤ xs.length
  · rw [Nat.min_eq_left h]
  · rw [Nat.min_eq_right (by omega), List.drop_eq_nil_of_le (Nat.le_refl _), List.drop_eq_nil_of_le (by omega)]
/-- x not in a list of whole numbers -/
theorem inV_nat {h : Nat} : ∀ {ns : List Nat}, inV (.int (h : Int)) (ns.map vnat) = decide (h ∈ ns)
  | [] => rfl
  | n :: ns => by
    have ih := inV_nat (h := h) (ns := ns)
    unfold inV at ih ⊢
    rw [List.map_cons, List.any_cons, ih]
    show (((n : Int) == (h : Int)) || decide (h ∈ ns)) = _
    rw [Bool.eq_iff_iff]
    simp only [Bool.or_eq_true, beq_iff_eq, decide_eq_true_eq, List.mem_cons]
    constructor
    · rintro (e | e)
      · exact .inl (by omega)
      · exact .inr e
    · rintro (e | e)
      · exact .inl (by omega)
      · exact .inr e
theorem all_flat_nat : ∀ ns : List Nat, (ns.map vnat).all flatV = true
  | [] => rfl
  | n :: ns => by rw [List.map_cons, List.all_cons, all_flat_nat ns] <;> rfl
theorem x_notInN {K : PySem.W.Frag} {H : Hp} {Q : VK} {p : Addr} {h : Nat} {ns : List Nat} (hS : SqL K H p (ns.map vnat)) (q : Q (.bl (!decide (h ∈ ns))) H) : rIn K true (.int (h : Int)) (.ref p) H Q :=
  ⟨p, _, rfl, .inl hS, rfl, all_flat_nat ns, by rw [inV_nat]; exact q⟩
end Sp

/-! Ord: orders of the hands, and what each hand adds in one. -/
namespace Sp
open PySem PySem.Spec L2 PyProof.Rows
section
variable {K : PySem.W.Frag} {H : Hp} {Q : VK} {σ : L2.St}
theorem x_lstRg1 {ta : TE} (h : ta σ H fun x H1 => ∃ n, x = .int n ∧ RgOk 0 n ∧ ∀ q, H1 q = none → Q (.ref q) (upd H1 q (.lst (rgV 0 n)))) : tLstRg (tRg1 ta) σ H Q := h
theorem rgV_nat (n : Nat) : rgV 0 (n : Int) = (List.range n).map vnat := by
  unfold rgV
  rw [show ((n : Int) - 0).toNat = n by omega]
  exact List.map_congr_left fun i _ => by show V.int _ = V.int _; congr 1; omega
def rLenD : List V → Hp → VK → Prop := fun xs H Q => ∃ a kvs, xs = [V.ref a] ∧ H a = some (.dK kvs) ∧ Q (.int kvs.length) H
theorem call_lenDX {X : Cx} : CallR X (.builtin "len") rLenD := call_lenD
theorem x_lenD {a : Addr} {kvs : List (Key × V)} (h : H a = some (.dK kvs)) (q : Q (.int kvs.length) H) : rLenD [.ref a] H Q := ⟨a, kvs, rfl, h, q⟩
theorem x_dIn {ty td : TE} (h : ty σ H fun y H1 => td σ H1 fun x H2 => ∃ a o, x = .ref a ∧ DGet H2 a y o ∧ Q (.bl o.isSome) H2) : tDIn ty td σ H Q := h
theorem x_dPut {td ty tv : TE} {D : Ends} (h : tv σ H fun v H1 => td σ H1 fun x H2 => ty σ H2 fun y H3 => ∃ a H4, x = .ref a ∧ DPut H3 a y v H4 ∧ D.nx σ H4) : sDPut td ty tv D σ H := h
theorem x_dNew (h : ∀ p, H p = none → Q (.ref p) (upd H p (.dK []))) : tDNewK σ H Q := h
theorem x_popAt {l : Addr} {xs : List V} {i : Int} {k : Nat} {y : V} (hH : H l = some (.lst xs)) (h0 : 0 ≤ i) (h1 : i < xs.length) (hz : xs.length ≤ 1000) (hk : k = i.toNat) (hy : xs[k]? = some y) (q : Q y (upd H l (.lst (xs.eraseIdx k)))) : rPopAt (.ref l) [.int i] H Q := by
  refine ⟨l, xs, i, k, y, rfl, rfl, hH, by omega, by omega, ?_, hy, q⟩
  unfold seqIndex?
  simp only [if_neg (show ¬ i < 0 by omega)]
  rw [decide_eq_true h0, decide_eq_true h1, hk] <;> rfl
theorem x_reverse {l : Addr} {xs : List V} (hH : H l = some (.lst xs)) (q : Q .non (upd H l (.lst xs.reverse))) : rReverse (.ref l) [] H Q := ⟨l, xs, rfl, rfl, hH, q⟩
end
/-- the order's hands, each once, all of them -/
structure Ordr (ns : List Nat) (m : Nat) : Prop where
  nd : ns.Nodup
  lt : ∀ n ∈ ns, n < m
  len : ns.length = m
def orderOk (xs : List V) (m : Nat) : Prop := ∃ ns : List Nat, xs = ns.map vnat ∧ Ordr ns m
theorem erase_map : ∀ (l : List Nat) (j : Nat), (l.map vnat).eraseIdx j = (l.eraseIdx j).map vnat
  | [], _ => rfl
  | _ :: _, 0 => rfl
  | x :: l, j + 1 => by rw [List.map_cons, List.eraseIdx_cons_succ, List.eraseIdx_cons_succ, List.map_cons, erase_map l j]
theorem erase_perm : ∀ {l : List Nat} {j : Nat} (h : j < l.length), (l[j] :: l.eraseIdx j).Perm l
  | x :: l, 0, _ => List.Perm.refl _
  | x :: l, j + 1, h => by
    have h' : j < l.length := by simpa using h
    have ih := erase_perm h'
    rw [List.eraseIdx_cons_succ, List.getElem_cons_succ]
    exact (List.Perm.swap x l[j] (l.eraseIdx j)).trans (ih.cons x)
theorem vnat_inj : ∀ {a b : List Nat}, a.map vnat = b.map vnat → a = b
  | [], [], _ => rfl
  | [], _ :: _, h => by cases h
  | _ :: _, [], h => by cases h
  | x :: a, y :: b, h => by
    rw [List.map_cons, List.map_cons] at h
    have h1 := V.int.inj (List.cons.inj h).1
    rw [vnat_inj (List.cons.inj h).2, show x = y by omega]
def stepO (ms : List Int) (st : Nat × List Int) (n : Nat) : Nat × List Int := (st.1 ||| 2 ^ n, st.2.set n (fn ms (st.1 ||| 2 ^ n) - fn ms st.1))
def orderS (ms : List Int) (m : Nat) (ns : List Nat) : Nat × List Int := ns.foldl (stepO ms) (0, List.replicate m 0)
def orderM (ms : List Int) (m : Nat) (ns : List Nat) : List Int := (orderS ms m ns).2
theorem orderS_snoc (ms : List Int) (m : Nat) (l : List Nat) (n : Nat) : orderS ms m (l ++ [n]) = stepO ms (orderS ms m l) n := by
  unfold orderS
  rw [List.foldl_append] <;> rfl
structure OInv (ms : List Int) (m : Nat) (l : List Nat) : Prop where
  lt : (orderS ms m l).1 < 2 ^ m
  bits : ∀ h, h < 6 → bitOn h (orderS ms m l).1 = decide (h ∈ l)
  len : (orderS ms m l).2.length = m
theorem bit_zero : ∀ h, h < 6 → bitOn h 0 = false := by decide
theorem bit_or6 : ∀ h, h < 6 → ∀ n, n < 6 → ∀ g, g < 64 → bitOn h (g ||| 2 ^ n) = (bitOn h g || h == n) := by decide +kernel
theorem OInv.nil {ms : List Int} {m : Nat} : OInv ms m [] := ⟨Nat.two_pow_pos m, fun h hh => bit_zero h hh, List.length_replicate⟩
theorem OInv.snoc {ms : List Int} {m : Nat} {l : List Nat} {n : Nat} (i : OInv ms m l) (hm : m ≤ 6) (hn : n < m) : OInv ms m (l ++ [n]) := by
  have h2 : 2 ^ n < 2 ^ m := Nat.pow_lt_pow_right (by decide) hn
  have h64 := pow6 hm
  have hl := i.lt
  refine ⟨?_, fun h hh => ?_, ?_⟩
  · rw [orderS_snoc]
    exact Nat.or_lt_two_pow i.lt h2
  · rw [orderS_snoc]
    show bitOn h ((orderS ms m l).1 ||| 2 ^ n) = _
    rw [bit_or6 h hh n (by omega) _ (by omega), i.bits h hh, Bool.eq_iff_iff]
    simp [List.mem_append]
  · rw [orderS_snoc]
    show ((orderS ms m l).2.set n _).length = m
    rw [List.length_set]
    exact i.len
theorem take_snoc {α : Type} {l : List α} {i : Nat} {z : α} (h : l[i]? = some z) : l.take (i + 1) = l.take i ++ [z] := by rw [List.take_add_one, h] <;> rfl
theorem nodup_at {l : List Nat} {i z : Nat} (hn : l.Nodup) (h : l[i]? = some z) : z ∉ l.take i := fun hm => by
  have h1 : (l.take (i + 1)).Nodup := (List.take_sublist _ _).nodup hn
  rw [take_snoc h, List.nodup_append] at h1
  exact h1.2.2 z hm z (List.mem_singleton.mpr rfl) rfl
theorem not_order_len {xs : List V} {m : Nat} (h : xs.length ≠ m) : ¬ orderOk xs m := fun ⟨ns, e, o⟩ => h (by rw [e, List.length_map, o.len])
theorem not_order_at {xs : List V} {m i : Nat} {v : V} (h : xs[i]? = some v) (hv : ∀ n : Nat, n < m → v ≠ vnat n) : ¬ orderOk xs m := fun ⟨ns, e, o⟩ => by
  subst e
  obtain ⟨n, hn, rfl⟩ := map_at h
  exact hv n (o.lt n (List.mem_of_getElem? hn)) rfl
theorem not_order_two {xs : List V} {m i j : Nat} {v : V} (hi : xs[i]? = some v) (hj : xs[j]? = some v) (ne : i ≠ j) : ¬ orderOk xs m := fun ⟨ns, e, o⟩ => by
  subst e
  obtain ⟨n, hn, e1⟩ := map_at hi
  obtain ⟨n', hn', e2⟩ := map_at hj
  have e3 : n = n' := by rw [e1] at e2; have := V.int.inj e2; omega
  subst e3
  obtain ⟨h1, h2⟩ := List.getElem?_eq_some_iff.mp hn
  obtain ⟨h3, h4⟩ := List.getElem?_eq_some_iff.mp hn'
  have pw := List.pairwise_iff_getElem.mp o.nd
  rcases Nat.lt_or_gt_of_ne ne with h | h
  · exact pw i j h1 h3 h (h2.trans h4.symm)
  · exact pw j i h3 h1 h (h4.trans h2.symm)
theorem splice {l : List V} {i : Nat} {v : V} (h : i < l.length) : l.take i ++ [v] ++ l.drop (i + 1) = l.set i v := by
  rw [List.set_eq_take_append_cons_drop, if_pos h, List.append_assoc] <;> rfl
/-- the place ahead of i, or the last one -/
theorem at_ahead {os : List Nat} {i : Nat} (hi : i < os.length) (h2 : 1 < os.length) : ∃ (j : Nat) (hj : j < os.length), j ≠ i ∧ atI (os.map vnat) ((i : Int) - 1) = some (vnat os[j]) := by
  by_cases e : i = 0
  · subst e
    refine ⟨os.length - 1, by omega, by omega, ?_⟩
    unfold atI
    rw [show ((0 : Nat) : Int) - 1 = -1 from rfl, List.length_map, ixN_last (by omega), Option.bind_some, List.getElem?_map, List.getElem?_eq_getElem (by omega)] <;> rfl
  · refine ⟨i - 1, by omega, by omega, ?_⟩
    rw [show (i : Int) - 1 = ((i - 1 : Nat) : Int) by omega]
    exact atI_nat (by rw [List.getElem?_map, List.getElem?_eq_getElem (by omega)] <;> rfl)
/-! ### what has been seen -/
def seenD (l : List Nat) : List (Key × V) := l.map fun n : Nat => ((Sum.inl (n : Int) : Key), V.bl true)
theorem seen_val (l : List Nat) (z : Int) : (valV (seenD l) (Sum.inl z : Key)).isSome = decide (∃ n ∈ l, z = (n : Int)) := by
  induction l with
  | nil => simp [seenD, valV]
  | cons n l ih =>
    unfold seenD at ih ⊢
    rw [List.map_cons]
    by_cases e : (n : Int) = z
    · rw [valV_pos (p := ((Sum.inl (n : Int) : Key), V.bl true)) (by rw [e])]
      rw [Option.isSome_some, decide_eq_true ⟨n, .head _, e.symm⟩]
    · rw [valV_neg (p := ((Sum.inl (n : Int) : Key), V.bl true)) (fun h => e (Sum.inl.inj h)), ih]
      refine decide_eq_decide.mpr ⟨fun ⟨k, h1, h2⟩ => ⟨k, .tail _ h1, h2⟩, fun ⟨k, h1, h2⟩ => ?_⟩
      cases h1 with
      | head => exact absurd h2.symm e
      | tail _ h1 => exact ⟨k, h1, h2⟩
theorem seen_put {l : List Nat} {n : Nat} (h : n ∉ l) : putK (seenD l) (Sum.inl (n : Int)) (V.bl true) = seenD (l ++ [n]) := by
  have hv : (valV (seenD l) (Sum.inl (n : Int) : Key)).isSome = false := by
    rw [seen_val]
    exact decide_eq_false fun ⟨k, h1, h2⟩ => h (by rw [show n = k by omega]; exact h1)
  unfold putK
  rw [valV_any, hv, if_neg Bool.false_ne_true]
  unfold seenD
  rw [List.map_append] <;> rfl
theorem seen_len (l : List Nat) : (seenD l).length = l.length := by unfold seenD; rw [List.length_map]
end Sp

/-! Dp: == of nested data. -/
namespace Sp
open PySem PySem.Spec L2 PyProof.Rows
mutual
theorem eqv_self : ∀ d : PyData, d.canLay0 = true → PyData.eqv d d = true
  | .none, _ => by simp [PyData.eqv]
  | .bool b, _ => by simp [PyData.eqv]
  | .int i, _ => by simp [PyData.eqv]
  | .str x, _ => by simp [PyData.eqv]
  | .list xs, h => by
    rw [PyData.canLay0] at h
    rw [PyData.eqv]
    exact eqvAll_self xs h
  | .tuple xs, h => by
    rw [PyData.canLay0] at h
    rw [PyData.eqv]
    exact eqvAll_self xs h
  | .dict _, h => by rw [PyData.canLay0] at h; cases h
theorem eqvAll_self : ∀ ds : List PyData, PyData.canLayAll0 ds = true → PyData.eqvAll ds ds = true
  | [], _ => by simp [PyData.eqvAll]
  | d :: ds, h => by
    rw [PyData.canLayAll0, Bool.and_eq_true] at h
    rw [PyData.eqvAll, eqv_self d h.1, eqvAll_self ds h.2] <;> rfl
end
/-- laid without dicts, at most k deep -/
structure LayD (k : Nat) (d : PyData) : Prop where
  lay : d.canLay0 = true
  dep : d.depth ≤ k
theorem layAll : ∀ {k : Nat} {ds : List PyData}, (∀ d ∈ ds, LayD k d) → PyData.canLayAll0 ds = true ∧ PyData.depthAll ds ≤ k
  | k, [], _ => ⟨by simp [PyData.canLayAll0], by simp [PyData.depthAll]⟩
  | k, d :: ds, h => by
    have ⟨h1, h2⟩ := layAll fun x hx => h x (.tail _ hx)
    have h0 := h d (.head _)
    exact ⟨by rw [PyData.canLayAll0, h0.lay, h1] <;> rfl, by have := h0.dep; simp only [PyData.depthAll]; omega⟩
theorem LayD.int {k : Nat} (h : 1 ≤ k) (i : Int) : LayD k (.int i) := ⟨by simp [PyData.canLay0], by simp only [PyData.depth]; omega⟩
theorem LayD.bool {k : Nat} (h : 1 ≤ k) (b : Bool) : LayD k (.bool b) := ⟨by simp [PyData.canLay0], by simp only [PyData.depth]; omega⟩
theorem LayD.none {k : Nat} (h : 1 ≤ k) : LayD k .none := ⟨by simp [PyData.canLay0], by simp only [PyData.depth]; omega⟩
theorem LayD.str {k : Nat} (h : 1 ≤ k) {x : Str} (hx : PyData.strOk x = true) : LayD k (.str x) := ⟨by simpa [PyData.canLay0] using hx, by simp only [PyData.depth]; omega⟩
theorem LayD.list {k : Nat} {ds : List PyData} (h : ∀ d ∈ ds, LayD k d) : LayD (k + 1) (.list ds) := by
  have ⟨h1, h2⟩ := layAll h
  exact ⟨by rw [PyData.canLay0]; exact h1, by simp only [PyData.depth]; omega⟩
theorem LayD.tuple {k : Nat} {ds : List PyData} (h : ∀ d ∈ ds, LayD k d) : LayD (k + 1) (.tuple ds) := by
  have ⟨h1, h2⟩ := layAll h
  exact ⟨by rw [PyData.canLay0]; exact h1, by simp only [PyData.depth]; omega⟩
theorem LayD.ints {ns : List Int} : LayD 2 (.list (ns.map PyData.int)) := LayD.list fun d hd => by
  obtain ⟨n, _, rfl⟩ := List.mem_map.mp hd
  exact LayD.int (by decide) n
theorem LayD.shaped {k : Nat} {d : PyData} (h : LayD k d) (hk : k ≤ 64 := by decide) : SeqAt.shaped d = true := by
  unfold SeqAt.shaped
  rw [Bool.and_eq_true]
  exact ⟨h.lay, decide_eq_true (Nat.le_trans h.dep hk)⟩
section
variable {K : PySem.W.Frag} {H : Hp} {Q : VK} {x y : V} {d : PyData} {k : Nat}
theorem x_eqD (h1 : Dp K H x d) (h2 : Dp K H y d) (l : LayD k d) (q : Q (.bl true) H) (hk : k ≤ 64 := by decide) : rEqX K x y H Q :=
  .inr ⟨_, _, h1, h2, l.shaped hk, l.shaped hk, by rw [eqv_self d l.lay]; exact q⟩
theorem x_neD (h1 : Dp K H x d) (h2 : Dp K H y d) (l : LayD k d) (q : Q (.bl false) H) (hk : k ≤ 64 := by decide) : rNeX K x y H Q :=
  .inr ⟨_, _, h1, h2, l.shaped hk, l.shaped hk, by rw [eqv_self d l.lay]; exact q⟩
end
mutual
theorem Dp.same {K : PySem.W.Frag} {H H' : Hp} (s : Same H H') : ∀ (d : PyData) (v : V), Dp K H v d → Dp K H' v d
  | .none, _, h => by cases h; exact .non
  | .bool b, _, h => by cases h; exact .bl b
  | .int i, _, h => by cases h; exact .int i
  | .str x, _, h => by cases h; exact .str x
  | .list ds, _, h => by
    cases h with
    | lst h1 h2 => exact .lst (s.seq h1) (DpAll.same s ds _ h2)
  | .tuple ds, _, h => by
    cases h with
    | tup h1 h2 => exact .tup (same_sqT s h1) (DpAll.same s ds _ h2)
  | .dict _, _, h => by cases h
theorem DpAll.same {K : PySem.W.Frag} {H H' : Hp} (s : Same H H') : ∀ (ds : List PyData) (vs : List V), DpAll K H vs ds → DpAll K H' vs ds
  | [], _, h => by cases h; exact .nil
  | d :: ds, _, h => by
    cases h with
    | cons h1 h2 => exact .cons (Dp.same s d _ h1) (DpAll.same s ds _ h2)
end
theorem DpAll.app {K : PySem.W.Frag} {H : Hp} : ∀ {vs ws : List V} {ds es : List PyData}, DpAll K H vs ds → DpAll K H ws es → DpAll K H (vs ++ ws) (ds ++ es)
  | _, _, _, _, .nil, h => h
  | _, _, _, _, .cons h1 h2, h => .cons h1 (DpAll.app h2 h)
end Sp

/-! Gcd: the greatest divisor, fractions in their shortest words. -/
namespace Sp
open PySem PySem.Spec L2 PyProof.Rows
theorem x_par {i j : Nat} {ta : TA} {D : Ends} {σ : L2.St} {H : Hp} (h : ta σ H fun vs H1 => ∃ v w, vs = [v, w] ∧ D.nx ((σ.set i (some v)).set j (some w)) H1) : tPar i j ta D σ H := h
/-- numbers of at most B bits -/
def Bits (B : Nat) (a b : Int) : Prop := B ≤ 9000 ∧ a.natAbs < 2 ^ B ∧ b.natAbs < 2 ^ B
def gcdI (a b : Int) : Int := ((Int.gcd a b : Nat) : Int)
def shortM (a b : Int) : Int × Int := if 0 < b then (a / gcdI a b, b / gcdI a b) else (0 - a / gcdI a b, 0 - b / gcdI a b)
theorem gcd_step (x y : Nat) : Nat.gcd y (x % y) = Nat.gcd x y := by rw [Nat.gcd_comm y (x % y), ← Nat.gcd_rec, Nat.gcd_comm]
theorem halve {x y k : Nat} (h0 : 0 < y) (hxy : y ≤ x) (h : x * y < 2 ^ k) : y * (x % y) < 2 ^ (k - 1) ∧ 1 ≤ k := by
  have h1 : 1 ≤ x * y := Nat.mul_pos (by omega) h0
  have hk : 1 ≤ k := by
    rcases Nat.eq_zero_or_pos k with e | e
    · subst e; rw [Nat.pow_zero] at h; omega
    · exact e
  refine ⟨?_, hk⟩
  have e : 2 ^ k = 2 * 2 ^ (k - 1) := by rw [← Nat.pow_succ']; congr 1; omega
  have h2 : 2 * (x % y) ≤ x := by
    have := Nat.mod_lt x h0
    have h3 := Nat.div_add_mod x y
    have h4 : 1 ≤ x / y := (Nat.one_le_div_iff h0).mpr hxy
    have h5 : y * 1 ≤ y * (x / y) := Nat.mul_le_mul_left y h4
    omega
  have h6 : 2 * (y * (x % y)) ≤ x * y := by
    rw [← Nat.mul_assoc, Nat.mul_comm 2 y, Nat.mul_assoc, Nat.mul_comm x y]
    exact Nat.mul_le_mul_left y h2
  omega
theorem last2 (l : List Nat) (x y : Nat) : atI ((l ++ [x, y]).map vnat) (-1) = some (vnat y) ∧ atI ((l ++ [x, y]).map vnat) (-2) = some (vnat x) := by
  have hl : ((l ++ [x, y]).map vnat).length = l.length + 2 := by rw [List.length_map, List.length_append] <;> rfl
  constructor
  · unfold atI
    rw [hl, show ixN (l.length + 2) (-1) = some (l.length + 1) by unfold ixN; rw [if_neg (by decide), if_pos (by omega)]; congr 1; omega]
    rw [Option.bind_some, List.getElem?_map, List.getElem?_append_right (by omega), show l.length + 1 - l.length = 1 by omega] <;> rfl
  · unfold atI
    rw [hl, show ixN (l.length + 2) (-2) = some l.length by unfold ixN; rw [if_neg (by decide), if_pos (by omega)]; congr 1; omega]
    rw [Option.bind_some, List.getElem?_map, List.getElem?_append_right (by omega), Nat.sub_self] <;> rfl
theorem abs_nat (a : Int) : (if a < 0 then -a else a) = ((a.natAbs : Nat) : Int) := by
  by_cases h : a < 0
  · rw [if_pos h]; omega
  · rw [if_neg h]; omega
theorem gcd_pos {a b : Int} (h : b ≠ 0) : 0 < Int.gcd a b := Nat.gcd_pos_of_pos_right _ (by omega)
theorem gcd_le {a b : Int} (h : b ≠ 0) : Int.gcd a b ≤ b.natAbs := Nat.gcd_le_right _ (by omega)
theorem gcd_log {a b : Int} {B : Nat} (h : b ≠ 0) (hb : Bits B a b) : (gcdI a b).natAbs.log2 < 9000 := by
  obtain ⟨h1, _, h3⟩ := hb
  have h4 : B ≠ 0 := fun e => by rw [e, Nat.pow_zero] at h3; omega
  have h5 := gcd_le (a := a) h
  unfold gcdI
  rw [Int.natAbs_natCast]
  exact Nat.lt_of_lt_of_le (PySem.Flt.log2_lt_of (by omega) (Nat.lt_of_le_of_lt h5 h3)) h1
/-! ### what the shortest words are -/
theorem gcd_mul_div {a b : Int} (h : b ≠ 0) : gcdI a b * (a / gcdI a b) = a ∧ gcdI a b * (b / gcdI a b) = b := by
  unfold gcdI
  exact ⟨Int.mul_ediv_cancel' (Int.gcd_dvd_left ..), Int.mul_ediv_cancel' (Int.gcd_dvd_right ..)⟩
/-- a fraction in its shortest words -/
structure Frac (p q : Int) : Prop where
  pos : 0 < q
  one : Int.gcd p q = 1
theorem short_gcd {a b : Int} (h : b ≠ 0) : Int.gcd (a / gcdI a b) (b / gcdI a b) = 1 := by
  unfold gcdI
  exact Int.gcd_ediv_gcd_ediv_gcd (gcd_pos h)
theorem short_frac {a b : Int} (h : b ≠ 0) : Frac (shortM a b).1 (shortM a b).2 := by
  have hg : 0 < gcdI a b := by have := gcd_pos (a := a) h; unfold gcdI; omega
  have e := gcd_mul_div (a := a) h
  have h1 := short_gcd (a := a) h
  unfold shortM
  by_cases hb : 0 < b
  · rw [if_pos hb]
    exact ⟨Int.ediv_pos_of_pos_of_dvd hb (by omega) ⟨_, e.2.symm⟩, h1⟩
  · rw [if_neg hb]
    have h2 : 0 < 0 - b / gcdI a b := by
      have h3 : ¬ 0 ≤ b / gcdI a b := fun h4 => by
        have := Int.mul_nonneg (Int.le_of_lt hg) h4
        omega
      omega
    refine ⟨h2, ?_⟩
    rw [Int.zero_sub, Int.zero_sub, Int.gcd_neg, Int.neg_gcd]
    exact h1
theorem short_cross {a b : Int} (h : b ≠ 0) : (shortM a b).1 * b = a * (shortM a b).2 := by
  have e := gcd_mul_div (a := a) h
  unfold shortM
  have key : a / gcdI a b * b = a * (b / gcdI a b) := by
    have e1 : a / gcdI a b * b = a / gcdI a b * (gcdI a b * (b / gcdI a b)) := by rw [e.2]
    have e2 : a * (b / gcdI a b) = gcdI a b * (a / gcdI a b) * (b / gcdI a b) := by rw [e.1]
    rw [e1, e2, ← Int.mul_assoc, Int.mul_comm (a / gcdI a b) (gcdI a b)]
  by_cases hb : 0 < b
  · rw [if_pos hb]; exact key
  · rw [if_neg hb]
    show (0 - a / gcdI a b) * b = a * (0 - b / gcdI a b)
    rw [Int.sub_mul, Int.mul_sub, Int.zero_mul, Int.mul_zero, key]
theorem dvd_coprime {k m n : Int} (h : k ∣ m * n) (g : Int.gcd m k = 1) : k ∣ n := by
  have h1 : k.natAbs ∣ m.natAbs * n.natAbs := by rw [← Int.natAbs_mul]; exact Int.natAbs_dvd_natAbs.mpr h
  have h2 : Nat.Coprime k.natAbs m.natAbs := by rw [Nat.coprime_comm]; exact g
  exact Int.natAbs_dvd_natAbs.mp (h2.dvd_of_dvd_mul_left h1)
/-- only one pair of shortest words -/
theorem frac_unique {p q p' q' : Int} (f : Frac p q) (f' : Frac p' q') (h : p * q' = p' * q) : p = p' ∧ q = q' := by
  have d1 : q ∣ q' := by
    have : q ∣ p * q' := ⟨p', by rw [h, Int.mul_comm]⟩
    exact dvd_coprime this f.one
  have d2 : q' ∣ q := by
    have : q' ∣ p' * q := ⟨p, by rw [← h, Int.mul_comm]⟩
    exact dvd_coprime this f'.one
  have e : q = q' := Int.dvd_antisymm (Int.le_of_lt f.pos) (Int.le_of_lt f'.pos) d1 d2
  subst e
  exact ⟨Int.eq_of_mul_eq_mul_right (by have := f.pos; omega) h, rfl⟩
theorem short_eq {a b c d : Int} (hb : b ≠ 0) (hd : d ≠ 0) (h : a * d = c * b) : shortM a b = shortM c d := by
  have f1 := short_frac (a := a) hb
  have f2 := short_frac (a := c) hd
  have c1 := short_cross (a := a) hb
  have c2 := short_cross (a := c) hd
  have key : (shortM a b).1 * (shortM c d).2 = (shortM c d).1 * (shortM a b).2 := by
    refine Int.eq_of_mul_eq_mul_right (a := b * d) (Int.mul_ne_zero hb hd) ?_
    have l : (shortM a b).1 * (shortM c d).2 * (b * d) = ((shortM a b).1 * b) * ((shortM c d).2 * d) := by ac_rfl
    have r : (shortM c d).1 * (shortM a b).2 * (b * d) = ((shortM c d).1 * d) * ((shortM a b).2 * b) := by ac_rfl
    rw [l, r, c1, c2]
    have l2 : a * (shortM a b).2 * ((shortM c d).2 * d) = (a * d) * ((shortM a b).2 * (shortM c d).2) := by ac_rfl
    have r2 : c * (shortM c d).2 * ((shortM a b).2 * b) = (c * b) * ((shortM a b).2 * (shortM c d).2) := by ac_rfl
    rw [l2, r2, h]
  obtain ⟨e1, e2⟩ := frac_unique f1 f2 key
  exact Prod.ext e1 e2
end Sp

/-! Fra: lists of fractions, as tuples of their own. -/
namespace Sp
open PySem PySem.Spec L2 PyProof.Rows
abbrev frV (f : Int × Int) : List V := [.int f.1, .int f.2]
/-- ts hold the fractions fs -/
inductive FrAll (H : Hp) : List Addr → List (Int × Int) → Prop
  | nil : FrAll H [] []
  | cons {t : Addr} {ts : List Addr} {f : Int × Int} {fs : List (Int × Int)} : H t = some (.tup (frV f)) → FrAll H ts fs → FrAll H (t :: ts) (f :: fs)
theorem FrAll.same {H H' : Hp} (s : Same H H') : ∀ {ts : List Addr} {fs : List (Int × Int)}, FrAll H ts fs → FrAll H' ts fs
  | _, _, .nil => .nil
  | _, _, .cons h r => .cons (s _ _ h) (r.same s)
theorem FrAll.len {H : Hp} : ∀ {ts : List Addr} {fs : List (Int × Int)}, FrAll H ts fs → ts.length = fs.length
  | _, _, .nil => rfl
  | _, _, .cons _ r => by rw [List.length_cons, List.length_cons, r.len]
theorem FrAll.at {H : Hp} : ∀ {ts : List Addr} {fs : List (Int × Int)}, FrAll H ts fs → ∀ {i : Nat} {t : Addr}, ts[i]? = some t → ∃ f, fs[i]? = some f ∧ H t = some (.tup (frV f))
  | _, _, .nil, i, _, h => by rw [List.getElem?_nil] at h; cases h
  | _, _, .cons (f := f) h r, 0, t, e => ⟨f, rfl, by cases e; exact h⟩
  | _, _, .cons h r, i + 1, t, e => r.at (i := i) (by simpa using e)
theorem FrAll.mem {H : Hp} : ∀ {ts : List Addr} {fs : List (Int × Int)}, FrAll H ts fs → ∀ t ∈ ts, ∃ f, H t = some (.tup (frV f))
  | _, _, .cons (f := f) h r, t, m => by
    cases m with
    | head => exact ⟨f, h⟩
    | tail _ m => exact r.mem t m
theorem FrAll.snoc {H : Hp} {t : Addr} {f : Int × Int} (ht : H t = some (.tup (frV f))) : ∀ {ts : List Addr} {fs : List (Int × Int)}, FrAll H ts fs → FrAll H (ts ++ [t]) (fs ++ [f])
  | _, _, .nil => .cons ht .nil
  | _, _, .cons h r => .cons h (r.snoc ht)
theorem FrAll.congr {H H' : Hp} : ∀ {ts : List Addr} {fs : List (Int × Int)}, (∀ t ∈ ts, H' t = H t) → FrAll H ts fs → FrAll H' ts fs
  | _, _, _, .nil => .nil
  | _, _, e, .cons h r => .cons ((e _ (.head _)).trans h) (r.congr fun t m => e t (.tail _ m))
/-- a list of fractions is told -/
def RetFs (fs : List (Int × Int)) (H : Hp) (Q : VK) : Prop := ∀ (p : Addr) (ts : List Addr) (H' : Hp), H p = none → (∀ t ∈ ts, H t = none) → Same H H' → H' p = some (.lst (ts.map V.ref)) → FrAll H' ts fs → Q (.ref p) H'
/-- the tuples join what stands and stays -/
theorem own_newF {B H H' : Hp} {cs : Cells} {p : Addr} {ts : List Addr} {fs : List (Int × Int)} (w : Own B cs H) (np : H p = none) (nt : ∀ t ∈ ts, H t = none) (s : Same H H') (c : H' p = some (.lst (ts.map V.ref))) (f : FrAll H' ts fs) :
    ∃ B2, Same B B2 ∧ FrAll B2 ts fs ∧ Own B2 ((p, .lst (ts.map V.ref)) :: cs) H' := by
  classical
  have hB : ∀ t, H t = none → B t = none := fun t h => w.fresh h
  have npt : p ∉ ts := fun m => by
    obtain ⟨g, hg⟩ := f.mem p m
    rw [c] at hg; cases hg
  refine ⟨fun a => if a ∈ ts then H' a else B a, ?_, ?_, ?_, ?_, ?_⟩
  · intro a o h
    have : a ∉ ts := fun m => by rw [hB a (nt a m)] at h; cases h
    show (if a ∈ ts then H' a else B a) = some o
    rw [if_neg this]; exact h
  · exact f.congr fun t m => by
      show (if t ∈ ts then H' t else B t) = _
      rw [if_pos m]
  · intro a o h
    dsimp only at h
    by_cases m : a ∈ ts
    · rw [if_pos m] at h; exact h
    · rw [if_neg m] at h; exact s _ _ (w.ex _ _ h)
  · intro q hq
    cases hq with
    | head =>
      refine ⟨c, ?_⟩
      show (if p ∈ ts then H' p else B p) = none
      rw [if_neg npt]; exact hB p np
    | tail _ hq =>
      obtain ⟨h1, h2⟩ := w.cell q hq
      refine ⟨s _ _ h1, ?_⟩
      have : q.1 ∉ ts := fun m => by rw [nt _ m] at h1; cases h1
      show (if q.1 ∈ ts then H' q.1 else B q.1) = none
      rw [if_neg this]; exact h2
  · rw [List.map_cons, List.nodup_cons]
    exact ⟨w.off np, w.nd⟩
/-- what stands in a comprehension that makes fractions, one for each item -/
structure OwnF (B : Hp) (cs : Cells) (D : Addr) (fs : List (Int × Int)) (H : Hp) : Prop where
  own : ∃ ts : List Addr, Own B ((D, .lst (ts.map V.ref)) :: cs) H ∧ (∀ t ∈ ts, B t = none ∧ t ∉ cs.map (·.1)) ∧ FrAll H ts fs
theorem OwnF.ext {B : Hp} {cs : Cells} {D : Addr} {fs : List (Int × Int)} {H H' : Hp} (o : OwnF B cs D fs H) (s : Same H H') : OwnF B cs D fs H' := by
  obtain ⟨ts, w, n, f⟩ := o.own
  exact ⟨ts, w.ext s, n, f.same s⟩
theorem OwnF.cell {B : Hp} {cs : Cells} {D : Addr} {fs : List (Int × Int)} {H : Hp} (o : OwnF B cs D fs H) : Own B cs H := by
  obtain ⟨ts, w, _⟩ := o.own
  exact w.pop
theorem OwnF.step {B : Hp} {cs : Cells} {D t : Addr} {fs : List (Int × Int)} {f : Int × Int} {H H' : Hp} (o : OwnF B cs D fs H) (hl : fs.length < 1000000) (nt : H t = none) (s : Same H H') (c : H' t = some (.tup (frV f))) :
    ∃ acc, H' D = some (.lst acc) ∧ acc.length < sizeLine ∧ OwnF B cs D (fs ++ [f]) (upd H' D (.lst (acc ++ [.ref t]))) := by
  obtain ⟨ts, w, n, fr⟩ := o.own
  have w' := w.ext s
  have fr' := fr.same s
  refine ⟨ts.map V.ref, w'.get 0 rfl, by rw [List.length_map, fr.len]; exact Nat.lt_of_lt_of_le hl (by decide), ts ++ [t], ?_, ?_, ?_⟩
  · have w2 := w'.put (o' := .lst (ts.map V.ref ++ [.ref t])) 0 rfl
    rw [List.map_append]
    exact w2
  · intro a m
    rcases List.mem_append.mp m with m | m
    · exact n a m
    · rw [List.mem_singleton] at m
      subst m
      exact ⟨w.fresh nt, w.pop.off nt⟩
  · have hD : ∀ a, (∃ g, H' a = some (.tup (frV g))) → a ≠ D := fun a ⟨g, hg⟩ e => by
      subst e
      rw [w'.get 0 rfl] at hg; cases hg
    refine (fr'.snoc c).congr fun a m => ?_
    have : ∃ g, H' a = some (.tup (frV g)) := by
      rcases List.mem_append.mp m with m | m
      · exact fr'.mem a m
      · rw [List.mem_singleton] at m
        subst m
        exact ⟨f, c⟩
    exact upd_ne (hD a this)
theorem OwnF.start {B H : Hp} {cs : Cells} {D : Addr} (w : Own B cs H) (n : H D = none) : OwnF B cs D [] (upd H D (.lst [])) := ⟨[], w.new n, fun _ h => (nomatch h), .nil⟩
/-- at the end: told, seen from H -/
theorem OwnF.ret {H H' : Hp} {D : Addr} {fs : List (Int × Int)} {Q : VK} (o : OwnF H [] D fs H') (k : RetFs fs H Q) : Q (.ref D) H' := by
  obtain ⟨ts, w, n, f⟩ := o.own
  exact k D ts H' (w.none 0 rfl) (fun t m => (n t m).1) w.ex (w.get 0 rfl) f
theorem OwnF.next {B : Hp} {cs : Cells} {D t : Addr} {fs : List (Int × Int)} {f : Int × Int} {i : Nat} {H H' : Hp} (o : OwnF B cs D (fs.take i) H) (hf : fs[i]? = some f) (hl : fs.length < 1000000) (nt : H t = none) (s : Same H H') (c : H' t = some (.tup (frV f))) :
    ∃ acc, H' D = some (.lst acc) ∧ acc.length < sizeLine ∧ OwnF B cs D (fs.take (i + 1)) (upd H' D (.lst (acc ++ [.ref t]))) := by
  have e : fs.take (i + 1) = fs.take i ++ [f] := by rw [List.take_add_one, hf] <;> rfl
  rw [e]
  exact o.step (by rw [List.length_take]; omega) nt s c
/-- the comprehension over a list of our own, that makes a fraction of each item -/
theorem cp_frO {K : PySem.W.Frag} {B : Hp} {cs : Cells} {H : Hp} {σ : L2.St} {te : TE} {g : TG} {tt : TT} {vs : List Nat} {QD : Addr → Hp → Prop} {a : Addr} {xs : List V} (fs : List (Int × Int)) (w : Own B cs H) (j : Nat) (hx : cs[j]? = some (a, .lst xs)) (hl : xs.length = fs.length)
    (hs : ∀ D i x f H', xs[i]? = some x → fs[i]? = some f → OwnF B cs D (fs.take i) H' → g x (wipe σ vs) H' fun σ2 H2 => wipe σ2 vs = wipe σ vs ∧ tt σ2 H2 fun b H3 =>
      if b = true then te σ2 H3 fun y H4 => ∃ acc, H4 D = some (.lst acc) ∧ acc.length < sizeLine ∧ OwnF B cs D (fs.take (i + 1)) (upd H4 D (.lst (acc ++ [y]))) else OwnF B cs D (fs.take (i + 1)) H3)
    (hq : ∀ D H', OwnF B cs D fs H' → QD D H') : ∀ D, H D = none → ∃ W : Nat → Nat → Hp → Prop, (∃ m, W 0 m (upd H D (.lst []))) ∧ ∀ i m H, W i m H →
      ((Itl K a).stop i H ∧ QD D H) ∨ ((Itl K a).go i H ∧ ∃ Nx : Hp → Prop, (∀ H', Nx H' → ∃ m', m' < m ∧ W (i + 1) m' H') ∧ ∀ x H', (Itl K a).yld i H x H' → g x (wipe σ vs) H' fun σ2 H2 => wipe σ2 vs = wipe σ vs ∧ tt σ2 H2 fun b H3 =>
        if b = true then te σ2 H3 fun y H4 => ∃ acc, H4 D = some (.lst acc) ∧ acc.length < sizeLine ∧ Nx (upd H4 D (.lst (acc ++ [y]))) else Nx H3) := fun D hD =>
  lc_list (fun i H => OwnF B cs D (fs.take i) H) (OwnF.start w hD) (fun i H' hi p => Own.sq p.cell j hx) (fun i x H' hi p => by
    have hlt : i < fs.length := by rw [← hl]; exact (List.getElem?_eq_some_iff.mp hi).1
    exact hs D i x fs[i] H' hi (List.getElem?_eq_getElem hlt) p) (fun H' p => hq D H' (by rw [hl, List.take_length] at p; exact p))
/-! ### their data -/
def frD (fs : List (Int × Int)) : PyData := .list (fs.map fun f => .tuple [.int f.1, .int f.2])
theorem dpAll_fr {K : PySem.W.Frag} {H : Hp} : ∀ {ts : List Addr} {fs : List (Int × Int)}, FrAll H ts fs → DpAll K H (ts.map V.ref) (fs.map fun f => .tuple [.int f.1, .int f.2])
  | _, _, .nil => .nil
  | _, _, .cons h r => .cons (.tup (SqT.of h) (.cons (.int _) (.cons (.int _) .nil))) (dpAll_fr r)
theorem dp_fr {K : PySem.W.Frag} {H : Hp} {p : Addr} {ts : List Addr} {fs : List (Int × Int)} (h : SqL K H p (ts.map V.ref)) (f : FrAll H ts fs) : Dp K H (.ref p) (frD fs) := .lst h (dpAll_fr f)
theorem lay_fr (fs : List (Int × Int)) : LayD 3 (frD fs) := LayD.list fun d hd => by
  obtain ⟨f, _, rfl⟩ := List.mem_map.mp hd
  refine LayD.tuple fun e he => ?_
  simp only [List.mem_cons, List.not_mem_nil, or_false] at he
  rcases he with rfl | rfl
  · exact LayD.int (by decide) _
  · exact LayD.int (by decide) _
end Sp

/-! Frq: what is a fraction, asked of any thing. -/
namespace Sp
open PySem PySem.Spec L2 PyProof.Rows
theorem x_asgT {K : PySem.W.Frag} {te : TE} {n : Nat} {gs : TGs} {D : Ends} {σ : L2.St} {H : Hp} (h : te σ H fun x H1 => gTup K n gs x σ H1 fun σ2 H2 => D.nx σ2 H2) : tAsg te (gTup K n gs) D σ H := h
def isTp (H : Hp) (v : V) : Prop := ∃ a xs, v = .ref a ∧ Rd H a (.tup xs)
theorem x_isiTupN {K : PySem.W.Frag} {H : Hp} {Q : VK} {v : V} (h : Thing H v) (n : ¬ isTp H v) (q : Q (.bl false) H) : rIsi K [v, .ty "tuple"] H Q := by
  cases h with
  | non => exact ⟨_, .ty "tuple", _, _, _, rfl, .ty _, .base .non, kit_ty (by decide +kernel), q⟩
  | bl b => exact ⟨_, .ty "tuple", _, _, _, rfl, .ty _, .base (.bl b), kit_ty (by decide +kernel), q⟩
  | int i => exact ⟨_, .ty "tuple", _, _, _, rfl, .ty _, .base (.int i), kit_ty (by decide +kernel), q⟩
  | str x => exact ⟨_, .ty "tuple", _, _, _, rfl, .ty _, .base (.str x), kit_ty (by decide +kernel), q⟩
  | lst e =>
    rcases e with e | ⟨o, e⟩
    · exact ⟨_, .ty "tuple", _, _, _, rfl, .ty _, .base (.lst e), kit_ty (by decide +kernel), q⟩
    · exact ⟨_, .ty "tuple", _, _, _, rfl, .ty _, .base (.frz e), kit_ty (by decide +kernel), q⟩
  | tup e => exact absurd ⟨_, _, rfl, e⟩ n
  | dic e => exact ⟨_, .ty "tuple", _, _, _, rfl, .ty _, .base (.dK e), kit_ty (by decide +kernel), q⟩
/-- is it a fraction -/
inductive FrT (H : Hp) : V → Bool → Prop
  | no {v : V} (h : Thing H v) (n : ¬ isTp H v) : FrT H v false
  | len {a : Addr} {xs : List V} (h : Rd H a (.tup xs)) (n : xs.length ≠ 2) : FrT H (.ref a) false
  | two {a : Addr} {x y : V} (h : Rd H a (.tup [x, y])) (hx : Thing H x) (hy : Thing H y) (n : isI x = false ∨ isI y = false) : FrT H (.ref a) false
  | num {a : Addr} {p q : Int} {B : Nat} (h : Rd H a (.tup [.int p, .int q])) (hB : Bits B p q) : FrT H (.ref a) (decide (1 ≤ q) && decide (Int.gcd p q = 1))
theorem isTp_same {H H' : Hp} {v : V} (s : Same H H') (h : Thing H v) (n : ¬ isTp H v) : ¬ isTp H' v := fun ⟨a, xs, e, hr⟩ => by
  subst e
  cases h with
  | lst h =>
    have h2 := rd_same s h
    rcases h2 with h2 | ⟨o, h2⟩
    · rcases hr with hr | ⟨o', hr⟩ <;> rw [h2] at hr <;> cases hr
    · rcases hr with hr | ⟨o', hr⟩ <;> rw [h2] at hr <;> cases hr
  | tup h => exact n ⟨a, _, rfl, h⟩
  | dic h =>
    have h2 := s _ _ h
    rcases hr with hr | ⟨o', hr⟩ <;> rw [h2] at hr <;> cases hr
theorem FrT.same {H H' : Hp} {v : V} {b : Bool} (s : Same H H') (h : FrT H v b) : FrT H' v b := by
  cases h with
  | no h n => exact .no (h.same s) (isTp_same s h n)
  | len h n => exact .len (rd_same s h) n
  | two h hx hy n => exact .two (rd_same s h) (hx.same s) (hy.same s) n
  | num h hB => exact .num (rd_same s h) hB
theorem short_bits {a b : Int} {B : Nat} (h : Bits B a b) (h0 : b ≠ 0) : Bits B (shortM a b).1 (shortM a b).2 := by
  obtain ⟨h1, h2, h3⟩ := h
  have hd : ∀ x g : Int, (x / g).natAbs ≤ x.natAbs := fun x g => Int.natAbs_ediv_le_natAbs x g
  have ha := hd a (gcdI a b)
  have hb := hd b (gcdI a b)
  unfold shortM
  by_cases c : 0 < b
  · rw [if_pos c]
    exact ⟨h1, Nat.lt_of_le_of_lt ha h2, Nat.lt_of_le_of_lt hb h3⟩
  · rw [if_neg c]
    refine ⟨h1, ?_, ?_⟩
    · show (0 - a / gcdI a b).natAbs < _
      omega
    · show (0 - b / gcdI a b).natAbs < _
      omega
/-! ### sums and products -/
def plusF (f g : Int × Int) : Int × Int := shortM (f.1 * g.2 + g.1 * f.2) (f.2 * g.2)
theorem low_is {a b : Int} (h1 : 0 < a) (h2 : 0 < b) : ∃ u v : Int, 0 < u ∧ 0 < v ∧ a / gcdI a b * b = a * v ∧ a / gcdI a b * b = b * u ∧ u ≤ a ∧ v ≤ b := by
  obtain ⟨e1, e2⟩ := gcd_mul_div (a := a) (show b ≠ 0 by omega)
  have hg : 0 < gcdI a b := by have := gcd_pos (a := a) (show b ≠ 0 by omega); unfold gcdI; omega
  have hu : 0 < a / gcdI a b := Int.ediv_pos_of_pos_of_dvd h1 (by omega) ⟨_, e1.symm⟩
  have hv : 0 < b / gcdI a b := Int.ediv_pos_of_pos_of_dvd h2 (by omega) ⟨_, e2.symm⟩
  refine ⟨a / gcdI a b, b / gcdI a b, hu, hv, ?_, Int.mul_comm _ _, ?_, ?_⟩
  · have l : a / gcdI a b * b = a / gcdI a b * (gcdI a b * (b / gcdI a b)) := by rw [e2]
    have r : a * (b / gcdI a b) = gcdI a b * (a / gcdI a b) * (b / gcdI a b) := by rw [e1]
    rw [l, r, ← Int.mul_assoc, Int.mul_comm (a / gcdI a b) (gcdI a b)]
  · exact Int.ediv_le_self _ (by omega)
  · exact Int.ediv_le_self _ (by omega)
theorem plus_low {f g : Int × Int} (h1 : 0 < f.2) (h2 : 0 < g.2) :
    shortM (f.2 / gcdI f.2 g.2 * g.2 / f.2 * f.1 + f.2 / gcdI f.2 g.2 * g.2 / g.2 * g.1) (f.2 / gcdI f.2 g.2 * g.2) = plusF f g ∧ f.2 / gcdI f.2 g.2 * g.2 ≠ 0 := by
  obtain ⟨u, v, hu, hv, e1, e2, _, _⟩ := low_is h1 h2
  have hl : 0 < f.2 * v := Int.mul_pos h1 hv
  have d1 : f.2 / gcdI f.2 g.2 * g.2 / f.2 = v := by rw [e1]; exact Int.mul_ediv_cancel_left _ (by omega)
  have d2 : f.2 / gcdI f.2 g.2 * g.2 / g.2 = u := by rw [e2]; exact Int.mul_ediv_cancel_left _ (by omega)
  rw [d1, d2]
  have ne : f.2 / gcdI f.2 g.2 * g.2 ≠ 0 := by rw [e1]; omega
  refine ⟨short_eq ne (Int.mul_ne_zero (by omega) (by omega)) ?_, ne⟩
  rw [Int.add_mul, Int.add_mul]
  congr 1
  · rw [e1]; ac_rfl
  · rw [e2]; ac_rfl
def Fb (B : Nat) (f : Int × Int) : Prop := f.1.natAbs < 2 ^ B ∧ f.2.natAbs < 2 ^ B ∧ 0 < f.2
theorem log_of {z : Int} {B : Nat} (h0 : 0 < z) (h : z.natAbs < 2 ^ B) (hB : B ≤ 9000) : z.natAbs.log2 < 9000 := by
  have h4 : B ≠ 0 := fun e => by rw [e, Nat.pow_zero] at h; omega
  exact Nat.lt_of_lt_of_le (PySem.Flt.log2_lt_of (by omega) h) hB
theorem Fb.pos {B : Nat} {f : Int × Int} (h : Fb B f) : 0 < B := Nat.pos_of_ne_zero fun e => by
  obtain ⟨_, h2, h3⟩ := h
  rw [e, Nat.pow_zero] at h2; omega
theorem mul_lt {a b : Int} {n m : Nat} (ha : a.natAbs < 2 ^ n) (hb : b.natAbs < 2 ^ m) : (a * b).natAbs < 2 ^ (n + m) := by
  rw [Int.natAbs_mul, Nat.pow_add]
  exact Nat.mul_lt_mul'' ha hb
end Sp

/-! Xc: isinstance of the error that an except suite holds, by one class and by a written tuple of classes. -/
namespace Sp
open PySem PySem.Spec L2 PyProof.Rows
/-- isinstance(e, c): the error at a, of the class cls (an own one, without a dict of its own) -/
def rIsEX (K : PySem.W.Frag) (a : Addr) (cls : Value) (d : Option Addr) : List V → Hp → VK → Prop := fun xs H Q =>
  ∃ (D : Addr) (c : V) (cv : Value) (b : Bool), cls = .ref D ∧ d = none ∧ ExcC K D ∧ xs = [.ref a, c] ∧ ClsV c cv ∧ PySem.W.kitOne K (.ref D) cv = some b ∧ Q (.bl b) H
def rIsETX (K : PySem.W.Frag) (a : Addr) (cls : Value) (d : Option Addr) : List V → Hp → VK → Prop := fun xs H Q =>
  ∃ (D tp : Addr) (cs : List V) (us : List Value) (b : Bool), cls = .ref D ∧ d = none ∧ ExcC K D ∧ xs = [.ref a, .ref tp] ∧ H tp = some (.tup cs) ∧ Paired ClsV cs us ∧ PySem.W.kitAny K (.ref D) us = some b ∧ Q (.bl b) H
theorem suite_at {X : Cx} {pins pn : List (Addr × Obj)} {σ : L2.St} {H : Hp} {s : Shared} {a D : Addr} {oe : Obj} (hz : Zc (.ref D) none oe) (hf : ∃ vs, oe.data = .fields vs) (I : Inv (X.suite a ((a, oe) :: pn)) pins σ H s) : PySem.W.InstAt s.heap a oe D none := by
  obtain ⟨hget, _⟩ := I.pin (a, oe) (List.mem_append.mpr (.inl List.mem_cons_self))
  obtain ⟨vs, hv⟩ := hf
  obtain ⟨oc, od, oda, osl⟩ := oe
  obtain ⟨h1, h2⟩ := hz
  dsimp only at h1 h2 hv
  subst h1 h2 hv
  exact ⟨hget, rfl, rfl, trivial⟩
theorem call_isEX {X : Cx} {K : PySem.W.Frag} (hK : X.K = K) {a : Addr} {cls : Value} {d : Option Addr} {oe : Obj} {pn : List (Addr × Obj)} (hz : Zc cls d oe) (hf : ∃ vs, oe.data = .fields vs) :
    CallR (X.suite a ((a, oe) :: pn)) (.builtin "isinstance") (rIsEX K a cls d) := by
  subst hK
  intro pins s σ H xs us Q I r h
  obtain ⟨D, c, cv, b, rfl, rfl, C, rfl, hc, e, q⟩ := h
  obtain ⟨u1, u2, rfl, r1, r2⟩ := vals2 r
  cases (show u1 = Value.ref a from r1)
  have ec := hc.eq r2
  subst ec
  exact PySem.W.kia_one (PySem.W.handS_kitx_exc C.hg C.hk C.hs C.hd C.ha C.hn C.ht C.hm) I.kIn (suite_at hz hf I) e (fun z => nomatch z) fun tk => ⟨.bl b, H, I.kept (t' := tk) fun _ _ z => z, rfl, q⟩
theorem call_isETX {X : Cx} {K : PySem.W.Frag} (hK : X.K = K) {a : Addr} {cls : Value} {d : Option Addr} {oe : Obj} {pn : List (Addr × Obj)} (hz : Zc cls d oe) (hf : ∃ vs, oe.data = .fields vs) :
    CallR (X.suite a ((a, oe) :: pn)) (.builtin "isinstance") (rIsETX K a cls d) := by
  subst hK
  intro pins s σ H xs us Q I r h
  obtain ⟨D, tp, cs, ws, b, rfl, rfl, C, rfl, hT, k, e, q⟩ := h
  obtain ⟨u1, u2, rfl, r1, r2⟩ := vals2 r
  cases (show u1 = Value.ref a from r1)
  cases (show u2 = Value.ref tp from r2)
  obtain ⟨_, its, rv, o, h1, h2, n, h3⟩ := (show ObjOk _ _ H s.heap tp (.tup cs) from I.hok tp _ hT)
  have e3 := ClsV.all k rv
  subst e3
  obtain ⟨oc, od, dt, sl⟩ := o
  simp only at h2 h3
  subst h2 h3
  exact PySem.W.kia_tup (PySem.W.handS_kitx_exc C.hg C.hk C.hs C.hd C.ha C.hn C.ht C.hm) I.kIn (suite_at hz hf I) h1 e (fun z => nomatch z) fun tk => ⟨.bl b, H, I.kept (t' := tk) fun _ _ z => z, rfl, q⟩
/-- what is told of a class that is asked for -/
structure AskC (K : PySem.W.Frag) (C : Addr) : Prop where
  cls : PySem.W.isClsIn K C = true
  ty : PySem.W.typeIn K (.ref C) = some (.type "type")
  self : PySem.W.subIn K (.ref C) (.ref C) = some true
theorem kit_own {K : PySem.W.Frag} {D C : Addr} {b : Bool} (c : AskC K C) (h : PySem.W.subIn K (.ref D) (.ref C) = some b) : PySem.W.kitOne K (.ref D) (.ref C) = some b := by
  unfold PySem.W.kitOne
  by_cases e : D = C
  · subst e
    rw [c.self] at h
    rw [if_pos (by simp), ← h]
  · rw [if_neg (by simpa using e)]
    unfold PySem.W.kitCls
    have h2 : (PySem.W.clsIn K C).isSome = true := c.cls
    simp only [h2, c.ty]
    simpa using h
theorem kit_VE {K : PySem.W.Frag} {D : Addr} {b : Bool} (h : PySem.W.subIn K (.ref D) (.type "ValueError") = some b) : PySem.W.kitOne K (.ref D) (.type "ValueError") = some b := by
  unfold PySem.W.kitOne
  rw [if_neg (by simp)]
  unfold PySem.W.kitCls
  have h2 : PySem.W.kitMeta "ValueError" = true := by decide +kernel
  simp only [h2, if_true]
  exact h
theorem kit_no {K : PySem.W.Frag} {t : Value} {c : Value} {cs : List Value} (h : PySem.W.kitOne K t c = some false) (hr : PySem.W.kitAny K t cs = some false) : PySem.W.kitAny K t (c :: cs) = some false :=
  kitAny_cons h (fun _ => hr) (fun z => nomatch z)
/-- + of two lists that are read, however they stand -/
def rCatK (K : PySem.W.Frag) : R2 := fun x y H Q => ∃ l b xs zs, x = .ref l ∧ y = .ref b ∧ SqL K H l xs ∧ SqL K H b zs ∧ xs.length + zs.length ≤ sizeLine ∧ ∀ p, H p = none → Q (.ref p) (upd H p (.lst (xs ++ zs)))
theorem op_catX {X : Cx} : OpR X (binaryOp .Add) (rCatK X.K) := by
  intro pins s σ H x y v u Q I rx ry h
  obtain ⟨l, b, xs, zs, rfl, rfl, hH, hB, hz, q⟩ := h
  cases rx
  cases ry
  obtain ⟨its, r, ⟨⟨cls, dd, data, sl⟩, n, ho, hc, _, hd⟩, _⟩ := I.list hH
  obtain ⟨its2, r2, ⟨⟨cls2, dd2, data2, sl2⟩, n2, ho2, hc2, _, hd2⟩, _⟩ := I.list hB
  simp only at hc hd hc2 hd2
  subst hc hd hc2 hd2
  have hl := r.length
  have hl2 := r2.length
  have e : its.toArray ++ its2.toArray = (its ++ its2).toArray := by simp
  refine concat_meets ⟨_, ho, rfl⟩ ⟨_, ho2, rfl⟩ noFill_list_add seq_list_add PySem.F.slot_list_add PySem.F.entry_list_add (PySem.F.args_list_add_2 _ _) (list_addW l b its.toArray its2.toArray n n2 dd dd2 sl sl2 (by rw [List.size_toArray, List.size_toArray]; omega)) ⟨ho, ho2, ?_⟩
  rw [e]
  exact ⟨.ref _, _, I.lnew (t' := s.toks) (r.append r2) (by rw [List.length_append]; omega), rfl, q _ I.fresh⟩
theorem op_catK {X : Cx} {K : PySem.W.Frag} (h : X.K = K) : OpR X (binaryOp .Add) (rCatK K) := h ▸ op_catX
theorem x_cat {K : PySem.W.Frag} {H : Hp} {Q : VK} {l b : Addr} {xs zs : List V} (h1 : SqL K H l xs) (h2 : SqL K H b zs) (hz : xs.length + zs.length ≤ sizeLine) (q : ∀ p, H p = none → Q (.ref p) (upd H p (.lst (xs ++ zs)))) : rCatK K (.ref l) (.ref b) H Q := ⟨l, b, xs, zs, rfl, rfl, h1, h2, hz, q⟩
theorem pe_revLK {X : Cx} {K : PySem.W.Frag} (h : X.K = K) {e : Expr} {te : TE} {k : Nat} {p1 p2 p3 pos : Pos} (he : PE X e te) : PE X (.Subscript e (.Slice none none (some (.UnaryOp .USub (.Constant (.int 1) k p1) p2)) p3) pos) (tRevL K te) := h ▸ pe_revL he
theorem x_rev {K : PySem.W.Frag} {te : TE} {σ : L2.St} {H : Hp} {Q : VK} (h : te σ H fun x H1 => ∃ a xs, x = .ref a ∧ SqL K H1 a xs ∧ ∀ p, H1 p = none → Q (.ref p) (upd H1 p (.lst xs.reverse))) : tRevL K te σ H Q := h
section
variable {K : PySem.W.Frag} {H : Hp} {Q : VK} {a D : Addr}
theorem x_callS {sp : Sp} {E : L2.St → XK} {tr : TA} {σ : L2.St} (h : tr σ H fun vs H1 => sp vs H1 Q (E σ)) : tCallS sp E tr σ H Q := h
theorem x_isE {C : Addr} {b : Bool} (e : ExcC K D) (c : AskC K C) (h : PySem.W.subIn K (.ref D) (.ref C) = some b) (q : Q (.bl b) H) : rIsEX K a (.ref D) none [.ref a, .ref C] H Q :=
  ⟨D, _, _, b, rfl, rfl, e, rfl, .own C, kit_own c h, q⟩
theorem x_isEV {b : Bool} (e : ExcC K D) (h : PySem.W.subIn K (.ref D) (.type "ValueError") = some b) (q : Q (.bl b) H) : rIsEX K a (.ref D) none [.ref a, .ty "ValueError"] H Q :=
  ⟨D, _, _, b, rfl, rfl, e, rfl, .ty _, kit_VE h, q⟩
theorem x_isET {tp : Addr} {Cs : List Addr} {b : Bool} (e : ExcC K D) (hT : H tp = some (.tup (Cs.map V.ref))) (h : PySem.W.kitAny K (.ref D) (Cs.map Value.ref) = some b) (q : Q (.bl b) H) : rIsETX K a (.ref D) none [.ref a, .ref tp] H Q :=
  ⟨D, tp, _, _, b, rfl, rfl, e, rfl, hT, (by
    clear hT h q
    induction Cs with
    | nil => exact .nil
    | cons c r ih => exact .cons (.own c) ih), h, q⟩
end
end Sp

/-! Cpe: comprehensions whose items are not told ahead; ranges with a step; xs[::k]. -/
namespace Sp
open PySem PySem.Spec L2 PyProof.Rows
/-- behind i turns: the list at D holds some acc of which G is told; what is made within stands in B2 -/
def PvE (B : Hp) (cs : Cells) (D : Addr) (G : Hp → Nat → List V → Prop) (i : Nat) (H : Hp) : Prop := ∃ B2 acc, Same B B2 ∧ G B2 i acc ∧ Own B2 ((D, .lst acc) :: cs) H
section
variable {K : PySem.W.Frag} {σ : L2.St} {B H : Hp} {cs : Cells} {Q : VK} {te : TE} {g : TG} {tt : TT} {vs : List Nat} {QD : Addr → Hp → Prop} {G : Hp → Nat → List V → Prop}
theorem cpE_fin {D : Addr} {i : Nat} {H4 B2 : Hp} {acc : List V} {y : V} (w : Own B2 ((D, .lst acc) :: cs) H4) (s : Same B B2) (hg : G B2 (i + 1) (acc ++ [y])) (hl : acc.length < 1000000) :
    ∃ acc', H4 D = some (.lst acc') ∧ acc'.length < sizeLine ∧ PvE B cs D G (i + 1) (upd H4 D (.lst (acc' ++ [y]))) :=
  ⟨acc, Own.get w 0 rfl, Nat.lt_of_lt_of_le hl (by decide), B2, acc ++ [y], s, hg, Own.put (o' := .lst (acc ++ [y])) w 0 rfl⟩
theorem cpE_range {lo : Int} {n : Nat} (w : Own B cs H) (h0 : G B 0 [])
    (hs : ∀ D i H' B2 acc, i < n → Same B B2 → G B2 i acc → Own B2 ((D, .lst acc) :: cs) H' → g (.int (lo + i)) (wipe σ vs) H' fun σ2 H2 => wipe σ2 vs = wipe σ vs ∧ tt σ2 H2 fun b H3 =>
      if b = true then te σ2 H3 fun y H4 => ∃ acc', H4 D = some (.lst acc') ∧ acc'.length < sizeLine ∧ PvE B cs D G (i + 1) (upd H4 D (.lst (acc' ++ [y]))) else PvE B cs D G (i + 1) H3)
    (hq : ∀ D H' B2 acc, Same B B2 → G B2 n acc → Own B2 ((D, .lst acc) :: cs) H' → QD D H') : ∀ D, H D = none → ∃ W : Nat → Nat → Hp → Prop, (∃ m, W 0 m (upd H D (.lst []))) ∧ ∀ i m H, W i m H →
      ((Itr lo n).stop i H ∧ QD D H) ∨ ((Itr lo n).go i H ∧ ∃ Nx : Hp → Prop, (∀ H', Nx H' → ∃ m', m' < m ∧ W (i + 1) m' H') ∧ ∀ x H', (Itr lo n).yld i H x H' → g x (wipe σ vs) H' fun σ2 H2 => wipe σ2 vs = wipe σ vs ∧ tt σ2 H2 fun b H3 =>
        if b = true then te σ2 H3 fun y H4 => ∃ acc, H4 D = some (.lst acc) ∧ acc.length < sizeLine ∧ Nx (upd H4 D (.lst (acc ++ [y]))) else Nx H3) := fun D hD =>
  lc_range (PvE B cs D G) ⟨B, [], Same.refl _, h0, w.new hD⟩ (fun i H' hi ⟨B2, acc, s, hg, w2⟩ => hs D i H' B2 acc hi s hg w2) (fun H' ⟨B2, acc, s, hg, w2⟩ => hq D H' B2 acc s hg w2)
theorem cpE_list {a : Addr} {xs : List V} (w : Own B cs H) (hx : SqL K B a xs) (h0 : G B 0 [])
    (hs : ∀ D i x H' B2 acc, xs[i]? = some x → Same B B2 → G B2 i acc → Own B2 ((D, .lst acc) :: cs) H' → g x (wipe σ vs) H' fun σ2 H2 => wipe σ2 vs = wipe σ vs ∧ tt σ2 H2 fun b H3 =>
      if b = true then te σ2 H3 fun y H4 => ∃ acc', H4 D = some (.lst acc') ∧ acc'.length < sizeLine ∧ PvE B cs D G (i + 1) (upd H4 D (.lst (acc' ++ [y]))) else PvE B cs D G (i + 1) H3)
    (hq : ∀ D H' B2 acc, Same B B2 → G B2 xs.length acc → Own B2 ((D, .lst acc) :: cs) H' → QD D H') : ∀ D, H D = none → ∃ W : Nat → Nat → Hp → Prop, (∃ m, W 0 m (upd H D (.lst []))) ∧ ∀ i m H, W i m H →
      ((Itl K a).stop i H ∧ QD D H) ∨ ((Itl K a).go i H ∧ ∃ Nx : Hp → Prop, (∀ H', Nx H' → ∃ m', m' < m ∧ W (i + 1) m' H') ∧ ∀ x H', (Itl K a).yld i H x H' → g x (wipe σ vs) H' fun σ2 H2 => wipe σ2 vs = wipe σ vs ∧ tt σ2 H2 fun b H3 =>
        if b = true then te σ2 H3 fun y H4 => ∃ acc, H4 D = some (.lst acc) ∧ acc.length < sizeLine ∧ Nx (upd H4 D (.lst (acc ++ [y]))) else Nx H3) := fun D hD =>
  lc_list (PvE B cs D G) ⟨B, [], Same.refl _, h0, w.new hD⟩ (fun i H' hi ⟨B2, acc, s, hg, w2⟩ => w2.seq (s.seq hx)) (fun i x H' hx ⟨B2, acc, s, hg, w2⟩ => hs D i x H' B2 acc hx s hg w2) (fun H' ⟨B2, acc, s, hg, w2⟩ => hq D H' B2 acc s hg w2)
end
/-! ### ranges with a step -/
theorem x_iR3 {σ : L2.St} {H : Hp} {R : It → Hp → Prop} {tr : TA} (h : tr σ H fun vs H1 => ∃ (i j c : Int) (n : Nat), vs = [.int i, .int j, .int c] ∧ RgC i j c n ∧ R (Itc i c n) H1) : iRng3 tr σ H R := h
theorem rgc_up {i j c : Int} (hc : 0 < c) (hc2 : c < 1000) (hi : 0 ≤ i) (hi2 : i < 1000000) (hj : 0 ≤ j) (hj2 : j < 1000000) : RgC i j c (if i < j then (j - i - 1) / c + 1 else 0).toNat := by
  have hb : 0 ≤ (if i < j then (j - i - 1) / c + 1 else 0) ∧ (if i < j then (j - i - 1) / c + 1 else 0) ≤ 1000000 := by
    by_cases h : i < j
    · rw [if_pos h]
      have h1 := Int.ediv_nonneg (a := j - i - 1) (b := c) (by omega) (by omega)
      have h2 := Int.ediv_le_self (a := j - i - 1) c (by omega)
      omega
    · rw [if_neg h]; omega
  have e : Builtin.Range.rangeSize i j c = (if i < j then (j - i - 1) / c + 1 else 0) := by
    unfold Builtin.Range.rangeSize
    rw [if_pos (show c > 0 by omega)]
  refine ⟨by omega, by omega, ?_, by rw [e]; omega⟩
  unfold Builtin.Range.small
  rw [e]
  simp only [Builtin.Range.rangeFitsLong, Bool.and_eq_true, Bool.or_eq_true, decide_eq_true_eq, beq_iff_eq]
  generalize (if i < j then (j - i - 1) / c + 1 else 0) = z at hb ⊢
  refine ⟨by omega, .inr ?_⟩
  rw [if_pos (by omega), Bool.and_eq_true, decide_eq_true_eq, decide_eq_true_eq]
  omega
theorem rgc_in {i j c : Int} {k : Nat} (hc : 0 < c) (h : k < (if i < j then (j - i - 1) / c + 1 else 0).toNat) : i + (k : Int) * c < j := by
  by_cases hij : i < j
  · rw [if_pos hij] at h
    have h1 : (k : Int) ≤ (j - i - 1) / c := by omega
    have h2 : (k : Int) * c ≤ j - i - 1 := (Int.le_ediv_iff_mul_le hc).mp h1
    omega
  · rw [if_neg hij] at h; simp at h
/-! ### xs[::k] -/
def everyK (xs : List V) (k : Nat) : List V := (List.range ((xs.length + k - 1) / k)).filterMap fun i => xs[k * i]?
def tEvL (K : PySem.W.Frag) (k : Nat) (te : TE) : TE := fun σ H Q => te σ H fun x H1 => ∃ a xs, x = .ref a ∧ SqL K H1 a xs ∧ ∀ p, H1 p = none → Q (.ref p) (upd H1 p (.lst (everyK xs k)))
theorem x_ev {K : PySem.W.Frag} {k : Nat} {te : TE} {σ : L2.St} {H : Hp} {Q : VK} (h : te σ H fun x H1 => ∃ a xs, x = .ref a ∧ SqL K H1 a xs ∧ ∀ p, H1 p = none → Q (.ref p) (upd H1 p (.lst (everyK xs k)))) : tEvL K k te σ H Q := h
theorem vals_pick {xs : List V} {its : List Value} (r : Vals xs its) : ∀ ids : List Nat, Vals (ids.filterMap (xs[·]?)) (ids.filterMap (its[·]?))
  | [] => .nil
  | i :: ids => by
    have ih := vals_pick r ids
    rw [List.filterMap_cons, List.filterMap_cons]
    cases e : xs[i]? with
    | none =>
      have : its[i]? = none := by
        rw [List.getElem?_eq_none_iff] at e ⊢
        have := r.length
        omega
      rw [this]; exact ih
    | some x =>
      obtain ⟨u, hu, ru⟩ := r.get e
      rw [hu]
      exact .cons ru ih
theorem pick_every {its : List Value} {k : Nat} (hk : 0 < k) : slicePick its.toArray none none (some (k : Int)) = ((List.range ((its.length + k - 1) / k)).map (k * ·) |>.filterMap (its[·]?)).toArray := by
  have hk' : (k : Int) > 0 := by omega
  unfold slicePick sliceBounds
  simp only [Option.getD_some, if_pos hk', List.size_toArray, List.getElem?_toArray]
  congr 2
  unfold sliceRange
  simp only [if_pos hk']
  have e : (if (0 : Int) < (its.length : Int) then ((its.length : Int) - 0 + (k : Int) - 1) / (k : Int) else 0).toNat = (its.length + k - 1) / k := by
    by_cases h : 0 < its.length
    · rw [if_pos (by omega)]
      have : (its.length : Int) - 0 + (k : Int) - 1 = ((its.length + k - 1 : Nat) : Int) := by omega
      rw [this, ← Int.natCast_ediv, Int.toNat_natCast]
    · have : its.length = 0 := by omega
      rw [this, if_neg (by decide)]
      show 0 = (0 + k - 1) / k
      rw [Nat.div_eq_of_lt (by omega)]
  rw [e]
  exact List.map_congr_left fun i _ => by
    rw [Int.zero_add, ← Int.natCast_mul, Int.toNat_natCast]
theorem pe_evLK {X : Cx} {K : PySem.W.Frag} (hK : X.K = K) {e : Expr} {te : TE} {k : Nat} {j : Nat} {p1 p3 pos : Pos} (hk : 0 < k) (he : PE X e te) : PE X (.Subscript e (.Slice none none (some (.Constant (.int (k : Int)) j p1)) p3) pos) (tEvL K k te) := by
  subst hK
  constructor
  intro pins s σ H Q I h
  refine Subscript_ (thn (he.run pins s σ H _ I h) ?_)
  rintro v s1 ⟨x, H1, I1, r1, a, xs, rfl, hx, q⟩
  cases r1
  have stp : PO X (some (.Constant (.int (k : Int)) j p1)) (tPart (tC (.int (k : Int)))) := po_some pe_int
  refine wpAny_Slice (thn (po_none.run pins s1 σ H1 (fun o H2 => o = none ∧ H2 = H1) I1 ⟨rfl, rfl⟩) ?_)
  rintro vl s2 ⟨l, H2, I2, pl, rfl, rfl⟩
  refine thn (po_none.run pins s2 σ H2 (fun o H3 => o = none ∧ H3 = H2) I2 ⟨rfl, rfl⟩) ?_
  rintro vu s3 ⟨u, H3, I3, pu, rfl, rfl⟩
  refine thn (stp.run pins s3 σ H3 (fun o H4 => o = some (k : Int) ∧ H4 = H3) I3 ⟨(k : Int), rfl, rfl, rfl⟩) ?_
  rintro vs s4 ⟨o, H4, I4, ps, rfl, rfl⟩
  have I5 : Inv X pins σ H4 { s4 with heap := s4.heap.push { cls := .type "slice", data := .fields #[vl, vu, vs] } } := I4.kept (t' := s4.toks) fun b ob q => Heap.get?_push_of_some _ q
  obtain ⟨its, r, ht, hz⟩ := I5.list hx
  have hlen := r.length
  refine (show wpAny (model X.prog X.w) X.A (subscriptTail e (.Slice none none (some (.Constant (.int (k : Int)) j p1)) p3) (.ref a) (.ref s4.heap.objs.size)) (EP X pins σ Q) X.xe { s4 with heap := s4.heap.push { cls := .type "slice", data := .fields #[vl, vu, vs] } } from ?_)
  refine tail_any (ops := [.ref a, .ref s4.heap.objs.size]) ht.isList.typeIs (PySem.slot_list_getitem.lookup) ?_ (by with_unfolding_all rfl)
  refine wpAny_getItem_list_slice ht.isList (Heap.IsSliceOf.new _ vl vu vs) pl pu ps (fun z => by have := Option.some.inj z; omega) ?_ (by rw [List.size_toArray]; omega)
  rw [pick_every hk]
  have hv : Vals (everyK xs k) ((List.range ((its.length + k - 1) / k)).map (k * ·) |>.filterMap (its[·]?)) := by
    have := vals_pick r ((List.range ((its.length + k - 1) / k)).map (k * ·))
    unfold everyK
    rw [List.filterMap_map] at this
    rw [hlen]
    exact this
  have hle : (everyK xs k).length ≤ sizeLine := by
    have h1 : (everyK xs k).length ≤ (xs.length + k - 1) / k := by
      unfold everyK
      have := List.length_filterMap_le (fun i => xs[k * i]?) (List.range ((xs.length + k - 1) / k))
      rw [List.length_range] at this
      exact this
    have h2 : (xs.length + k - 1) / k ≤ xs.length := by
      by_cases h0 : xs.length = 0
      · rw [h0, Nat.zero_add, Nat.div_eq_of_lt (by omega)]; omega
      · refine Nat.div_le_of_le_mul ?_
        have : xs.length * 1 + k * 1 ≤ k * xs.length + 1 := by
          have e1 : xs.length = (xs.length - 1) + 1 := by omega
          have e2 : k * xs.length = k * (xs.length - 1) + k := by conv => lhs; rw [e1, Nat.mul_add, Nat.mul_one]
          have e3 : (xs.length - 1) ≤ k * (xs.length - 1) := Nat.le_mul_of_pos_left _ hk
          omega
        omega
    omega
  refine ⟨.ref _, _, I5.laid (t' := s4.toks) (o := .lst (everyK xs k)) (fun b ob q => Heap.get?_push_of_some _ q) (Nat.le_refl _) ?_, rfl, q _ (I5.hok.fresh (Nat.le_refl _))⟩
  exact ⟨hle, _, 0, hv, Heap.get?_push_size _ rfl⟩
end Sp

/-! Elt: things whose data is plain, lists of such. -/
namespace Sp
open PySem PySem.Spec L2 PyProof.Rows
theorem strOk_of (s : String) : PyData.strOk (Str.ofString s) = true := by
  unfold PyData.strOk
  rw [Str.ofString_eq_toList]
  simp only [List.all_toArray, List.all_map, List.all_eq_true, Function.comp_apply, decide_eq_true_eq]
  intro c _
  have h := c.valid
  simp only [UInt32.isValidChar, Nat.isValidChar] at h
  have e : c.toNat = c.val.toNat := rfl
  omega
/-- things whose data is plain -/
inductive Elt (K : PySem.W.Frag) (H : Hp) : V → PyData → Prop
  | non : Elt K H .non .none
  | bl (b : Bool) : Elt K H (.bl b) (.bool b)
  | int (i : Int) : Elt K H (.int i) (.int i)
  | str (x : Str) (h : PyData.strOk x = true) : Elt K H (.str x) (.str x)
  | lst {a : Addr} {ns : List Int} (e : Rd H a (.lst (ns.map V.int))) : Elt K H (.ref a) (.list (ns.map PyData.int))
  | tup {a : Addr} {ns : List Int} (e : H a = some (.tup (ns.map V.int))) : Elt K H (.ref a) (.tuple (ns.map PyData.int))
theorem Elt.same {K : PySem.W.Frag} {H H' : Hp} {v : V} {d : PyData} (s : Same H H') (h : Elt K H v d) : Elt K H' v d := by
  cases h with
  | non => exact .non
  | bl b => exact .bl b
  | int i => exact .int i
  | str x h => exact .str x h
  | lst e => exact .lst (rd_same s e)
  | tup e => exact .tup (s _ _ e)
theorem Elt.thing {K : PySem.W.Frag} {H : Hp} {v : V} {d : PyData} (h : Elt K H v d) : Thing H v := by
  cases h with
  | non => exact .non
  | bl b => exact .bl b
  | int i => exact .int i
  | str x h => exact .str x
  | lst e => exact .lst e
  | tup e => exact .tup (.inl e)
theorem Elt.dp {K : PySem.W.Frag} {H : Hp} {v : V} {d : PyData} (h : Elt K H v d) : Dp K H v d ∧ LayD 2 d := by
  cases h with
  | non => exact ⟨.non, LayD.none (by decide)⟩
  | bl b => exact ⟨.bl b, LayD.bool (by decide) b⟩
  | int i => exact ⟨.int i, LayD.int (by decide) i⟩
  | str x h => exact ⟨.str x, LayD.str (by decide) h⟩
  | lst e => exact ⟨dp_ints (.inl e), LayD.ints⟩
  | tup e =>
    refine ⟨.tup (SqT.of e) (dpAll_ints _), LayD.tuple fun d hd => ?_⟩
    obtain ⟨n, _, rfl⟩ := List.mem_map.mp hd
    exact LayD.int (by decide) n
def Elts (K : PySem.W.Frag) (H : Hp) (xs : List V) : Prop := ∀ v ∈ xs, ∃ d, Elt K H v d
theorem Elts.dp {K : PySem.W.Frag} {H : Hp} : ∀ {xs : List V}, Elts K H xs → ∃ ds, DpAll K H xs ds ∧ ∀ d ∈ ds, LayD 2 d
  | [], _ => ⟨[], .nil, fun _ h => nomatch h⟩
  | x :: xs, h => by
    obtain ⟨d, hd⟩ := h x (.head _)
    obtain ⟨ds, h1, h2⟩ := Elts.dp fun v hv => h v (.tail _ hv)
    exact ⟨d :: ds, .cons hd.dp.1 h1, fun e he => by
      cases he with
      | head => exact hd.dp.2
      | tail _ he => exact h2 e he⟩
theorem Elts.same {K : PySem.W.Frag} {H H' : Hp} {xs : List V} (s : Same H H') (h : Elts K H xs) : Elts K H' xs := fun v hv => (h v hv).imp fun _ z => z.same s
theorem Elts.thing {K : PySem.W.Frag} {H : Hp} {xs : List V} (h : Elts K H xs) : ∀ v ∈ xs, Thing H v := fun v hv => by
  obtain ⟨d, e⟩ := h v hv
  exact e.thing
theorem elts_nat {K : PySem.W.Frag} {H : Hp} {ns : List Nat} : Elts K H (ns.map vnat) := fun v hv => by
  obtain ⟨n, _, rfl⟩ := List.mem_map.mp hv
  exact ⟨_, .int _⟩
theorem elts_int {K : PySem.W.Frag} {H : Hp} {ns : List Int} : Elts K H (ns.map V.int) := fun v hv => by
  obtain ⟨n, _, rfl⟩ := List.mem_map.mp hv
  exact ⟨_, .int _⟩
theorem Elts.app {K : PySem.W.Frag} {H : Hp} {xs ys : List V} (h1 : Elts K H xs) (h2 : Elts K H ys) : Elts K H (xs ++ ys) := fun v hv => by
  rcases List.mem_append.mp hv with h | h
  · exact h1 v h
  · exact h2 v h
theorem Elts.one {K : PySem.W.Frag} {H : Hp} {v : V} {d : PyData} (h : Elt K H v d) : Elts K H [v] := fun w hw => by
  rw [List.mem_singleton] at hw
  subst hw
  exact ⟨d, h⟩
theorem Elts.take {K : PySem.W.Frag} {H : Hp} {xs : List V} (h : Elts K H xs) (n : Nat) : Elts K H (xs.take n) := fun v hv => h v (List.mem_of_mem_take hv)
theorem Elts.drop {K : PySem.W.Frag} {H : Hp} {xs : List V} (h : Elts K H xs) (n : Nat) : Elts K H (xs.drop n) := fun v hv => h v (List.mem_of_mem_drop hv)
/-- the list holds a thing that is no number; its length is that of no table; nobody's number is not nought -/
theorem look_odd {xs : List V} {v : V} (hv : v ∈ xs) (h : isI v = false) : lookM xs = none := by
  unfold lookM
  rw [if_neg]
  rintro ⟨_, h2, _⟩
  rw [List.all_eq_true.mp h2 v hv] at h
  cases h
theorem look_len {xs : List V} (h : ∀ k, 1 ≤ k → k ≤ 6 → xs.length ≠ 2 ^ k) : lookM xs = none := by
  unfold lookM
  rw [if_neg]
  rintro ⟨h1, _, _⟩
  have := manyOf_lo xs.length
  exact h _ this.1 this.2 h1
theorem look_first {xs : List V} {z : Int} (h : xs[0]? = some (.int z)) (hz : z ≠ 0) : lookM xs = none := by
  unfold lookM
  rw [if_neg]
  rintro ⟨_, _, h3⟩
  rw [h] at h3
  exact hz (V.int.inj (Option.some.inj h3))
theorem cut_m1 {xs : List V} : cutV xs none (some (-1)) = xs.take (xs.length - 1) := by
  unfold cutV
  have e : HT.sIx xs.length xs.length (some (-1)) = xs.length - 1 := by
    show (if (-1 : Int) < 0 then ((-1 : Int) + (xs.length : Int)).toNat else min (-1 : Int).toNat xs.length) = _
    rw [if_pos (by decide)]
    omega
  rw [HT.sIx_none, e, List.drop_zero, Nat.sub_zero]
theorem x_slL {K : PySem.W.Frag} {H : Hp} {Q : VK} {a : Addr} {xs : List V} {lo hi : Option Int} (h : SqL K H a xs) (q : ∀ p, H p = none → Q (.ref p) (upd H p (.lst (cutV xs lo hi)))) : rSlL K (.ref a) lo hi H Q := ⟨a, xs, rfl, h, q⟩
end Sp

/-! Cls: objects of own classes: one call for several classes, a base's __init__ by its name, methods called in a try, isinstance of an instance. -/
namespace Sp
open PySem PySem.Spec L2 PyProof.Rows
/-- either reading will do -/
def tOr2 (t u : TE) : TE := fun σ H Q => t σ H Q ∨ u σ H Q
theorem pe_or2 {X : Cx} {e : Expr} {t u : TE} (h1 : PE X e t) (h2 : PE X e u) : PE X e (tOr2 t u) := ⟨fun pins s σ H Q I h => h.elim (h1.run pins s σ H Q I) (h2.run pins s σ H Q I)⟩
/-- what the class at C gives under a name, read off the class -/
structure BaseC (K : PySem.W.Frag) (C : Addr) (m : Str) (f : Addr) : Prop where
  ga : PySem.W.specialIn K (.ref C) "__getattribute__" = some (some (.builtin "type.__getattribute__"))
  rd : PySem.W.readsIn K C (.type "type") = true
  fd : PySem.W.findCls K (.ref C) (.type "type") m = some (.val (.ref f))
  kp : PySem.W.keepIn K (.ref f) = true
def tBase (C : Addr) (sp : L2.Sp) (E : XK) (to : TE) (t : TA) : TE := fun σ H Q => to σ H fun x H1 => x = .ref C ∧ t σ H1 fun vs H2 => sp vs H2 Q E
section
variable {X : Cx} {CX : CXT} {k : Nat} {f C : Addr} {fd : FuncData} {ps : List Str} {sp : L2.Sp} {E : XK} {x m : Str} {p pos apos : Pos} {e o : Expr} {es : List Expr} {ta : TE} {t : TA}
theorem pe_base {pl : Sem Bool} (he : PE X o ta) (b : BaseC X.K C m f) (F : FnOk X.prog X.w X.K X.mg X.base CX k f fd ps sp) (hr : Room k X.A) (hb : Binds X.K fd ps []) (hx : Passes CX X E) (ha : PA X (e :: es) t)
    (hst : starEach (e :: es) X.env = (false, eval e X.env) :: starEach es X.env := by rfl) (hpl : (backTo pos (starEach es X.env)).any (·.1) = false := by rfl)
    (ht : eval (.Call (.Attribute o m apos) (e :: es) [] pos) X.env = (do
      let ov ← eval o X.env
      standAt apos.atName
      let (f, first) ← holding [ov] (getMethod ov m pl)
      callWith pos f first (backTo pos (starEach (e :: es) X.env)) (backToKw pos (keywordEach [] X.env))) := by rfl) :
    PE X (.Call (.Attribute o m apos) (e :: es) [] pos) (tBase C sp E ta t) := by
  constructor
  intro pins s σ H Q I h
  refine PySem.W.methodCall_KW (pl := pl) (thn (he.run pins s σ H _ I h) ?_) ht
  rintro u s1 ⟨v, H1, I1, rx, rfl, q⟩
  obtain rfl : u = Value.ref C := rx
  refine PySem.W.method_cls I1.kIn b.ga (PySem.W.cls_value I1.kIn b.rd b.fd rfl ?_)
  have I2 := I1.tok (s1.toks + 1)
  refine PySem.W.callWith_K (first := []) (h₀ := X.base) I.ok.mod.kin b.kp (thn (ha.run pos pins _ σ H1 _ I2 q) ?_) hst hpl
  rintro us s2 ⟨vs, H2, I3, r, q2⟩
  refine ⟨I3.kIn, ?_⟩
  exact run_fn F hr hb .nil hx I3 r (by rw [List.append_nil]; exact q2)
/-- o.m(..) in a try: what is raised is wished for at the caller's slots -/
def tMethS (C : Addr) (m : Str) (sp : L2.Sp) (E : L2.St → XK) (ta : TE) (t : TA) : TE := fun σ H Q => ta σ H fun x H1 => ∃ a dx fs, x = .ref a ∧ H1 a = some (.ins C dx fs) ∧ fs.lookup m = none ∧ t σ H1 fun vs H2 => sp (x :: vs) H2 Q (E σ)
theorem pe_methS {pl : Sem Bool} {E : L2.St → XK} (he : PE X o ta) (c : Cls X.K C) (hm : Meth X.K C m f) (F : FnOk X.prog X.w X.K X.mg X.base CX k f fd ps sp) (hr : Room k X.A) (hb : Binds X.K fd ps []) (hx : ∀ σ, PassesAt CX X σ (E σ)) (ha : PA X (e :: es) t)
    (hst : starEach (e :: es) X.env = (false, eval e X.env) :: starEach es X.env := by rfl) (hpl : (backTo pos (starEach es X.env)).any (·.1) = false := by rfl)
    (ht : eval (.Call (.Attribute o m apos) (e :: es) [] pos) X.env = (do
      let ov ← eval o X.env
      standAt apos.atName
      let (f, first) ← holding [ov] (getMethod ov m pl)
      callWith pos f first (backTo pos (starEach (e :: es) X.env)) (backToKw pos (keywordEach [] X.env))) := by rfl) :
    PE X (.Call (.Attribute o m apos) (e :: es) [] pos) (tMethS C m sp E ta t) := by
  constructor
  intro pins s σ H Q I h
  refine PySem.W.methodCall_KW (pl := pl) (thn (he.run pins s σ H _ I h) ?_) ht
  rintro u s1 ⟨v, H1, I1, rx, a, dx, fs, rfl, ea, l, q⟩
  obtain rfl : u = Value.ref a := rx
  refine getmeth_ok I1 ea c hm l ?_
  refine PySem.W.callWith_K (first := [.ref a]) (h₀ := X.base) I.ok.mod.kin hm.kp (thn (ha.run pos pins s1 σ H1 _ I1 q) ?_) hst hpl
  rintro us s2 ⟨vs, H2, I2, r, q2⟩
  refine ⟨I2.kIn, ?_⟩
  exact run_fnS (us := .ref a :: us) (vs := .ref a :: vs) F hr hb (hx σ) I2 (.cons rfl r) q2
end
/-! ### readings -/
section
variable {K : PySem.W.Frag} {σ : L2.St} {H : Hp} {Q : VK} {D : Ends} {t u ta to : TE} {tr : TA} {C : Addr} {m f : Str} {sp : L2.Sp} {E : XK} {dvs : List V}
theorem x_o1 (h : t σ H Q) : tOr2 t u σ H Q := .inl h
theorem x_o2 (h : u σ H Q) : tOr2 t u σ H Q := .inr h
theorem x_meth (h : ta σ H fun x H1 => ∃ a dx fs, x = .ref a ∧ H1 a = some (.ins C dx fs) ∧ fs.lookup m = none ∧ tr σ H1 fun vs H2 => sp (x :: (vs ++ dvs)) H2 Q E) : tMeth C m sp dvs E ta tr σ H Q := h
theorem x_methS {E : L2.St → XK} (h : ta σ H fun x H1 => ∃ a dx fs, x = .ref a ∧ H1 a = some (.ins C dx fs) ∧ fs.lookup m = none ∧ tr σ H1 fun vs H2 => sp (x :: vs) H2 Q (E σ)) : tMethS C m sp E ta tr σ H Q := h
theorem x_base (h : to σ H fun x H1 => x = .ref C ∧ tr σ H1 fun vs H2 => sp vs H2 Q E) : tBase C sp E to tr σ H Q := h
theorem x_at {P : V → Prop} {a : Addr} (h : P (.ref a)) (e : V) (he : e = .ref a) : P e := he ▸ h
theorem x_fld (h : ta σ H fun x H1 => ∃ a C dx fs v, x = .ref a ∧ H1 a = some (.ins C dx fs) ∧ Cls K C ∧ NoAttr K C f ∧ fs.lookup f = some v ∧ Q v H1) : tFld K ta f σ H Q := h
theorem x_sfld {tv : TE} (h : tv σ H fun y H1 => ta σ H1 fun x H2 => ∃ a C dx fs, x = .ref a ∧ H2 a = some (.ins C dx fs) ∧ Cls K C ∧ NoAttr K C f ∧ fs.length < 1000 ∧ D.nx σ (upd H2 a (.ins C dx (putF f y fs)))) : sFld K ta tv f D σ H := h
theorem x_make (h : tr σ H fun vs H1 => ∀ x dx, H1 x = none → H1 dx = none → dx ≠ x → sp (.ref x :: (vs ++ dvs)) (upd (upd H1 dx (.own x)) x (.ins C dx [])) (fun v H2 => v = .non ∧ Q (.ref x) H2) E) : tMake C sp dvs E tr σ H Q := h
end
/-- but for what stands at p, all stands -/
def SameX (p : Addr) (H H' : Hp) : Prop := ∀ q o, q ≠ p → H q = some o → H' q = some o
theorem SameX.refl (p : Addr) (H : Hp) : SameX p H H := fun _ _ _ h => h
theorem SameX.upd {p : Addr} {H : Hp} {o : HO} : SameX p H (upd H p o) := fun q u h e => by rw [upd_ne h]; exact e
theorem SameX.trans {p : Addr} {H H' H'' : Hp} (a : SameX p H H') (b : SameX p H' H'') : SameX p H H'' := fun q o h e => b q o h (a q o h e)
theorem Same.x {p : Addr} {H H' : Hp} (s : Same H H') : SameX p H H' := fun q o _ e => s _ _ e
theorem Own.setX {B H H' : Hp} {cs : Cells} {p : Addr} {o o' : HO} (w : Own B cs H) (i : Nat) (h : cs[i]? = some (p, o)) (s : SameX p H H') (c : H' p = some o') : Own B (cs.set i (p, o')) H' := by
  have w2 := w.put (o' := o') i h
  have e : Same (upd H p o') H' := fun q u hq => by
    by_cases z : q = p
    · subst z; rw [upd_same] at hq; rw [← hq]; exact c
    · rw [upd_ne z] at hq; exact s q u z hq
  exact w2.ext e
theorem own_setXN {B H H' : Hp} {cs : Cells} {p l : Addr} {o o' ol : HO} (w : Own B cs H) (i : Nat) (h : cs[i]? = some (p, o)) (s : SameX p H H') (c : H' p = some o') (nl : H l = none) (cl : H' l = some ol) : Own B ((l, ol) :: cs.set i (p, o')) H' := by
  have w2 := w.setX i h s c
  refine ⟨w2.ex, fun q hq => ?_, ?_⟩
  · cases hq with
    | head => exact ⟨cl, w.fresh nl⟩
    | tail _ hq => exact w2.cell q hq
  · rw [List.map_cons, List.nodup_cons]
    refine ⟨fun m => ?_, w2.nd⟩
    have e : (cs.set i (p, o')).map (·.1) = cs.map (·.1) := by
      rw [List.map_set]
      apply List.ext_getElem?
      intro j
      by_cases z : i = j
      · subst z
        have hi := (List.getElem?_eq_some_iff.mp h).1
        rw [List.getElem?_set_self (by rw [List.length_map]; exact hi), List.getElem?_map, h] <;> rfl
      · rw [List.getElem?_set_ne z]
    rw [e] at m
    exact w.off nl m
theorem own_keep {B H1 : Hp} {cs : Cells} (w : Own B cs H1) {x dx q : Addr} {o1 o2 oq : HO} (i : Nat) (h : cs[i]? = some (q, oq)) (n1 : H1 x = none) (n2 : H1 dx = none) : upd (upd H1 dx o1) x o2 q = some oq ∧ q ≠ x := by
  have hq := w.get i h
  have a1 : q ≠ x := fun z => by subst z; rw [hq] at n1; cases n1
  have a2 : q ≠ dx := fun z => by subst z; rw [hq] at n2; cases n2
  exact ⟨by rw [upd_ne a1, upd_ne a2]; exact hq, a1⟩
/-- an object made, filled by its __init__, with one list of its own: it stands and stays -/
theorem own_made {B H1 H2 : Hp} {cs : Cells} (w : Own B cs H1) {x dx l C : Addr} {o ol : HO} (n1 : H1 x = none) (n2 : H1 dx = none) (hne : dx ≠ x) (nl : (upd (upd H1 dx (.own x)) x (.ins C dx [])) l = none)
    (s : SameX x (upd (upd H1 dx (.own x)) x (.ins C dx [])) H2) (c : H2 x = some o) (cl : H2 l = some ol) : ∃ B2, Same B B2 ∧ Own B2 cs H2 ∧ B2 x = some o ∧ B2 l = some ol := by
  have w1 := (w.new (o := .own x) n2).new (p := x) (o := .ins C dx []) (by rw [upd_ne (Ne.symm hne)]; exact n1)
  have w2 := own_setXN w1 0 rfl s c nl cl
  have nlx : x ≠ l := fun z => by subst z; rw [upd_same] at nl; cases nl
  have nld : dx ≠ l := fun z => by subst z; rw [upd_ne hne, upd_same] at nl; cases nl
  refine ⟨_, ?_, w2.freeze.freeze.freeze, ?_, ?_⟩
  · exact ((same_upd (w2.none 0 rfl)).trans (same_upd (w2.freeze.none 0 rfl))).trans (same_upd (w2.freeze.freeze.none 0 rfl))
  · rw [upd_ne (Ne.symm hne), upd_same]
  · rw [upd_ne (Ne.symm nld), upd_ne (Ne.symm nlx), upd_same]
theorem own_made0 {B H1 H2 : Hp} {cs : Cells} (w : Own B cs H1) {x dx C : Addr} {o : HO} (n1 : H1 x = none) (n2 : H1 dx = none) (hne : dx ≠ x)
    (s : SameX x (upd (upd H1 dx (.own x)) x (.ins C dx [])) H2) (c : H2 x = some o) : ∃ B2, Same B B2 ∧ Own B2 cs H2 ∧ B2 x = some o := by
  have w1 := (w.new (o := .own x) n2).new (p := x) (o := .ins C dx []) (by rw [upd_ne (Ne.symm hne)]; exact n1)
  have w2 := w1.setX 0 rfl s c
  refine ⟨_, ?_, w2.freeze.freeze, ?_⟩
  · exact (same_upd (w2.none 0 rfl)).trans (same_upd (w2.freeze.none 0 rfl))
  · rw [upd_ne (Ne.symm hne), upd_same]
/-- a list without its cell i -/
theorem Own.at {B H : Hp} {cs : Cells} {p : Addr} {o : HO} (w : Own B cs H) (i : Nat) (h : cs[i]? = some (p, o)) : H p = some o := w.get i h
/-- what isinstance asks of a class of instances -/
structure InsC (K : PySem.W.Frag) (C : Addr) : Prop where
  cl : Cls K C
  ha : PySem.W.findIn K (.ref C) "__class__" = some (some (.builtin "object.__class__"))
  hn : PySem.W.specialIn K (.builtin "object.__class__") "__get__" = some (some (.builtin "getset_descriptor.__get__"))
  ht : PySem.W.takesIn K (.builtin "object.__class__") = some true
  hm : PySem.W.mroIn K C (.type "object") = some true
theorem x_isiC {K : PySem.W.Frag} {H : Hp} {Q : VK} {a C D dx : Addr} {fs : List (Str × V)} {b : Bool} (e : H a = some (.ins C dx fs)) (ic : InsC K C) (ak : AskC K D) (h : PySem.W.subIn K (.ref C) (.ref D) = some b) (q : Q (.bl b) H) : rIsi K [.ref a, .ref D] H Q :=
  ⟨.ref a, .ref D, .ref C, .ref D, b, rfl, .own D, .base (.ins e ic.cl ic.ha ic.hn ic.ht ic.hm), kit_own ak h, q⟩
end Sp

/-! Okf: fractions in lowest terms, as a law's own look at one asks. -/
namespace Sp
open PySem PySem.Spec L2 PyProof.Rows
def OkF (f : Int × Int) : Prop := 1 ≤ f.2 ∧ gcdI f.1 f.2 = 1 ∧ ∃ B, Bits B f.1 f.2
theorem short_ok {a b : Int} {B : Nat} (h : Bits B a b) (h0 : 0 < b) : OkF (shortM a b) := by
  have f := short_frac (a := a) (b := b) (by omega)
  have hb := short_bits h (by omega)
  exact ⟨by have := f.pos; omega, by unfold gcdI; rw [f.one] <;> rfl, B, hb⟩
theorem sixty_le (a : Int) : 1 ≤ (shortM a 60).2 ∧ (shortM a 60).2 ≤ 60 := by
  have f := short_frac (a := a) (b := 60) (by decide)
  refine ⟨by have := f.pos; omega, ?_⟩
  unfold shortM
  rw [if_pos (by decide)]
  exact Int.ediv_le_self _ (by decide)
theorem pg_lstK {X : Cx} {K : PySem.W.Frag} (h : X.K = K) {pos : Pos} {es : List Expr} {k : Nat} {t : TGs} {n : Nat} (hc : X.calm = true) (hg : PGs X es t)
    (hn : (assignEach es X.env).length = n := by rfl) (hst : (assignEach es X.env).findIdx? (·.1) = none := by rfl) : PG X (.Tuple es k pos) (gLst K n t) := h ▸ pg_lst hc hg hn hst
theorem x_gl {K : PySem.W.Frag} {σ : L2.St} {H : Hp} {n : Nat} {gs : TGs} {a : Addr} {xs : List V} {QS : L2.St → Hp → Prop} (h : SqL K H a xs) (hn : xs.length = n) (q : gs xs σ H QS) : gLst K n gs (.ref a) σ H QS := ⟨a, xs, rfl, h, hn, q⟩
end Sp

/-! Det: a number told of n columns, linear in each, nought where two are alike: laid out by the first coordinate. -/
namespace Sp.Dt
abbrev Vec := Nat → Int
abbrev Mat := Nat → Vec
def sig : Nat → (Nat → Int) → Int
  | 0, _ => 0
  | n + 1, f => sig n f + f n
theorem sig_congr {f g : Nat → Int} : ∀ {n : Nat}, (∀ i, i < n → f i = g i) → sig n f = sig n g
  | 0, _ => rfl
  | n + 1, h => by
    show sig n f + f n = sig n g + g n
    rw [sig_congr fun i hi => h i (Nat.lt_succ_of_lt hi), h n (Nat.lt_succ_self n)]
theorem sig_add (f g : Nat → Int) : ∀ n : Nat, sig n (fun i => f i + g i) = sig n f + sig n g
  | 0 => rfl
  | n + 1 => by
    show sig n _ + (f n + g n) = (sig n f + f n) + (sig n g + g n)
    rw [sig_add f g n]; omega
theorem sig_mul (a : Int) (f : Nat → Int) : ∀ n : Nat, sig n (fun i => a * f i) = a * sig n f
  | 0 => (Int.mul_zero a).symm
  | n + 1 => by
    show sig n _ + _ = a * (sig n f + f n)
    rw [sig_mul a f n, Int.mul_add]
theorem sig_zero {f : Nat → Int} : ∀ {n : Nat}, (∀ i, i < n → f i = 0) → sig n f = 0
  | 0, _ => rfl
  | n + 1, h => by
    show sig n f + f n = 0
    rw [sig_zero fun i hi => h i (Nat.lt_succ_of_lt hi), h n (Nat.lt_succ_self n)] <;> rfl
theorem sig_one {f : Nat → Int} {k : Nat} : ∀ {n : Nat}, k < n → (∀ i, i < n → i ≠ k → f i = 0) → sig n f = f k
  | 0, h, _ => absurd h (Nat.not_lt_zero k)
  | n + 1, h, z => by
    show sig n f + f n = f k
    by_cases e : k = n
    · subst e
      rw [sig_zero fun i hi => z i (Nat.lt_succ_of_lt hi) (Nat.ne_of_lt hi)]; omega
    · rw [sig_one (show k < n by omega) fun i hi hk => z i (Nat.lt_succ_of_lt hi) hk, z n (Nat.lt_succ_self n) (fun q => e q.symm)]; omega
theorem sig_two {f : Nat → Int} {k j n : Nat} (hk : k < n) (hj : j < n) (hne : k ≠ j) (z : ∀ i, i < n → i ≠ k → i ≠ j → f i = 0) : sig n f = f k + f j := by
  have e1 : sig n f = sig n (fun i => (if i = k then f i else 0) + (if i = k then 0 else f i)) := sig_congr fun i _ => by
    by_cases c : i = k
    · rw [if_pos c, if_pos c]; omega
    · rw [if_neg c, if_neg c]; omega
  rw [e1, sig_add, sig_one (k := k) hk fun i hi hne => by rw [if_neg hne], sig_one (k := j) hj fun i hi hj2 => ?_]
  · rw [if_pos rfl, if_neg (Ne.symm hne)]
  · by_cases c : i = k
    · rw [if_pos c]
    · rw [if_neg c]; exact z i hi c hj2
def put (M : Mat) (k : Nat) (v : Vec) : Mat := fun j => if j = k then v else M j
theorem put_same (M : Mat) (k : Nat) (v : Vec) : put M k v k = v := if_pos rfl
theorem put_ne (M : Mat) {k j : Nat} (v : Vec) (h : j ≠ k) : put M k v j = M j := if_neg h
theorem put_comm (M : Mat) {j k : Nat} (u v : Vec) (h : j ≠ k) : put (put M j u) k v = put (put M k v) j u := funext fun i => by
  unfold put
  by_cases a : i = k
  · rw [if_pos a, if_neg (fun e => h (e.symm.trans a)), if_pos a]
  · rw [if_neg a, if_neg a]
theorem put_put (M : Mat) (k : Nat) (u v : Vec) : put (put M k u) k v = put M k v := funext fun i => by
  unfold put
  by_cases a : i = k
  · rw [if_pos a, if_pos a]
  · rw [if_neg a, if_neg a, if_neg a]
theorem put_self (M : Mat) (k : Nat) : put M k (M k) = M := funext fun i => by
  unfold put
  by_cases a : i = k
  · rw [if_pos a, a]
  · rw [if_neg a]
def era (i : Nat) (M : Mat) : Mat := fun k => if k < i then M k else M (k + 1)
theorem era_put_lt (M : Mat) {i k : Nat} (v : Vec) (h : k < i) : era i (put M k v) = put (era i M) k v := funext fun j => by
  show (if j < i then put M k v j else put M k v (j + 1)) = if j = k then v else if j < i then M j else M (j + 1)
  unfold put
  by_cases a : j < i
  · rw [if_pos a, if_pos a]
  · rw [if_neg a, if_neg a, if_neg (by omega), if_neg (by omega)]
theorem era_put_eq (M : Mat) (i : Nat) (v : Vec) : era i (put M i v) = era i M := funext fun j => by
  unfold era put
  by_cases a : j < i
  · rw [if_pos a, if_pos a, if_neg (by omega)]
  · rw [if_neg a, if_neg a, if_neg (by omega)]
theorem era_put_gt (M : Mat) {i k : Nat} (v : Vec) (h : i < k) : era i (put M k v) = put (era i M) (k - 1) v := funext fun j => by
  show (if j < i then put M k v j else put M k v (j + 1)) = if j = k - 1 then v else if j < i then M j else M (j + 1)
  unfold put
  by_cases a : j < i
  · rw [if_pos a, if_pos a, if_neg (by omega), if_neg (by omega)]
  · rw [if_neg a, if_neg a]
    by_cases b : j + 1 = k
    · rw [if_pos b, if_pos (by omega)]
    · rw [if_neg b, if_neg (by omega)]
def sg (i : Nat) : Int := if i % 2 = 0 then 1 else -1
theorem sg_succ (i : Nat) : sg (i + 1) = -sg i := by
  unfold sg
  by_cases h : i % 2 = 0
  · rw [if_pos h, if_neg (by omega)]
  · rw [if_neg h, if_pos (by omega)]; rfl
theorem sg_abs (i : Nat) : (sg i).natAbs = 1 := by
  unfold sg
  by_cases h : i % 2 = 0
  · rw [if_pos h]; rfl
  · rw [if_neg h]; rfl
def det : Nat → Nat → Mat → Int
  | 0, _, _ => 1
  | n + 1, t, M => sig (n + 1) fun i => sg i * M i t * det n (t + 1) (era i M)
theorem det_lin (a : Int) (x y : Vec) : ∀ (n t k : Nat) (M : Mat), k < n → det n t (put M k fun j => a * x j + y j) = a * det n t (put M k x) + det n t (put M k y)
  | 0, _, k, _, h => absurd h (Nat.not_lt_zero k)
  | n + 1, t, k, M, h => by
    show sig (n + 1) _ = a * sig (n + 1) _ + sig (n + 1) _
    rw [← sig_mul, ← sig_add]
    refine sig_congr fun i hi => ?_
    by_cases c : i = k
    · subst c
      rw [put_same, put_same, put_same, era_put_eq, era_put_eq, era_put_eq]
      grind
    · rw [put_ne _ _ c, put_ne _ _ c, put_ne _ _ c]
      by_cases d : k < i
      · rw [era_put_lt _ _ d, era_put_lt _ _ d, era_put_lt _ _ d, det_lin a x y n (t + 1) k (era i M) (by omega)]
        grind
      · have d : i < k := by omega
        rw [era_put_gt _ _ d, era_put_gt _ _ d, era_put_gt _ _ d, det_lin a x y n (t + 1) (k - 1) (era i M) (by omega)]
        grind
theorem det_adj : ∀ (n t k : Nat) (M : Mat), k + 1 < n → M k = M (k + 1) → det n t M = 0
  | 0, _, k, _, h, _ => absurd h (Nat.not_lt_zero _)
  | n + 1, t, k, M, h, e => by
    show sig (n + 1) _ = 0
    rw [sig_two (k := k) (j := k + 1) (by omega) h (by omega) fun i hi h1 h2 => ?_]
    · have : era k M = era (k + 1) M := funext fun j => by
        unfold era
        by_cases a : j < k
        · rw [if_pos a, if_pos (by omega)]
        · rw [if_neg a]
          by_cases b : j = k
          · subst b; rw [if_pos (by omega), e]
          · rw [if_neg (by omega)]
      rw [this, sg_succ, e]
      grind
    · by_cases c : i < k
      · have : det n (t + 1) (era i M) = 0 := det_adj n (t + 1) (k - 1) (era i M) (by omega) (by
          unfold era
          rw [if_neg (by omega), if_neg (by omega), show k - 1 + 1 = k by omega, e])
        rw [this, Int.mul_zero]
      · have : det n (t + 1) (era i M) = 0 := det_adj n (t + 1) k (era i M) (by omega) (by
          unfold era
          rw [if_pos (by omega), if_pos (by omega), e])
        rw [this, Int.mul_zero]
theorem det_add (n t k : Nat) (M : Mat) (x y : Vec) (h : k < n) : det n t (put M k fun j => x j + y j) = det n t (put M k x) + det n t (put M k y) := by
  have e := det_lin 1 x y n t k M h
  rw [show (fun j => 1 * x j + y j) = fun j => x j + y j from funext fun j => by rw [Int.one_mul]] at e
  rw [e, Int.one_mul]
theorem det_z (n t k : Nat) (M : Mat) (h : k < n) : det n t (put M k fun _ => 0) = 0 := by
  have e := det_add n t k M (fun _ => 0) (fun _ => 0) h
  rw [show (fun _ : Nat => (0 : Int) + 0) = fun _ => 0 from rfl] at e
  omega
theorem det_mul (n t k : Nat) (M : Mat) (a : Int) (x : Vec) (h : k < n) : det n t (put M k fun j => a * x j) = a * det n t (put M k x) := by
  have e := det_lin a x (fun _ => 0) n t k M h
  rw [show (fun j => a * x j + 0) = fun j => a * x j from funext fun j => by rw [Int.add_zero], det_z _ _ _ _ h, Int.add_zero] at e
  exact e
/-- alike columns side by side tell nought: so two side by side that change places tell the same with the other sign -/
theorem det_flip (n t i j : Nat) (M : Mat) (hi : i < n) (hj : j < n) (hne : i ≠ j) (hz : ∀ u : Vec, det n t (put (put M i u) j u) = 0) (x y : Vec) :
    det n t (put (put M i y) j x) = -det n t (put (put M i x) j y) := by
  have a := hz fun q => x q + y q
  rw [det_add n t j _ x y hj, put_comm _ _ _ hne, put_comm M _ y hne, det_add n t i _ x y hi, det_add n t i _ x y hi,
    put_comm M x x (Ne.symm hne), hz x, put_comm M y y (Ne.symm hne), hz y, put_comm M x y (Ne.symm hne), put_comm M y x (Ne.symm hne)] at a
  omega
theorem det_eqs (t n : Nat) : ∀ (d i : Nat) (M : Mat), i + d + 1 < n → M i = M (i + d + 1) → det n t M = 0
  | 0, i, M, h, e => det_adj n t i M h e
  | d + 1, i, M, h, e => by
    have hz : ∀ u : Vec, det n t (put (put M (i + d + 1) u) (i + d + 1 + 1) u) = 0 := fun u => det_adj n t (i + d + 1) _ (by omega) (by
      rw [put_ne _ _ (by omega), put_same, put_same])
    have f := det_flip n t (i + d + 1) (i + d + 1 + 1) M (by omega) (by omega) (by omega) hz (M (i + d + 1)) (M (i + d + 1 + 1))
    rw [put_self, put_self] at f
    have g : det n t (put (put M (i + d + 1) (M (i + d + 1 + 1))) (i + d + 1 + 1) (M (i + d + 1))) = 0 := det_eqs t n d i _ (by omega) (by
      rw [put_ne _ _ (by omega), put_ne _ _ (by omega), put_ne _ _ (by omega), put_same, e]
      rfl)
    omega
theorem det_eq0 {n t i j : Nat} {M : Mat} (hi : i < n) (hj : j < n) (hne : i ≠ j) (e : M i = M j) : det n t M = 0 := by
  rcases Nat.lt_or_gt_of_ne hne with h | h
  · exact det_eqs t n (j - i - 1) i M (by omega) (by rw [show i + (j - i - 1) + 1 = j by omega]; exact e)
  · exact det_eqs t n (i - j - 1) j M (by omega) (by rw [show j + (i - j - 1) + 1 = i by omega]; exact e.symm)
theorem det_swap (n t i j : Nat) (M : Mat) (hi : i < n) (hj : j < n) (hne : i ≠ j) (x y : Vec) :
    det n t (put (put M i y) j x) = -det n t (put (put M i x) j y) :=
  det_flip n t i j M hi hj hne (fun u => det_eq0 hi hj hne (by rw [put_ne _ _ hne, put_same, put_same])) x y
theorem det_sig (n t k : Nat) (M : Mat) (a : Nat → Int) (x : Mat) (h : k < n) : ∀ m : Nat, det n t (put M k fun c => sig m fun q => a q * x q c) = sig m fun q => a q * det n t (put M k (x q))
  | 0 => det_z n t k M h
  | m + 1 => by
    show det n t (put M k fun c => sig m (fun q => a q * x q c) + a m * x m c) = sig m _ + _
    rw [det_add n t k M (fun c => sig m fun q => a q * x q c) (fun c => a m * x m c) h, det_sig n t k M a x h m, det_mul n t k M (a m) (x m) h]
theorem det_congr : ∀ (n t : Nat) {M M' : Mat}, (∀ j, j < n → ∀ c, t ≤ c → c < t + n → M j c = M' j c) → det n t M = det n t M'
  | 0, _, _, _, _ => rfl
  | n + 1, t, M, M', h => by
    show sig (n + 1) _ = sig (n + 1) _
    refine sig_congr fun i hi => ?_
    rw [h i hi t (Nat.le_refl t) (by omega), det_congr n (t + 1) (M := era i M) (M' := era i M') fun j hj c h1 h2 => ?_]
    unfold era
    by_cases a : j < i
    · rw [if_pos a, if_pos a]; exact h j (by omega) c (by omega) (by omega)
    · rw [if_neg a, if_neg a]; exact h (j + 1) (by omega) c (by omega) (by omega)
def uni (k : Nat) : Vec := fun c => if c = k then 1 else 0
theorem det_uni : ∀ n t : Nat, det n t (fun j => uni (t + j)) = 1
  | 0, _ => rfl
  | n + 1, t => by
    show sig (n + 1) _ = 1
    rw [sig_one (k := 0) (Nat.succ_pos n) fun i hi h0 => ?_]
    · rw [show era 0 (fun j => uni (t + j)) = fun j => uni (t + 1 + j) from funext fun j => by
        unfold era
        rw [if_neg (Nat.not_lt_zero j)]
        show uni (t + (j + 1)) = uni (t + 1 + j)
        rw [show t + (j + 1) = t + 1 + j by omega], det_uni n (t + 1)]
      show sg 0 * uni (t + 0) t * 1 = 1
      unfold uni sg
      rw [if_pos (show t = t + 0 by omega)]
      rfl
    · have : uni (t + i) t = 0 := if_neg (show ¬ t = t + i by omega)
      show sg i * uni (t + i) t * _ = 0
      rw [this, Int.mul_zero, Int.zero_mul]
def fact : Nat → Nat
  | 0 => 1
  | n + 1 => (n + 1) * fact n
theorem sig_abs {f : Nat → Int} {b : Nat} : ∀ {n : Nat}, (∀ i, i < n → (f i).natAbs ≤ b) → (sig n f).natAbs ≤ n * b
  | 0, _ => by show (0 : Int).natAbs ≤ _; omega
  | n + 1, h => by
    have h1 := sig_abs fun i hi => h i (Nat.lt_succ_of_lt hi)
    have h2 := h n (Nat.lt_succ_self n)
    have h3 := Int.natAbs_add_le (sig n f) (f n)
    show (sig n f + f n).natAbs ≤ _
    rw [Nat.succ_mul]
    omega
theorem det_abs {b : Nat} : ∀ (n t : Nat) {M : Mat}, (∀ j, j < n → ∀ c, (M j c).natAbs ≤ b) → (det n t M).natAbs ≤ fact n * b ^ n
  | 0, _, _, _ => by show 1 ≤ 1 * b ^ 0; rw [Nat.pow_zero]; decide
  | n + 1, t, M, h => by
    show (sig (n + 1) _).natAbs ≤ (n + 1) * fact n * b ^ (n + 1)
    refine Nat.le_trans (sig_abs (b := b * (fact n * b ^ n)) fun i hi => ?_) (Nat.le_of_eq ?_)
    · rw [Int.natAbs_mul, Int.natAbs_mul, sg_abs, Nat.one_mul]
      refine Nat.mul_le_mul (h i hi t) (det_abs n (t + 1) fun j hj c => ?_)
      unfold era
      by_cases a : j < i
      · rw [if_pos a]; exact h j (by omega) c
      · rw [if_neg a]; exact h (j + 1) (by omega) c
    · rw [Nat.pow_succ]; grind
end Sp.Dt

/-! Smp: a slate of whole numbers turned from base to base: what stands in it, that it divides, that it comes to an end. -/
namespace Sp.Dt
theorem sig_more (n : Nat) (f : Nat → Int) : sig (n + 2) f = sig n f + f n + f (n + 1) := rfl
theorem sig_sub (f g : Nat → Int) (n : Nat) : sig n (fun i => f i - g i) = sig n f - sig n g := by
  have e := sig_add f (fun i => (-1) * g i) n
  rw [sig_mul] at e
  rw [show (fun i => f i - g i) = fun i => f i + (-1) * g i from funext fun i => by omega, e]
  omega
theorem sig_comm (F : Nat → Nat → Int) (m : Nat) : ∀ n : Nat, sig n (fun i => sig m (fun k => F i k)) = sig m fun k => sig n fun i => F i k
  | 0 => (sig_zero fun _ _ => rfl).symm
  | n + 1 => by
    show sig n _ + _ = sig m fun k => sig n (fun i => F i k) + F n k
    rw [sig_add, sig_comm F m n]
theorem sig_pos {f : Nat → Int} : ∀ {n : Nat}, (∀ i, i < n → 0 ≤ f i) → 0 ≤ sig n f
  | 0, _ => Int.le_refl 0
  | n + 1, h => Int.add_nonneg (sig_pos fun i hi => h i (Nat.lt_succ_of_lt hi)) (h n (Nat.lt_succ_self n))
theorem sig_nul {f : Nat → Int} : ∀ {n : Nat}, (∀ i, i < n → 0 ≤ f i) → sig n f = 0 → ∀ i, i < n → f i = 0
  | 0, _, _, i, hi => absurd hi (Nat.not_lt_zero i)
  | n + 1, h, e, i, hi => by
    have h1 := sig_pos fun i hi => h i (Nat.lt_succ_of_lt hi)
    have h2 := h n (Nat.lt_succ_self n)
    have e : sig n f + f n = 0 := e
    by_cases c : i = n
    · subst c; omega
    · exact sig_nul (fun i hi => h i (Nat.lt_succ_of_lt hi)) (by omega) i (by omega)
section
variable {n w : Nat} {V : Mat} {bs : List Nat} {T : Nat → Nat → Int} {s : Int}
/-- what stands in the base at k: a start column, or the own column of one of the last two rows -/
def bm (n : Nat) (V : Mat) (bs : List Nat) : Mat := fun k => if k < n then V (bs.getD k 0) else uni k
structure Start (n w : Nat) (V : Mat) : Prop where
  slack : ∀ i, i < n → ∀ c, V (w + i) c = uni i c
  short : ∀ v, v < w ∨ v = w + n → V v n = -sig n (V v)
structure Inv (n w : Nat) (V : Mat) (bs : List Nat) (T : Nat → Nat → Int) (s : Int) : Prop where
  pos : 0 < s
  len : bs.length = n
  bl : ∀ k, k < n → bs.getD k 0 < w + n
  det : det (n + 2) 0 (bm n V bs) = s
  eq : ∀ v, v ≤ w + n → ∀ c, c < n + 2 → s * V v c = sig (n + 2) fun k => T k v * bm n V bs k c
theorem Inv.expand (I : Inv n w V bs T s) (M : Mat) {k v : Nat} (hk : k < n + 2) (hv : v ≤ w + n) :
    s * Dt.det (n + 2) 0 (put M k (V v)) = sig (n + 2) fun j => T j v * Dt.det (n + 2) 0 (put M k (bm n V bs j)) := by
  rw [← det_mul _ _ _ _ _ _ hk, ← det_sig _ _ _ _ _ _ hk]
  refine det_congr (n + 2) 0 fun j hj c _ hc => ?_
  unfold put
  by_cases a : j = k
  · rw [if_pos a, if_pos a]; exact I.eq v hv c (by omega)
  · rw [if_neg a, if_neg a]
theorem Inv.entry (I : Inv n w V bs T s) {i v : Nat} (hi : i < n + 2) (hv : v ≤ w + n) : Dt.det (n + 2) 0 (put (bm n V bs) i (V v)) = T i v := by
  have e := I.expand (bm n V bs) hi hv
  rw [sig_one (k := i) hi fun j hj hne => by
    rw [det_eq0 hi hj (Ne.symm hne) (by rw [put_same, put_ne _ _ hne]), Int.mul_zero], put_self, I.det, Int.mul_comm (T i v)] at e
  exact Int.eq_of_mul_eq_mul_left (Int.ne_of_gt I.pos) e
theorem bm_set {r c : Nat} (hl : bs.length = n) (hr : r < n) : bm n V (bs.set r c) = put (bm n V bs) r (V c) := funext fun k => by
  unfold bm put
  by_cases a : k = r
  · subst a
    rw [if_pos rfl, if_pos hr, List.getD_eq_getElem?_getD, List.getElem?_set_self (by omega)] <;> rfl
  · rw [if_neg a, List.getD_eq_getElem?_getD, List.getElem?_set_ne (Ne.symm a), ← List.getD_eq_getElem?_getD]
/-- crosswise -/
theorem Inv.cross (I : Inv n w V bs T s) {r c k v : Nat} (hr : r < n) (hc : c ≤ w + n) (hk : k < n + 2) (hne : k ≠ r) (hv : v ≤ w + n) :
    T k v * T r c - T k c * T r v = s * Dt.det (n + 2) 0 (put (bm n V (bs.set r c)) k (V v)) := by
  rw [bm_set I.len hr, I.expand _ hk hv, sig_two (k := k) (j := r) hk (by omega) hne fun j hj h1 h2 => by
    rw [det_eq0 hk hj (Ne.symm h1) (by rw [put_same, put_ne _ _ h1, put_ne _ _ h2]), Int.mul_zero]]
  have e1 : put (put (bm n V bs) r (V c)) k (bm n V bs k) = put (bm n V bs) r (V c) := by
    have := put_self (put (bm n V bs) r (V c)) k
    rw [put_ne _ _ hne] at this
    exact this
  have e2 : Dt.det (n + 2) 0 (put (put (bm n V bs) r (V c)) k (bm n V bs r)) = -T k c := by
    rw [det_swap (n + 2) 0 r k (bm n V bs) (by omega) hk (Ne.symm hne) (bm n V bs r) (V c), put_self, I.entry hk hc]
  rw [e1, I.entry (show r < n + 2 by omega) hc, e2]
  grind
def turnT (T : Nat → Nat → Int) (s : Int) (r c : Nat) : Nat → Nat → Int := fun k v => if k = r then T r v else (T k v * T r c - T k c * T r v) / s
theorem Inv.div (I : Inv n w V bs T s) {r c k v : Nat} (hr : r < n) (hc : c ≤ w + n) (hk : k < n + 2) (hne : k ≠ r) (hv : v ≤ w + n) :
    s * turnT T s r c k v = T k v * T r c - T k c * T r v := by
  unfold turnT
  rw [if_neg hne]
  exact Int.mul_ediv_cancel' ⟨_, I.cross hr hc hk hne hv⟩
theorem Inv.turn (I : Inv n w V bs T s) {r c : Nat} (hr : r < n) (hc : c < w + n) (hp : 0 < T r c) : Inv n w V (bs.set r c) (turnT T s r c) (T r c) where
  pos := hp
  len := by rw [List.length_set]; exact I.len
  bl := fun k hk => by
    by_cases a : k = r
    · subst a
      rw [List.getD_eq_getElem?_getD, List.getElem?_set_self (by rw [I.len]; exact hr)]; exact hc
    · rw [List.getD_eq_getElem?_getD, List.getElem?_set_ne (Ne.symm a), ← List.getD_eq_getElem?_getD]; exact I.bl k hk
  det := by rw [bm_set I.len hr, I.entry (by omega) (by omega)]
  eq := fun v hv c' hc' => by
    refine Int.eq_of_mul_eq_mul_left (Int.ne_of_gt I.pos) ?_
    rw [← sig_mul]
    have e : ∀ k, k < n + 2 → s * (turnT T s r c k v * bm n V (bs.set r c) k c') = (T r c * (T k v * bm n V bs k c') + (-T r v) * (T k c * bm n V bs k c')) + (if k = r then s * T r v * V c c' else 0) := fun k hk => by
      rw [bm_set I.len hr]
      by_cases a : k = r
      · subst a
        rw [if_pos rfl, put_same]
        unfold turnT
        rw [if_pos rfl]
        grind
      · rw [if_neg a, put_ne _ _ a, ← Int.mul_assoc, I.div hr (by omega) hk a hv]
        grind
    rw [sig_congr e, sig_add, sig_add, sig_mul, sig_mul, ← I.eq v hv c' hc', ← I.eq c (by omega) c' hc', sig_one (k := r) (by omega) fun i _ h => if_neg h, if_pos rfl]
    grind
/-! ### sizes -/
theorem Inv.size (I : Inv n w V bs T s) {b : Nat} (h1 : 1 ≤ b) (hV : ∀ v c, (V v c).natAbs ≤ b) : (∀ k, k < n + 2 → ∀ v, v ≤ w + n → (T k v).natAbs ≤ fact (n + 2) * b ^ (n + 2)) ∧ s.natAbs ≤ fact (n + 2) * b ^ (n + 2) := by
  have hu : ∀ k c, (uni k c).natAbs ≤ b := fun k c => by
    unfold uni
    by_cases a : c = k
    · rw [if_pos a]; exact h1
    · rw [if_neg a]; exact Nat.zero_le _
  have hb : ∀ j c, (bm n V bs j c).natAbs ≤ b := fun j c => by
    unfold bm
    by_cases a : j < n
    · rw [if_pos a]; exact hV _ c
    · rw [if_neg a]; exact hu j c
  refine ⟨fun k hk v hv => ?_, ?_⟩
  · rw [← I.entry hk hv]
    refine det_abs (n + 2) 0 fun j _ c => ?_
    unfold put
    by_cases a : j = k
    · rw [if_pos a]; exact hV v c
    · rw [if_neg a]; exact hb j c
  · rw [← I.det]
    exact det_abs (n + 2) 0 fun j _ c => hb j c
/-! ### no row is nought -/
theorem uni_all (x : Vec) (m : Nat) {c : Nat} (hc : c < m) : x c = sig m fun i => x i * uni i c := by
  rw [sig_one (k := c) hc fun i _ h => by unfold uni; rw [if_neg (Ne.symm h), Int.mul_zero]]
  unfold uni
  rw [if_pos rfl, Int.mul_one]
theorem det_units (N k : Nat) (M : Mat) (x : Vec) (hk : k < N) : Dt.det N 0 (put M k x) = sig N fun i => x i * Dt.det N 0 (put M k (uni i)) := by
  rw [← det_sig N 0 k M x uni hk]
  refine det_congr N 0 fun j _ c _ hc => ?_
  unfold put
  by_cases a : j = k
  · rw [if_pos a, if_pos a]; exact uni_all x N (by omega)
  · rw [if_neg a, if_neg a]
theorem bm_high {k : Nat} (h : ¬ k < n) : bm n V bs k = uni k := by unfold bm; exact if_neg h
theorem Inv.unit (I : Inv n w V bs T s) (S : Start n w V) {k i : Nat} (hk : k < n + 2) (hi : i < n) : Dt.det (n + 2) 0 (put (bm n V bs) k (uni i)) = T k (w + i) := by
  rw [← I.entry hk (show w + i ≤ w + n by omega)]
  congr 2
  exact funext fun c => (S.slack i hi c).symm
theorem Inv.high0 (I : Inv n w V bs T s) {k i : Nat} (hk : k < n + 2) (hi : i < n + 2) (hn : ¬ i < n) (hne : k ≠ i) : Dt.det (n + 2) 0 (put (bm n V bs) k (uni i)) = 0 :=
  det_eq0 hk hi hne (by rw [put_same, put_ne _ _ (Ne.symm hne), bm_high hn])
theorem Inv.some (I : Inv n w V bs T s) (S : Start n w V) {k : Nat} (hk : k < n) : ∃ i, i < n ∧ T k (w + i) ≠ 0 := by
  refine Classical.byContradiction fun h => ?_
  have z : ∀ i, i < n → T k (w + i) = 0 := fun i hi => Classical.byContradiction fun q => h ⟨i, hi, q⟩
  have e := I.det
  rw [← put_self (bm n V bs) k, det_units (n + 2) k _ _ (by omega), sig_zero fun i hi => ?_] at e
  · exact Int.ne_of_lt I.pos e
  · by_cases a : i < n
    · rw [I.unit S (by omega) a, z i a, Int.mul_zero]
    · rw [I.high0 (by omega) hi a (by omega), Int.mul_zero]
/-- no column stands twice in the base -/
theorem Inv.inj (I : Inv n w V bs T s) {k j : Nat} (hk : k < n) (hj : j < n) (e : bs.getD k 0 = bs.getD j 0) : k = j := by
  refine Classical.byContradiction fun h => ?_
  have z : Dt.det (n + 2) 0 (bm n V bs) = 0 := det_eq0 (i := k) (j := j) (by omega) (by omega) h (by unfold bm; rw [if_pos hk, if_pos hj, e])
  rw [I.det] at z
  exact Int.ne_of_gt I.pos z
/-! ### the last two rows: prices -/
theorem Inv.price (I : Inv n w V bs T s) (S : Start n w V) {v : Nat} (hv : v ≤ w + n) :
    T n v = sig n (fun i => V v i * T n (w + i)) + V v n * s ∧ T (n + 1) v = sig n (fun i => V v i * T (n + 1) (w + i)) + V v (n + 1) * s := by
  have pn : put (bm n V bs) n (uni n) = bm n V bs := by
    have := put_self (bm n V bs) n
    rw [bm_high (Nat.lt_irrefl n)] at this
    exact this
  have pm : put (bm n V bs) (n + 1) (uni (n + 1)) = bm n V bs := by
    have := put_self (bm n V bs) (n + 1)
    rw [bm_high (show ¬ n + 1 < n by omega)] at this
    exact this
  refine ⟨?_, ?_⟩
  · rw [← I.entry (show n < n + 2 by omega) hv, det_units (n + 2) n _ _ (by omega)]
    rw [sig_more, pn, I.det, I.high0 (by omega) (by omega) (by omega) (by omega), sig_congr fun i hi => by rw [I.unit S (by omega) hi], Int.mul_zero, Int.add_zero]
  · rw [← I.entry (show n + 1 < n + 2 by omega) hv, det_units (n + 2) (n + 1) _ _ (by omega)]
    rw [sig_more, pm, I.det, I.high0 (by omega) (by omega) (by omega) (by omega), sig_congr fun i hi => by rw [I.unit S (by omega) hi], Int.mul_zero, Int.add_zero]
/-- what is short is what the slack rows hold -/
theorem Inv.short (I : Inv n w V bs T s) (S : Start n w V) {v : Nat} (hv : v < w ∨ v = w + n) : T n v = -sig n fun k => if bs.getD k 0 < w then 0 else T k v := by
  have hv2 : v ≤ w + n := by omega
  have h1 : sig n (fun c => s * V v c) + s * V v n = 0 := by rw [sig_mul, S.short v hv, Int.mul_neg]; omega
  rw [sig_congr fun c hc => I.eq v hv2 c (by omega), I.eq v hv2 n (by omega), sig_comm] at h1
  rw [← sig_add] at h1
  have e : ∀ k, k < n + 2 → sig n (fun c => T k v * bm n V bs k c) + T k v * bm n V bs k n = if k < n then (if bs.getD k 0 < w then 0 else T k v) else if k = n then T n v else 0 := fun k hk => by
    rw [sig_mul]
    by_cases a : k < n
    · rw [if_pos a]
      have eb : bm n V bs k = V (bs.getD k 0) := if_pos a
      rw [eb]
      by_cases b : bs.getD k 0 < w
      · rw [if_pos b, S.short _ (.inl b)]; grind
      · rw [if_neg b]
        have hb := I.bl k a
        obtain ⟨i, hi⟩ : ∃ i, bs.getD k 0 = w + i := ⟨bs.getD k 0 - w, by omega⟩
        have hin : i < n := by omega
        rw [hi, sig_congr fun c _ => S.slack i hin c, S.slack i hin n, sig_one (k := i) hin fun c _ h => by unfold uni; rw [if_neg h]]
        unfold uni
        rw [if_pos rfl, if_neg (by omega)]
        grind
    · rw [if_neg a, bm_high a]
      by_cases b : k = n
      · subst b
        rw [if_pos rfl, sig_zero fun c hc => by unfold uni; rw [if_neg (by omega)]]
        unfold uni
        rw [if_pos rfl]
        grind
      · rw [if_neg b, sig_zero fun c hc => by unfold uni; rw [if_neg (by omega)]]
        unfold uni
        rw [if_neg (by omega)]
        grind
  rw [sig_congr e] at h1
  have h2 : sig n (fun k => if k < n then (if bs.getD k 0 < w then 0 else T k v) else if k = n then T n v else 0) + (if n < n then (if bs.getD n 0 < w then 0 else T n v) else if n = n then T n v else 0) + (if n + 1 < n then (if bs.getD (n + 1) 0 < w then 0 else T (n + 1) v) else if n + 1 = n then T n v else 0) = 0 := h1
  rw [if_neg (Nat.lt_irrefl n), if_pos rfl, if_neg (show ¬ n + 1 < n by omega), if_neg (show ¬ n + 1 = n by omega), sig_congr fun k hk => if_pos hk] at h2
  omega
theorem Inv.gain (I : Inv n w V bs T s) {v : Nat} (hv : v ≤ w + n) : s * V v (n + 1) = sig n (fun k => T k v * V (bs.getD k 0) (n + 1)) + T (n + 1) v := by
  rw [I.eq v hv (n + 1) (by omega)]
  rw [sig_more, bm_high (Nat.lt_irrefl n), bm_high (show ¬ n + 1 < n by omega)]
  have u1 : uni n (n + 1) = 0 := if_neg (by omega)
  have u2 : uni (n + 1) (n + 1) = 1 := if_pos rfl
  rw [u1, u2, sig_congr fun k hk => by rw [show bm n V bs k = V (bs.getD k 0) from if_pos hk]]
  omega
theorem Inv.meets (I : Inv n w V bs T s) {v c : Nat} (hv : v ≤ w + n) (hc : c < n) : s * V v c = sig n fun k => T k v * V (bs.getD k 0) c := by
  rw [I.eq v hv c (by omega)]
  rw [sig_more, bm_high (Nat.lt_irrefl n), bm_high (show ¬ n + 1 < n by omega)]
  have u1 : uni n c = 0 := if_neg (by omega)
  have u2 : uni (n + 1) c = 0 := if_neg (by omega)
  rw [u1, u2, sig_congr fun k hk => by rw [show bm n V bs k = V (bs.getD k 0) from if_pos hk]]
  omega
end
/-! ### which comes ahead: the first that is not nought -/
def LexN (m : Nat) (f : Nat → Int) : Prop := ∀ p, p < m → (∀ q, q < p → f q = 0) → 0 ≤ f p
def LexP (m : Nat) (f : Nat → Int) : Prop := LexN m f ∧ ∃ p, p < m ∧ f p ≠ 0
theorem LexN.zeros {m : Nat} {f g : Nat → Int} (hf : LexN m f) (hg : LexN m g) : ∀ p, p ≤ m → (∀ q, q < p → f q + g q = 0) → ∀ q, q < p → f q = 0 ∧ g q = 0
  | 0, _, _, q, hq => absurd hq (Nat.not_lt_zero q)
  | p + 1, hp, h, q, hq => by
    have ih := LexN.zeros hf hg p (by omega) fun q hq => h q (by omega)
    by_cases e : q = p
    · subst e
      have h1 := hf q (by omega) fun i hi => (ih i hi).1
      have h2 := hg q (by omega) fun i hi => (ih i hi).2
      have h3 := h q hq
      omega
    · exact ih q (by omega)
theorem LexN.add {m : Nat} {f g : Nat → Int} (hf : LexN m f) (hg : LexN m g) : LexN m fun p => f p + g p := fun p hp h => by
  have z := LexN.zeros hf hg p (by omega) h
  have h1 := hf p hp fun q hq => (z q hq).1
  have h2 := hg p hp fun q hq => (z q hq).2
  exact Int.add_nonneg h1 h2
theorem LexN.mul {m : Nat} {f : Nat → Int} {a : Int} (ha : 0 ≤ a) (hf : LexN m f) : LexN m fun p => a * f p := fun p hp h => by
  by_cases e : a = 0
  · show 0 ≤ a * f p
    rw [e, Int.zero_mul]; exact Int.le_refl 0
  · exact Int.mul_nonneg ha (hf p hp fun q hq => (Int.mul_eq_zero.mp (h q hq)).resolve_left e)
theorem LexN.of_mul {m : Nat} {f : Nat → Int} {a : Int} (ha : 0 < a) (hf : LexN m fun p => a * f p) : LexN m f := fun p hp h => by
  have := hf p hp fun q hq => by
    show a * f q = 0
    rw [h q hq, Int.mul_zero]
  exact Int.nonneg_of_mul_nonneg_right this ha
theorem LexN.congr {m : Nat} {f g : Nat → Int} (h : ∀ p, p < m → f p = g p) (hf : LexN m f) : LexN m g := fun p hp z => by
  rw [← h p hp]
  exact hf p hp fun q hq => by rw [h q (by omega)]; exact z q hq
theorem LexN.neg {m : Nat} {f : Nat → Int} (h : ¬ LexN m f) : LexP m fun p => -f p := by
  refine Classical.byContradiction fun c => h fun p hp z => ?_
  refine Classical.byContradiction fun d => c ⟨fun q hq zq => ?_, p, hp, by show -f p ≠ 0; omega⟩
  have zq : ∀ i, i < q → f i = 0 := fun i hi => by have : -f i = 0 := zq i hi; omega
  show 0 ≤ -f q
  rcases Nat.lt_trichotomy q p with e | e | e
  · have := z q e; omega
  · subst e; omega
  · have := zq p e; omega
theorem LexP.mul {m : Nat} {f : Nat → Int} {a : Int} (ha : 0 < a) (hf : LexP m f) : LexP m fun p => a * f p := by
  obtain ⟨h, p, hp, hn⟩ := hf
  exact ⟨h.mul (by omega), p, hp, fun e => hn ((Int.mul_eq_zero.mp e).resolve_left (by omega))⟩
theorem LexP.of_mul {m : Nat} {f : Nat → Int} {a : Int} (ha : 0 < a) (hf : LexP m fun p => a * f p) : LexP m f := by
  obtain ⟨h, p, hp, hn⟩ := hf
  exact ⟨h.of_mul ha, p, hp, fun e => hn (by show a * f p = 0; rw [e, Int.mul_zero])⟩
theorem LexP.add {m : Nat} {f g : Nat → Int} (hf : LexP m f) (hg : LexN m g) : LexP m fun p => f p + g p := by
  refine ⟨hf.1.add hg, ?_⟩
  obtain ⟨p, hp, hn⟩ := hf.2
  refine Classical.byContradiction fun c => hn ?_
  have z : ∀ q, q < m → f q + g q = 0 := fun q hq => Classical.byContradiction fun d => c ⟨q, hq, d⟩
  exact ((LexN.zeros hf.1 hg m (Nat.le_refl m) z) p hp).1
theorem LexP.congr {m : Nat} {f g : Nat → Int} (h : ∀ p, p < m → f p = g p) (hf : LexP m f) : LexP m g := by
  obtain ⟨a, p, hp, hn⟩ := hf
  exact ⟨a.congr h, p, hp, by rw [← h p hp]; exact hn⟩
theorem LexP.irr {m : Nat} {f : Nat → Int} (h : ∀ p, p < m → f p = 0) : ¬ LexP m f := fun ⟨_, p, hp, hn⟩ => hn (h p hp)
section
variable {n w : Nat} {V : Mat} {bs : List Nat} {T : Nat → Nat → Int} {s : Int}
def cl (n w p : Nat) : Nat := if p = 0 then w + n else w + (p - 1)
theorem cl_le {n w p : Nat} (h : p < n + 1) : cl n w p ≤ w + n := by
  unfold cl
  by_cases a : p = 0
  · rw [if_pos a]; exact Nat.le_refl _
  · rw [if_neg a]; omega
def Feas (n w : Nat) (T : Nat → Nat → Int) : Prop := ∀ k, k < n → LexN (n + 1) fun p => T k (cl n w p)
theorem Inv.lexp (I : Inv n w V bs T s) (S : Start n w V) (F : Feas n w T) {k : Nat} (hk : k < n) : LexP (n + 1) fun p => T k (cl n w p) := by
  refine ⟨F k hk, ?_⟩
  obtain ⟨i, hi, hn⟩ := I.some S hk
  refine ⟨i + 1, by omega, ?_⟩
  show T k (if i + 1 = 0 then _ else _) ≠ 0
  rw [if_neg (by omega)]
  exact hn
/-- row r is used up first as c comes in -/
def First (n w : Nat) (T : Nat → Nat → Int) (r c : Nat) : Prop := ∀ k, k < n → 0 < T k c → LexN (n + 1) fun p => T k (cl n w p) * T r c - T r (cl n w p) * T k c
theorem Inv.feas (I : Inv n w V bs T s) (F : Feas n w T) {r c : Nat} (hr : r < n) (hc : c < w + n) (hp : 0 < T r c) (hf : First n w T r c) : Feas n w (turnT T s r c) := fun k hk => by
  by_cases a : k = r
  · subst a
    refine (F k hk).congr fun p _ => ?_
    unfold turnT
    rw [if_pos rfl]
  · refine LexN.of_mul I.pos ?_
    by_cases b : 0 < T k c
    · refine (hf k hk b).congr fun p hp => ?_
      rw [I.div hr (by omega) (by omega) a (cl_le hp)]
      grind
    · refine (((F k hk).mul (a := T r c) (by omega)).add ((F r hr).mul (a := -T k c) (by omega))).congr fun p hp => ?_
      rw [I.div hr (by omega) (by omega) a (cl_le hp)]
      grind
/-! ### the end: the last two rows, compared between bases, go up -/
def objB (n w : Nat) (V : Mat) (L : List Nat) (q : Nat) : Int := if q < n + 1 then det (n + 2) 0 (put (bm n V L) n (V (cl n w q))) else det (n + 2) 0 (put (bm n V L) (n + 1) (V (cl n w (q - (n + 1)))))
def lessB (n w : Nat) (V : Mat) (L L' : List Nat) : Prop := LexP (2 * n + 2) fun q => det (n + 2) 0 (bm n V L) * objB n w V L' q - det (n + 2) 0 (bm n V L') * objB n w V L q
theorem less_trans {L L' L'' : List Nat} (h0 : 0 < det (n + 2) 0 (bm n V L)) (h1 : 0 < det (n + 2) 0 (bm n V L')) (h2 : 0 < det (n + 2) 0 (bm n V L'')) (a : lessB n w V L L') (b : lessB n w V L' L'') : lessB n w V L L'' := by
  refine LexP.of_mul h1 ?_
  refine ((b.mul h0).add (a.mul h2).1).congr fun q _ => ?_
  grind
theorem Inv.objS (I : Inv n w V bs T s) {q : Nat} (h : q < n + 1) : objB n w V bs q = T n (cl n w q) := by
  unfold objB
  rw [if_pos h, I.entry (by omega) (cl_le h)]
theorem Inv.objG (I : Inv n w V bs T s) {q : Nat} (h : ¬ q < n + 1) (h2 : q < 2 * n + 2) : objB n w V bs q = T (n + 1) (cl n w (q - (n + 1))) := by
  unfold objB
  rw [if_neg h, I.entry (by omega) (cl_le (by omega))]
theorem Inv.up (I : Inv n w V bs T s) (S : Start n w V) (F : Feas n w T) {r c : Nat} (hr : r < n) (hc : c < w + n) (hp : 0 < T r c) (hl : T n c < 0 ∨ T n c = 0 ∧ T (n + 1) c < 0) : lessB n w V bs (bs.set r c) := by
  have I' := I.turn hr hc hp
  have P := I.lexp S F hr
  unfold lessB
  rw [I.det, I'.det]
  have e1 : ∀ q, q < n + 1 → s * objB n w V (bs.set r c) q - T r c * objB n w V bs q = -T n c * T r (cl n w q) := fun q hq => by
    rw [I.objS hq, I'.objS hq, I.div hr (by omega) (by omega) (by omega) (cl_le hq)]
    grind
  have e2 : ∀ q, ¬ q < n + 1 → q < 2 * n + 2 → s * objB n w V (bs.set r c) q - T r c * objB n w V bs q = -T (n + 1) c * T r (cl n w (q - (n + 1))) := fun q hq h2 => by
    rw [I.objG hq h2, I'.objG hq h2, I.div hr (by omega) (by omega) (by omega) (cl_le (by omega))]
    grind
  rcases hl with h | ⟨h, h2⟩
  · have P2 := P.mul (a := -T n c) (by omega)
    obtain ⟨p, hp', hn⟩ := P2.2
    refine ⟨fun q hq z => ?_, p, by omega, by show s * _ - T r c * _ ≠ 0; rw [e1 p hp']; exact hn⟩
    show 0 ≤ s * _ - T r c * _
    have z : ∀ i, i < q → s * objB n w V (bs.set r c) i - T r c * objB n w V bs i = 0 := z
    by_cases a : q < n + 1
    · rw [e1 q a]
      exact P2.1 q a fun i hi => by
        have := z i hi
        rw [e1 i (by omega)] at this
        exact this
    · have := z p (by omega)
      rw [e1 p hp'] at this
      exact absurd this hn
  · have P2 := P.mul (a := -T (n + 1) c) (by omega)
    obtain ⟨p, hp', hn⟩ := P2.2
    refine ⟨fun q hq z => ?_, p + (n + 1), by omega, by show s * _ - T r c * _ ≠ 0; rw [e2 _ (by omega) (by omega), Nat.add_sub_cancel]; exact hn⟩
    show 0 ≤ s * _ - T r c * _
    have z : ∀ i, i < q → s * objB n w V (bs.set r c) i - T r c * objB n w V bs i = 0 := z
    by_cases a : q < n + 1
    · rw [e1 q a, h, Int.neg_zero, Int.zero_mul]; exact Int.le_refl 0
    · rw [e2 q a hq]
      exact P2.1 (q - (n + 1)) (by omega) fun i hi => by
        have := z (i + (n + 1)) (by omega)
        rw [e2 _ (by omega) (by omega), Nat.add_sub_cancel] at this
        exact this
def allL : Nat → Nat → List (List Nat)
  | 0, _ => [[]]
  | n + 1, m => (List.range m).flatMap fun x => (allL n m).map (x :: ·)
theorem mem_allL {m : Nat} : ∀ {n : Nat} {L : List Nat}, L.length = n → (∀ x ∈ L, x < m) → L ∈ allL n m
  | 0, L, h, _ => by rw [List.eq_nil_of_length_eq_zero h]; exact .head _
  | n + 1, [], h, _ => nomatch h
  | n + 1, x :: L, h, hx => List.mem_flatMap.mpr ⟨x, List.mem_range.mpr (hx x (.head _)), List.mem_map.mpr ⟨L, mem_allL (Nat.succ.inj h) fun y hy => hx y (.tail _ hy), rfl⟩⟩
theorem filter_lt {α : Type} {p q : α → Bool} : ∀ {l : List α}, (∀ x ∈ l, q x = true → p x = true) → (∃ x ∈ l, p x = true ∧ q x = false) → (l.filter q).length < (l.filter p).length
  | [], _, ⟨x, hx, _⟩ => nomatch hx
  | y :: l, h, ⟨x, hx, h1, h2⟩ => by
    have le : ∀ {l : List α}, (∀ x ∈ l, q x = true → p x = true) → (l.filter q).length ≤ (l.filter p).length := fun {l} h => by
      induction l with
      | nil => exact Nat.le_refl _
      | cons z l ih =>
        have ih := ih fun x hx => h x (.tail _ hx)
        rw [List.filter_cons, List.filter_cons]
        by_cases a : q z = true
        · rw [if_pos a, if_pos (h z (.head _) a), List.length_cons, List.length_cons]; omega
        · rw [if_neg a]
          by_cases b : p z = true
          · rw [if_pos b, List.length_cons]; omega
          · rw [if_neg b]; exact ih
    rw [List.filter_cons, List.filter_cons]
    by_cases e : x = y
    · subst e
      rw [if_neg (by rw [h2]; exact Bool.false_ne_true), if_pos h1, List.length_cons]
      have := le fun x hx => h x (.tail _ hx)
      omega
    · have hm : x ∈ l := (List.mem_cons.mp hx).resolve_left e
      have ih := filter_lt (fun x hx => h x (.tail _ hx)) ⟨x, hm, h1, h2⟩
      by_cases a : q y = true
      · rw [if_pos a, if_pos (h y (.head _) a), List.length_cons, List.length_cons]; omega
      · rw [if_neg a]
        by_cases b : p y = true
        · rw [if_pos b, List.length_cons]; omega
        · rw [if_neg b]; exact ih
open Classical in
noncomputable def muB (n w : Nat) (V : Mat) (bs : List Nat) : Nat := ((allL n (w + n)).filter fun L => decide (0 < det (n + 2) 0 (bm n V L) ∧ lessB n w V bs L)).length
theorem Inv.mem (I : Inv n w V bs T s) : bs ∈ allL n (w + n) := mem_allL I.len fun x hx => by
  obtain ⟨k, hk, e⟩ := List.mem_iff_getElem.mp hx
  have := I.bl k (by rw [← I.len]; exact hk)
  rw [List.getD_eq_getElem?_getD, List.getElem?_eq_getElem hk, e] at this
  exact this
open Classical in
theorem mu_lt {bs' : List Nat} {T' : Nat → Nat → Int} {s' : Int} (I : Inv n w V bs T s) (I' : Inv n w V bs' T' s') (h : lessB n w V bs bs') : muB n w V bs' < muB n w V bs := by
  unfold muB
  refine filter_lt (fun L _ hq => ?_) ⟨bs', I'.mem, ?_, ?_⟩
  · have hq := of_decide_eq_true hq
    exact decide_eq_true ⟨hq.1, less_trans (by rw [I.det]; exact I.pos) (by rw [I'.det]; exact I'.pos) hq.1 h hq.2⟩
  · exact decide_eq_true ⟨by rw [I'.det]; exact I'.pos, h⟩
  · exact decide_eq_false fun z => LexP.irr (fun p _ => by omega) z.2
theorem Inv.step (I : Inv n w V bs T s) (S : Start n w V) (F : Feas n w T) {r c : Nat} (hr : r < n) (hc : c < w + n) (hp : 0 < T r c) (hl : T n c < 0 ∨ T n c = 0 ∧ T (n + 1) c < 0) : muB n w V (bs.set r c) < muB n w V bs :=
  mu_lt I (I.turn hr hc hp) (I.up S F hr hc hp hl)
end
end Sp.Dt

/-! Wgh: columns weighed so that they meet what is due: the slate at its start, and what its end tells. -/
namespace Sp.Dt
/-- columns C, due D, gains G, signs f: the slate's start columns -/
def stV (n w : Nat) (C : Nat → Nat → Int) (D G f : Nat → Int) : Mat := fun v c =>
  if v < w then (if c < n then f c * C v c else if c = n then -sig n (fun i => f i * C v i) else if c = n + 1 then -G v else 0)
  else if v = w + n then (if c < n then f c * D c else if c = n then -sig n (fun i => f i * D i) else 0)
  else uni (v - w) c
def sgnF (D : Nat → Int) (i : Nat) : Int := if D i < 0 then -1 else 1
theorem sgnF_sq (D : Nat → Int) (i : Nat) : sgnF D i * sgnF D i = 1 := by
  unfold sgnF
  by_cases h : D i < 0
  · rw [if_pos h]; rfl
  · rw [if_neg h]; rfl
theorem sgnF_due (D : Nat → Int) (i : Nat) : 0 ≤ sgnF D i * D i := by
  unfold sgnF
  by_cases h : D i < 0
  · rw [if_pos h]; omega
  · rw [if_neg h]; omega
section
variable {n w : Nat} {C : Nat → Nat → Int} {D G : Nat → Int} {bs : List Nat} {T : Nat → Nat → Int} {s : Int}
theorem stV_col {f : Nat → Int} {v c : Nat} (hv : v < w) (hc : c < n) : stV n w C D G f v c = f c * C v c := by unfold stV; rw [if_pos hv, if_pos hc]
theorem stV_due {f : Nat → Int} {c : Nat} (hc : c < n) : stV n w C D G f (w + n) c = f c * D c := by unfold stV; rw [if_neg (by omega), if_pos rfl, if_pos hc]
theorem stV_gain {f : Nat → Int} {v : Nat} (hv : v < w) : stV n w C D G f v (n + 1) = -G v := by unfold stV; rw [if_pos hv, if_neg (by omega), if_neg (by omega), if_pos rfl]
theorem stV_gain0 {f : Nat → Int} {v : Nat} (hv : ¬ v < w) (h2 : v ≤ w + n) : stV n w C D G f v (n + 1) = 0 := by
  unfold stV
  rw [if_neg hv]
  by_cases e : v = w + n
  · rw [if_pos e, if_neg (by omega), if_neg (by omega)]
  · rw [if_neg e]; unfold uni; rw [if_neg (by omega)]
theorem stV_slack {f : Nat → Int} {i : Nat} (hi : i < n) (c : Nat) : stV n w C D G f (w + i) c = uni i c := by
  unfold stV
  rw [if_neg (by omega), if_neg (by omega), show w + i - w = i by omega]
theorem stV_start (f : Nat → Int) : Start n w (stV n w C D G f) where
  slack := fun i hi c => stV_slack hi c
  short := fun v hv => by
    rcases hv with h | h
    · rw [show sig n (stV n w C D G f v) = sig n fun i => f i * C v i from sig_congr fun i hi => stV_col h hi]
      unfold stV
      rw [if_pos h, if_neg (Nat.lt_irrefl n), if_pos rfl]
    · subst h
      rw [show sig n (stV n w C D G f (w + n)) = sig n fun i => f i * D i from sig_congr fun i hi => stV_due hi]
      unfold stV
      rw [if_neg (by omega), if_pos rfl, if_neg (Nat.lt_irrefl n), if_pos rfl]
theorem getD_range (w : Nat) {k n : Nat} (hk : k < n) : ((List.range n).map (w + ·)).getD k 0 = w + k := by
  rw [List.getD_eq_getElem?_getD, List.getElem?_map, List.getElem?_range hk] <;> rfl
theorem inv_start (f : Nat → Int) : Inv n w (stV n w C D G f) ((List.range n).map (w + ·)) (fun k v => stV n w C D G f v k) 1 := by
  have eb : bm n (stV n w C D G f) ((List.range n).map (w + ·)) = fun k => uni (0 + k) := funext fun k => by
    unfold bm
    rw [Nat.zero_add]
    by_cases h : k < n
    · rw [if_pos h, getD_range w h]; exact funext fun c => stV_slack h c
    · rw [if_neg h]
  refine ⟨by decide, by rw [List.length_map, List.length_range], fun k hk => by rw [getD_range w hk]; omega, ?_, fun v hv c hc => ?_⟩
  · rw [eb]; exact det_uni (n + 2) 0
  · rw [eb, Int.one_mul, uni_all (stV n w C D G f v) (n + 2) hc]
    exact sig_congr fun k _ => by show _ = stV n w C D G f v k * uni (0 + k) c; rw [Nat.zero_add]
theorem feas_start : Feas n w (fun k v => stV n w C D G (sgnF D) v k) := fun k hk p hp _ => by
  show 0 ≤ stV n w C D G (sgnF D) (cl n w p) k
  unfold cl
  by_cases h : p = 0
  · rw [if_pos h, stV_due hk]; exact sgnF_due D k
  · rw [if_neg h, stV_slack (by omega)]
    unfold uni
    by_cases e : k = p - 1
    · rw [if_pos e]; decide
    · rw [if_neg e]; exact Int.le_refl 0
/-- how often column j is taken: by the rows a -/
def hold (n : Nat) (bs : List Nat) (a : Nat → Int) (j : Nat) : Int := sig n fun k => if bs.getD k 0 = j then a k else 0
theorem hold_sum (a F : Nat → Int) : sig w (fun j => hold n bs a j * F j) = sig n fun k => if bs.getD k 0 < w then a k * F (bs.getD k 0) else 0 := by
  unfold hold
  rw [sig_congr (g := fun j => sig n fun k => (if bs.getD k 0 = j then a k else 0) * F j) fun j _ => by
    rw [Int.mul_comm, ← sig_mul]
    exact sig_congr fun k _ => Int.mul_comm _ _]
  rw [sig_comm]
  refine sig_congr fun k _ => ?_
  by_cases h : bs.getD k 0 < w
  · rw [if_pos h, sig_one (k := bs.getD k 0) h fun j _ hne => by rw [if_neg (Ne.symm hne), Int.zero_mul], if_pos rfl]
  · rw [if_neg h]
    exact sig_zero fun j hj => by rw [if_neg (by omega), Int.zero_mul]
theorem Inv.own (I : Inv n w V bs T s) {k j : Nat} (hk : k < n) (e : bs.getD k 0 = j) (a : Nat → Int) : hold n bs a j = a k := by
  unfold hold
  rw [sig_one (k := k) hk fun i hi hne => if_neg fun q => hne (I.inj hi hk (q.trans e.symm)), if_pos e]
theorem hold_none {a : Nat → Int} {j : Nat} (h : ∀ k, k < n → bs.getD k 0 ≠ j) : hold n bs a j = 0 := sig_zero fun k hk => if_neg (h k hk)
theorem hold_pos {a : Nat → Int} (h : ∀ k, k < n → 0 ≤ a k) (j : Nat) : 0 ≤ hold n bs a j := sig_pos fun k hk => by
  by_cases c : bs.getD k 0 = j
  · rw [if_pos c]; exact h k hk
  · rw [if_neg c]; exact Int.le_refl 0
theorem sgn_cancel {D : Nat → Int} {c : Nat} {a b : Int} (h : sgnF D c * a = sgnF D c * b) : a = b := by
  have q := sgnF_sq D c
  have e : sgnF D c * (sgnF D c * a) = sgnF D c * (sgnF D c * b) := by rw [h]
  rw [← Int.mul_assoc, ← Int.mul_assoc, q, Int.one_mul, Int.one_mul] at e
  exact e
abbrev InvW (n w : Nat) (C : Nat → Nat → Int) (D G : Nat → Int) := Inv n w (stV n w C D G (sgnF D))
theorem feas_rhs (F : Feas n w T) {k : Nat} (hk : k < n) : 0 ≤ T k (w + n) := F k hk 0 (by omega) fun q hq => absurd hq (Nat.not_lt_zero q)
/-- what is short is never above nought; where it is nought, each slack row holds nought -/
theorem InvW.short_rhs (I : InvW n w C D G bs T s) (F : Feas n w T) : T n (w + n) ≤ 0 ∧ (T n (w + n) = 0 → ∀ k, k < n → ¬ bs.getD k 0 < w → T k (w + n) = 0) := by
  have e := Inv.short I (stV_start _) (v := w + n) (.inr rfl)
  have p : ∀ k, k < n → 0 ≤ (fun k => if bs.getD k 0 < w then 0 else T k (w + n)) k := fun k hk => by
    show 0 ≤ if bs.getD k 0 < w then 0 else T k (w + n)
    by_cases c : bs.getD k 0 < w
    · rw [if_pos c]; exact Int.le_refl 0
    · rw [if_neg c]; exact feas_rhs F hk
  have q := sig_pos p
  refine ⟨by omega, fun h k hk c => ?_⟩
  have z := sig_nul p (by omega) k hk
  have z : (if bs.getD k 0 < w then 0 else T k (w + n)) = 0 := z
  rw [if_neg c] at z
  exact z
/-- where a column lessens what is short, some row is used up -/
theorem InvW.short_col (I : InvW n w C D G bs T s) {v : Nat} (hv : v < w) (h : ∀ k, k < n → T k v ≤ 0) : 0 ≤ T n v ∧ (T n v = 0 → ∀ k, k < n → ¬ bs.getD k 0 < w → T k v = 0) := by
  have e := Inv.short I (stV_start _) (v := v) (.inl hv)
  have p : ∀ k, k < n → 0 ≤ (fun k => -(if bs.getD k 0 < w then 0 else T k v)) k := fun k hk => by
    show 0 ≤ -(if bs.getD k 0 < w then 0 else T k v)
    by_cases c : bs.getD k 0 < w
    · rw [if_pos c]; exact Int.le_refl 0
    · rw [if_neg c]; have := h k hk; omega
  have q := sig_pos p
  have e2 : sig n (fun k => -(if bs.getD k 0 < w then 0 else T k v)) = -sig n (fun k => if bs.getD k 0 < w then 0 else T k v) := by
    have := sig_mul (-1) (fun k => if bs.getD k 0 < w then 0 else T k v) n
    rw [show (fun k => -(if bs.getD k 0 < w then 0 else T k v)) = fun k => (-1) * (if bs.getD k 0 < w then 0 else T k v) from funext fun k => by omega, this]
    omega
  refine ⟨by omega, fun hz k hk c => ?_⟩
  have z := sig_nul p (by omega) k hk
  have z : -(if bs.getD k 0 < w then 0 else T k v) = 0 := z
  rw [if_neg c] at z
  omega
/-- the weights meet what is due -/
theorem InvW.meet (I : InvW n w C D G bs T s) (F : Feas n w T) (h0 : T n (w + n) = 0) {c : Nat} (hc : c < n) :
    sig w (fun j => hold n bs (fun k => T k (w + n)) j * C j c) = s * D c := by
  have z := (I.short_rhs F).2 h0
  rw [hold_sum]
  have e := Inv.meets I (v := w + n) (Nat.le_refl _) hc
  rw [stV_due hc] at e
  refine sgn_cancel (D := D) (c := c) ?_
  rw [← sig_mul, show sgnF D c * (s * D c) = s * (sgnF D c * D c) by grind, e]
  refine sig_congr fun k hk => ?_
  by_cases b : bs.getD k 0 < w
  · rw [if_pos b, stV_col b hc]; grind
  · rw [if_neg b, z k hk b]; grind
theorem InvW.gains (I : InvW n w C D G bs T s) : sig w (fun j => hold n bs (fun k => T k (w + n)) j * G j) = T (n + 1) (w + n) := by
  rw [hold_sum]
  have e := Inv.gain I (v := w + n) (Nat.le_refl _)
  rw [stV_gain0 (by omega) (Nat.le_refl _), Int.mul_zero] at e
  have e2 : sig n (fun k => T k (w + n) * stV n w C D G (sgnF D) (bs.getD k 0) (n + 1)) = -sig n fun k => if bs.getD k 0 < w then T k (w + n) * G (bs.getD k 0) else 0 := by
    have := sig_mul (-1) (fun k => if bs.getD k 0 < w then T k (w + n) * G (bs.getD k 0) else 0) n
    rw [show -sig n (fun k => if bs.getD k 0 < w then T k (w + n) * G (bs.getD k 0) else 0) = (-1) * sig n (fun k => if bs.getD k 0 < w then T k (w + n) * G (bs.getD k 0) else 0) by omega, ← this]
    refine sig_congr fun k hk => ?_
    by_cases b : bs.getD k 0 < w
    · rw [if_pos b, stV_gain b]; grind
    · rw [if_neg b, stV_gain0 b (by have := I.bl k hk; omega)]; grind
  omega
/-- the prices: of what is gained, g times, and of what is short, h times -/
def priceY (n w : Nat) (D : Nat → Int) (T : Nat → Nat → Int) (s g h : Int) (i : Nat) : Int := sgnF D i * (g * T (n + 1) (w + i) + h * (T n (w + i) - s))
theorem price_sum (I : InvW n w C D G bs T s) (g h : Int) {v : Nat} (hv : v < w ∨ v = w + n) (F : Nat → Int) (hF : ∀ i, i < n → stV n w C D G (sgnF D) v i = sgnF D i * F i) :
    sig n (fun i => priceY n w D T s g h i * F i) = g * (T (n + 1) v - stV n w C D G (sgnF D) v (n + 1) * s) + h * T n v := by
  have hv2 : v ≤ w + n := by omega
  obtain ⟨p1, p2⟩ := Inv.price I (stV_start _) hv2
  have sh := (stV_start (n := n) (w := w) (C := C) (D := D) (G := G) (sgnF D)).short v hv
  rw [sh] at p1
  have e : sig n (fun i => priceY n w D T s g h i * F i) = g * sig n (fun i => stV n w C D G (sgnF D) v i * T (n + 1) (w + i)) + h * (sig n (fun i => stV n w C D G (sgnF D) v i * T n (w + i)) + (-s) * sig n (stV n w C D G (sgnF D) v)) := by
    rw [← sig_mul (-s), ← sig_add, ← sig_mul h, ← sig_mul g, ← sig_add]
    refine sig_congr fun i hi => ?_
    rw [hF i hi]
    unfold priceY
    grind
  rw [e]
  grind
theorem InvW.prices (I : InvW n w C D G bs T s) (g h : Int) {j : Nat} (hj : j < w) : sig n (fun i => priceY n w D T s g h i * C j i) = g * (T (n + 1) j + G j * s) + h * T n j := by
  rw [price_sum I g h (.inl hj) (C j) fun i hi => stV_col hj hi, stV_gain hj]
  grind
theorem InvW.pricesD (I : InvW n w C D G bs T s) (g h : Int) : sig n (fun i => priceY n w D T s g h i * D i) = g * T (n + 1) (w + n) + h * T n (w + n) := by
  rw [price_sum I g h (.inr rfl) D fun i hi => stV_due hi, stV_gain0 (by omega) (Nat.le_refl _)]
  grind
/-- the way, as column v comes in for ever -/
def wayW (n : Nat) (bs : List Nat) (T : Nat → Nat → Int) (s : Int) (v j : Nat) : Int := (if j = v then s else 0) + hold n bs (fun k => -T k v) j
theorem InvW.out (I : InvW n w C D G bs T s) {v : Nat} (hv : v ≤ w + n) (h : T (n + 1) v ≠ 0) : ∀ k, k < n → bs.getD k 0 ≠ v := fun k hk e => h (by
  rw [← Inv.entry I (show n + 1 < n + 2 by omega) hv]
  exact det_eq0 (i := n + 1) (j := k) (by omega) (by omega) (by omega) (by
    rw [put_same, put_ne _ _ (by omega)]
    unfold bm
    rw [if_pos hk, e]))
theorem InvW.way (I : InvW n w C D G bs T s) {v : Nat} (hv : v < w) (h : ∀ k, k < n → T k v ≤ 0) (h0 : T n v = 0) {c : Nat} (hc : c < n) : sig w (fun j => wayW n bs T s v j * C j c) = 0 := by
  have z := (I.short_col hv h).2 h0
  have e := Inv.meets I (v := v) (by omega) hc
  rw [stV_col hv hc] at e
  unfold wayW
  rw [sig_congr (g := fun j => (if j = v then s else 0) * C j c + hold n bs (fun k => -T k v) j * C j c) fun j _ => by rw [Int.add_mul], sig_add, hold_sum, sig_one (k := v) hv fun j _ hne => by rw [if_neg hne, Int.zero_mul], if_pos rfl]
  refine sgn_cancel (D := D) (c := c) ?_
  rw [Int.mul_add, ← sig_mul, show sgnF D c * (s * C v c) = s * (sgnF D c * C v c) by grind, e, Int.mul_zero, ← sig_add]
  refine sig_zero fun k hk => ?_
  by_cases b : bs.getD k 0 < w
  · rw [if_pos b, stV_col b hc]; grind
  · rw [if_neg b, z k hk b]; grind
theorem InvW.wayG (I : InvW n w C D G bs T s) {v : Nat} (hv : v < w) : sig w (fun j => wayW n bs T s v j * G j) = -T (n + 1) v := by
  have e := Inv.gain I (v := v) (by omega)
  rw [stV_gain hv] at e
  unfold wayW
  rw [sig_congr (g := fun j => (if j = v then s else 0) * G j + hold n bs (fun k => -T k v) j * G j) fun j _ => by rw [Int.add_mul], sig_add, hold_sum, sig_one (k := v) hv fun j _ hne => by rw [if_neg hne, Int.zero_mul], if_pos rfl]
  have e2 : sig n (fun k => if bs.getD k 0 < w then -T k v * G (bs.getD k 0) else 0) = sig n (fun k => T k v * stV n w C D G (sgnF D) (bs.getD k 0) (n + 1)) := sig_congr fun k hk => by
    by_cases b : bs.getD k 0 < w
    · rw [if_pos b, stV_gain b]; grind
    · rw [if_neg b, stV_gain0 b (by have := I.bl k hk; omega)]; grind
  rw [e2]
  grind
theorem InvW.way_pos (I : InvW n w C D G bs T s) {v : Nat} (h : ∀ k, k < n → T k v ≤ 0) (j : Nat) : 0 ≤ wayW n bs T s v j := by
  have a := hold_pos (n := n) (bs := bs) (a := fun k => -T k v) (fun k hk => by have := h k hk; show 0 ≤ -T k v; omega) j
  have p := I.pos
  unfold wayW
  by_cases e : j = v
  · rw [if_pos e]; omega
  · rw [if_neg e]; omega
/-! ### what is told -/
structure IsBest (n w : Nat) (C : Nat → Nat → Int) (D G : Nat → Int) (s : Int) (X Y : Nat → Int) : Prop where
  pos : 0 < s
  low : ∀ j, j < w → 0 ≤ X j
  meet : ∀ c, c < n → sig w (fun j => X j * C j c) = s * D c
  bound : ∀ j, j < w → s * G j ≤ sig n fun i => Y i * C j i
  alike : sig n (fun i => Y i * D i) = sig w fun j => X j * G j
structure IsNone (n w : Nat) (C : Nat → Nat → Int) (D : Nat → Int) (s : Int) (Y : Nat → Int) : Prop where
  pos : 0 < s
  bound : ∀ j, j < w → 0 ≤ sig n fun i => Y i * C j i
  below : sig n (fun i => Y i * D i) < 0
structure IsEndless (n w : Nat) (C : Nat → Nat → Int) (D G : Nat → Int) (s : Int) (X W : Nat → Int) : Prop where
  pos : 0 < s
  low : ∀ j, j < w → 0 ≤ X j
  meet : ∀ c, c < n → sig w (fun j => X j * C j c) = s * D c
  lowW : ∀ j, j < w → 0 ≤ W j
  nought : ∀ c, c < n → sig w (fun j => W j * C j c) = 0
  more : 0 < sig w fun j => W j * G j
theorem InvW.none (I : InvW n w C D G bs T s) (hs : T n (w + n) < 0) (hc : ∀ k, k < w → 0 ≤ T n k) : IsNone n w C D s (priceY n w D T s 0 1) where
  pos := I.pos
  bound := fun j hj => by rw [I.prices 0 1 hj]; have := hc j hj; omega
  below := by rw [I.pricesD 0 1]; omega
theorem InvW.best (I : InvW n w C D G bs T s) (F : Feas n w T) (h0 : T n (w + n) = 0) (by_ : Int) (hc : ∀ k, k < w → 0 ≤ T (n + 1) k + by_ * T n k) :
    IsBest n w C D G s (hold n bs fun k => T k (w + n)) (priceY n w D T s 1 by_) where
  pos := I.pos
  low := fun j _ => hold_pos (fun k hk => feas_rhs F hk) j
  meet := fun c hc => I.meet F h0 hc
  bound := fun j hj => by rw [I.prices 1 by_ hj]; have := hc j hj; grind
  alike := by rw [I.pricesD 1 by_, I.gains, h0]; omega
theorem InvW.endless (I : InvW n w C D G bs T s) (F : Feas n w T) (h0 : T n (w + n) = 0) {v : Nat} (hv : v < w) (hn : T n v = 0) (hg : T (n + 1) v < 0) (h : ∀ k, k < n → T k v ≤ 0) :
    IsEndless n w C D G s (hold n bs fun k => T k (w + n)) (wayW n bs T s v) where
  pos := I.pos
  low := fun j _ => hold_pos (fun k hk => feas_rhs F hk) j
  meet := fun c hc => I.meet F h0 hc
  lowW := fun j _ => I.way_pos h j
  nought := fun c hc => I.way hv h hn hc
  more := by rw [I.wayG hv]; omega
end
end Sp.Dt

/-! Slt: the slate as it stands: its rows, its signs, its base. -/
namespace Sp
open PySem PySem.Spec L2 PyProof.Rows
/-- all that is not a cell of our own stands and stays -/
theorem own_frz {B H H' : Hp} {cs : Cells} (w : Own B cs H) (s : Same H H') : ∃ B2, Same B B2 ∧ Own B2 cs H' ∧ ∀ a, a ∉ cs.map (·.1) → B2 a = H' a := by
  classical
  refine ⟨fun a => if a ∈ cs.map (·.1) then none else H' a, fun a o h => ?_, ⟨fun a o h => ?_, fun q hq => ⟨s _ _ (w.cell q hq).1, if_pos (List.mem_map.mpr ⟨q, hq, rfl⟩)⟩, w.nd⟩, fun a h => if_neg h⟩
  · have : a ∉ cs.map (·.1) := fun m => by
      obtain ⟨q, hq, rfl⟩ := List.mem_map.mp m
      rw [(w.cell q hq).2] at h; cases h
    show (if a ∈ cs.map (·.1) then none else H' a) = some o
    rw [if_neg this]; exact s _ _ (w.ex _ _ h)
  · have h : (if a ∈ cs.map (·.1) then none else H' a) = some o := h
    by_cases m : a ∈ cs.map (·.1)
    · rw [if_pos m] at h; cases h
    · rw [if_neg m] at h; exact h
theorem own_join2 {B H H' : Hp} {cs ds : Cells} (w : Own B cs H) (r : Own H ds H') : Own B (ds ++ cs) H' := by
  refine ⟨w.ex.trans r.ex, fun q hq => ?_, ?_⟩
  · rcases List.mem_append.mp hq with h | h
    · exact ⟨(r.cell q h).1, w.ex.free (r.cell q h).2⟩
    · exact ⟨r.ex _ _ (w.cell q h).1, (w.cell q h).2⟩
  · rw [List.map_append, List.nodup_append]
    refine ⟨r.nd, w.nd, fun x hx y hy e => ?_⟩
    subst e
    obtain ⟨q, hq, rfl⟩ := List.mem_map.mp hx
    obtain ⟨q2, hq2, e2⟩ := List.mem_map.mp hy
    have h1 := (r.cell q hq).2
    have h2 := (w.cell q2 hq2).1
    rw [e2, h1] at h2
    cases h2
theorem Own.perm2 {B H : Hp} {cs ds : Cells} (w : Own B cs H) (h : cs.Perm ds) : Own B ds H := ⟨w.ex, fun q hq => w.cell q (h.mem_iff.mpr hq), (h.map (·.1)).nodup_iff.mp w.nd⟩
theorem own_one {H : Hp} {p : Addr} {o : HO} (h : H p = some o) : ∃ B, Own B [(p, o)] H ∧ ∀ q, q ≠ p → B q = H q := by
  classical
  refine ⟨fun q => if q = p then none else H q, ⟨fun q u e => ?_, fun q hq => ?_, ?_⟩, fun q hq => if_neg hq⟩
  · have e : (if q = p then none else H q) = some u := e
    by_cases c : q = p
    · rw [if_pos c] at e; cases e
    · rw [if_neg c] at e; exact e
  · rw [List.mem_singleton] at hq
    subst hq
    exact ⟨h, if_pos rfl⟩
  · exact List.nodup_cons.mpr ⟨fun m => (nomatch m), List.nodup_nil⟩
def RwAt (B : Hp) (rs : List Addr) (W : Nat) (T : Nat → Nat → Int) : Prop := ∀ k t, rs[k]? = some t → B t = some (.lst ((tl W (T k)).map V.int))
theorem RwAt.same {B B' : Hp} (s : Same B B') {rs : List Addr} {W : Nat} {T : Nat → Nat → Int} (h : RwAt B rs W T) : RwAt B' rs W T := fun k t e => s _ _ (h k t e)
theorem RwAt.snoc {B : Hp} {rs : List Addr} {W : Nat} {T : Nat → Nat → Int} {t : Addr} (h : RwAt B rs W T) (ht : B t = some (.lst ((tl W (T rs.length)).map V.int))) : RwAt B (rs ++ [t]) W T := fun k u e => by
  by_cases c : k < rs.length
  · rw [List.getElem?_append_left c] at e; exact h k u e
  · rw [List.getElem?_append_right (by omega)] at e
    have e0 : k - rs.length = 0 := by
      by_cases d : k - rs.length = 0
      · exact d
      · rw [List.getElem?_eq_none (by rw [List.length_singleton]; omega)] at e; cases e
    rw [e0] at e
    cases e
    rw [show k = rs.length by omega]
    exact ht
def slF (w : Nat) (ps pr pb : Addr) (s : Int) : List (Str × V) := [("wide", .int (w : Int)), ("signs", .ref ps), ("rows", .ref pr), ("base", .ref pb), ("share", .int s)]
structure SlB (B : Hp) (n w : Nat) (T : Nat → Nat → Int) (sg : List Int) (ps pr : Addr) (rs : List Addr) : Prop where
  hs : B ps = some (.lst (sg.map V.int))
  hr : B pr = some (.lst (rs.map V.ref))
  sl : sg.length = n
  len : rs.length = n + 2
  row : RwAt B rs (w + n + 1) T
theorem SlB.same {B B' : Hp} (s : Same B B') {n w : Nat} {T : Nat → Nat → Int} {sg : List Int} {ps pr : Addr} {rs : List Addr} (h : SlB B n w T sg ps pr rs) : SlB B' n w T sg ps pr rs :=
  ⟨s _ _ h.hs, s _ _ h.hr, h.sl, h.len, h.row.same s⟩
/-- a slate as it stands -/
structure SlAt (C : Addr) (H : Hp) (a : Addr) (n w : Nat) (T : Nat → Nat → Int) (s : Int) (bs : List Nat) (sg : List Int) (dx ps pr pb : Addr) (rs : List Addr) : Prop where
  e : H a = some (.ins C dx (slF w ps pr pb s))
  hb : H pb = some (.lst (bs.map vnat))
  hl : bs.length = n
  all : SlB H n w T sg ps pr rs
section
variable {C : Addr} {H H' : Hp} {a dx ps pr pb : Addr} {n w : Nat} {T : Nat → Nat → Int} {s : Int} {bs : List Nat} {sg : List Int} {rs : List Addr} {K : PySem.W.Frag}
theorem SlAt.same (S : SlAt C H a n w T s bs sg dx ps pr pb rs) (e : Same H H') : SlAt C H' a n w T s bs sg dx ps pr pb rs := ⟨e _ _ S.e, e _ _ S.hb, S.hl, S.all.same e⟩
theorem SlAt.rows (S : SlAt C H a n w T s bs sg dx ps pr pb rs) : SqL K H pr (rs.map V.ref) := SqL.of S.all.hr
theorem SlAt.base (S : SlAt C H a n w T s bs sg dx ps pr pb rs) : SqL K H pb (bs.map vnat) := SqL.of S.hb
theorem SlAt.signs (S : SlAt C H a n w T s bs sg dx ps pr pb rs) : SqL K H ps (sg.map V.int) := SqL.of S.all.hs
/-- row k -/
theorem SlAt.at (S : SlAt C H a n w T s bs sg dx ps pr pb rs) {k : Nat} (hk : k < n + 2) : ∃ t, rs[k]? = some t ∧ atI (rs.map V.ref) (k : Int) = some (.ref t) ∧ SqL K H t ((tl (w + n + 1) (T k)).map V.int) := by
  have hl := S.all.len
  refine ⟨rs[k], List.getElem?_eq_getElem (by omega), ?_, SqL.of (S.all.row k _ (List.getElem?_eq_getElem (by omega)))⟩
  unfold atI ixN
  rw [List.length_map, if_pos (by omega), if_pos (by omega), Option.bind_some, Int.toNat_natCast, List.getElem?_map, List.getElem?_eq_getElem (by omega)] <;> rfl
theorem SlAt.at2 (S : SlAt C H a n w T s bs sg dx ps pr pb rs) : ∃ t, rs[n]? = some t ∧ atI (rs.map V.ref) (-2) = some (.ref t) ∧ SqL K H t ((tl (w + n + 1) (T n)).map V.int) := by
  have hl := S.all.len
  obtain ⟨t, h1, h2, h3⟩ := S.at (K := K) (show n < n + 2 by omega)
  refine ⟨t, h1, ?_, h3⟩
  unfold atI ixN
  rw [List.length_map, if_neg (by decide), if_pos (by omega), Option.bind_some, List.getElem?_map, show ((-2 : Int) + (rs.length : Int)).toNat = n by omega, h1] <;> rfl
theorem SlAt.at1 (S : SlAt C H a n w T s bs sg dx ps pr pb rs) : ∃ t, rs[n + 1]? = some t ∧ atI (rs.map V.ref) (-1) = some (.ref t) ∧ SqL K H t ((tl (w + n + 1) (T (n + 1))).map V.int) := by
  have hl := S.all.len
  obtain ⟨t, h1, h2, h3⟩ := S.at (K := K) (show n + 1 < n + 2 by omega)
  refine ⟨t, h1, ?_, h3⟩
  unfold atI ixN
  rw [List.length_map, if_neg (by decide), if_pos (by omega), Option.bind_some, List.getElem?_map, show ((-1 : Int) + (rs.length : Int)).toNat = n + 1 by omega, h1] <;> rfl
theorem row_at {W : Nat} {f : Nat → Int} {v : Nat} (hv : v < W) : atI ((tl W f).map V.int) (v : Int) = some (.int (f v)) := by
  rw [at_int (by omega) (by rw [tl_len]; omega), gi_tln hv]
theorem row_last {W : Nat} {f : Nat → Int} : atI ((tl (W + 1) f).map V.int) (-1) = some (.int (f W)) := by
  have hl : (tl (W + 1) f).length = W + 1 := tl_len _ _
  rw [at_last (by omega), hl, show ((W + 1 : Nat) : Int) - 1 = (W : Int) by omega, gi_tln (by omega)]
/-- the column that stands at p, as the program names it: the last one, then the slack ones -/
theorem row_cl {n w p : Nat} {f : Nat → Int} (hp : p < n + 1) : atI ((tl (w + n + 1) f).map V.int) (if p = 0 then -1 else (w : Int) + ((p : Int) - 1)) = some (.int (f (Dt.cl n w p))) := by
  unfold Dt.cl
  by_cases c : p = 0
  · rw [if_pos c, if_pos c]; exact row_last
  · rw [if_neg c, if_neg c, show (w : Int) + ((p : Int) - 1) = ((w + (p - 1) : Nat) : Int) by omega]; exact row_at (by omega)
end
structure Siz (c n w : Nat) (T : Nat → Nat → Int) (s : Int) : Prop where
  c0 : 0 < c
  c1 : c ≤ 4400
  row : ∀ k, k < n + 2 → ∀ v, v ≤ w + n → (T k v).natAbs < 2 ^ c
  sh : s.natAbs < 2 ^ c
theorem Siz.mul {c n w : Nat} {T : Nat → Nat → Int} {s x y : Int} (z : Siz c n w T s) (hx : x.natAbs < 2 ^ c) (hy : y.natAbs < 2 ^ c) : IntMulOk x y := mulok hx hy z.c0 z.c0 (by have := z.c1; omega)
theorem Siz.log {c n w : Nat} {T : Nat → Nat → Int} {s : Int} (z : Siz c n w T s) (h0 : 0 < s) : s.natAbs.log2 < 9000 := by
  have h1 : s.natAbs.log2 < c := PySem.Flt.log2_lt_of z.c0 z.sh
  have := z.c1
  omega
theorem cl_row {n w p : Nat} (h : p < n + 1) : Dt.cl n w p ≤ w + n := Dt.cl_le h
def tl2 {α : Type} (n : Nat) (f : Nat → α) : List α := (List.range n).map f
theorem x_lstRg2 {σ : L2.St} {H : Hp} {Q : VK} {ta tb : TE} (h : ta σ H fun x H1 => tb σ H1 fun y H2 => ∃ i j, x = .int i ∧ y = .int j ∧ RgOk i j ∧ ∀ q, H2 q = none → Q (.ref q) (upd H2 q (.lst (rgV i j)))) : tLstRg (tRg2 ta tb) σ H Q := h
/-- what come_in tells -/
structure ComeAt (n w : Nat) (T : Nat → Nat → Int) (v : Nat) : Prop where
  lt : v < w
  why : T n v < 0 ∨ T n (w + n) = 0 ∧ T n v = 0 ∧ T (n + 1) v < 0
structure ComeNo (n w : Nat) (T : Nat → Nat → Int) : Prop where
  short : ∀ v, v < w → 0 ≤ T n v
  gain : T n (w + n) = 0 → ∀ v, v < w → T n v = 0 → 0 ≤ T (n + 1) v
theorem first_trans {n w r k c : Nat} {T : Nat → Nat → Int} (hr : 0 < T r c) (hk : 0 < T k c) (m : Nat)
    (h1 : Dt.LexN m fun p => T r (Dt.cl n w p) * T k c - T k (Dt.cl n w p) * T r c) {i : Nat} (hi : 0 < T i c) (h2 : Dt.LexN m fun p => T i (Dt.cl n w p) * T r c - T r (Dt.cl n w p) * T i c) :
    Dt.LexN m fun p => T i (Dt.cl n w p) * T k c - T k (Dt.cl n w p) * T i c := by
  refine Dt.LexN.of_mul hr ?_
  refine ((h1.mul (a := T i c) (by omega)).add (h2.mul (a := T k c) (by omega))).congr fun p _ => ?_
  grind
theorem FrAll.of {H : Hp} : ∀ {ts : List Addr} {fs : List (Int × Int)}, ts.length = fs.length → (∀ (i : Nat) (t : Addr) (f : Int × Int), ts[i]? = some t → fs[i]? = some f → H t = some (.tup (frV f))) → FrAll H ts fs
  | [], [], _, _ => .nil
  | [], _ :: _, h, _ => nomatch h
  | _ :: _, [], h, _ => nomatch h
  | t :: ts, f :: fs, h, k => .cons (k 0 t f rfl rfl) (FrAll.of (Nat.succ.inj h) fun i u g e1 e2 => k (i + 1) u g (by simpa using e1) (by simpa using e2))
theorem FrAll.get {H : Hp} {ts : List Addr} {fs : List (Int × Int)} (h : FrAll H ts fs) {i : Nat} {t : Addr} {f : Int × Int} (e1 : ts[i]? = some t) (e2 : fs[i]? = some f) : H t = some (.tup (frV f)) := by
  obtain ⟨g, hg, ht⟩ := h.at e1
  rw [e2] at hg
  cases hg
  exact ht
theorem FrAll.put {H : Hp} {ts : List Addr} {fs : List (Int × Int)} (h : FrAll H ts fs) {j : Nat} {t : Addr} {f : Int × Int} (ht : H t = some (.tup (frV f))) : FrAll H (ts.set j t) (fs.set j f) := by
  refine FrAll.of (by rw [List.length_set, List.length_set, h.len]) fun i u g e1 e2 => ?_
  by_cases c : j = i
  · subst c
    have hi : j < ts.length := by have := (List.getElem?_eq_some_iff.mp e1).1; rw [List.length_set] at this; exact this
    rw [List.getElem?_set_self hi] at e1
    rw [List.getElem?_set_self (by rw [← h.len]; exact hi)] at e2
    cases e1; cases e2
    exact ht
  · rw [List.getElem?_set_ne c] at e1 e2
    exact h.get e1 e2
theorem FrAll.rep {H : Hp} {t : Addr} {f : Int × Int} (n : Nat) (ht : H t = some (.tup (frV f))) : FrAll H (List.replicate n t) (List.replicate n f) := by
  refine FrAll.of (by rw [List.length_replicate, List.length_replicate]) fun i u g e1 e2 => ?_
  have h1 := List.mem_replicate.mp (List.mem_of_getElem? e1)
  have h2 := List.mem_replicate.mp (List.mem_of_getElem? e2)
  rw [h1.2, h2.2]
  exact ht
theorem rep_refs (n : Nat) (t : Addr) : (List.replicate n [V.ref t]).flatten = (List.replicate n t).map V.ref := by
  induction n with
  | zero => rfl
  | succ n ih => rw [List.replicate_succ, List.replicate_succ, List.flatten_cons, ih, List.map_cons] <;> rfl
/-- what is told of the columns behind the first i rows -/
def fsTo (w : Nat) (g : Nat → Int) (bs : List Nat) (a : Nat → Int) (s : Int) (i : Nat) : List (Int × Int) := (List.range w).map fun j => shortM (g j + Dt.hold i bs a j) s
theorem short_zero {s : Int} (h : 0 < s) : shortM 0 s = (0, 1) := by
  unfold shortM gcdI
  rw [if_pos h, Int.gcd_zero_left, Int.zero_ediv, show ((s.natAbs : Nat) : Int) = s by omega, Int.ediv_self (by omega)]
theorem short_one {s : Int} (h : 0 < s) : shortM s s = (1, 1) := by
  unfold shortM gcdI
  rw [if_pos h, Int.gcd_self, show ((s.natAbs : Nat) : Int) = s by omega, Int.ediv_self (by omega)]
theorem fsTo_zero {w : Nat} {bs : List Nat} {a : Nat → Int} {s : Int} (h : 0 < s) : fsTo w (fun _ => 0) bs a s 0 = List.replicate w (0, 1) := by
  unfold fsTo
  rw [show (fun j => shortM (0 + Dt.hold 0 bs a j) s) = fun _ => (0, 1) from funext fun j => by show shortM (0 + 0) s = _; exact short_zero h, show (fun _ : Nat => ((0 : Int), (1 : Int))) = Function.const Nat (0, 1) from rfl, List.map_const, List.length_range]
theorem fsTo_way {w v : Nat} {bs : List Nat} {a : Nat → Int} {s : Int} (h : 0 < s) : fsTo w (fun j => if j = v then s else 0) bs a s 0 = (List.replicate w (0, 1)).set v (1, 1) := by
  unfold fsTo
  apply List.ext_getElem?
  intro j
  by_cases hj : j < w
  · rw [List.getElem?_map, List.getElem?_range hj]
    show some (shortM ((if j = v then s else 0) + 0) s) = _
    rw [Int.add_zero]
    by_cases c : v = j
    · subst c
      rw [if_pos rfl, short_one h, List.getElem?_set_self (by rw [List.length_replicate]; exact hj)]
    · rw [if_neg (Ne.symm c), short_zero h, List.getElem?_set_ne c, List.getElem?_replicate, if_pos hj]
  · rw [List.getElem?_eq_none (by rw [List.length_map, List.length_range]; omega), List.getElem?_eq_none (by rw [List.length_set, List.length_replicate]; omega)]
theorem fsTo_step {w : Nat} {g : Nat → Int} {bs : List Nat} {a : Nat → Int} {s : Int} {i : Nat} (hi : bs.getD i 0 < w) (hg : g (bs.getD i 0) = 0) (inj : ∀ k, k < i → bs.getD k 0 ≠ bs.getD i 0) :
    fsTo w g bs a s (i + 1) = (fsTo w g bs a s i).set (bs.getD i 0) (shortM (a i) s) := by
  unfold fsTo
  apply List.ext_getElem?
  intro j
  by_cases hj : j < w
  · rw [List.getElem?_map, List.getElem?_range hj]
    show some (shortM (g j + (Dt.hold i bs a j + if bs.getD i 0 = j then a i else 0)) s) = _
    by_cases c : bs.getD i 0 = j
    · rw [← c, if_pos rfl, List.getElem?_set_self (by rw [List.length_map, List.length_range]; exact hi), hg, Dt.hold_none inj]
      rw [Int.zero_add, Int.zero_add]
    · rw [if_neg c, List.getElem?_set_ne c, List.getElem?_map, List.getElem?_range hj, Int.add_zero] <;> rfl
  · rw [List.getElem?_eq_none (by rw [List.length_map, List.length_range]; omega), List.getElem?_eq_none (by rw [List.length_set, List.length_map, List.length_range]; omega)]
theorem fsTo_skip {w : Nat} {g : Nat → Int} {bs : List Nat} {a : Nat → Int} {s : Int} {i : Nat} (hi : ¬ bs.getD i 0 < w) : fsTo w g bs a s (i + 1) = fsTo w g bs a s i := by
  unfold fsTo
  refine List.map_congr_left fun j hj => ?_
  rw [List.mem_range] at hj
  show shortM (g j + (Dt.hold i bs a j + if bs.getD i 0 = j then a i else 0)) s = _
  rw [if_neg (by omega), Int.add_zero]
theorem fsTo_len (w : Nat) (g : Nat → Int) (bs : List Nat) (a : Nat → Int) (s : Int) (i : Nat) : (fsTo w g bs a s i).length = w := by unfold fsTo; rw [List.length_map, List.length_range]
theorem base_at {bs : List Nat} {i : Nat} (h : i < bs.length) : atI (bs.map vnat) (i : Int) = some (.int ((bs.getD i 0 : Nat) : Int)) := by
  unfold atI ixN
  rw [List.length_map, if_pos (by omega), if_pos (by omega), Option.bind_some, Int.toNat_natCast, List.getElem?_map, List.getElem?_eq_getElem h, List.getD_eq_getElem?_getD, List.getElem?_eq_getElem h] <;> rfl
/-! ### columns as they are handed in -/
structure ColsAt (K : PySem.W.Frag) (H : Hp) (a : Addr) (ts : List Addr) (n w : Nat) (C : Nat → Nat → Int) : Prop where
  l : SqL K H a (ts.map V.ref)
  len : ts.length = w
  row : ∀ j t, ts[j]? = some t → SqL K H t ((tl n (C j)).map V.int)
theorem ColsAt.same {K : PySem.W.Frag} {H H' : Hp} {a : Addr} {ts : List Addr} {n w : Nat} {C : Nat → Nat → Int} (s : Same H H') (h : ColsAt K H a ts n w C) : ColsAt K H' a ts n w C := ⟨s.seq h.l, h.len, fun j t e => s.seq (h.row j t e)⟩
theorem tl_more (i : Nat) (f : Nat → Int) : (tl (i + 1) f).map V.int = (tl i f).map V.int ++ [V.int (f i)] := by
  unfold tl
  rw [range_map, List.map_append] <;> rfl
theorem tl_app {a b : Nat} {f g h : Nat → Int} (h1 : ∀ v, v < a → f v = h v) (h2 : ∀ v, v < b → g v = h (a + v)) : (tl a f).map V.int ++ (tl b g).map V.int = (tl (a + b) h).map V.int := by
  rw [← List.map_append]
  congr 1
  unfold tl
  rw [List.range_add, List.map_append, List.map_map]
  congr 1
  · exact List.map_congr_left fun v hv => h1 v (List.mem_range.mp hv)
  · exact List.map_congr_left fun v hv => h2 v (List.mem_range.mp hv)
theorem tl_one {f : Nat → Int} {x : Int} (h : x = f 0) : [V.int x] = (tl 1 f).map V.int := by rw [h] <;> rfl
theorem tl_sum (n : Nat) (f : Nat → Int) : (tl n f).sum = Dt.sig n f := by
  induction n with
  | zero => rfl
  | succ n ih =>
    unfold tl at ih ⊢
    rw [range_map, List.sum_append, ih]
    show _ + (f n + 0) = Dt.sig n f + f n
    omega
theorem tl_at {n i : Nat} {f : Nat → Int} {x : V} (h : ((tl n f).map V.int)[i]? = some x) : i < n ∧ x = .int (f i) := by
  have hi := (List.getElem?_eq_some_iff.mp h).1
  rw [List.length_map, tl_len] at hi
  refine ⟨hi, ?_⟩
  unfold tl at h
  rw [List.getElem?_map, List.getElem?_map, List.getElem?_range hi] at h
  exact (Option.some.inj h).symm
theorem tl_atI {n i : Nat} {f : Nat → Int} (h : i < n) : atI ((tl n f).map V.int) (i : Int) = some (.int (f i)) := by
  rw [at_int (by omega) (by rw [tl_len]; omega), gi_tln h]
theorem base_more (w i : Nat) : ((List.range (i + 1)).map (w + ·)).map vnat = ((List.range i).map (w + ·)).map vnat ++ [V.int ((w : Int) + (i : Int))] := by
  rw [range_map, List.map_append]
  show _ ++ [V.int ((w + i : Nat) : Int)] = _
  rw [show ((w + i : Nat) : Int) = (w : Int) + (i : Int) by omega]
theorem rep_int (m : Nat) (f : Nat → Int) (h : ∀ i, i < m → f i = 0) : (List.replicate m [V.int 0]).flatten = (tl m f).map V.int := by
  have e : (List.replicate m [V.int 0]).flatten = (List.replicate m (0 : Int)).map V.int := by
    induction m with
    | zero => rfl
    | succ m ih => rw [List.replicate_succ, List.replicate_succ, List.flatten_cons, ih fun i hi => h i (by omega), List.map_cons] <;> rfl
  rw [e]
  congr 1
  unfold tl
  apply List.ext_getElem?
  intro i
  by_cases hi : i < m
  · rw [List.getElem?_replicate, if_pos hi, List.getElem?_map, List.getElem?_range hi, Option.map_some, h i hi]
  · rw [List.getElem?_eq_none (by rw [List.length_replicate]; omega), List.getElem?_eq_none (by rw [List.length_map, List.length_range]; omega)]
theorem sgn_lt (D : Nat → Int) (i : Nat) : (Dt.sgnF D i).natAbs < 2 ^ 2 := by
  unfold Dt.sgnF
  by_cases c : D i < 0
  · rw [if_pos c]; decide
  · rw [if_neg c]; decide
end Sp

/-! Wst: what weighing tells, as it stands in the heap; its sizes. -/
namespace Sp
open PySem PySem.Spec L2 PyProof.Rows
theorem fact_ten : ∀ n, n < 9 → Dt.fact (n + 2) < 2 ^ 22 := by decide +kernel
theorem sig_lt {f : Nat → Int} {b n : Nat} (h : ∀ i, i < n → (f i).natAbs ≤ b) (hn : n ≤ 8) : (Dt.sig n f).natAbs ≤ 8 * b := Nat.le_trans (Dt.sig_abs h) (Nat.mul_le_mul_right b hn)
theorem sgn_abs (Dv : Nat → Int) (i : Nat) (x : Int) : (Dt.sgnF Dv i * x).natAbs = x.natAbs := by
  rw [Int.natAbs_mul]
  unfold Dt.sgnF
  by_cases c : Dv i < 0
  · rw [if_pos c, show (-1 : Int).natAbs = 1 from rfl, Nat.one_mul]
  · rw [if_neg c, show (1 : Int).natAbs = 1 from rfl, Nat.one_mul]
theorem stV_abs {n w x : Nat} {C : Nat → Nat → Int} {Dv G : Nat → Int} (hn : n ≤ 8) (hC : ∀ j, j < w → ∀ c, c < n → (C j c).natAbs < 2 ^ x) (hD : ∀ c, c < n → (Dv c).natAbs < 2 ^ x) (hG : ∀ j, j < w → (G j).natAbs < 2 ^ x) (v c : Nat) :
    (Dt.stV n w C Dv G (Dt.sgnF Dv) v c).natAbs ≤ 2 ^ (x + 3) := by
  have e3 : 2 ^ (x + 3) = 8 * 2 ^ x := by rw [Nat.pow_add]; omega
  have e0 := Nat.two_pow_pos x
  unfold Dt.stV
  by_cases h1 : v < w
  · rw [if_pos h1]
    by_cases h2 : c < n
    · rw [if_pos h2, sgn_abs]; have := hC v h1 c h2; omega
    · rw [if_neg h2]
      by_cases h3 : c = n
      · rw [if_pos h3, Int.natAbs_neg, e3]
        exact sig_lt (fun i hi => by rw [sgn_abs]; exact Nat.le_of_lt (hC v h1 i hi)) hn
      · rw [if_neg h3]
        by_cases h4 : c = n + 1
        · rw [if_pos h4, Int.natAbs_neg]; have := hG v h1; omega
        · rw [if_neg h4]; exact Nat.zero_le _
  · rw [if_neg h1]
    by_cases h2 : v = w + n
    · rw [if_pos h2]
      by_cases h3 : c < n
      · rw [if_pos h3, sgn_abs]; have := hD c h3; omega
      · rw [if_neg h3]
        by_cases h4 : c = n
        · rw [if_pos h4, Int.natAbs_neg, e3]
          exact sig_lt (fun i hi => by rw [sgn_abs]; exact Nat.le_of_lt (hD i hi)) hn
        · rw [if_neg h4]; exact Nat.zero_le _
    · rw [if_neg h2]
      unfold Dt.uni
      by_cases h3 : c = v - w
      · rw [if_pos h3]; show 1 ≤ _; omega
      · rw [if_neg h3]; exact Nat.zero_le _
/-- the numbers handed in, below 2 ^ x -/
structure Small3 (n w x : Nat) (C : Nat → Nat → Int) (D G : Nat → Int) : Prop where
  n8 : n ≤ 8
  w1 : w ≤ 1000
  x0 : 0 < x
  c : ∀ j, j < w → ∀ i, i < n → (C j i).natAbs < 2 ^ x
  d : ∀ i, i < n → (D i).natAbs < 2 ^ x
  g : ∀ j, j < w → (G j).natAbs < 2 ^ x
  big : 22 + (n + 2) * (x + 3) ≤ 4400
def zOf (n x : Nat) : Nat := 22 + (n + 2) * (x + 3)
theorem Small3.siz {n w x : Nat} {C : Nat → Nat → Int} {D G : Nat → Int} (h : Small3 n w x C D G) {bs : List Nat} {T : Nat → Nat → Int} {s : Int} (I : Dt.InvW n w C D G bs T s) : Siz (zOf n x) n w T s := by
  have q : Dt.fact (n + 2) * (2 ^ (x + 3)) ^ (n + 2) < 2 ^ zOf n x := by
    have e : (2 ^ (x + 3)) ^ (n + 2) = 2 ^ ((n + 2) * (x + 3)) := by rw [← Nat.pow_mul, Nat.mul_comm (x + 3)]
    have e2 : 2 ^ zOf n x = 2 ^ 22 * 2 ^ ((n + 2) * (x + 3)) := Nat.pow_add 2 22 ((n + 2) * (x + 3))
    rw [e, e2]
    exact Nat.mul_lt_mul_of_pos_right (fact_ten n (by have := h.n8; omega)) (Nat.two_pow_pos _)
  obtain ⟨a, b⟩ := Dt.Inv.size I (b := 2 ^ (x + 3)) (Nat.two_pow_pos _) (stV_abs h.n8 h.c h.d h.g)
  exact ⟨by unfold zOf; omega, h.big, fun k hk v hv => Nat.lt_of_le_of_lt (a k hk v hv) q, Nat.lt_of_le_of_lt b q⟩
theorem hold_abs {n w : Nat} {C : Nat → Nat → Int} {D G : Nat → Int} {bs : List Nat} {T : Nat → Nat → Int} {s : Int} (I : Dt.InvW n w C D G bs T s) {a : Nat → Int} {b : Nat} (h : ∀ k, k < n → (a k).natAbs < b) (hb : 0 < b) (j : Nat) : (Dt.hold n bs a j).natAbs < b := by
  by_cases c : ∃ k, k < n ∧ bs.getD k 0 = j
  · obtain ⟨k, hk, e⟩ := c
    rw [Dt.Inv.own I hk e]
    exact h k hk
  · rw [Dt.hold_none fun k hk e => c ⟨k, hk, e⟩]
    exact hb
theorem way_abs {n w v : Nat} {C : Nat → Nat → Int} {D G : Nat → Int} {bs : List Nat} {T : Nat → Nat → Int} {s : Int} (I : Dt.InvW n w C D G bs T s) {b : Nat} (h : ∀ k, k < n → (T k v).natAbs < b) (hs : s.natAbs < b) (out : ∀ k, k < n → bs.getD k 0 ≠ v) (j : Nat) : (Dt.wayW n bs T s v j).natAbs < b := by
  unfold Dt.wayW
  by_cases c : j = v
  · subst c
    rw [if_pos rfl, Dt.hold_none out, Int.add_zero]; exact hs
  · rw [if_neg c, Int.zero_add]
    exact hold_abs I (fun k hk => by rw [Int.natAbs_neg]; exact h k hk) (by omega) j
/-! ### what is told -/
inductive WghIs (n w z : Nat) (C : Nat → Nat → Int) (D G : Nat → Int) (s : Int) : Str → List (List (Int × Int)) → Prop
  | best {X Y : Nat → Int} (h : Dt.IsBest n w C D G s X Y) (hs : s.natAbs < 2 ^ z) (hX : ∀ j, (X j).natAbs < 2 ^ z) (hY : ∀ i, i < n → (Y i).natAbs < 2 ^ (z + z + 3)) : WghIs n w z C D G s "best" [tl2 w fun j => shortM (X j) s, tl2 n fun i => shortM (Y i) s]
  | none {Y : Nat → Int} (h : Dt.IsNone n w C D s Y) (hs : s.natAbs < 2 ^ z) (hY : ∀ i, i < n → (Y i).natAbs < 2 ^ (z + z + 3)) : WghIs n w z C D G s "none" [tl2 n fun i => shortM (Y i) s]
  | endless {X W : Nat → Int} (h : Dt.IsEndless n w C D G s X W) (hs : s.natAbs < 2 ^ z) (hX : ∀ j, (X j).natAbs < 2 ^ z) (hW : ∀ j, (W j).natAbs < 2 ^ z) : WghIs n w z C D G s "endless" [tl2 w fun j => shortM (X j) s, tl2 w fun j => shortM (W j) s]
/-- lists of fractions, all new since H -/
inductive FlsNew (H H' : Hp) : List Addr → List (List (Int × Int)) → Prop
  | nil : FlsNew H H' [] []
  | cons {a : Addr} {as ts : List Addr} {fs : List (Int × Int)} {ls : List (List (Int × Int))} : H a = none → H' a = some (.lst (ts.map V.ref)) → (∀ t ∈ ts, H t = none) → FrAll H' ts fs → FlsNew H H' as ls → FlsNew H H' (a :: as) (fs :: ls)
inductive FlsAt (H : Hp) : List Addr → List (List (Int × Int)) → Prop
  | nil : FlsAt H [] []
  | cons {a : Addr} {as ts : List Addr} {fs : List (Int × Int)} {ls : List (List (Int × Int))} : H a = some (.lst (ts.map V.ref)) → FrAll H ts fs → FlsAt H as ls → FlsAt H (a :: as) (fs :: ls)
theorem FlsAt.same {H H' : Hp} (s : Same H H') : ∀ {as : List Addr} {ls : List (List (Int × Int))}, FlsAt H as ls → FlsAt H' as ls
  | _, _, .nil => .nil
  | _, _, .cons h f r => .cons (s _ _ h) (f.same s) (r.same s)
theorem FlsNew.same {H H' H2 : Hp} (s : Same H' H2) : ∀ {as : List Addr} {ls : List (List (Int × Int))}, FlsNew H H' as ls → FlsNew H H2 as ls
  | _, _, .nil => .nil
  | _, _, .cons n h m f r => .cons n (s _ _ h) m (f.same s) (r.same s)
theorem FlsNew.back {H0 H H' : Hp} (s : Same H0 H) : ∀ {as : List Addr} {ls : List (List (Int × Int))}, FlsNew H H' as ls → FlsNew H0 H' as ls
  | _, _, .nil => .nil
  | _, _, .cons n h m f r => .cons (s.free n) h (fun t ht => s.free (m t ht)) f (r.back s)
theorem FlsNew.at {H H' : Hp} : ∀ {as : List Addr} {ls : List (List (Int × Int))}, FlsNew H H' as ls → FlsAt H' as ls
  | _, _, .nil => .nil
  | _, _, .cons _ h _ f r => .cons h f r.at
/-- seen from what stands and stays -/
theorem FlsNew.frz {B H H' B2 : Hp} {cs : Cells} (w : Own B cs H) (hB : ∀ a, a ∉ cs.map (·.1) → B2 a = H' a) : ∀ {as : List Addr} {ls : List (List (Int × Int))}, FlsNew H H' as ls → FlsAt B2 as ls
  | _, _, .nil => .nil
  | _, _, .cons n h m f r => .cons ((hB _ (w.off n)).trans h) (f.congr fun t ht => hB t (w.off (m t ht))) (r.frz w hB)
/-- what weigh tells: a tuple of a word and lists of fractions -/
structure ToldN (H H' : Hp) (p : Addr) (word : Str) (ls : List (List (Int × Int))) : Prop where
  ex : ∃ as, H p = none ∧ H' p = some (.tup (.str word :: as.map V.ref)) ∧ FlsNew H H' as ls
structure ToldA (H : Hp) (p : Addr) (word : Str) (ls : List (List (Int × Int))) : Prop where
  ex : ∃ as, H p = some (.tup (.str word :: as.map V.ref)) ∧ FlsAt H as ls
theorem ToldA.same {H H' : Hp} (s : Same H H') {p : Addr} {word : Str} {ls : List (List (Int × Int))} (h : ToldA H p word ls) : ToldA H' p word ls := by
  obtain ⟨as, h1, h2⟩ := h.ex
  exact ⟨as, s _ _ h1, h2.same s⟩
theorem ToldN.frz {B H H' : Hp} {cs : Cells} {p : Addr} {word : Str} {ls : List (List (Int × Int))} (w : Own B cs H) (s : Same H H') (h : ToldN H H' p word ls) : ∃ B2, Same B B2 ∧ Own B2 cs H' ∧ ToldA B2 p word ls := by
  obtain ⟨B2, sB, w2, hB⟩ := own_frz w s
  obtain ⟨as, n, h1, h2⟩ := h.ex
  exact ⟨B2, sB, w2, as, (hB p (w.off n)).trans h1, h2.frz w hB⟩
def RetWgh (n w z : Nat) (C : Nat → Nat → Int) (D G : Nat → Int) (H : Hp) (Q : VK) : Prop := ∀ (s : Int) (word : Str) (ls : List (List (Int × Int))) (p : Addr) (H' : Hp), WghIs n w z C D G s word ls → Same H H' → ToldN H H' p word ls → Q (.ref p) H'
end Sp

/-! Low: fractions over one bottom, as the laws about weighing reckon with them. -/
namespace Sp
open PySem PySem.Spec L2 PyProof.Rows
theorem x_isiStr {K : PySem.W.Frag} {H : Hp} {Q : VK} {x : Str} (q : Q (.bl true) H) : rIsi K [.str x, .ty "str"] H Q := ⟨_, .ty "str", _, _, _, rfl, .ty _, .base (.str x), kit_ty (by decide +kernel), q⟩
theorem short_dvd {x s : Int} (hs : 0 < s) : (shortM x s).2 ∣ s := by
  have e := (gcd_mul_div (a := x) (b := s) (by omega)).2
  unfold shortM
  rw [if_pos hs]
  exact ⟨gcdI x s, by rw [Int.mul_comm]; exact e.symm⟩
theorem short_pos {x s : Int} (hs : 0 < s) : 0 < (shortM x s).2 := (short_frac (a := x) (b := s) (by omega)).pos
def topW (X : Nat → Int) (s L : Int) (j : Nat) : Int := (shortM (X j) s).1 * (L / (shortM (X j) s).2)
theorem topW_eq {X : Nat → Int} {s L : Int} {j : Nat} (hs : 0 < s) (hL : (shortM (X j) s).2 ∣ L) : topW X s L j * s = X j * L := by
  have c := short_cross (a := X j) (b := s) (by omega)
  have e := Int.ediv_mul_cancel hL
  unfold topW
  have e1 : (shortM (X j) s).1 * (L / (shortM (X j) s).2) * s = ((shortM (X j) s).1 * s) * (L / (shortM (X j) s).2) := by ac_rfl
  have e2 : X j * (shortM (X j) s).2 * (L / (shortM (X j) s).2) = X j * (L / (shortM (X j) s).2 * (shortM (X j) s).2) := by ac_rfl
  rw [e1, c, e2, e]
/-- L is a bottom of all -/
structure LowOf (w : Nat) (X : Nat → Int) (s L : Int) : Prop where
  pos : 0 < L
  dvd : L ∣ s
  all : ∀ j, j < w → (shortM (X j) s).2 ∣ L
theorem topW_sum {n : Nat} {X : Nat → Int} {s L : Int} (F : Nat → Int) (hs : 0 < s) (h : LowOf n X s L) : s * Dt.sig n (fun j => F j * topW X s L j) = L * Dt.sig n fun j => X j * F j := by
  rw [← Dt.sig_mul, ← Dt.sig_mul]
  refine Dt.sig_congr fun j hj => ?_
  have e := topW_eq hs (h.all j hj)
  have e1 : s * (F j * topW X s L j) = F j * (topW X s L j * s) := by ac_rfl
  rw [e1, e]; ac_rfl
theorem topW_pos {w : Nat} {X : Nat → Int} {s L : Int} (hs : 0 < s) (h : LowOf w X s L) {j : Nat} (hj : j < w) (hX : 0 ≤ X j) : 0 ≤ topW X s L j := by
  have e := topW_eq hs (h.all j hj)
  have : 0 ≤ topW X s L j * s := by rw [e]; exact Int.mul_nonneg hX (Int.le_of_lt h.pos)
  exact Int.nonneg_of_mul_nonneg_left this hs
theorem cut_eq {s a b : Int} (hs : 0 < s) (h : s * a = s * b) : a = b := Int.eq_of_mul_eq_mul_left (by omega) h
theorem cut_le {s a b : Int} (hs : 0 < s) (h : s * a ≤ s * b) : a ≤ b := Int.le_of_mul_le_mul_left h hs
theorem cut_lt {s a b : Int} (hs : 0 < s) (h : s * a < s * b) : a < b := Int.lt_of_mul_lt_mul_left h (Int.le_of_lt hs)
/-- weights that meet due, told as fractions -/
theorem top_meets {w : Nat} {X F : Nat → Int} {s L d : Int} (hs : 0 < s) (h : LowOf w X s L) (m : Dt.sig w (fun j => X j * F j) = s * d) : Dt.sig w (fun j => F j * topW X s L j) = d * L := by
  refine cut_eq hs ?_
  rw [topW_sum F hs h, m]; ac_rfl
theorem top_bound {n : Nat} {Y F : Nat → Int} {s L g : Int} (hs : 0 < s) (h : LowOf n Y s L) (m : s * g ≤ Dt.sig n fun i => Y i * F i) : g * L ≤ Dt.sig n fun i => F i * topW Y s L i := by
  refine cut_le hs ?_
  rw [topW_sum F hs h]
  have := Int.mul_le_mul_of_nonneg_left m (Int.le_of_lt h.pos)
  have e : s * (g * L) = L * (s * g) := by ac_rfl
  rw [e]; exact this
theorem top_pos {n : Nat} {Y F : Nat → Int} {s L : Int} (hs : 0 < s) (h : LowOf n Y s L) (m : 0 < Dt.sig n fun i => Y i * F i) : 0 < Dt.sig n fun i => F i * topW Y s L i := by
  refine cut_lt hs ?_
  rw [topW_sum F hs h, Int.mul_zero]
  exact Int.mul_pos h.pos m
theorem top_nn {n : Nat} {Y F : Nat → Int} {s L : Int} (hs : 0 < s) (h : LowOf n Y s L) (m : 0 ≤ Dt.sig n fun i => Y i * F i) : 0 ≤ Dt.sig n fun i => F i * topW Y s L i := by
  refine cut_le hs ?_
  rw [topW_sum F hs h, Int.mul_zero]
  exact Int.mul_nonneg (Int.le_of_lt h.pos) m
theorem top_neg {n : Nat} {Y F : Nat → Int} {s L : Int} (hs : 0 < s) (h : LowOf n Y s L) (m : (Dt.sig n fun i => Y i * F i) < 0) : (Dt.sig n fun i => F i * topW Y s L i) < 0 := by
  refine cut_lt hs ?_
  rw [topW_sum F hs h, Int.mul_zero]
  exact Int.mul_neg_of_pos_of_neg h.pos m
theorem top_alike {n w : Nat} {X Y F G : Nat → Int} {s L1 L2 : Int} (hs : 0 < s) (h1 : LowOf w X s L1) (h2 : LowOf n Y s L2) (m : (Dt.sig n fun i => Y i * F i) = Dt.sig w fun j => X j * G j) :
    (Dt.sig n fun i => F i * topW Y s L2 i) * L1 = (Dt.sig w fun j => G j * topW X s L1 j) * L2 := by
  refine cut_eq hs ?_
  rw [← Int.mul_assoc, ← Int.mul_assoc, topW_sum F hs h2, topW_sum G hs h1, m]; ac_rfl
/-- a list of fractions X j / s -/
structure FrsAt (H : Hp) (a : Addr) (w z : Nat) (X : Nat → Int) (s : Int) : Prop where
  ex : ∃ ts, H a = some (.lst (ts.map V.ref)) ∧ FrAll H ts (tl2 w fun j => shortM (X j) s)
  s0 : 0 < s
  hs : s.natAbs < 2 ^ z
  hX : ∀ j, j < w → (X j).natAbs < 2 ^ z
  hz : z ≤ 9000
  hw : w ≤ 1000
theorem FrsAt.same {H H' : Hp} (e : Same H H') {a : Addr} {w z : Nat} {X : Nat → Int} {s : Int} (h : FrsAt H a w z X s) : FrsAt H' a w z X s := by
  obtain ⟨ts, h1, h2⟩ := h.ex
  exact ⟨⟨ts, e _ _ h1, h2.same e⟩, h.s0, h.hs, h.hX, h.hz, h.hw⟩
theorem tl2_at {α : Type} {n i : Nat} {f : Nat → α} {x : α} (h : (tl2 n f)[i]? = some x) : i < n ∧ x = f i := by
  unfold tl2 at h
  have hi := (List.getElem?_eq_some_iff.mp h).1
  rw [List.length_map, List.length_range] at hi
  rw [List.getElem?_map, List.getElem?_range hi] at h
  exact ⟨hi, (Option.some.inj h).symm⟩
theorem tl2_len {α : Type} (n : Nat) (f : Nat → α) : (tl2 n f).length = n := by unfold tl2; rw [List.length_map, List.length_range]
theorem tl2_get {α : Type} {n i : Nat} {f : Nat → α} (h : i < n) : (tl2 n f)[i]? = some (f i) := by unfold tl2; rw [List.getElem?_map, List.getElem?_range h] <;> rfl
theorem FrsAt.ok {H : Hp} {a : Addr} {w z : Nat} {X : Nat → Int} {s : Int} (h : FrsAt H a w z X s) : ∀ f ∈ tl2 w (fun j => shortM (X j) s), OkF f := fun f hf => by
  obtain ⟨i, hi⟩ := List.getElem?_of_mem hf
  obtain ⟨hj, rfl⟩ := tl2_at hi
  exact short_ok ⟨h.hz, h.hX i hj, h.hs⟩ h.s0
theorem lcm_step {a b N : Int} (ha : 0 < a) (hb : 0 < b) (h1 : a ∣ N) (h2 : b ∣ N) : 0 < a / gcdI a b * b ∧ a / gcdI a b * b ∣ N ∧ a ∣ a / gcdI a b * b ∧ b ∣ a / gcdI a b * b := by
  obtain ⟨g1, g2⟩ := gcd_mul_div (a := a) (show b ≠ 0 by omega)
  have hg0 : 0 < gcdI a b := by have := gcd_pos (a := a) (show b ≠ 0 by omega); unfold gcdI; omega
  have e : a / gcdI a b * b = ((Int.lcm a b : Nat) : Int) := by
    have h : (gcdI a b) * ((Int.lcm a b : Nat) : Int) = a * b := by
      unfold gcdI
      have := Int.gcd_mul_lcm a b
      rw [← Int.natCast_mul, this, Int.natCast_mul, Int.natAbs_of_nonneg (Int.le_of_lt ha), Int.natAbs_of_nonneg (Int.le_of_lt hb)]
    refine Int.eq_of_mul_eq_mul_left (show gcdI a b ≠ 0 by omega) ?_
    rw [h, ← Int.mul_assoc, g1]
  have p1 : 0 < a / gcdI a b := Int.ediv_pos_of_pos_of_dvd ha (Int.le_of_lt hg0) (by unfold gcdI; exact Int.gcd_dvd_left ..)
  refine ⟨Int.mul_pos p1 hb, by rw [e]; exact Int.coe_lcm_dvd h1 h2, ⟨b / gcdI a b, ?_⟩, ⟨a / gcdI a b, Int.mul_comm _ _⟩⟩
  rw [← Int.mul_ediv_assoc _ (by unfold gcdI; exact Int.gcd_dvd_right ..), Int.mul_comm (a / gcdI a b), ← Int.mul_ediv_assoc _ (by unfold gcdI; exact Int.gcd_dvd_left ..), Int.mul_comm]
theorem natAbs_dvd_lt {a N : Int} {z : Nat} (h : a ∣ N) (hN : 0 < N) (hz : N.natAbs < 2 ^ z) : a.natAbs < 2 ^ z := Nat.lt_of_le_of_lt (Nat.le_of_dvd (by omega) (Int.natAbs_dvd_natAbs.mpr h)) hz
theorem log_dvd {a N : Int} {z : Nat} (h : a ∣ N) (hN : 0 < N) (hz : N.natAbs < 2 ^ z) (h9 : z ≤ 9000) : a.natAbs.log2 < 9000 := by
  have h1 := natAbs_dvd_lt h hN hz
  rcases Nat.eq_zero_or_pos z with e | e
  · subst e
    rw [Nat.pow_zero] at h1
    rw [show a.natAbs = 0 by omega]; decide
  · exact Nat.lt_of_lt_of_le (PySem.Flt.log2_lt_of e h1) h9
theorem topW_abs {w z : Nat} {X : Nat → Int} {s L : Int} (hs : 0 < s) (hsz : s.natAbs < 2 ^ z) (h : LowOf w X s L) {j : Nat} (hj : j < w) (hX : (X j).natAbs < 2 ^ z) : (topW X s L j).natAbs < 2 ^ (z + z) := by
  have b := short_bits (B := 9000) (a := X j) (b := s)
  have hd : ∀ x g : Int, (x / g).natAbs ≤ x.natAbs := fun x g => Int.natAbs_ediv_le_natAbs x g
  unfold topW
  rw [Int.natAbs_mul, Nat.pow_add]
  have h1 : (shortM (X j) s).1.natAbs < 2 ^ z := by
    unfold shortM
    rw [if_pos hs]
    exact Nat.lt_of_le_of_lt (hd _ _) hX
  have h2 : (L / (shortM (X j) s).2).natAbs < 2 ^ z := Nat.lt_of_le_of_lt (hd _ _) (natAbs_dvd_lt h.dvd hs hsz)
  exact Nat.mul_lt_mul'' h1 h2
theorem sig_size {n b : Nat} {f : Nat → Int} (hn : n ≤ 1024) (h : ∀ i, i < n → (f i).natAbs < 2 ^ b) : (Dt.sig n f).natAbs < 2 ^ (b + 11) := by
  have h1 := Dt.sig_abs (b := 2 ^ b) (n := n) fun i hi => Nat.le_of_lt (h i hi)
  have h2 : n * 2 ^ b ≤ 1024 * 2 ^ b := Nat.mul_le_mul_right _ hn
  have h3 : 2 ^ (b + 11) = 2048 * 2 ^ b := by rw [Nat.pow_add]; omega
  have := Nat.two_pow_pos b
  omega
theorem mul_size {a b : Int} {n m : Nat} (ha : a.natAbs < 2 ^ n) (hb : b.natAbs < 2 ^ m) : (a * b).natAbs < 2 ^ (n + m) := by
  rw [Int.natAbs_mul, Nat.pow_add]
  exact Nat.mul_lt_mul'' ha hb
/-- what is told, taken apart -/
theorem FlsAt.two {H : Hp} {as : List Addr} {f1 f2 : List (Int × Int)} (h : FlsAt H as [f1, f2]) : ∃ a b ts us, as = [a, b] ∧ H a = some (.lst (ts.map V.ref)) ∧ FrAll H ts f1 ∧ H b = some (.lst (us.map V.ref)) ∧ FrAll H us f2 := by
  cases h with
  | cons h1 f1 r =>
    cases r with
    | cons h2 f2 r =>
      cases r with
      | nil => exact ⟨_, _, _, _, rfl, h1, f1, h2, f2⟩
theorem FlsAt.one {H : Hp} {as : List Addr} {f1 : List (Int × Int)} (h : FlsAt H as [f1]) : ∃ a ts, as = [a] ∧ H a = some (.lst (ts.map V.ref)) ∧ FrAll H ts f1 := by
  cases h with
  | cons h1 f1 r =>
    cases r with
    | nil => exact ⟨_, _, rfl, h1, f1⟩
theorem FlsAt.len {H : Hp} : ∀ {as : List Addr} {ls : List (List (Int × Int))}, FlsAt H as ls → as.length = ls.length
  | _, _, .nil => rfl
  | _, _, .cons _ _ r => by rw [List.length_cons, List.length_cons, r.len]
/-- best, none or endless, as told at p -/
inductive WghAt (H : Hp) (p : Addr) (n w z : Nat) (C : Nat → Nat → Int) (D G : Nat → Int) (s : Int) : Prop
  | best {a b : Addr} {X Y : Nat → Int} (e : H p = some (.tup [.str "best", .ref a, .ref b])) (h : Dt.IsBest n w C D G s X Y) (hX : FrsAt H a w z X s) (hY : FrsAt H b n (z + z + 3) Y s) : WghAt H p n w z C D G s
  | none {a : Addr} {Y : Nat → Int} (e : H p = some (.tup [.str "none", .ref a])) (h : Dt.IsNone n w C D s Y) (hY : FrsAt H a n (z + z + 3) Y s) : WghAt H p n w z C D G s
  | endless {a b : Addr} {X W : Nat → Int} (e : H p = some (.tup [.str "endless", .ref a, .ref b])) (h : Dt.IsEndless n w C D G s X W) (hX : FrsAt H a w z X s) (hW : FrsAt H b w z W s) : WghAt H p n w z C D G s
theorem ToldA.wgh {H : Hp} {p : Addr} {word : Str} {ls : List (List (Int × Int))} {n w z : Nat} {C : Nat → Nat → Int} {D G : Nat → Int} {s : Int} (h : ToldA H p word ls) (q : WghIs n w z C D G s word ls) (hz : z ≤ 4400) (hn : n ≤ 1000) (hw : w ≤ 1000) : WghAt H p n w z C D G s := by
  obtain ⟨as, e, f⟩ := h.ex
  have m : 2 ^ z ≤ 2 ^ (z + z + 3) := Nat.pow_le_pow_right (by decide) (by omega)
  cases q with
  | best g hs hX hY =>
    obtain ⟨a, b, ts, us, rfl, h1, f1, h2, f2⟩ := f.two
    exact .best e g ⟨⟨ts, h1, f1⟩, g.pos, hs, fun j _ => hX j, by omega, hw⟩ ⟨⟨us, h2, f2⟩, g.pos, by omega, hY, by omega, hn⟩
  | none g hs hY =>
    obtain ⟨a, ts, rfl, h1, f1⟩ := f.one
    exact .none e g ⟨⟨ts, h1, f1⟩, g.pos, by omega, hY, by omega, hn⟩
  | endless g hs hX hW =>
    obtain ⟨a, b, ts, us, rfl, h1, f1, h2, f2⟩ := f.two
    exact .endless e g ⟨⟨ts, h1, f1⟩, g.pos, hs, fun j _ => hX j, by omega, hw⟩ ⟨⟨us, h2, f2⟩, g.pos, hs, fun j _ => hW j, by omega, hw⟩
theorem WghAt.same {H H' : Hp} (e : Same H H') {p : Addr} {n w z : Nat} {C : Nat → Nat → Int} {D G : Nat → Int} {s : Int} (h : WghAt H p n w z C D G s) : WghAt H' p n w z C D G s := by
  cases h with
  | best e0 h a b => exact .best (e _ _ e0) h (a.same e) (b.same e)
  | none e0 h a => exact .none (e _ _ e0) h (a.same e)
  | endless e0 h a b => exact .endless (e _ _ e0) h (a.same e) (b.same e)
/-- columns, due and gains, handed in as one list -/
structure HandAt (K : PySem.W.Frag) (H : Hp) (p : Addr) (n w : Nat) (C : Nat → Nat → Int) (D G : Nat → Int) : Prop where
  ex : ∃ cA dA gA ts, SqL K H p [.ref cA, .ref dA, .ref gA] ∧ ColsAt K H cA ts n w C ∧ SqL K H dA ((tl n D).map V.int) ∧ SqL K H gA ((tl w G).map V.int)
theorem HandAt.same {K : PySem.W.Frag} {H H' : Hp} (s : Same H H') {p : Addr} {n w : Nat} {C : Nat → Nat → Int} {D G : Nat → Int} (h : HandAt K H p n w C D G) : HandAt K H' p n w C D G := by
  obtain ⟨cA, dA, gA, ts, h1, h2, h3, h4⟩ := h.ex
  exact ⟨cA, dA, gA, ts, s.seq h1, h2.same s, s.seq h3, s.seq h4⟩
theorem up_size {a : Int} {n m : Nat} (h : a.natAbs < 2 ^ n) (hm : n ≤ m) : a.natAbs < 2 ^ m := Nat.lt_of_lt_of_le h (Nat.pow_le_pow_right (by decide) hm)
end Sp

/-! Cpb: comprehensions whose items are new things: what stands grows from turn to turn. Slices of lists of ints. -/
namespace Sp
open PySem PySem.Spec L2 PyProof.Rows
def PvB (B : Hp) (cs : Cells) (R : Nat → Hp → List V → Prop) (D : Addr) (i : Nat) (H : Hp) : Prop := ∃ (B' : Hp) (ys : List V), Same B B' ∧ R i B' ys ∧ Own B' ((D, .lst ys) :: cs) H
section
variable {K : PySem.W.Frag} {σ : L2.St} {B H : Hp} {cs : Cells} {Q : VK} {te : TE} {g : TG} {tt : TT} {vs : List Nat}
theorem pvb_fin {R : Nat → Hp → List V → Prop} {D : Addr} {i : Nat} {B2 H4 : Hp} {ys : List V} {y : V} (s : Same B B2) (r : R (i + 1) B2 (ys ++ [y])) (w : Own B2 ((D, .lst ys) :: cs) H4) (hl : ys.length < 1000000) :
    ∃ acc, H4 D = some (.lst acc) ∧ acc.length < sizeLine ∧ PvB B cs R D (i + 1) (upd H4 D (.lst (acc ++ [y]))) :=
  ⟨ys, w.get 0 rfl, Nat.lt_of_lt_of_le hl (by decide), B2, ys ++ [y], s, r, w.put (o' := .lst (ys ++ [y])) 0 rfl⟩
theorem pvb_no {R : Nat → Hp → List V → Prop} {D : Addr} {i : Nat} {B2 H4 : Hp} {ys : List V} (s : Same B B2) (r : R (i + 1) B2 ys) (w : Own B2 ((D, .lst ys) :: cs) H4) : PvB B cs R D (i + 1) H4 := ⟨B2, ys, s, r, w⟩
theorem cpb_list {QD : Addr → Hp → Prop} {a : Addr} {xs : List V} (R : Nat → Hp → List V → Prop) (w : Own B cs H) (hx : SqL K B a xs) (h0 : R 0 B [])
    (hs : ∀ D i x B' ys H', xs[i]? = some x → Same B B' → R i B' ys → Own B' ((D, .lst ys) :: cs) H' → g x (wipe σ vs) H' fun σ2 H2 => wipe σ2 vs = wipe σ vs ∧ tt σ2 H2 fun b H3 =>
      if b = true then te σ2 H3 fun y H4 => ∃ acc, H4 D = some (.lst acc) ∧ acc.length < sizeLine ∧ PvB B cs R D (i + 1) (upd H4 D (.lst (acc ++ [y]))) else PvB B cs R D (i + 1) H3)
    (hq : ∀ D B' ys H', Same B B' → R xs.length B' ys → Own B' ((D, .lst ys) :: cs) H' → QD D H') : ∀ D, H D = none → ∃ W : Nat → Nat → Hp → Prop, (∃ m, W 0 m (upd H D (.lst []))) ∧ ∀ i m H, W i m H →
      ((Itl K a).stop i H ∧ QD D H) ∨ ((Itl K a).go i H ∧ ∃ Nx : Hp → Prop, (∀ H', Nx H' → ∃ m', m' < m ∧ W (i + 1) m' H') ∧ ∀ x H', (Itl K a).yld i H x H' → g x (wipe σ vs) H' fun σ2 H2 => wipe σ2 vs = wipe σ vs ∧ tt σ2 H2 fun b H3 =>
        if b = true then te σ2 H3 fun y H4 => ∃ acc, H4 D = some (.lst acc) ∧ acc.length < sizeLine ∧ Nx (upd H4 D (.lst (acc ++ [y]))) else Nx H3) := fun D hD =>
  lc_list (PvB B cs R D) ⟨B, [], Same.refl B, h0, w.new hD⟩ (fun i H' hi p => by obtain ⟨B', ys, s, _, w⟩ := p; exact w.seq (s.seq hx)) (fun i x H' hi p => by obtain ⟨B', ys, s, r, w⟩ := p; exact hs D i x B' ys H' hi s r w) (fun H' p => by obtain ⟨B', ys, s, r, w⟩ := p; exact hq D B' ys H' s r w)
/-- over a list of our own -/
theorem cpb_listO {QD : Addr → Hp → Prop} {a : Addr} {xs : List V} (R : Nat → Hp → List V → Prop) (w : Own B cs H) (j : Nat) (hx : cs[j]? = some (a, .lst xs)) (h0 : R 0 B [])
    (hs : ∀ D i x B' ys H', xs[i]? = some x → Same B B' → R i B' ys → Own B' ((D, .lst ys) :: cs) H' → g x (wipe σ vs) H' fun σ2 H2 => wipe σ2 vs = wipe σ vs ∧ tt σ2 H2 fun b H3 =>
      if b = true then te σ2 H3 fun y H4 => ∃ acc, H4 D = some (.lst acc) ∧ acc.length < sizeLine ∧ PvB B cs R D (i + 1) (upd H4 D (.lst (acc ++ [y]))) else PvB B cs R D (i + 1) H3)
    (hq : ∀ D B' ys H', Same B B' → R xs.length B' ys → Own B' ((D, .lst ys) :: cs) H' → QD D H') : ∀ D, H D = none → ∃ W : Nat → Nat → Hp → Prop, (∃ m, W 0 m (upd H D (.lst []))) ∧ ∀ i m H, W i m H →
      ((Itl K a).stop i H ∧ QD D H) ∨ ((Itl K a).go i H ∧ ∃ Nx : Hp → Prop, (∀ H', Nx H' → ∃ m', m' < m ∧ W (i + 1) m' H') ∧ ∀ x H', (Itl K a).yld i H x H' → g x (wipe σ vs) H' fun σ2 H2 => wipe σ2 vs = wipe σ vs ∧ tt σ2 H2 fun b H3 =>
        if b = true then te σ2 H3 fun y H4 => ∃ acc, H4 D = some (.lst acc) ∧ acc.length < sizeLine ∧ Nx (upd H4 D (.lst (acc ++ [y]))) else Nx H3) := fun D hD =>
  lc_list (PvB B cs R D) ⟨B, [], Same.refl B, h0, w.new hD⟩ (fun i H' hi p => by obtain ⟨B', ys, s, _, w⟩ := p; exact w.sq (j + 1) hx) (fun i x H' hi p => by obtain ⟨B', ys, s, r, w⟩ := p; exact hs D i x B' ys H' hi s r w) (fun H' p => by obtain ⟨B', ys, s, r, w⟩ := p; exact hq D B' ys H' s r w)
theorem cpb_r0 {QD : Addr → Hp → Prop} {n : Int} (R : Nat → Hp → List V → Prop) (w : Own B cs H) (h0 : R 0 B [])
    (hs : ∀ D (i : Nat) B' ys H', (i : Int) < n → Same B B' → R i B' ys → Own B' ((D, .lst ys) :: cs) H' → g (.int (i : Int)) (wipe σ vs) H' fun σ2 H2 => wipe σ2 vs = wipe σ vs ∧ tt σ2 H2 fun b H3 =>
      if b = true then te σ2 H3 fun y H4 => ∃ acc, H4 D = some (.lst acc) ∧ acc.length < sizeLine ∧ PvB B cs R D (i + 1) (upd H4 D (.lst (acc ++ [y]))) else PvB B cs R D (i + 1) H3)
    (hq : ∀ D B' ys H', Same B B' → R n.toNat B' ys → Own B' ((D, .lst ys) :: cs) H' → QD D H') : ∀ D, H D = none → ∃ W : Nat → Nat → Hp → Prop, (∃ m, W 0 m (upd H D (.lst []))) ∧ ∀ i m H, W i m H →
      ((Itr 0 n.toNat).stop i H ∧ QD D H) ∨ ((Itr 0 n.toNat).go i H ∧ ∃ Nx : Hp → Prop, (∀ H', Nx H' → ∃ m', m' < m ∧ W (i + 1) m' H') ∧ ∀ x H', (Itr 0 n.toNat).yld i H x H' → g x (wipe σ vs) H' fun σ2 H2 => wipe σ2 vs = wipe σ vs ∧ tt σ2 H2 fun b H3 =>
        if b = true then te σ2 H3 fun y H4 => ∃ acc, H4 D = some (.lst acc) ∧ acc.length < sizeLine ∧ Nx (upd H4 D (.lst (acc ++ [y]))) else Nx H3) := fun D hD =>
  lc_range (lo := 0) (PvB B cs R D) ⟨B, [], Same.refl B, h0, w.new hD⟩ (fun i H' hi p => by obtain ⟨B', ys, s, r, w⟩ := p; rw [Int.zero_add]; exact hs D i B' ys H' (by omega) s r w) (fun H' p => by obtain ⟨B', ys, s, r, w⟩ := p; exact hq D B' ys H' s r w)
end
theorem LayD.mono {k m : Nat} {d : PyData} (h : k ≤ m) (l : LayD k d) : LayD m d := ⟨l.lay, Nat.le_trans l.dep h⟩
/-! ### slices -/
theorem cut_mid {xs : List V} {i j : Nat} (h : j ≤ xs.length) : cutV xs (some (i : Int)) (some (j : Int)) = (xs.drop i).take (j - i) := by
  unfold cutV
  rw [HT.sIx_nat, HT.sIx_nat, Nat.min_eq_left h]
  by_cases c : i ≤ xs.length
  · rw [Nat.min_eq_left c]
  · rw [Nat.min_eq_right (by omega), List.drop_of_length_le (Nat.le_refl _), List.drop_of_length_le (by omega), List.take_nil, List.take_nil]
theorem take_tl {n i : Nat} {f : Nat → Int} (h : i ≤ n) : ((tl n f).map V.int).take i = (tl i f).map V.int := by
  unfold tl
  rw [← List.map_take, ← List.map_take, List.take_range, Nat.min_eq_left h]
theorem drop_tl {n i : Nat} {f : Nat → Int} (h : i ≤ n) : ((tl n f).map V.int).drop i = (tl (n - i) fun v => f (i + v)).map V.int := by
  obtain ⟨m, rfl⟩ : ∃ m, n = i + m := ⟨n - i, by omega⟩
  rw [show i + m - i = m by omega, ← tl_app (a := i) (b := m) (f := f) (g := fun v => f (i + v)) (h := f) (fun _ _ => rfl) (fun _ _ => rfl), List.drop_left' (by rw [List.length_map, tl_len])]
theorem mid_tl {n i j : Nat} {f : Nat → Int} (h : i ≤ j) (hj : j ≤ n) : cutV ((tl n f).map V.int) (some (i : Int)) (some (j : Int)) = (tl (j - i) fun v => f (i + v)).map V.int := by
  rw [cut_mid (by rw [List.length_map, tl_len]; exact hj), drop_tl (by omega), take_tl (by omega)]
theorem to_tl {n j : Nat} {f : Nat → Int} (h : j ≤ n) : cutV ((tl n f).map V.int) none (some (j : Int)) = (tl j f).map V.int := by
  rw [cut_to, take_tl h]
theorem from_tl {n i : Nat} {f : Nat → Int} (h : i ≤ n) : cutV ((tl n f).map V.int) (some (i : Int)) none = (tl (n - i) fun v => f (i + v)).map V.int := by
  rw [cut_from, drop_tl h]
theorem tl_fnL (xs : List Int) {n : Nat} (h : xs.length = n) : xs = tl n (fn xs) := by rw [← h]; exact (tl_fn xs).symm
theorem cut_from1 {xs : List V} : cutV xs (some 1) none = xs.drop 1 := cut_from (i := 1)
/-! ### rows told as new lists -/
def RwsR (W : Nat) (C : Nat → Nat → Int) (i : Nat) (B : Hp) (ys : List V) : Prop := ∃ ts : List Addr, ys = ts.map V.ref ∧ ts.length = i ∧ RwAt B ts W C
theorem RwsR.nil {W : Nat} {C : Nat → Nat → Int} {B : Hp} : RwsR W C 0 B [] := ⟨[], rfl, rfl, fun k t e => by rw [List.getElem?_nil] at e; cases e⟩
theorem RwsR.snoc {W : Nat} {C : Nat → Nat → Int} {i : Nat} {B : Hp} {ys : List V} {t : Addr} (h : RwsR W C i B ys) (ht : B t = some (.lst ((tl W (C i)).map V.int))) : RwsR W C (i + 1) B (ys ++ [.ref t]) := by
  obtain ⟨ts, rfl, hl, hr⟩ := h
  exact ⟨ts ++ [t], by rw [List.map_append] <;> rfl, by rw [List.length_append, hl] <;> rfl, hr.snoc (by rw [hl]; exact ht)⟩
theorem RwsR.same {W : Nat} {C : Nat → Nat → Int} {i : Nat} {B B' : Hp} {ys : List V} (s : Same B B') (h : RwsR W C i B ys) : RwsR W C i B' ys := by
  obtain ⟨ts, h1, h2, h3⟩ := h
  exact ⟨ts, h1, h2, h3.same s⟩
theorem RwsR.len {W : Nat} {C : Nat → Nat → Int} {i : Nat} {B : Hp} {ys : List V} (h : RwsR W C i B ys) : ys.length = i := by
  obtain ⟨ts, rfl, h2, h3⟩ := h
  rw [List.length_map]; exact h2
theorem RwsR.congr {W : Nat} {C C' : Nat → Nat → Int} {i : Nat} {B : Hp} {ys : List V} (e : ∀ k, k < i → ∀ v, v < W → C k v = C' k v) (h : RwsR W C i B ys) : RwsR W C' i B ys := by
  obtain ⟨ts, h1, h2, h3⟩ := h
  refine ⟨ts, h1, h2, fun k t ht => ?_⟩
  have hk : k < i := by rw [← h2]; exact (List.getElem?_eq_some_iff.mp ht).1
  rw [h3 k t ht]
  congr 3
  unfold tl
  exact List.map_congr_left fun v hv => e k hk v (List.mem_range.mp hv)
theorem RwsR.cols {K : PySem.W.Frag} {n w : Nat} {C : Nat → Nat → Int} {B : Hp} {ys : List V} {a : Addr} (h : RwsR n C w B ys) (ha : B a = some (.lst ys)) : ∃ ts, ColsAt K B a ts n w C := by
  obtain ⟨ts, rfl, h2, h3⟩ := h
  exact ⟨ts, SqL.of ha, h2, fun j t e => SqL.of (h3 j t e)⟩
theorem RwsR.set {W : Nat} {C C' : Nat → Nat → Int} {i j : Nat} {B : Hp} {ys : List V} {t : Addr} (h : RwsR W C i B ys) (hj : j < i) (ht : B t = some (.lst ((tl W (C' j)).map V.int))) (e : ∀ k, k < i → k ≠ j → ∀ v, v < W → C k v = C' k v) : RwsR W C' i B (ys.set j (.ref t)) := by
  obtain ⟨ts, rfl, h2, h3⟩ := h
  refine ⟨ts.set j t, List.map_set.symm, by rw [List.length_set, h2], fun k u hu => ?_⟩
  by_cases c : j = k
  · subst c
    rw [List.getElem?_set_self (by omega)] at hu
    cases hu
    exact ht
  · rw [List.getElem?_set_ne c] at hu
    rw [h3 k u hu]
    congr 3
    unfold tl
    exact List.map_congr_left fun v hv => e k (by rw [← h2]; exact (List.getElem?_eq_some_iff.mp hu).1) (Ne.symm c) v (List.mem_range.mp hv)
/-! ### the data of what is handed in -/
def rowsD (W w : Nat) (C : Nat → Nat → Int) : PyData := .list ((List.range w).map fun j => .list ((tl W (C j)).map PyData.int))
def handD (n w : Nat) (C : Nat → Nat → Int) (D G : Nat → Int) : PyData := .list [rowsD n w C, .list ((tl n D).map PyData.int), .list ((tl w G).map PyData.int)]
theorem dpAll_rows {K : PySem.W.Frag} {H : Hp} {W : Nat} : ∀ {ts : List Addr} {C : Nat → Nat → Int}, (∀ j t, ts[j]? = some t → SqL K H t ((tl W (C j)).map V.int)) → DpAll K H (ts.map V.ref) ((List.range ts.length).map fun j => .list ((tl W (C j)).map PyData.int))
  | [], _, _ => .nil
  | t :: ts, C, h => by
    rw [List.length_cons, List.range_succ_eq_map, List.map_cons, List.map_cons, List.map_map]
    exact .cons (dp_ints (h 0 t rfl)) (dpAll_rows (ts := ts) (C := fun j => C (j + 1)) fun j u hu => h (j + 1) u (by simpa using hu))
theorem ColsAt.dp {K : PySem.W.Frag} {H : Hp} {a : Addr} {ts : List Addr} {n w : Nat} {C : Nat → Nat → Int} (h : ColsAt K H a ts n w C) : Dp K H (.ref a) (rowsD n w C) := by
  have := dpAll_rows h.row
  rw [h.len] at this
  exact .lst h.l this
theorem lay_rows (n w : Nat) (C : Nat → Nat → Int) : LayD 3 (rowsD n w C) := LayD.list fun d hd => by
  obtain ⟨j, _, rfl⟩ := List.mem_map.mp hd
  exact LayD.ints
theorem HandAt.dp {K : PySem.W.Frag} {H : Hp} {p : Addr} {n w : Nat} {C : Nat → Nat → Int} {D G : Nat → Int} (h : HandAt K H p n w C D G) : Dp K H (.ref p) (handD n w C D G) := by
  obtain ⟨cA, dA, gA, ts, h1, h2, h3, h4⟩ := h.ex
  exact .lst h1 (.cons h2.dp (.cons (dp_ints h3) (.cons (dp_ints h4) .nil)))
theorem lay_hand (n w : Nat) (C : Nat → Nat → Int) (D G : Nat → Int) : LayD 4 (handD n w C D G) := LayD.list fun d hd => by
  simp only [List.mem_cons, List.not_mem_nil, or_false] at hd
  rcases hd with rfl | rfl | rfl
  · exact lay_rows n w C
  · exact LayD.mono (by decide) LayD.ints
  · exact LayD.mono (by decide) LayD.ints
/-! ### rows told as new lists, each its own -/
structure RowsNew (H H' : Hp) (p : Addr) (ts : List Addr) (n w : Nat) (C : Nat → Nat → Int) : Prop where
  np : H p = none
  nt : ∀ t ∈ ts, H t = none
  off : p ∉ ts
  nd : ts.Nodup
  l : H' p = some (.lst (ts.map V.ref))
  len : ts.length = w
  row : RwAt H' ts n C
def CopR (B0 : Hp) (n : Nat) (C : Nat → Nat → Int) (i : Nat) (B : Hp) (ys : List V) : Prop := ∃ ts : List Addr, ys = ts.map V.ref ∧ ts.length = i ∧ RwAt B ts n C ∧ (∀ t ∈ ts, B0 t = none) ∧ ts.Nodup
theorem CopR.nil {B0 B : Hp} {n : Nat} {C : Nat → Nat → Int} : CopR B0 n C 0 B [] := ⟨[], rfl, rfl, fun k t e => (by rw [List.getElem?_nil] at e; cases e), fun t ht => (nomatch ht), List.nodup_nil⟩
theorem CopR.same {B0 B B' : Hp} {n i : Nat} {C : Nat → Nat → Int} {ys : List V} (s : Same B B') (h : CopR B0 n C i B ys) : CopR B0 n C i B' ys := by
  obtain ⟨ts, h1, h2, h3, h4⟩ := h
  exact ⟨ts, h1, h2, h3.same s, h4⟩
theorem CopR.len {B0 B : Hp} {n i : Nat} {C : Nat → Nat → Int} {ys : List V} (h : CopR B0 n C i B ys) : ys.length = i := by
  obtain ⟨ts, rfl, h2, _⟩ := h
  rw [List.length_map]; exact h2
theorem RwAt.mem {B : Hp} {ts : List Addr} {n : Nat} {C : Nat → Nat → Int} (h : RwAt B ts n C) {t : Addr} (ht : t ∈ ts) : ∃ o, B t = some o := by
  obtain ⟨j, hj⟩ := List.getElem?_of_mem ht
  exact ⟨_, h j t hj⟩
/-- t was free ahead of it: so it is none of those that stand -/
theorem CopR.snoc {B0 B1 : Hp} {n i : Nat} {C : Nat → Nat → Int} {ys : List V} {t : Addr} (h : CopR B0 n C i B1 ys) (n0 : B0 t = none) (n1 : B1 t = none) : CopR B0 n C (i + 1) (upd B1 t (.lst ((tl n (C i)).map V.int))) (ys ++ [.ref t]) := by
  obtain ⟨ts, rfl, h2, h3, h4, h5⟩ := h
  refine ⟨ts ++ [t], by rw [List.map_append] <;> rfl, by rw [List.length_append, h2] <;> rfl, (h3.same (same_upd n1)).snoc (by rw [h2]; exact upd_same), fun u hu => ?_, ?_⟩
  · rcases List.mem_append.mp hu with m | m
    · exact h4 u m
    · rw [List.mem_singleton] at m; subst m; exact n0
  · rw [List.nodup_append]
    refine ⟨h5, List.nodup_cons.mpr ⟨fun m => (nomatch m), List.nodup_nil⟩, fun a ha b hb e => ?_⟩
    rw [List.mem_singleton] at hb
    subst hb; subst e
    obtain ⟨o, ho⟩ := h3.mem ha
    rw [n1] at ho; cases ho
theorem CopR.rows {H B' H5 : Hp} {n w : Nat} {C : Nat → Nat → Int} {ys : List V} {p : Addr} {cs : Cells} (h : CopR H n C w B' ys) (s : Same H B') (w5 : Own B' ((p, .lst ys) :: cs) H5) : ∃ ts, RowsNew H H5 p ts n w C := by
  obtain ⟨ts, rfl, h2, h3, h4, h5⟩ := h
  refine ⟨ts, s.free (w5.none 0 rfl), h4, fun m => ?_, h5, w5.get 0 rfl, h2, h3.same w5.ex⟩
  obtain ⟨o, ho⟩ := h3.mem m
  rw [w5.none 0 rfl] at ho; cases ho
theorem RowsNew.cols {K : PySem.W.Frag} {H H' : Hp} {p : Addr} {ts : List Addr} {n w : Nat} {C : Nat → Nat → Int} (h : RowsNew H H' p ts n w C) : ColsAt K H' p ts n w C := ⟨SqL.of h.l, h.len, fun j t e => SqL.of (h.row j t e)⟩
end Sp

/-! Dual: which of the three it is, by what was built; cells for rows; numbers drawn. -/
namespace Sp.Dt
section
variable {n w : Nat} {C : Nat → Nat → Int} {D G x P X Y W : Nat → Int} {s : Int}
theorem swap2 (n w : Nat) (Y : Nat → Int) (C : Nat → Nat → Int) (x : Nat → Int) : sig n (fun i => Y i * sig w (fun j => C j i * x j)) = sig w fun j => x j * sig n fun i => Y i * C j i := by
  rw [sig_congr (g := fun i => sig w fun j => Y i * (C j i * x j)) fun i _ => (sig_mul _ _ _).symm, sig_comm]
  refine sig_congr fun j _ => ?_
  rw [← sig_mul]
  exact sig_congr fun i _ => by ac_rfl
theorem swap3 (n w : Nat) (Y : Nat → Int) (C : Nat → Nat → Int) (x : Nat → Int) : sig n (fun i => Y i * sig w (fun j => x j * C j i)) = sig w fun j => x j * sig n fun i => Y i * C j i := by
  rw [← swap2]
  refine sig_congr fun i _ => ?_
  congr 1
  exact sig_congr fun j _ => Int.mul_comm _ _
theorem sig_le {f g : Nat → Int} : ∀ {n : Nat}, (∀ i, i < n → f i ≤ g i) → sig n f ≤ sig n g
  | 0, _ => Int.le_refl 0
  | n + 1, h => Int.add_le_add (sig_le fun i hi => h i (Nat.lt_succ_of_lt hi)) (h n (Nat.lt_succ_self n))
/-- weights that meet due: so none is not told -/
theorem no_none (hx : ∀ j, j < w → 0 ≤ x j) (hD : ∀ c, c < n → D c = sig w fun j => C j c * x j) (h : IsNone n w C D s Y) : False := by
  have e : sig n (fun i => Y i * D i) = sig w fun j => x j * sig n fun i => Y i * C j i := by
    rw [← swap2]
    exact sig_congr fun i hi => by rw [hD i hi]
  have p : 0 ≤ sig n fun i => Y i * D i := by
    rw [e]
    exact sig_pos fun j hj => Int.mul_nonneg (hx j hj) (h.bound j hj)
  have := h.below
  omega
/-- prices that bound the gains: so endless is not told -/
theorem no_endless (hb : ∀ j, j < w → G j ≤ sig n fun i => P i * C j i) (h : IsEndless n w C D G s X W) : False := by
  have e : sig w (fun j => W j * G j) ≤ sig w fun j => W j * sig n fun i => P i * C j i := sig_le fun j hj => Int.mul_le_mul_of_nonneg_left (hb j hj) (h.lowW j hj)
  have z : sig n (fun i => P i * sig w (fun j => W j * C j i)) = 0 := sig_zero fun i hi => by rw [h.nought i hi, Int.mul_zero]
  rw [← swap3, z] at e
  have := h.more
  omega
/-- a way to gain: so best is not told -/
theorem no_best (h0 : ∀ j, j < w → 0 ≤ W j) (hn : ∀ c, c < n → sig w (fun j => W j * C j c) = 0) (hm : 0 < sig w fun j => W j * G j) (h : IsBest n w C D G s X Y) : False := by
  have e : sig w (fun j => W j * (s * G j)) ≤ sig w fun j => W j * sig n fun i => Y i * C j i := sig_le fun j hj => Int.mul_le_mul_of_nonneg_left (h.bound j hj) (h0 j hj)
  have z : sig n (fun i => Y i * sig w (fun j => W j * C j i)) = 0 := sig_zero fun i hi => by rw [hn i hi, Int.mul_zero]
  have z2 : sig w (fun j => W j * (s * G j)) = s * sig w fun j => W j * G j := by rw [← sig_mul]; exact sig_congr fun j _ => by ac_rfl
  rw [← swap3, z, z2] at e
  have := Int.mul_pos h.pos hm
  omega
/-- prices by which due is below nought: so no weights meet it -/
theorem no_meet (hb : ∀ j, j < w → 0 ≤ sig n fun i => P i * C j i) (hD : (sig n fun i => P i * D i) < 0) (hs : 0 < s) (h0 : ∀ j, j < w → 0 ≤ X j) (hm : ∀ c, c < n → sig w (fun j => X j * C j c) = s * D c) : False := by
  have e : sig n (fun i => P i * sig w (fun j => X j * C j i)) = s * sig n fun i => P i * D i := by
    rw [← sig_mul]
    exact sig_congr fun i hi => by rw [hm i hi]; ac_rfl
  rw [swap3] at e
  have p : 0 ≤ sig w fun j => X j * sig n fun i => P i * C j i := sig_pos fun j hj => Int.mul_nonneg (h0 j hj) (hb j hj)
  have := Int.mul_neg_of_pos_of_neg hs hD
  omega
/-- the price of due is what the prices built make of it -/
theorem best_price (hx : ∀ j, j < w → 0 ≤ x j) (hD : ∀ c, c < n → D c = sig w fun j => C j c * x j) (hb : ∀ j, j < w → G j ≤ sig n fun i => P i * C j i) (he : ∀ j, j < w → x j ≠ 0 → G j = sig n fun i => P i * C j i) (h : IsBest n w C D G s X Y) :
    sig n (fun i => Y i * D i) = s * sig n fun i => P i * D i := by
  have pd : sig n (fun i => P i * D i) = sig w fun j => x j * G j := by
    rw [sig_congr (g := fun i => P i * sig w fun j => C j i * x j) fun i hi => by rw [hD i hi], swap2]
    refine sig_congr fun j hj => ?_
    by_cases c : x j = 0
    · rw [c, Int.zero_mul, Int.zero_mul]
    · rw [he j hj c]
  have a : sig w (fun j => x j * (s * G j)) ≤ sig n fun i => Y i * D i := by
    rw [sig_congr (f := fun i => Y i * D i) (g := fun i => Y i * sig w fun j => C j i * x j) fun i hi => by rw [hD i hi], swap2]
    exact sig_le fun j hj => Int.mul_le_mul_of_nonneg_left (h.bound j hj) (hx j hj)
  have z2 : sig w (fun j => x j * (s * G j)) = s * sig w fun j => x j * G j := by rw [← sig_mul]; exact sig_congr fun j _ => by ac_rfl
  rw [z2, ← pd] at a
  have b : sig w (fun j => X j * G j) ≤ sig w fun j => X j * sig n fun i => P i * C j i := sig_le fun j hj => Int.mul_le_mul_of_nonneg_left (hb j hj) (h.low j hj)
  have z3 : sig n (fun i => P i * sig w (fun j => X j * C j i)) = s * sig n fun i => P i * D i := by
    rw [← sig_mul]
    exact sig_congr fun i hi => by rw [h.meet i hi]; ac_rfl
  rw [← swap3, z3, ← h.alike] at b
  omega
end
end Sp.Dt
namespace Sp
open PySem PySem.Spec L2 PyProof.Rows
/-- the rows as cells -/
def rcs (ts : List Addr) (n : Nat) (C : Nat → Nat → Int) : Cells := ts.mapIdx fun j t => (t, HO.lst ((tl n (C j)).map V.int))
theorem rcs_at {ts : List Addr} {n j : Nat} {C : Nat → Nat → Int} {t : Addr} (h : ts[j]? = some t) : (rcs ts n C)[j]? = some (t, .lst ((tl n (C j)).map V.int)) := by
  unfold rcs
  rw [List.getElem?_mapIdx, h] <;> rfl
theorem rcs_fst (ts : List Addr) (n : Nat) (C : Nat → Nat → Int) : (rcs ts n C).map (·.1) = ts := by
  apply List.ext_getElem?
  intro j
  unfold rcs
  rw [List.getElem?_map, List.getElem?_mapIdx]
  cases ts[j]? <;> rfl
theorem rcs_set {ts : List Addr} {n j : Nat} {C : Nat → Nat → Int} {t : Addr} {f : Nat → Int} (h : ts[j]? = some t) : (rcs ts n C).set j (t, .lst ((tl n f).map V.int)) = rcs ts n fun k => if k = j then f else C k := by
  have hj := (List.getElem?_eq_some_iff.mp h).1
  apply List.ext_getElem?
  intro k
  by_cases e : j = k
  · subst e
    rw [List.getElem?_set_self (by rw [← List.length_map (f := (·.1)), rcs_fst]; exact hj), rcs_at h, if_pos rfl]
  · rw [List.getElem?_set_ne e]
    unfold rcs
    rw [List.getElem?_mapIdx, List.getElem?_mapIdx]
    show _ = Option.map (fun t => (t, HO.lst ((tl n (if k = j then f else C k)).map V.int))) ts[k]?
    rw [if_neg (Ne.symm e)]
theorem RowsNew.own {H H' : Hp} {p : Addr} {ts : List Addr} {n w : Nat} {C : Nat → Nat → Int} (h : RowsNew H H' p ts n w C) (s : Same H H') : Own H ((p, .lst (ts.map V.ref)) :: rcs ts n C) H' := by
  refine ⟨s, fun q hq => ?_, ?_⟩
  · rcases List.mem_cons.mp hq with rfl | hq
    · exact ⟨h.l, h.np⟩
    · obtain ⟨j, hj⟩ := List.getElem?_of_mem hq
      unfold rcs at hj
      rw [List.getElem?_mapIdx] at hj
      cases e : ts[j]? with
      | none => rw [e] at hj; cases hj
      | some t =>
        rw [e] at hj
        cases hj
        exact ⟨h.row j t e, h.nt t (List.mem_of_getElem? e)⟩
  · rw [List.map_cons, rcs_fst, List.nodup_cons]
    exact ⟨h.off, h.nd⟩
/-- numbers drawn, one for each turn -/
def NumR (i : Nat) (_ : Hp) (ys : List V) : Prop := ∃ zs : List Int, ys = zs.map V.int ∧ zs.length = i ∧ ∀ z ∈ zs, Small z
theorem NumR.nil {B : Hp} : NumR 0 B [] := ⟨[], rfl, rfl, fun z hz => nomatch hz⟩
theorem NumR.snoc {i : Nat} {B B2 : Hp} {ys : List V} {z : Int} (h : NumR i B ys) (hz : Small z) : NumR (i + 1) B2 (ys ++ [.int z]) := by
  obtain ⟨zs, rfl, h2, h3⟩ := h
  refine ⟨zs ++ [z], by rw [List.map_append] <;> rfl, by rw [List.length_append, h2] <;> rfl, fun y hy => ?_⟩
  rcases List.mem_append.mp hy with m | m
  · exact h3 y m
  · rw [List.mem_singleton] at m; subst m; exact hz
theorem NumR.tl {i : Nat} {B : Hp} {ys : List V} (h : NumR i B ys) : ∃ f : Nat → Int, ys = (tl i f).map V.int ∧ ∀ v, (f v).natAbs < 2 ^ 60 := by
  obtain ⟨zs, rfl, h2, h3⟩ := h
  refine ⟨fn zs, by rw [← tl_fnL zs h2], fun v => ?_⟩
  have h1 := Bnd.at (b := 1000000000000000000) (by omega) (fun z hz => ⟨(h3 z hz).1, (h3 z hz).2⟩) (v : Int)
  unfold fn
  have e : 1000000000000000000 < 2 ^ 60 := by decide
  omega
theorem NumR.len {i : Nat} {B : Hp} {ys : List V} (h : NumR i B ys) : ys.length = i := by
  obtain ⟨zs, rfl, h2, _⟩ := h
  rw [List.length_map]; exact h2
theorem told_wgh2 {n w x : Nat} {C : Nat → Nat → Int} {D G : Nat → Int} {H : Hp} {s : Int} {word : Str} {ls : List (List (Int × Int))} {p : Addr} (hz : Small3 n w x C D G) (h1 : WghIs n w (zOf n x) C D G s word ls) (h3 : ToldA H p word ls) : WghAt H p n w (zOf n x) C D G s :=
  ToldA.wgh h3 h1 hz.big (by have := hz.n8; omega) hz.w1
theorem ToldN.a {H H' : Hp} {p : Addr} {word : Str} {ls : List (List (Int × Int))} (h : ToldN H H' p word ls) : ToldA H' p word ls := by
  obtain ⟨as, _, e, f⟩ := h.ex
  exact ⟨as, e, f.at⟩
theorem x_clear {H : Hp} {Q : VK} {l : Addr} {xs : List V} (h : H l = some (.lst xs)) (q : Q .non (upd H l (.lst []))) : rClear (.ref l) [] H Q := ⟨l, xs, rfl, rfl, h, q⟩
theorem set_tl {n k : Nat} {f : Nat → Int} {x : Int} (hk : k < n) : ((tl n f).map V.int).set k (.int x) = (tl n fun c => if c = k then x else f c).map V.int := by
  apply List.ext_getElem?
  intro c
  by_cases h : k = c
  · subst h
    rw [List.getElem?_set_self (by rw [List.length_map, tl_len]; exact hk)]
    unfold tl
    rw [List.getElem?_map, List.getElem?_map, List.getElem?_range hk]
    show _ = some (V.int (if k = k then x else f k))
    rw [if_pos rfl]
  · rw [List.getElem?_set_ne h]
    unfold tl
    rw [List.getElem?_map, List.getElem?_map, List.getElem?_map, List.getElem?_map]
    by_cases hc : c < n
    · rw [List.getElem?_range hc]
      show some (V.int (f c)) = some (V.int (if c = k then x else f c))
      rw [if_neg (Ne.symm h)]
    · rw [List.getElem?_eq_none (by rw [List.length_range]; omega)] <;> rfl
end Sp

/-! Ht: defs that an except suite calls with the error that it holds. -/
namespace Sp
open PySem PySem.Spec L2 PyProof.Rows
/-- what such a def promises; sp knows where the error stands, its class and its dict -/
structure FnP (P : Program) (w : World) (K : PySem.W.Frag) (mg : Str → Option Value) (base : Heap) (k : Nat) (f : Addr) (fd : FuncData) (ps : List Str) (sp : Addr → Value → Option Addr → L2.Sp) : Prop where
  len : ∀ a c d vs H Q E, sp a c d vs H Q E → vs.length = ps.length
  run : ∀ (A : Around) (outer : List Env) (s : Shared) (H : Hp) (args : Args) (us : List Value) (vs : List V) (Q : VK) (E : XK) (a : Addr) (oe : Obj),
    L2H.RoomH k A → L2H.PinOk outer H s (a, oe) → (∃ fs, oe.data = .fields fs) → Env0 P w K mg base A outer s H → BindsTo s fd args (ps.zip us) → Vals vs us → sp a oe.cls oe.dict vs H Q E →
    codeAny (model P w) A (.call (.ref f) args) (CR (L2.CX P w) outer P w H s Q E) s
section
variable {P : Program} {w : World} {K : PySem.W.Frag} {mg : Str → Option Value} {base : Heap} {k : Nat} {f : Addr} {fd : FuncData} {ps : List Str} {sp : Addr → Value → Option Addr → L2.Sp}
theorem okP {nm qual : Str} {st : Stmt} {N : List Str} (F : Fun K nm qual st f fd) (S : FnScope N ps (defScope st)) (len : ∀ a c d vs H Q E, sp a c d vs H Q E → vs.length = ps.length)
    (hB : ∀ (cdv : Value) (A : Around) (outer : List Env) (s : Shared) (H : Hp) (vs : List V) (Q : VK) (E : XK) (a : Addr) (oe : Obj), L2H.RoomH k (A.deeper (envOfC qual (defScope st) s.heap.objs.size f cdv)) → (∃ fs, oe.data = .fields fs) → sp a oe.cls oe.dict vs H Q E →
      ∃ t, PSs (L2H.cxH (L2.CX P w) P w K mg base N qual (defScope st) f cdv A outer s H E (a, oe)) (defBody st) t ∧ t { nx := fun _ H' => Q .non H', rt := Q } (L2.start N vs) H) :
    FnP P w K mg base (k + 1) f fd ps sp := by
  obtain ⟨oc, od, kV, doc, pm, an, cdv, ct, osl, rfl, lk, hcd⟩ := F.ex
  constructor
  · exact len
  intro A outer s H args us vs Q E a oe room pinned flds env bnd vals want
  have stay : ∀ b o, base.get? b = some o → s.heap.get? b = some o := fun b o e => (env.bs b o e).1
  have inK : K.In s.heap := env.mod.kin.keeps stay
  have noLim : s.heap.NoLimit := env.mod.nolimit.keeps stay
  have place : ∀ y ∈ ps.zip us, (defScope st).names.lookup y.1 = some .local ∨ ((defScope st).names.lookup y.1 = some .cell ∧ ((cellsFrom (s.heap.objs.size + 1) (defScope st).names []).lookup y.1).isSome = true) := by
    intro y hy
    obtain ⟨n, v⟩ := y
    rcases S.par n (List.of_mem_zip hy).1 with q | q
    · exact .inl q
    · refine .inr ⟨q, ?_⟩
      exact PySem.W.cellsFrom_some _ _ _ (.inl q)
  have cr := PySem.W.codeRec_of inK hcd
  refine codeAny_call_function room.depth (inK _ _ lk) rfl S.co S.gen rfl cr (bnd _ _ _ _ (wpAny_newFunctionEnv_cells S.kind place ?_))
  intro env' e1 s1 x
  subst e1
  refine ⟨noLim.keeps x.toInCall.keep, codeAny_func ?_⟩
  obtain ⟨t, ht, hq⟩ := hB cdv A outer s H vs Q E a oe (room.deeper _) flds want
  have I := L2H.inv_startH (CX := L2.CX P w) (E := E) S pinned env (len _ _ _ _ _ _ _ want) vals x
  refine wpAny_mono (ht.run [] s1 _ H _ I hq) (fun fl s' hs => ?_) (fun _ _ hs => hs)
  cases fl with
  | brk => obtain ⟨_, _, _, q⟩ := hs; exact q.elim
  | cont => obtain ⟨_, _, _, q⟩ := hs; exact q.elim
  | next =>
    obtain ⟨_, H', J, q⟩ := hs
    exact ⟨V.non, H', J.os, J.bare, J.base, J.hok, rfl, q⟩
  | ret u =>
    obtain ⟨v, _, H', J, rv, q⟩ := hs
    exact ⟨v, H', J.os, J.bare, J.base, J.hok, rv, q⟩
end
section
variable {X : Cx} {K : PySem.W.Frag} {k : Nat} {f : Addr} {fd : FuncData} {ps : List Str} {sp : Addr → Value → Option Addr → L2.Sp} {nm : Str} {q pos : Pos} {e : Expr} {es : List Expr} {t : TA} {a : Addr} {oe : Obj} {pn : List (Addr × Obj)}
/-- the call, in the suite that holds the error at a -/
theorem pe_callP {cls : Value} {d : Option Addr} (hz : Zc cls d oe) (hf : ∃ vs, oe.data = .fields vs) (F : FnP X.prog X.w X.K X.mg X.base k f fd ps sp) (hr : Room k X.A) (hg : Gl X nm) (hm : X.mg nm = some (.ref f)) (hk : PySem.W.keepIn X.K (.ref f) = true) (hb : Binds X.K fd ps [])
    (ha : PA (X.suite a ((a, oe) :: pn)) (e :: es) t) (hdb : (nm == ("__debug__" : Str)) = false := by decide) (he : starEach (e :: es) X.env = (false, eval e X.env) :: starEach es X.env := by rfl) (hpl : (backTo pos (starEach es X.env)).any (·.1) = false := by rfl) :
    PE (X.suite a ((a, oe) :: pn)) (.Call (.Name nm q) (e :: es) [] pos) (tCallS (sp a cls d) (fun _ _ _ _ => False) t) := by
  obtain ⟨z1, z2⟩ := hz
  subst z1 z2
  constructor
  intro pins s σ H Q I h
  refine wpAny_Call_Name_kw (ld_glob I hg hm ?_ hdb)
  refine PySem.W.callWith_K (h₀ := X.base) I.ok.mod.kin hk (thn (ha.run pos pins s σ H _ I h) ?_) he hpl
  rintro us s1 ⟨vs, H1, I1, r, want⟩
  refine ⟨I1.kIn, ?_⟩
  have hl : us.length = ps.length := r.length ▸ F.len _ _ _ _ _ _ _ want
  have b := hb s1 us I1.kIn (by rw [List.append_nil]; exact hl)
  rw [List.append_nil] at b
  have P1 := I1.pin (a, oe) (List.mem_append_left _ (List.mem_cons_self))
  have pinned : L2H.PinOk X.stack H1 s1 (a, oe) := by
    refine ⟨P1.1, P1.2.1, fun hm => ?_, P1.2.2.2.2⟩
    rcases List.mem_cons.mp (I1.stkSub a hm) with z | z
    · exact P1.2.2.1 z
    · exact P1.2.2.2.1 z
  have room : L2H.RoomH k (X.suite a ((a, oe) :: pn)).A := ⟨hr.dp, hr.un⟩
  refine wpAny_call (codeAny_mono (F.run _ X.stack s1 H1 ⟨us, []⟩ us vs Q (fun _ _ _ => False) a oe room pinned hf I1.env0 b r want) ?_)
  intro res s' hq
  match res, hq with
  | .error e, hq => exact (by obtain ⟨_, _, _, _, _, _, _, _, _, _, _, _, z⟩ := hq; exact z.elim)
  | .ok (.ret u), hq => exact I1.after hq
  | .ok .next, hq => exact hq.elim
  | .ok .brk, hq => exact hq.elim
  | .ok .cont, hq => exact hq.elim
/-- isinstance of it, within the def -/
theorem inst_pin {pins : List (Addr × Obj)} {σ : L2.St} {H : Hp} {s : Shared} {D : Addr} (hp : (a, oe) ∈ X.pn) (hz : Zc (.ref D) none oe) (hf : ∃ vs, oe.data = .fields vs) (I : Inv X pins σ H s) : PySem.W.InstAt s.heap a oe D none := by
  obtain ⟨g, _⟩ := I.pin (a, oe) (List.mem_append_left _ hp)
  obtain ⟨fs, hv⟩ := hf
  obtain ⟨c1, c2, c3, c4⟩ := oe
  obtain ⟨z1, z2⟩ := hz
  dsimp only at z1 z2 hv
  subst z1 z2 hv
  exact ⟨g, rfl, rfl, trivial⟩
theorem call_isPX (hK : X.K = K) (hp : (a, oe) ∈ X.pn) (hf : ∃ vs, oe.data = .fields vs) : CallR X (.builtin "isinstance") (rIsEX K a oe.cls oe.dict) := by
  subst hK
  intro pins s σ H xs us Q I r h
  obtain ⟨D, c, cv, b, e1, e2, C, rfl, hc, ek, want⟩ := h
  obtain ⟨u1, u2, rfl, r1, r2⟩ := vals2 r
  obtain rfl : u1 = Value.ref a := r1
  obtain rfl := hc.eq r2
  have at1 := inst_pin (D := D) hp ⟨e1, e2⟩ hf I
  refine PySem.W.kia_one (PySem.W.handS_kitx_exc C.hg C.hk C.hs C.hd C.ha C.hn C.ht C.hm) I.kIn at1 ek (fun z => by cases z) fun tk => ?_
  exact ⟨.bl b, H, I.kept (t' := tk) fun _ _ z => z, rfl, want⟩
theorem call_isPTX (hK : X.K = K) (hp : (a, oe) ∈ X.pn) (hf : ∃ vs, oe.data = .fields vs) : CallR X (.builtin "isinstance") (rIsETX K a oe.cls oe.dict) := by
  subst hK
  intro pins s σ H xs us Q I r h
  obtain ⟨D, tp, cs, ws, b, e1, e2, C, rfl, hT, kc, ek, want⟩ := h
  obtain ⟨u1, u2, rfl, r1, r2⟩ := vals2 r
  obtain rfl : u1 = Value.ref a := r1
  obtain rfl : u2 = Value.ref tp := r2
  obtain ⟨_, its, rv, o, h1, h2, n, h3⟩ := (show ObjOk _ _ H s.heap tp (.tup cs) from I.hok tp _ hT)
  obtain rfl := ClsV.all kc rv
  obtain ⟨o1, o2, o3, o4⟩ := o
  dsimp only at h2 h3
  subst h2 h3
  have at1 := inst_pin (D := D) hp ⟨e1, e2⟩ hf I
  refine PySem.W.kia_tup (PySem.W.handS_kitx_exc C.hg C.hk C.hs C.hd C.ha C.hn C.ht C.hm) I.kIn at1 h1 ek (fun z => by cases z) fun tk => ?_
  exact ⟨.bl b, H, I.kept (t' := tk) fun _ _ z => z, rfl, want⟩
end
end Sp

/-! Rws: columns, due and gains as they are handed to weigh, fitting or not. -/
namespace Sp
open PySem PySem.Spec L2 PyProof.Rows
inductive LsV (H : Hp) : List Addr → List (List V) → Prop
  | nil : LsV H [] []
  | cons {t : Addr} {ts : List Addr} {c : List V} {cs : List (List V)} : H t = some (.lst c) → LsV H ts cs → LsV H (t :: ts) (c :: cs)
theorem LsV.same {H H' : Hp} (s : Same H H') : ∀ {ts : List Addr} {cs : List (List V)}, LsV H ts cs → LsV H' ts cs
  | _, _, .nil => .nil
  | _, _, .cons h r => .cons (s _ _ h) (r.same s)
theorem LsV.len {H : Hp} : ∀ {ts : List Addr} {cs : List (List V)}, LsV H ts cs → ts.length = cs.length
  | _, _, .nil => rfl
  | _, _, .cons _ r => by rw [List.length_cons, List.length_cons, r.len]
theorem LsV.at {H : Hp} : ∀ {ts : List Addr} {cs : List (List V)}, LsV H ts cs → ∀ {i : Nat} {t : Addr}, ts[i]? = some t → ∃ c, cs[i]? = some c ∧ H t = some (.lst c)
  | _, _, .nil, i, t, h => by simp at h
  | _, _, .cons (c := c) e r, 0, t, h => by
    rw [List.getElem?_cons_zero] at h
    obtain rfl := Option.some.inj h
    exact ⟨c, rfl, e⟩
  | _, _, .cons e r, i + 1, t, h => by
    rw [List.getElem?_cons_succ] at h
    obtain ⟨c, h1, h2⟩ := r.at h
    exact ⟨c, by rw [List.getElem?_cons_succ]; exact h1, h2⟩
theorem LsV.snoc {H : Hp} {t : Addr} {c : List V} (ht : H t = some (.lst c)) : ∀ {ts : List Addr} {cs : List (List V)}, LsV H ts cs → LsV H (ts ++ [t]) (cs ++ [c])
  | _, _, .nil => .cons ht .nil
  | _, _, .cons h r => .cons h (r.snoc ht)
theorem LsV.app {H : Hp} : ∀ {ts us : List Addr} {cs es : List (List V)}, LsV H ts cs → LsV H us es → LsV H (ts ++ us) (cs ++ es)
  | _, _, _, _, .nil, h => h
  | _, _, _, _, .cons h1 h2, h => .cons h1 (h2.app h)
theorem LsV.set {H : Hp} {t : Addr} {c : List V} (ht : H t = some (.lst c)) : ∀ {ts : List Addr} {cs : List (List V)}, LsV H ts cs → ∀ j, LsV H (ts.set j t) (cs.set j c)
  | _, _, .nil, _ => .nil
  | _, _, .cons h r, 0 => .cons ht r
  | _, _, .cons h r, j + 1 => .cons h (r.set ht j)
/-- a thing told as data -/
structure CellV (K : PySem.W.Frag) (H : Hp) (v : V) : Prop where
  th : Thing H v
  dat : ∃ d, Dp K H v d ∧ LayD 3 d
theorem CellV.same {K : PySem.W.Frag} {H H' : Hp} {v : V} (s : Same H H') (h : CellV K H v) : CellV K H' v := by
  obtain ⟨d, h1, h2⟩ := h.dat
  exact ⟨h.th.same s, d, Dp.same s d v h1, h2⟩
theorem CellV.int {K : PySem.W.Frag} {H : Hp} (i : Int) : CellV K H (.int i) := ⟨.int i, .int i, .int i, .int (by decide) i⟩
theorem cells_dp {K : PySem.W.Frag} {H : Hp} : ∀ {vs : List V}, (∀ v ∈ vs, CellV K H v) → ∃ ds, DpAll K H vs ds ∧ ∀ d ∈ ds, LayD 3 d
  | [], _ => ⟨[], .nil, fun d hd => by cases hd⟩
  | v :: vs, h => by
    obtain ⟨d, h1, h2⟩ := (h v (.head _)).dat
    obtain ⟨ds, h3, h4⟩ := cells_dp (vs := vs) fun u hu => h u (.tail _ hu)
    exact ⟨d :: ds, .cons h1 h3, fun e he => by
      cases he with
      | head => exact h2
      | tail _ m => exact h4 e m⟩
/-- what is handed to weigh -/
structure RowsV (K : PySem.W.Frag) (H : Hp) (cA dA gA : Addr) (cs : List (List V)) (ds gs : List V) : Prop where
  c : ∃ ts : List Addr, H cA = some (.lst (ts.map V.ref)) ∧ LsV H ts cs
  d : H dA = some (.lst ds)
  g : H gA = some (.lst gs)
  td : ∀ v ∈ ds, CellV K H v
  tg : ∀ v ∈ gs, CellV K H v
  tc : ∀ c ∈ cs, ∀ v ∈ c, CellV K H v
theorem RowsV.same {K : PySem.W.Frag} {H H' : Hp} {cA dA gA : Addr} {cs : List (List V)} {ds gs : List V} (s : Same H H') (h : RowsV K H cA dA gA cs ds gs) : RowsV K H' cA dA gA cs ds gs := by
  obtain ⟨ts, h1, h2⟩ := h.c
  exact ⟨⟨ts, s _ _ h1, h2.same s⟩, s _ _ h.d, s _ _ h.g, fun v hv => (h.td v hv).same s, fun v hv => (h.tg v hv).same s, fun c hc v hv => (h.tc c hc v hv).same s⟩
/-- columns, due and gains that fit one another -/
structure Fits (cs : List (List V)) (ds gs : List V) : Prop where
  d1 : 1 ≤ ds.length
  d8 : ds.length ≤ 8
  c70 : cs.length ≤ 70
  gl : gs.length = cs.length
  cl : ∀ c ∈ cs, c.length = ds.length ∧ c.all isI = true
  di : ds.all isI = true
  gi : gs.all isI = true
/-- what is new in H' -/
def newR (H H' : Hp) : Hp := fun a => if (H a).isNone = true then H' a else none
theorem newR_in {H H' : Hp} {a : Addr} {o : HO} (h : newR H H' a = some o) : H a = none ∧ H' a = some o := by
  unfold newR at h
  by_cases c : (H a).isNone = true
  · rw [if_pos c] at h; exact ⟨Option.isNone_iff_eq_none.mp c, h⟩
  · rw [if_neg c] at h; cases h
theorem own_newR {H H' : Hp} {cs : Cells} (w : Own H cs H') : Own (fun _ => Option.none) cs (newR H H') where
  ex := fun _ _ h => nomatch h
  cell := fun q hq => by
    obtain ⟨h1, h2⟩ := w.cell q hq
    refine ⟨?_, rfl⟩
    unfold newR
    rw [h2]
    exact h1
  nd := w.nd
/-- all but the cells stands -/
theorem own_grow {B H1 H2 : Hp} {cs : Cells} (w : Own B cs H1) (s : Same H1 H2) : ∃ B2, Same B B2 ∧ Own B2 cs H2 ∧ Same (newR H1 H2) B2 := by
  classical
  refine ⟨fun a => if a ∈ cs.map (·.1) then Option.none else H2 a, fun a o h => ?_, ⟨fun a o h => ?_, fun q hq => ⟨s _ _ (w.cell q hq).1, ?_⟩, w.nd⟩, fun a o h => ?_⟩
  · have : a ∉ cs.map (·.1) := fun m => by
      obtain ⟨q, hq, e⟩ := List.mem_map.mp m
      have := (w.cell q hq).2
      rw [e, h] at this
      cases this
    show (if a ∈ cs.map (·.1) then Option.none else H2 a) = some o
    rw [if_neg this]
    exact s _ _ (w.ex _ _ h)
  · have h : (if a ∈ cs.map (·.1) then Option.none else H2 a) = some o := h
    by_cases c : a ∈ cs.map (·.1)
    · rw [if_pos c] at h; cases h
    · rw [if_neg c] at h; exact h
  · show (if q.1 ∈ cs.map (·.1) then Option.none else H2 q.1) = Option.none
    rw [if_pos (List.mem_map.mpr ⟨q, hq, rfl⟩)]
  · obtain ⟨h1, h2⟩ := newR_in h
    have : a ∉ cs.map (·.1) := fun m => by
      obtain ⟨q, hq, e⟩ := List.mem_map.mp m
      have := (w.cell q hq).1
      rw [e, h1] at this
      cases this
    show (if a ∈ cs.map (·.1) then Option.none else H2 a) = some o
    rw [if_neg this]
    exact h2
/-- whole numbers, small -/
def intR (i : Nat) (_ : Hp) (ys : List V) : Prop := ∃ xs : List Int, ys = xs.map V.int ∧ xs.length = i ∧ ∀ z ∈ xs, Small z
theorem intR.nil {B : Hp} : intR 0 B [] := ⟨[], rfl, rfl, fun z hz => by cases hz⟩
theorem intR.snoc {i : Nat} {B B' : Hp} {ys : List V} {z : Int} (h : intR i B ys) (hz : Small z) : intR (i + 1) B' (ys ++ [.int z]) := by
  obtain ⟨xs, rfl, e, h⟩ := h
  refine ⟨xs ++ [z], by rw [List.map_append] <;> rfl, by rw [List.length_append, e] <;> rfl, fun y hy => ?_⟩
  rcases List.mem_append.mp hy with m | m
  · exact h y m
  · rw [List.mem_singleton] at m; subst m; exact hz
theorem intR.len {i : Nat} {B : Hp} {ys : List V} (h : intR i B ys) : ys.length = i := by
  obtain ⟨xs, rfl, e, _⟩ := h
  rw [List.length_map, e]
theorem intR.fn {i : Nat} {B : Hp} {ys : List V} (h : intR i B ys) : ∃ f : Nat → Int, ys = (tl i f).map V.int ∧ ∀ c, (f c).natAbs < 2 ^ 60 := by
  obtain ⟨xs, rfl, e, h⟩ := h
  refine ⟨Sp.fn xs, by rw [← tl_fnL xs e], fun c => ?_⟩
  by_cases hc : c < xs.length
  · have := h (xs[c]) (List.getElem_mem hc)
    have e2 : Sp.fn xs c = xs[c] := by
      unfold Sp.fn Sp.gi
      rw [Int.toNat_natCast, List.getD_eq_getElem?_getD, List.getElem?_eq_getElem hc] <;> rfl
    rw [e2]
    obtain ⟨h1, h2⟩ := this
    have : 1000000000000000000 < 2 ^ 60 := by decide
    omega
  · unfold Sp.fn Sp.gi
    rw [Int.toNat_natCast, List.getD_eq_getElem?_getD, List.getElem?_eq_none (by omega)]
    decide
theorem LsV.of {H : Hp} : ∀ {ts : List Addr} {cs : List (List V)}, ts.length = cs.length → (∀ (i : Nat) (t : Addr) (c : List V), ts[i]? = some t → cs[i]? = some c → H t = some (.lst c)) → LsV H ts cs
  | [], [], _, _ => .nil
  | [], _ :: _, e, _ => by cases e
  | _ :: _, [], e, _ => by cases e
  | t :: ts, c :: cs, e, h => .cons (h 0 t c rfl rfl) (LsV.of (Nat.succ.inj e) fun i t' c' h1 h2 => h (i + 1) t' c' (by rw [List.getElem?_cons_succ]; exact h1) (by rw [List.getElem?_cons_succ]; exact h2))
/-- three lists that fit -/
structure GoodR (B : Hp) (pC pD pG : Addr) (us : List Addr) (n w : Nat) (C : Nat → Nat → Int) (D G : Nat → Int) : Prop where
  c : B pC = some (.lst (us.map V.ref))
  len : us.length = w
  row : ∀ j t, us[j]? = some t → B t = some (.lst ((tl n (C j)).map V.int))
  d : B pD = some (.lst ((tl n D).map V.int))
  g : B pG = some (.lst ((tl w G).map V.int))
  n1 : 1 ≤ n
  n8 : n ≤ 8
  w70 : w ≤ 70
  bc : ∀ j c, (C j c).natAbs < 2 ^ 60
  bd : ∀ c, (D c).natAbs < 2 ^ 60
  bg : ∀ j, (G j).natAbs < 2 ^ 60
theorem GoodR.same {B B' : Hp} {pC pD pG : Addr} {us : List Addr} {n w : Nat} {C : Nat → Nat → Int} {D G : Nat → Int} (s : Same B B') (h : GoodR B pC pD pG us n w C D G) : GoodR B' pC pD pG us n w C D G :=
  ⟨s _ _ h.c, h.len, fun j t e => s _ _ (h.row j t e), s _ _ h.d, s _ _ h.g, h.n1, h.n8, h.w70, h.bc, h.bd, h.bg⟩
theorem GoodR.cols {K : PySem.W.Frag} {B : Hp} {pC pD pG : Addr} {us : List Addr} {n w : Nat} {C : Nat → Nat → Int} {D G : Nat → Int} (h : GoodR B pC pD pG us n w C D G) : ColsAt K B pC us n w C := ⟨SqL.of h.c, h.len, fun j t e => SqL.of (h.row j t e)⟩
theorem GoodR.small {B : Hp} {pC pD pG : Addr} {us : List Addr} {n w : Nat} {C : Nat → Nat → Int} {D G : Nat → Int} (h : GoodR B pC pD pG us n w C D G) : Small3 n w 60 C D G := ⟨h.n8, by have := h.w70; omega, by decide, fun j _ i _ => h.bc j i, fun i _ => h.bd i, fun j _ => h.bg j, by
  have : (n + 2) * (60 + 3) ≤ 10 * 63 := Nat.mul_le_mul_right _ (by have := h.n8; omega)
  omega⟩
def colsV (n w : Nat) (C : Nat → Nat → Int) : List (List V) := tl2 w fun j => (tl n (C j)).map V.int
theorem ints_cell {K : PySem.W.Frag} {H : Hp} {xs : List Int} : ∀ v ∈ xs.map V.int, CellV K H v := fun v hv => by
  obtain ⟨i, _, rfl⟩ := List.mem_map.mp hv
  exact .int i
theorem ints_isI {xs : List Int} : (xs.map V.int).all isI = true := List.all_eq_true.mpr fun v hv => by
  obtain ⟨i, _, rfl⟩ := List.mem_map.mp hv
  rfl
theorem GoodR.rows {K : PySem.W.Frag} {B : Hp} {pC pD pG : Addr} {us : List Addr} {n w : Nat} {C : Nat → Nat → Int} {D G : Nat → Int} (h : GoodR B pC pD pG us n w C D G) : RowsV K B pC pD pG (colsV n w C) ((tl n D).map V.int) ((tl w G).map V.int) :=
  ⟨⟨us, h.c, LsV.of (by unfold colsV; rw [tl2_len]; exact h.len) fun i t c h1 h2 => by
    unfold colsV at h2
    obtain ⟨_, rfl⟩ := tl2_at h2
    exact h.row i t h1⟩, h.d, h.g, ints_cell, ints_cell, fun c hc => by
    unfold colsV tl2 at hc
    obtain ⟨j, _, rfl⟩ := List.mem_map.mp hc
    exact ints_cell⟩
theorem GoodR.fits {B : Hp} {pC pD pG : Addr} {us : List Addr} {n w : Nat} {C : Nat → Nat → Int} {D G : Nat → Int} (h : GoodR B pC pD pG us n w C D G) : Fits (colsV n w C) ((tl n D).map V.int) ((tl w G).map V.int) := by
  refine ⟨by rw [List.length_map, tl_len]; exact h.n1, by rw [List.length_map, tl_len]; exact h.n8, by unfold colsV; rw [tl2_len]; exact h.w70, by unfold colsV; rw [List.length_map, tl_len, tl2_len], fun c hc => ?_, ints_isI, ints_isI⟩
  unfold colsV tl2 at hc
  obtain ⟨j, _, rfl⟩ := List.mem_map.mp hc
  exact ⟨by rw [List.length_map, List.length_map, tl_len, tl_len], ints_isI⟩
end Sp

namespace Lw
open PySem PySem.Spec PyProof.Rows L2 Sp
def topS (i : Nat) : Stmt := PySem.Challenge.pw_shareparley_k31_weigh_refused.main.body.getD i (.Pass ⟨0, 0, 0, 0⟩)
abbrev s_is_whole : Stmt := topS 14
abbrev N_is_whole : List Str := ["thing"]
theorem sc_is_whole : FnScope N_is_whole ["thing"] (defScope s_is_whole) := ⟨rfl, rfl, rfl, by decide +kernel, rfl, by decide +kernel, by decide +kernel⟩
abbrev s_divisor : Stmt := topS 15
abbrev N_divisor : List Str := ["one", "other", "rests"]
theorem sc_divisor : FnScope N_divisor ["one", "other"] (defScope s_divisor) := ⟨rfl, rfl, rfl, by decide +kernel, rfl, by decide +kernel, by decide +kernel⟩
abbrev s_shortest : Stmt := topS 16
abbrev N_shortest : List Str := ["top", "bottom", "share"]
theorem sc_shortest : FnScope N_shortest ["top", "bottom"] (defScope s_shortest) := ⟨rfl, rfl, rfl, by decide +kernel, rfl, by decide +kernel, by decide +kernel⟩
abbrev s_fraction : Stmt := topS 17
abbrev N_fraction : List Str := ["top", "bottom", "thing"]
theorem sc_fraction : FnScope N_fraction ["top", "bottom"] (defScope s_fraction) := ⟨rfl, rfl, rfl, by decide +kernel, rfl, by decide +kernel, by decide +kernel⟩
abbrev s_look_wholes : Stmt := topS 19
abbrev N_look_wholes : List Str := ["row", "number"]
theorem sc_look_wholes : FnScope N_look_wholes ["row"] (defScope s_look_wholes) := ⟨rfl, rfl, rfl, by decide +kernel, rfl, by decide +kernel, by decide +kernel⟩
abbrev s_look_rows : Stmt := topS 20
abbrev N_look_rows : List Str := ["columns", "due", "gains", "column"]
theorem sc_look_rows : FnScope N_look_rows ["columns", "due", "gains"] (defScope s_look_rows) := ⟨rfl, rfl, rfl, by decide +kernel, rfl, by decide +kernel, by decide +kernel⟩
abbrev s_Slate___init__ : Stmt := inClass (topS 21) 0
abbrev N_Slate___init__ : List Str := ["self", "columns", "due", "gains", "rows", "k", "row", "short", "gained", "number", "column", "j"]
theorem sc_Slate___init__ : FnScope N_Slate___init__ ["self", "columns", "due", "gains"] (defScope s_Slate___init__) := ⟨rfl, rfl, rfl, by decide +kernel, rfl, by decide +kernel, by decide +kernel⟩
abbrev s_Slate_turn : Stmt := inClass (topS 21) 1
abbrev N_Slate_turn : List Str := ["self", "at", "to", "old", "by", "rows", "k", "row", "x", "y"]
theorem sc_Slate_turn : FnScope N_Slate_turn ["self", "at", "to"] (defScope s_Slate_turn) := ⟨rfl, rfl, rfl, by decide +kernel, rfl, by decide +kernel, by decide +kernel⟩
abbrev s_Slate_come_in : Stmt := inClass (topS 21) 2
abbrev N_Slate_come_in : List Str := ["self", "k"]
theorem sc_Slate_come_in : FnScope N_Slate_come_in ["self"] (defScope s_Slate_come_in) := ⟨rfl, rfl, rfl, by decide +kernel, rfl, by decide +kernel, by decide +kernel⟩
abbrev s_Slate_sooner : Stmt := inClass (topS 21) 3
abbrev N_Slate_sooner : List Str := ["self", "here", "there", "to", "k", "one", "other"]
theorem sc_Slate_sooner : FnScope N_Slate_sooner ["self", "here", "there", "to"] (defScope s_Slate_sooner) := ⟨rfl, rfl, rfl, by decide +kernel, rfl, by decide +kernel, by decide +kernel⟩
abbrev s_Slate_go_out : Stmt := inClass (topS 21) 4
abbrev N_Slate_go_out : List Str := ["self", "to", "best", "k"]
theorem sc_Slate_go_out : FnScope N_Slate_go_out ["self", "to"] (defScope s_Slate_go_out) := ⟨rfl, rfl, rfl, by decide +kernel, rfl, by decide +kernel, by decide +kernel⟩
abbrev s_Slate_climb : Stmt := inClass (topS 21) 5
abbrev N_Slate_climb : List Str := ["self", "to", "at"]
theorem sc_Slate_climb : FnScope N_Slate_climb ["self"] (defScope s_Slate_climb) := ⟨rfl, rfl, rfl, by decide +kernel, rfl, by decide +kernel, by decide +kernel⟩
abbrev s_Slate_told_weights : Stmt := inClass (topS 21) 6
abbrev N_Slate_told_weights : List Str := ["self", "found", "k"]
theorem sc_Slate_told_weights : FnScope N_Slate_told_weights ["self"] (defScope s_Slate_told_weights) := ⟨rfl, rfl, rfl, by decide +kernel, rfl, by decide +kernel, by decide +kernel⟩
abbrev s_Slate_told_way : Stmt := inClass (topS 21) 7
abbrev N_Slate_told_way : List Str := ["self", "to", "found", "k"]
theorem sc_Slate_told_way : FnScope N_Slate_told_way ["self", "to"] (defScope s_Slate_told_way) := ⟨rfl, rfl, rfl, by decide +kernel, rfl, by decide +kernel, by decide +kernel⟩
abbrev s_Slate_told_prices : Stmt := inClass (topS 21) 8
abbrev N_Slate_told_prices : List Str := ["self", "gained", "short", "found", "k", "number"]
theorem sc_Slate_told_prices : FnScope N_Slate_told_prices ["self", "gained", "short"] (defScope s_Slate_told_prices) := ⟨rfl, rfl, rfl, by decide +kernel, rfl, by decide +kernel, by decide +kernel⟩
abbrev s_Slate_enough : Stmt := inClass (topS 21) 9
abbrev N_Slate_enough : List Str := ["self", "by", "k", "short"]
theorem sc_Slate_enough : FnScope N_Slate_enough ["self"] (defScope s_Slate_enough) := ⟨rfl, rfl, rfl, by decide +kernel, rfl, by decide +kernel, by decide +kernel⟩
abbrev s_weighed : Stmt := topS 22
abbrev N_weighed : List Str := ["columns", "due", "gains", "slate", "to"]
theorem sc_weighed : FnScope N_weighed ["columns", "due", "gains"] (defScope s_weighed) := ⟨rfl, rfl, rfl, by decide +kernel, rfl, by decide +kernel, by decide +kernel⟩
abbrev s_weigh : Stmt := topS 23
abbrev N_weigh : List Str := ["columns", "due", "gains"]
theorem sc_weigh : FnScope N_weigh ["columns", "due", "gains"] (defScope s_weigh) := ⟨rfl, rfl, rfl, by decide +kernel, rfl, by decide +kernel, by decide +kernel⟩
abbrev s__law_cell : Stmt := topS 25
abbrev N__law_cell : List Str := ["_law_script", "_law_k"]
theorem sc__law_cell : FnScope N__law_cell ["_law_script", "_law_k"] (defScope s__law_cell) := ⟨rfl, rfl, rfl, by decide +kernel, rfl, by decide +kernel, by decide +kernel⟩
abbrev s__law_number : Stmt := topS 26
abbrev N__law_number : List Str := ["_law_cell_here"]
theorem sc__law_number : FnScope N__law_number ["_law_cell_here"] (defScope s__law_number) := ⟨rfl, rfl, rfl, by decide +kernel, rfl, by decide +kernel, by decide +kernel⟩
abbrev s__law_lists : Stmt := topS 27
abbrev N__law_lists : List Str := ["_law_script", "_law_many", "_law_wide", "_law_due", "_law_columns", "_law_j", "_law_k"]
theorem sc__law_lists : FnScope N__law_lists ["_law_script"] (defScope s__law_lists) := ⟨rfl, rfl, rfl, by decide +kernel, rfl, by decide +kernel, by decide +kernel⟩
abbrev s__law_odd : Stmt := topS 28
abbrev N__law_odd : List Str := ["_law_cell_here"]
theorem sc__law_odd : FnScope N__law_odd ["_law_cell_here"] (defScope s__law_odd) := ⟨rfl, rfl, rfl, by decide +kernel, rfl, by decide +kernel, by decide +kernel⟩
abbrev s__law_longer : Stmt := topS 29
abbrev N__law_longer : List Str := ["_law_row", "_law_cell_here"]
theorem sc__law_longer : FnScope N__law_longer ["_law_row", "_law_cell_here"] (defScope s__law_longer) := ⟨rfl, rfl, rfl, by decide +kernel, rfl, by decide +kernel, by decide +kernel⟩
abbrev s__law_amiss : Stmt := topS 30
abbrev N__law_amiss : List Str := ["_law_lists_here", "_law_script", "_law_columns", "_law_due", "_law_gains", "_law_way", "_law_cell_here", "_law_at", "_law_column", "_law_k"]
theorem sc__law_amiss : FnScope N__law_amiss ["_law_lists_here", "_law_script"] (defScope s__law_amiss) := ⟨rfl, rfl, rfl, by decide +kernel, rfl, by decide +kernel, by decide +kernel⟩
abbrev s__law_own : Stmt := topS 31
abbrev N__law_own : List Str := ["_law_error"]
theorem sc__law_own : FnScope N__law_own ["_law_error"] (defScope s__law_own) := ⟨rfl, rfl, rfl, by decide +kernel, rfl, by decide +kernel, by decide +kernel⟩
abbrev s__law_refused : Stmt := topS 32
abbrev N__law_refused : List Str := ["_law_lists_here", "_law_only", "_law_error"]
theorem sc__law_refused : FnScope N__law_refused ["_law_lists_here"] (defScope s__law_refused) := ⟨rfl, rfl, rfl, by decide +kernel, rfl, by decide +kernel, by decide +kernel⟩
abbrev s__law_taken : Stmt := topS 33
abbrev N__law_taken : List Str := ["_law_lists_here", "_law_found"]
theorem sc__law_taken : FnScope N__law_taken ["_law_lists_here"] (defScope s__law_taken) := ⟨rfl, rfl, rfl, by decide +kernel, rfl, by decide +kernel, by decide +kernel⟩
abbrev s_law : Stmt := topS 34
abbrev N_law : List Str := ["_law_script", "_law_lists_here", "_law_amiss_here", "_law_kept", "_law_j", "_law_k", "_law_column"]
theorem sc_law : FnScope N_law ["_law_script"] (defScope s_law) := ⟨rfl, rfl, rfl, by decide +kernel, rfl, by decide +kernel, by decide +kernel⟩
structure Ads where
  a_is_whole : Addr
  d_is_whole : FuncData
  a_divisor : Addr
  d_divisor : FuncData
  a_shortest : Addr
  d_shortest : FuncData
  a_fraction : Addr
  d_fraction : FuncData
  a_look_wholes : Addr
  d_look_wholes : FuncData
  a_look_rows : Addr
  d_look_rows : FuncData
  a_Slate___init__ : Addr
  d_Slate___init__ : FuncData
  a_Slate_turn : Addr
  d_Slate_turn : FuncData
  a_Slate_come_in : Addr
  d_Slate_come_in : FuncData
  a_Slate_sooner : Addr
  d_Slate_sooner : FuncData
  a_Slate_go_out : Addr
  d_Slate_go_out : FuncData
  a_Slate_climb : Addr
  d_Slate_climb : FuncData
  a_Slate_told_weights : Addr
  d_Slate_told_weights : FuncData
  a_Slate_told_way : Addr
  d_Slate_told_way : FuncData
  a_Slate_told_prices : Addr
  d_Slate_told_prices : FuncData
  a_Slate_enough : Addr
  d_Slate_enough : FuncData
  a_weighed : Addr
  d_weighed : FuncData
  a_weigh : Addr
  d_weigh : FuncData
  a__law_cell : Addr
  d__law_cell : FuncData
  a__law_number : Addr
  d__law_number : FuncData
  a__law_lists : Addr
  d__law_lists : FuncData
  a__law_odd : Addr
  d__law_odd : FuncData
  a__law_longer : Addr
  d__law_longer : FuncData
  a__law_amiss : Addr
  d__law_amiss : FuncData
  a__law_own : Addr
  d__law_own : FuncData
  a__law_refused : Addr
  d__law_refused : FuncData
  a__law_taken : Addr
  d__law_taken : FuncData
  a_law : Addr
  d_law : FuncData
  ShareError : Addr
  NoNumber : Addr
  NoGroup : Addr
  NoRule : Addr
  NoText : Addr
  NoTable : Addr
  Unlike : Addr
  TooMany : Addr
  NoOrder : Addr
  NoRows : Addr
  NoShares : Addr
  NoVotes : Addr
  Slate : Addr
/-- what the top has written -/
structure Txt (K : PySem.W.Frag) (mg : Str → Option Value) (A : Ads) : Prop where
  F_is_whole : Fun K "is_whole" "is_whole" s_is_whole A.a_is_whole A.d_is_whole
  b_is_whole : Binds K A.d_is_whole ["thing"] []
  g_is_whole : mg "is_whole" = some (.ref A.a_is_whole)
  F_divisor : Fun K "divisor" "divisor" s_divisor A.a_divisor A.d_divisor
  b_divisor : Binds K A.d_divisor ["one", "other"] []
  g_divisor : mg "divisor" = some (.ref A.a_divisor)
  F_shortest : Fun K "shortest" "shortest" s_shortest A.a_shortest A.d_shortest
  b_shortest : Binds K A.d_shortest ["top", "bottom"] []
  g_shortest : mg "shortest" = some (.ref A.a_shortest)
  F_fraction : Fun K "fraction" "fraction" s_fraction A.a_fraction A.d_fraction
  b_fraction : Binds K A.d_fraction ["top", "bottom"] []
  g_fraction : mg "fraction" = some (.ref A.a_fraction)
  F_look_wholes : Fun K "look_wholes" "look_wholes" s_look_wholes A.a_look_wholes A.d_look_wholes
  b_look_wholes : Binds K A.d_look_wholes ["row"] []
  g_look_wholes : mg "look_wholes" = some (.ref A.a_look_wholes)
  F_look_rows : Fun K "look_rows" "look_rows" s_look_rows A.a_look_rows A.d_look_rows
  b_look_rows : Binds K A.d_look_rows ["columns", "due", "gains"] []
  g_look_rows : mg "look_rows" = some (.ref A.a_look_rows)
  F_Slate___init__ : Fun K "__init__" "Slate.__init__" s_Slate___init__ A.a_Slate___init__ A.d_Slate___init__
  b_Slate___init__ : Binds K A.d_Slate___init__ ["self", "columns", "due", "gains"] []
  F_Slate_turn : Fun K "turn" "Slate.turn" s_Slate_turn A.a_Slate_turn A.d_Slate_turn
  b_Slate_turn : Binds K A.d_Slate_turn ["self", "at", "to"] []
  F_Slate_come_in : Fun K "come_in" "Slate.come_in" s_Slate_come_in A.a_Slate_come_in A.d_Slate_come_in
  b_Slate_come_in : Binds K A.d_Slate_come_in ["self"] []
  F_Slate_sooner : Fun K "sooner" "Slate.sooner" s_Slate_sooner A.a_Slate_sooner A.d_Slate_sooner
  b_Slate_sooner : Binds K A.d_Slate_sooner ["self", "here", "there", "to"] []
  F_Slate_go_out : Fun K "go_out" "Slate.go_out" s_Slate_go_out A.a_Slate_go_out A.d_Slate_go_out
  b_Slate_go_out : Binds K A.d_Slate_go_out ["self", "to"] []
  F_Slate_climb : Fun K "climb" "Slate.climb" s_Slate_climb A.a_Slate_climb A.d_Slate_climb
  b_Slate_climb : Binds K A.d_Slate_climb ["self"] []
  F_Slate_told_weights : Fun K "told_weights" "Slate.told_weights" s_Slate_told_weights A.a_Slate_told_weights A.d_Slate_told_weights
  b_Slate_told_weights : Binds K A.d_Slate_told_weights ["self"] []
  F_Slate_told_way : Fun K "told_way" "Slate.told_way" s_Slate_told_way A.a_Slate_told_way A.d_Slate_told_way
  b_Slate_told_way : Binds K A.d_Slate_told_way ["self", "to"] []
  F_Slate_told_prices : Fun K "told_prices" "Slate.told_prices" s_Slate_told_prices A.a_Slate_told_prices A.d_Slate_told_prices
  b_Slate_told_prices : Binds K A.d_Slate_told_prices ["self", "gained", "short"] []
  F_Slate_enough : Fun K "enough" "Slate.enough" s_Slate_enough A.a_Slate_enough A.d_Slate_enough
  b_Slate_enough : Binds K A.d_Slate_enough ["self"] []
  F_weighed : Fun K "weighed" "weighed" s_weighed A.a_weighed A.d_weighed
  b_weighed : Binds K A.d_weighed ["columns", "due", "gains"] []
  g_weighed : mg "weighed" = some (.ref A.a_weighed)
  F_weigh : Fun K "weigh" "weigh" s_weigh A.a_weigh A.d_weigh
  b_weigh : Binds K A.d_weigh ["columns", "due", "gains"] []
  g_weigh : mg "weigh" = some (.ref A.a_weigh)
  F__law_cell : Fun K "_law_cell" "_law_cell" s__law_cell A.a__law_cell A.d__law_cell
  b__law_cell : Binds K A.d__law_cell ["_law_script", "_law_k"] []
  g__law_cell : mg "_law_cell" = some (.ref A.a__law_cell)
  F__law_number : Fun K "_law_number" "_law_number" s__law_number A.a__law_number A.d__law_number
  b__law_number : Binds K A.d__law_number ["_law_cell_here"] []
  g__law_number : mg "_law_number" = some (.ref A.a__law_number)
  F__law_lists : Fun K "_law_lists" "_law_lists" s__law_lists A.a__law_lists A.d__law_lists
  b__law_lists : Binds K A.d__law_lists ["_law_script"] []
  g__law_lists : mg "_law_lists" = some (.ref A.a__law_lists)
  F__law_odd : Fun K "_law_odd" "_law_odd" s__law_odd A.a__law_odd A.d__law_odd
  b__law_odd : Binds K A.d__law_odd ["_law_cell_here"] []
  g__law_odd : mg "_law_odd" = some (.ref A.a__law_odd)
  F__law_longer : Fun K "_law_longer" "_law_longer" s__law_longer A.a__law_longer A.d__law_longer
  b__law_longer : Binds K A.d__law_longer ["_law_row", "_law_cell_here"] []
  g__law_longer : mg "_law_longer" = some (.ref A.a__law_longer)
  F__law_amiss : Fun K "_law_amiss" "_law_amiss" s__law_amiss A.a__law_amiss A.d__law_amiss
  b__law_amiss : Binds K A.d__law_amiss ["_law_lists_here", "_law_script"] []
  g__law_amiss : mg "_law_amiss" = some (.ref A.a__law_amiss)
  F__law_own : Fun K "_law_own" "_law_own" s__law_own A.a__law_own A.d__law_own
  b__law_own : Binds K A.d__law_own ["_law_error"] []
  g__law_own : mg "_law_own" = some (.ref A.a__law_own)
  F__law_refused : Fun K "_law_refused" "_law_refused" s__law_refused A.a__law_refused A.d__law_refused
  b__law_refused : Binds K A.d__law_refused ["_law_lists_here"] []
  g__law_refused : mg "_law_refused" = some (.ref A.a__law_refused)
  F__law_taken : Fun K "_law_taken" "_law_taken" s__law_taken A.a__law_taken A.d__law_taken
  b__law_taken : Binds K A.d__law_taken ["_law_lists_here"] []
  g__law_taken : mg "_law_taken" = some (.ref A.a__law_taken)
  F_law : Fun K "law" "law" s_law A.a_law A.d_law
  b_law : Binds K A.d_law ["_law_script"] []
  g_law : mg "law" = some (.ref A.a_law)
  g_ShareError : mg "ShareError" = some (.ref A.ShareError)
  g_NoNumber : mg "NoNumber" = some (.ref A.NoNumber)
  k_NoNumber : PySem.W.keepIn K (.ref A.NoNumber) = true
  e_NoNumber : PySem.W.subIn K (.ref A.NoNumber) (.type "BaseException") = some true
  t_NoNumber : PySem.W.typeIn K (.ref A.NoNumber) = some (.type "type")
  x_NoNumber : PySem.W.excIn K A.NoNumber [.type "ValueError", .type "Exception", .type "BaseException", .type "object"] "ValueError.__new__" = true
  g_NoGroup : mg "NoGroup" = some (.ref A.NoGroup)
  g_NoRule : mg "NoRule" = some (.ref A.NoRule)
  g_NoText : mg "NoText" = some (.ref A.NoText)
  g_NoTable : mg "NoTable" = some (.ref A.NoTable)
  g_Unlike : mg "Unlike" = some (.ref A.Unlike)
  g_TooMany : mg "TooMany" = some (.ref A.TooMany)
  g_NoOrder : mg "NoOrder" = some (.ref A.NoOrder)
  g_NoRows : mg "NoRows" = some (.ref A.NoRows)
  k_NoRows : PySem.W.keepIn K (.ref A.NoRows) = true
  e_NoRows : PySem.W.subIn K (.ref A.NoRows) (.type "BaseException") = some true
  t_NoRows : PySem.W.typeIn K (.ref A.NoRows) = some (.type "type")
  x_NoRows : PySem.W.excIn K A.NoRows [.type "ValueError", .type "Exception", .type "BaseException", .type "object"] "ValueError.__new__" = true
  g_NoShares : mg "NoShares" = some (.ref A.NoShares)
  g_NoVotes : mg "NoVotes" = some (.ref A.NoVotes)
  g_Slate : mg "Slate" = some (.ref A.Slate)
  cl_Slate : Cls K A.Slate
  mk_Slate : Mk K A.Slate A.a_Slate___init__
  m_Slate_turn : Meth K A.Slate "turn" A.a_Slate_turn
  m_Slate_come_in : Meth K A.Slate "come_in" A.a_Slate_come_in
  m_Slate_sooner : Meth K A.Slate "sooner" A.a_Slate_sooner
  m_Slate_go_out : Meth K A.Slate "go_out" A.a_Slate_go_out
  m_Slate_climb : Meth K A.Slate "climb" A.a_Slate_climb
  m_Slate_told_weights : Meth K A.Slate "told_weights" A.a_Slate_told_weights
  m_Slate_told_way : Meth K A.Slate "told_way" A.a_Slate_told_way
  m_Slate_told_prices : Meth K A.Slate "told_prices" A.a_Slate_told_prices
  m_Slate_enough : Meth K A.Slate "enough" A.a_Slate_enough
  n_Slate_wide : NoAttr K A.Slate "wide"
  n_Slate_signs : NoAttr K A.Slate "signs"
  n_Slate_rows : NoAttr K A.Slate "rows"
  n_Slate_base : NoAttr K A.Slate "base"
  n_Slate_share : NoAttr K A.Slate "share"
  q_NoGroup : AskC K A.NoGroup
  q_NoNumber : AskC K A.NoNumber
  q_NoOrder : AskC K A.NoOrder
  q_NoRows : AskC K A.NoRows
  q_NoRule : AskC K A.NoRule
  q_NoShares : AskC K A.NoShares
  q_NoTable : AskC K A.NoTable
  q_NoText : AskC K A.NoText
  q_NoVotes : AskC K A.NoVotes
  q_ShareError : AskC K A.ShareError
  q_TooMany : AskC K A.TooMany
  q_Unlike : AskC K A.Unlike
  X_NoNumber : ExcC K A.NoNumber
  u_NoNumber_NoGroup : PySem.W.subIn K (.ref A.NoNumber) (.ref A.NoGroup) = some false
  u_NoNumber_NoNumber : PySem.W.subIn K (.ref A.NoNumber) (.ref A.NoNumber) = some true
  u_NoNumber_NoOrder : PySem.W.subIn K (.ref A.NoNumber) (.ref A.NoOrder) = some false
  u_NoNumber_NoRows : PySem.W.subIn K (.ref A.NoNumber) (.ref A.NoRows) = some false
  u_NoNumber_NoRule : PySem.W.subIn K (.ref A.NoNumber) (.ref A.NoRule) = some false
  u_NoNumber_NoShares : PySem.W.subIn K (.ref A.NoNumber) (.ref A.NoShares) = some false
  u_NoNumber_NoTable : PySem.W.subIn K (.ref A.NoNumber) (.ref A.NoTable) = some false
  u_NoNumber_NoText : PySem.W.subIn K (.ref A.NoNumber) (.ref A.NoText) = some false
  u_NoNumber_NoVotes : PySem.W.subIn K (.ref A.NoNumber) (.ref A.NoVotes) = some false
  u_NoNumber_ShareError : PySem.W.subIn K (.ref A.NoNumber) (.ref A.ShareError) = some true
  u_NoNumber_TooMany : PySem.W.subIn K (.ref A.NoNumber) (.ref A.TooMany) = some false
  u_NoNumber_Unlike : PySem.W.subIn K (.ref A.NoNumber) (.ref A.Unlike) = some false
  v_NoNumber : PySem.W.subIn K (.ref A.NoNumber) (.type "ValueError") = some true
  h_NoNumber_ShareError : PySem.W.exmOne K (.ref A.NoNumber) (.ref A.ShareError) = some true
  X_NoRows : ExcC K A.NoRows
  u_NoRows_NoGroup : PySem.W.subIn K (.ref A.NoRows) (.ref A.NoGroup) = some false
  u_NoRows_NoNumber : PySem.W.subIn K (.ref A.NoRows) (.ref A.NoNumber) = some false
  u_NoRows_NoOrder : PySem.W.subIn K (.ref A.NoRows) (.ref A.NoOrder) = some false
  u_NoRows_NoRows : PySem.W.subIn K (.ref A.NoRows) (.ref A.NoRows) = some true
  u_NoRows_NoRule : PySem.W.subIn K (.ref A.NoRows) (.ref A.NoRule) = some false
  u_NoRows_NoShares : PySem.W.subIn K (.ref A.NoRows) (.ref A.NoShares) = some false
  u_NoRows_NoTable : PySem.W.subIn K (.ref A.NoRows) (.ref A.NoTable) = some false
  u_NoRows_NoText : PySem.W.subIn K (.ref A.NoRows) (.ref A.NoText) = some false
  u_NoRows_NoVotes : PySem.W.subIn K (.ref A.NoRows) (.ref A.NoVotes) = some false
  u_NoRows_ShareError : PySem.W.subIn K (.ref A.NoRows) (.ref A.ShareError) = some true
  u_NoRows_TooMany : PySem.W.subIn K (.ref A.NoRows) (.ref A.TooMany) = some false
  u_NoRows_Unlike : PySem.W.subIn K (.ref A.NoRows) (.ref A.Unlike) = some false
  v_NoRows : PySem.W.subIn K (.ref A.NoRows) (.type "ValueError") = some true
  h_NoRows_ShareError : PySem.W.exmOne K (.ref A.NoRows) (.ref A.ShareError) = some true
  z_ValueError : mg "ValueError" = none
  z_abs : mg "abs" = none
  z_int : mg "int" = none
  z_isinstance : mg "isinstance" = none
  z_len : mg "len" = none
  z_list : mg "list" = none
  z_max : mg "max" = none
  z_range : mg "range" = none
  z_sum : mg "sum" = none
  z_tuple : mg "tuple" = none
  z_zip : mg "zip" = none
local macro_rules | `(tactic| walk_at "x") => `(tactic| repeat (first
  | with_reducible refine x_seq ?_ | with_reducible refine x_asg ?_ | with_reducible refine x_op ?_ | with_reducible refine x_un ?_ | ((with_reducible refine' x_var ?e ?_); (case e => rfl)) | with_reducible refine x_c ?_
  | with_reducible refine x_if ?_ | with_reducible refine x_test ?_ | with_reducible refine x_B ?_ | with_reducible refine x_ex ?_ | with_reducible refine x_exI ?_ | with_reducible refine x_ret ?_ | with_reducible refine x_drop ?_
  | with_reducible refine x_rev ?_ | with_reducible refine x_lstRg1 ?_ | with_reducible refine x_dIn ?_ | with_reducible refine x_dPut ?_ | with_reducible refine x_dNew ?_ | with_reducible refine x_par ?_ | with_reducible refine x_call ?_ | with_reducible refine x_callS ?_ | with_reducible refine x_cons ?_ | with_reducible refine x_nil ?_ | with_reducible refine x_cb ?_
  | with_reducible refine x_addI ?_ | with_reducible refine x_subI ?_ | with_reducible refine x_ltI ?_ | with_reducible refine x_leI ?_ | with_reducible refine x_gtI ?_ | with_reducible refine x_geI ?_ | with_reducible refine x_eqI ?_ | with_reducible refine x_neI ?_
  | with_reducible refine x_eqS ?_ | with_reducible refine x_eqB ?_ | with_reducible refine x_isX ?_ | with_reducible refine x_isN ?_ | with_reducible refine x_notN ?_ | with_reducible refine x_ipI ?_
  | with_reducible refine x_andI ?_ | with_reducible refine x_orI ?_ | with_reducible refine x_xorI ?_ | with_reducible refine x_U ?_
  | with_reducible refine x_and ?_ | with_reducible refine x_or ?_ | with_reducible refine x_not ?_ | with_reducible refine x_andV ?_ | with_reducible refine x_orV ?_ | with_reducible refine x_notV ?_ | with_reducible refine x_ifE ?_
  | with_reducible refine x_for ?_ | with_reducible refine x_iList ?_ | with_reducible refine x_iTup ?_ | with_reducible refine x_iR1 ?_ | with_reducible refine x_iR2 ?_ | with_reducible refine x_iZip ?_ | with_reducible refine x_iEnum ?_ | with_reducible refine x_iR3 ?_ | with_reducible refine x_ev ?_
  | with_reducible refine x_meth ?_ | with_reducible refine x_methS ?_ | with_reducible refine x_base ?_ | with_reducible refine x_fld ?_ | with_reducible refine x_sfld ?_ | with_reducible refine x_make ?_ | with_reducible refine x_dNewT ?_ | with_reducible refine x_dInT ?_ | with_reducible refine x_dPutT ?_ | with_reducible refine x_dGetT ?_
  | with_reducible refine x_sl ?_ | with_reducible refine x_noPart ?_ | with_reducible refine x_part ?_ | with_reducible refine x_asgS ?_ | with_reducible refine x_augS ?_ | ((with_reducible refine' x_aug ?e ?_); (case e => rfl))
  | with_reducible refine x_bm ?_ | with_reducible refine x_bm0 ?_ | with_reducible refine x_tup ?_ | with_reducible refine x_lst ?_ | with_reducible refine x_next ?_ | with_reducible refine x_retN ?_ | with_reducible refine x_brk ?_ | with_reducible refine x_ct ?_
  | with_reducible refine x_lc ?_ | with_reducible refine x_yes ?_ | with_reducible refine x_gn ?_ | with_reducible refine x_gc ?_ | with_reducible refine x_g0 ?_ | with_reducible refine x_abs ?_ | with_reducible refine x_max2 ?_ | with_reducible refine x_min2 ?_))
local macro_rules | `(tactic| walk_at "sq") => `(tactic| first
  | assumption | exact .inl (by assumption) | exact Own.sq (by assumption) 0 rfl | exact Own.sq (by assumption) 1 rfl | exact Own.sq (by assumption) 2 rfl | exact Own.sq (by assumption) 3 rfl
  | exact Own.seq (by assumption) (by first | assumption | exact .inl (by assumption)))
section
variable {P : Program} {w : World} {K : PySem.W.Frag} {mg : Str → Option Value} {base : Heap} {A : Ads}
/-! ### is_whole -/
def sp_is_whole : Sp := fun vs H Q _ => ∃ v, vs = [v] ∧ Thing H v ∧ RetV (.bl (isI v)) H Q
theorem ok_is_whole (T : Txt K mg A) : FnOk P w K mg base (L2.CX P w) 1 A.a_is_whole A.d_is_whole ["thing"] sp_is_whole := by
  refine T.F_is_whole.okX sc_is_whole (fun vs H Q E h => ?_) (fun cdv A0 outer s H vs Q E hr h => ?_)
  · obtain ⟨v, rfl, _⟩ := h; rfl
  · obtain ⟨v, rfl, hv, k⟩ := h
    refine ⟨_, (pss_cons (ps_if (PW.pt (pw_or (pt_cmpR op_isX (pv 0) pe_bl (nomark _)) (pw_or1 (pt_cmpR op_isX (pv 0) pe_bl (nomark _))))) (pss_one (ps_ret pe_bl)) pss_nil)
      (pss_one (ps_ret (pe_callB (call_isiX (K := K) rfl) (by rfl) T.z_isinstance (by decide +kernel) (pa_cons (pv 0) (pa_cons (pe_bltn (v := .ty "int") (by rfl) T.z_int (by decide +kernel) rfl) pa_nil)))))), ?_⟩
    walk_at "x"
    have go : isB v = false → rIsi K [v, .ty "int"] H Q := fun e => x_isiInt hv (by rw [e, Bool.or_false]; exact k.go (Same.refl H))
    cases v with
    | bl b =>
      cases b
      · refine iteF ?_
        walk_at "x"
        exact iteT (k.go (Same.refl H))
      · exact iteT (iteT (k.go (Same.refl H)))
    | _ =>
      refine iteF ?_
      walk_at "x"
      refine iteF ?_
      walk_at "x"
      exact go rfl

/-! ### divisor -/
def sp_divisor : Sp := fun vs H Q _ => ∃ (a b : Int) (B : Nat), vs = [.int a, .int b] ∧ Bits B a b ∧ RetV (.int (gcdI a b)) H Q
theorem bigs {n B : Nat} (h : n ≤ 2 * B + 3) (hB : B ≤ 9000) : n < sizeLine := Nat.lt_of_le_of_lt (show n ≤ 18003 by omega) (by decide)
theorem ok_divisor (T : Txt K mg A) : FnOk P w K mg base (L2.CX P w) 1 A.a_divisor A.d_divisor ["one", "other"] sp_divisor := by
  refine T.F_divisor.okX sc_divisor (fun vs H Q E h => ?_) (fun cdv A0 outer s H vs Q E hr h => ?_)
  · obtain ⟨a, b, B, rfl, _⟩ := h; rfl
  · obtain ⟨a, b, B, rfl, ⟨hB, ha, hb⟩, k⟩ := h
    have w := Own.start (H := H)
    refine ⟨_, (pss_cons (ps_set (i := 2) sc_divisor.nd rfl (.inl rfl) (pe_lst (pa_cons (pe_callB call_absX (by rfl) T.z_abs (by decide +kernel) (pa_cons (pv 0) pa_nil)) (pa_cons (pe_callB call_absX (by rfl) T.z_abs (by decide +kernel) (pa_cons (pv 1) pa_nil)) pa_nil))))
      (pss_cons (ps_while (passes_of rfl) (pt_cmpR (op_neK (K := K) rfl hr.units) (pe_ix (ix_seqK (K := K) rfl) (pv 2) (pe_un un_neg pe_int) (fun _ _ => rfl)) pe_int (nomark _)) (pss_one (ps_expr (pe_bm PySem.F.plainAttrs_list PySem.F.slot_list_append PySem.F.type_list_append mt_append (pv 2) (pa_cons (pe_op op_modX (pe_ix (ix_seqK (K := K) rfl) (pv 2) (pe_un un_neg pe_int) (fun _ _ => rfl)) (pe_ix (ix_seqK (K := K) rfl) (pv 2) (pe_un un_neg pe_int) (fun _ _ => rfl))) pa_nil)))))
      (pss_one (ps_ret (pe_ix (ix_seqK (K := K) rfl) (pv 2) (pe_un un_neg pe_int) (fun _ _ => rfl)))))), ?_⟩
    walk_at "x"
    rw [abs_nat, abs_nat]
    refine ⟨(by show 2 ≤ sizeLine; decide), fun p np => ?_⟩
    have w1 := w.new (o := .lst ([a.natAbs, b.natAbs].map vnat)) np
    walk_at "x"
    -- the first rest
    refine x_while (fun m σ' H' => ∃ (l : List Nat) (x y j : Nat), σ' = [some (.int a), some (.int b), some (.ref p)] ∧ Own H [(p, .lst ((l ++ [x, y]).map vnat))] H' ∧ m = y ∧ Nat.gcd x y = Int.gcd a b ∧
      ((l = [] ∧ x < 2 ^ B ∧ y < 2 ^ B) ∨ (y ≤ x ∧ x * y < 2 ^ j ∧ l.length + j ≤ 2 * B + 1))) b.natAbs ⟨[], a.natAbs, b.natAbs, 0, rfl, w1, rfl, rfl, .inl ⟨rfl, ha, hb⟩⟩ ?_
    rintro m σ' H' ⟨l, x, y, j, rfl, w2, rfl, hg, hinv⟩
    obtain ⟨e1, e2⟩ := last2 l x m
    walk_at "x"
    refine x_ixXL (w2.sq 0 rfl) e1 ?_
    walk_at "x"
    cases m with
    | zero =>
      refine iteF ?_
      walk_at "x"
      refine x_ixXL (w2.sq 0 rfl) e2 ?_
      have : gcdI a b = (x : Int) := by unfold gcdI; rw [← hg, Nat.gcd_zero_right]
      rw [this] at k
      exact k.go w2.ex
    | succ m =>
      refine iteT ?_
      refine x_N ?_
      walk_at "x"
      refine ⟨x_tyL (w2.get 0 rfl), ?_⟩
      walk_at "x"
      refine x_ixXL (w2.sq 0 rfl) e2 ?_
      walk_at "x"
      refine x_ixXL (w2.sq 0 rfl) e1 ?_
      refine x_modP (by omega) ?_
      walk_at "x"
      rw [show (x : Int) % ((m + 1 : Nat) : Int) = ((x % (m + 1) : Nat) : Int) from rfl]
      have next : x % (m + 1) < m + 1 := Nat.mod_lt _ (Nat.succ_pos m)
      refine x_append (w2.get 0 rfl) ?_ ?_
      · rw [List.length_map, List.length_append]
        refine bigs (B := B) ?_ hB
        show l.length + 2 ≤ _
        rcases hinv with ⟨rfl, _, _⟩ | ⟨_, _, h⟩
        · show 0 + 2 ≤ _; omega
        · omega
      · have w3 := w2.put (o' := .lst (((l ++ [x]) ++ [m + 1, x % (m + 1)]).map vnat)) 0 rfl
        have el : ((l ++ [x]) ++ [m + 1, x % (m + 1)]).map vnat = (l ++ [x, m + 1]).map vnat ++ [vnat (x % (m + 1))] := by simp
        rw [el] at w3
        have step : ∀ j', l.length + 1 + j' ≤ 2 * B + 1 → (m + 1) * (x % (m + 1)) < 2 ^ j' → ∃ m', m' < m + 1 ∧ ∃ (l' : List Nat) (x' y' j : Nat), [some (V.int a), some (.int b), some (.ref p)] = [some (.int a), some (.int b), some (.ref p)] ∧ Own H [(p, .lst ((l' ++ [x', y']).map vnat))] (upd H' p (.lst ((l ++ [x, m + 1]).map vnat ++ [vnat (x % (m + 1))]))) ∧ m' = y' ∧ Nat.gcd x' y' = Int.gcd a b ∧
          ((l' = [] ∧ x' < 2 ^ B ∧ y' < 2 ^ B) ∨ (y' ≤ x' ∧ x' * y' < 2 ^ j ∧ l'.length + j ≤ 2 * B + 1)) := fun j' h1 h2 =>
          ⟨_, next, l ++ [x], m + 1, x % (m + 1), j', rfl, by rw [el]; exact w3, rfl, by rw [gcd_step, hg], .inr ⟨Nat.le_of_lt next, h2, by rw [List.length_append]; exact h1⟩⟩
        rcases hinv with ⟨rfl, hx, hy⟩ | ⟨hyx, hxy, hj⟩
        · refine step (2 * B) (by show 0 + 1 + 2 * B ≤ _; omega) ?_
          rw [show 2 * B = B + B by omega, Nat.pow_add]
          exact Nat.mul_lt_mul'' hy (Nat.lt_of_le_of_lt (Nat.mod_le _ _) hx)
        · obtain ⟨h1, h2⟩ := halve (Nat.succ_pos m) hyx hxy
          exact step (j - 1) (by omega) h1

/-! ### shortest -/
def sp_shortest : Sp := fun vs H Q _ => ∃ (a b : Int) (B : Nat), vs = [.int a, .int b] ∧ Bits B a b ∧ b ≠ 0 ∧ RetT [.int (shortM a b).1, .int (shortM a b).2] H Q
theorem ok_shortest (T : Txt K mg A) : FnOk P w K mg base (L2.CX P w) 2 A.a_shortest A.d_shortest ["top", "bottom"] sp_shortest := by
  refine T.F_shortest.okX sc_shortest (fun vs H Q E h => ?_) (fun cdv A0 outer s H vs Q E hr h => ?_)
  · obtain ⟨a, b, B, rfl, _⟩ := h; rfl
  · obtain ⟨a, b, B, rfl, hB, h0, k⟩ := h
    have w := Own.start (H := H)
    have hg : 0 < gcdI a b := by have := gcd_pos (a := a) h0; unfold gcdI; omega
    have hl := gcd_log h0 hB
    refine ⟨_, (pss_cons (ps_set (i := 2) sc_shortest.nd rfl (.inl rfl) (pe_call (ok_divisor T) (hr.mono (by decide)) (by rfl) T.g_divisor T.F_divisor.kp T.b_divisor .nil (passes_call (takes_of rfl rfl rfl rfl) (fun _ _ _ _ h => h)) (pa_cons (pv 0) (pa_cons (pv 1) pa_nil))))
      (pss_cons (ps_if (pt_cmpR op_gtX (pv 1) pe_int (nomark _)) (pss_one (ps_ret (pe_tup (pa_cons (pe_op op_fdivX (pv 0) (pv 2)) (pa_cons (pe_op op_fdivX (pv 1) (pv 2)) pa_nil))))) pss_nil)
      (pss_one (ps_ret (pe_tup (pa_cons (pe_op op_subX pe_int (pe_op op_fdivX (pv 0) (pv 2))) (pa_cons (pe_op op_subX pe_int (pe_op op_fdivX (pv 1) (pv 2))) pa_nil))))))), ?_⟩
    walk_at "x"
    refine ⟨a, b, B, rfl, hB, fun H1 s1 => ?_⟩
    have w1 := w.ext s1
    unfold shortM at k
    walk_at "x"
    refine ite2 (fun c => ?_) (fun c => ?_)
    · rw [if_pos (of_decide_eq_true c)] at k
      walk_at "x"
      refine x_divP hg hl ?_
      walk_at "x"
      refine x_divP hg hl ?_
      refine ⟨(by show 2 ≤ sizeLine; decide), fun p np => ?_⟩
      exact k.go (w1.new (o := .tup [.int (a / gcdI a b), .int (b / gcdI a b)]) np)
    · rw [if_neg (fun h => c (decide_eq_true h))] at k
      walk_at "x"
      refine x_divP hg hl ?_
      walk_at "x"
      refine x_divP hg hl ?_
      walk_at "x"
      refine ⟨(by show 2 ≤ sizeLine; decide), fun p np => ?_⟩
      exact k.go (w1.new (o := .tup [.int (0 - a / gcdI a b), .int (0 - b / gcdI a b)]) np)

/-! ### fraction -/
def sp_fraction (A : Ads) : Sp := fun vs H Q E => ∃ (u v : V), vs = [u, v] ∧ Thing H u ∧ Thing H v ∧ (∀ a b, u = .int a → v = .int b → b ≠ 0 → (∃ B, Bits B a b) ∧ RetT [.int (shortM a b).1, .int (shortM a b).2] H Q) ∧
  ((isI u = false ∨ isI v = false ∨ v = .int 0) → ∀ H', Same H H' → E (.ref A.NoNumber) none H')
theorem u_fraction {H : Hp} {Q : VK} {E : XK} {a b : Int} {B : Nat} (hB : Bits B a b) (h0 : b ≠ 0) (q : RetT [.int (shortM a b).1, .int (shortM a b).2] H Q) : sp_fraction A [.int a, .int b] H Q E :=
  ⟨_, _, rfl, .int a, .int b, fun a' b' e1 e2 _ => by
    cases e1; cases e2
    exact ⟨⟨B, hB⟩, q⟩, fun h => by
    rcases h with h | h | h
    · cases h
    · cases h
    · exact absurd (V.int.inj h) h0⟩
theorem isI_int {u : V} (h : isI u = true) : ∃ a, u = .int a := by cases u <;> first | exact ⟨_, rfl⟩ | cases h
theorem ok_fraction (T : Txt K mg A) : FnOk P w K mg base (L2.CX P w) 3 A.a_fraction A.d_fraction ["top", "bottom"] (sp_fraction A) := by
  refine T.F_fraction.okX sc_fraction (fun vs H Q E h => ?_) (fun cdv A0 outer s H vs Q E hr h => ?_)
  · obtain ⟨u, v, rfl, _⟩ := h; rfl
  · obtain ⟨u, v, rfl, hu, hv, k, kE⟩ := h
    have w := Own.start (H := H)
    refine ⟨_, (pss_cons (ps_for (passes_of rfl) rfl (pi_listK (K := K) rfl (pe_lst (pa_cons (pv 0) (pa_cons (pv 1) pa_nil)))) (pg_name (i := 2) sc_fraction.nd rfl (.inl rfl)) (pss_one (ps_if (pt_not (pt_val (pe_call (ok_is_whole T) (hr.mono (by decide)) (by rfl) T.g_is_whole T.F_is_whole.kp T.b_is_whole .nil (passes_call (takes_of rfl rfl rfl rfl) (fun _ _ _ _ h => h)) (pa_cons (pv 2) pa_nil)))) (pss_one (ps_raise rfl (takes_of rfl rfl rfl rfl) (pmk_own PySem.F.excBase_ValueError T.x_NoNumber T.g_NoNumber T.k_NoNumber (raises_own T.e_NoNumber T.t_NoNumber) (by rfl)))) pss_nil)))
      (pss_cons (ps_if (pt_cmpR (op_eqK (K := K) rfl hr.units) (pv 1) pe_int (nomark _)) (pss_one (ps_raise rfl (takes_of rfl rfl rfl rfl) (pmk_own PySem.F.excBase_ValueError T.x_NoNumber T.g_NoNumber T.k_NoNumber (raises_own T.e_NoNumber T.t_NoNumber) (by rfl)))) pss_nil)
      (pss_one (ps_ret (pe_call (ok_shortest T) (hr.mono (by decide)) (by rfl) T.g_shortest T.F_shortest.kp T.b_shortest .nil (passes_call (takes_of rfl rfl rfl rfl) (fun _ _ _ _ h => h)) (pa_cons (pv 0) (pa_cons (pv 1) pa_nil))))))), ?_⟩
    walk_at "x"
    refine ⟨(by show 2 ≤ sizeLine; decide), fun p np => ?_⟩
    have w1 := w.new (o := .lst [u, v]) np
    walk_at "x"
    refine ⟨_, rfl, ⟨_, w1.sq 0 rfl⟩, for_list (xs := [u, v]) (fun i σ' H' => (∃ v1, σ' = [some u, some v, v1]) ∧ Own H [(p, .lst [u, v])] H' ∧ (0 < i → isI u = true) ∧ (1 < i → isI v = true)) ⟨⟨_, rfl⟩, w1, (fun h => absurd h (by decide)), (fun h => absurd h (by decide))⟩ (fun i σ' H' _ h => h.2.1.sq 0 rfl) ?_ ?_⟩
    · rintro i x σ' H' hx ⟨⟨v1, rfl⟩, w2, c0, c1⟩
      have hx2 : (i = 0 ∧ x = u) ∨ (i = 1 ∧ x = v) := by
        match i, hx with
        | 0, hx => exact .inl ⟨rfl, (Option.some.inj hx).symm⟩
        | 1, hx => exact .inr ⟨rfl, (Option.some.inj hx).symm⟩
      have hT : Thing H x := by
        rcases hx2 with ⟨_, rfl⟩ | ⟨_, rfl⟩
        · exact hu
        · exact hv
      walk_at "x"
      refine ⟨x, rfl, hT.same w2.ex, fun H2 s2 => ?_⟩
      have w3 := w2.ext s2
      walk_at "x"
      cases c : isI x with
      | false =>
        refine iteT ?_
        refine kE ?_ _ w3.ex
        rcases hx2 with ⟨_, rfl⟩ | ⟨_, rfl⟩
        · exact .inl c
        · exact .inr (.inl c)
      | true =>
        refine iteF ?_
        walk_at "x"
        refine ⟨⟨_, rfl⟩, w3, fun h => ?_, fun h => ?_⟩
        · rcases hx2 with ⟨_, rfl⟩ | ⟨rfl, rfl⟩
          · exact c
          · exact c0 (by decide)
        · rcases hx2 with ⟨rfl, rfl⟩ | ⟨_, rfl⟩
          · exact absurd h (by decide)
          · exact c
    · rintro σ' H' ⟨⟨v1, rfl⟩, w2, c0, c1⟩
      have d0 := c0 (show 0 < 2 by decide)
      have d1 := c1 (show 1 < 2 by decide)
      obtain ⟨a, rfl⟩ : ∃ a, u = .int a := isI_int d0
      obtain ⟨b, rfl⟩ : ∃ a, v = .int a := isI_int d1
      walk_at "x"
      refine ite2 (fun c => ?_) (fun c => ?_)
      · refine kE (.inr (.inr ?_)) _ w2.ex
        rw [of_decide_eq_true c]
      · have h0 : b ≠ 0 := fun h => c (decide_eq_true h)
        obtain ⟨⟨B, hB⟩, q⟩ := k a b rfl rfl h0
        walk_at "x"
        exact ⟨a, b, B, rfl, hB, h0, fun p2 H2 n2 s2 c2 => q p2 H2 (w2.ex.free n2) (w2.ex.trans s2) c2⟩

/-! ### look_wholes -/
def sp_look_wholes (A : Ads) (K : PySem.W.Frag) : Sp := fun vs H Q E => ∃ (a : Addr) (xs : List V), vs = [.ref a] ∧ SqL K H a xs ∧ (∀ y ∈ xs, Thing H y) ∧ (xs.all isI = true → RetV .non H Q) ∧ (xs.all isI = false → ∀ H', Same H H' → E (.ref A.NoRows) none H')
theorem ok_look_wholes (T : Txt K mg A) : FnOk P w K mg base (L2.CX P w) 2 A.a_look_wholes A.d_look_wholes ["row"] (sp_look_wholes A K) := by
  refine T.F_look_wholes.okX sc_look_wholes (fun vs H Q E h => ?_) (fun cdv A0 outer s H vs Q E hr h => ?_)
  · obtain ⟨a, xs, rfl, _⟩ := h; rfl
  · obtain ⟨a, xs, rfl, hS, hT, k, kE⟩ := h
    refine ⟨_, (pss_one (ps_for (passes_of rfl) rfl (pi_listK (K := K) rfl (pv 0)) (pg_name (i := 1) sc_look_wholes.nd rfl (.inl rfl)) (pss_one (ps_if (pt_not (pt_val (pe_call (ok_is_whole T) (hr.mono (by decide)) (by rfl) T.g_is_whole T.F_is_whole.kp T.b_is_whole .nil (passes_call (takes_of rfl rfl rfl rfl) (fun _ _ _ _ h => h)) (pa_cons (pv 1) pa_nil)))) (pss_one (ps_raise rfl (takes_of rfl rfl rfl rfl) (pmk_own PySem.F.excBase_ValueError T.x_NoRows T.g_NoRows T.k_NoRows (raises_own T.e_NoRows T.t_NoRows) (by rfl)))) pss_nil)))), ?_⟩
    walk_at "x"
    refine ⟨_, rfl, ⟨_, hS⟩, for_list (xs := xs) (fun i σ' H' => (∃ v, σ' = [some (.ref a), v]) ∧ Same H H' ∧ (xs.take i).all isI = true) ⟨⟨_, rfl⟩, Same.refl _, rfl⟩ (fun i σ' H' _ h => h.2.1.seq hS) ?_ ?_⟩
    · rintro i x σ' H' hx ⟨⟨v, rfl⟩, s1, p⟩
      walk_at "x"
      refine ⟨x, rfl, (hT x (List.mem_of_getElem? hx)).same s1, fun H2 s2 => ?_⟩
      walk_at "x"
      cases hI : isI x with
      | false =>
        refine iteT (kE ?_ H2 (s1.trans s2))
        rw [Bool.eq_false_iff]
        intro z
        have := List.all_eq_true.mp z x (List.mem_of_getElem? hx)
        rw [hI] at this; cases this
      | true =>
        refine iteF ?_
        refine ⟨⟨_, rfl⟩, s1.trans s2, ?_⟩
        rw [List.take_add_one, hx, List.all_append, p]
        simp [hI]
    · rintro σ' H' ⟨⟨v, rfl⟩, s1, p⟩
      rw [List.take_length] at p
      walk_at "x"
      exact k p _ s1

/-! ### look_rows -/
def sp_look_rows (A : Ads) (K : PySem.W.Frag) : Sp := fun vs H Q E => ∃ (cA dA gA : Addr) (cs : List (List V)) (ds gs : List V), vs = [.ref cA, .ref dA, .ref gA] ∧ RowsV K H cA dA gA cs ds gs ∧ (Fits cs ds gs → RetV .non H Q) ∧ (¬ Fits cs ds gs → ∀ H', Same H H' → E (.ref A.NoRows) none H')
theorem ok_look_rows (T : Txt K mg A) : FnOk P w K mg base (L2.CX P w) 3 A.a_look_rows A.d_look_rows ["columns", "due", "gains"] (sp_look_rows A K) := by
  refine T.F_look_rows.okX sc_look_rows (fun vs H Q E h => ?_) (fun cdv A0 outer st H vs Q E hr h => ?_)
  · obtain ⟨cA, dA, gA, cs, ds, gs, rfl, _⟩ := h; rfl
  · obtain ⟨cA, dA, gA, cs, ds, gs, rfl, hV, k, kE⟩ := h
    obtain ⟨ts, hC, hL⟩ := hV.c
    have hC : SqL K H cA (ts.map V.ref) := SqL.of hC
    have hD : SqL K H dA ds := SqL.of hV.d
    have hG : SqL K H gA gs := SqL.of hV.g
    have hlt := hL.len
    refine ⟨_, (pss_cons (ps_if (PW.pt (pw_or (pt_cmpR op_ltX (pe_callB (call_lenK (K := K) rfl) (by rfl) T.z_len (by decide +kernel) (pa_cons (pv 1) pa_nil)) pe_int (nomark _)) (pw_or (pt_cmpR op_gtX (pe_callB (call_lenK (K := K) rfl) (by rfl) T.z_len (by decide +kernel) (pa_cons (pv 1) pa_nil)) pe_int (nomark _)) (pw_or (pt_cmpR op_gtX (pe_callB (call_lenK (K := K) rfl) (by rfl) T.z_len (by decide +kernel) (pa_cons (pv 0) pa_nil)) pe_int (nomark _)) (pw_or1 (pt_cmpR (op_neK (K := K) rfl hr.units) (pe_callB (call_lenK (K := K) rfl) (by rfl) T.z_len (by decide +kernel) (pa_cons (pv 2) pa_nil)) (pe_callB (call_lenK (K := K) rfl) (by rfl) T.z_len (by decide +kernel) (pa_cons (pv 0) pa_nil)) (nomark _))))))) (pss_one (ps_raise rfl (takes_of rfl rfl rfl rfl) (pmk_own PySem.F.excBase_ValueError T.x_NoRows T.g_NoRows T.k_NoRows (raises_own T.e_NoRows T.t_NoRows) (by rfl)))) pss_nil)
      (pss_cons (ps_for (passes_of rfl) rfl (pi_listK (K := K) rfl (pv 0)) (pg_name (i := 3) sc_look_rows.nd rfl (.inl rfl)) (pss_cons (ps_if (pt_cmpR (op_neK (K := K) rfl hr.units) (pe_callB (call_lenK (K := K) rfl) (by rfl) T.z_len (by decide +kernel) (pa_cons (pv 3) pa_nil)) (pe_callB (call_lenK (K := K) rfl) (by rfl) T.z_len (by decide +kernel) (pa_cons (pv 1) pa_nil)) (nomark _)) (pss_one (ps_raise rfl (takes_of rfl rfl rfl rfl) (pmk_own PySem.F.excBase_ValueError T.x_NoRows T.g_NoRows T.k_NoRows (raises_own T.e_NoRows T.t_NoRows) (by rfl)))) pss_nil)
      (pss_one (ps_expr (pe_call (ok_look_wholes T) (hr.mono (by decide)) (by rfl) T.g_look_wholes T.F_look_wholes.kp T.b_look_wholes .nil (passes_call (takes_of rfl rfl rfl rfl) (fun _ _ _ _ h => h)) (pa_cons (pv 3) pa_nil))))))
      (pss_cons (ps_expr (pe_call (ok_look_wholes T) (hr.mono (by decide)) (by rfl) T.g_look_wholes T.F_look_wholes.kp T.b_look_wholes .nil (passes_call (takes_of rfl rfl rfl rfl) (fun _ _ _ _ h => h)) (pa_cons (pv 1) pa_nil)))
      (pss_one (ps_expr (pe_call (ok_look_wholes T) (hr.mono (by decide)) (by rfl) T.g_look_wholes T.F_look_wholes.kp T.b_look_wholes .nil (passes_call (takes_of rfl rfl rfl rfl) (fun _ _ _ _ h => h)) (pa_cons (pv 2) pa_nil))))))), ?_⟩
    walk_at "x"
    refine x_lenL hD ?_
    walk_at "x"
    by_cases c1 : (ds.length : Int) < 1
    case pos =>
      rw [decide_eq_true c1]
      refine iteT ?_
      walk_at "x"
      exact kE (fun f => by have := f.d1; omega) _ (Same.refl _)
    rw [decide_eq_false c1]
    refine iteF ?_
    walk_at "x"
    refine x_lenL hD ?_
    walk_at "x"
    by_cases c2 : (8 : Int) < (ds.length : Int)
    case pos =>
      rw [decide_eq_true c2]
      refine iteT ?_
      walk_at "x"
      exact kE (fun f => by have := f.d8; omega) _ (Same.refl _)
    rw [decide_eq_false c2]
    refine iteF ?_
    walk_at "x"
    refine x_lenL hC ?_
    rw [List.length_map, hlt]
    walk_at "x"
    by_cases c3 : (70 : Int) < (cs.length : Int)
    case pos =>
      rw [decide_eq_true c3]
      refine iteT ?_
      walk_at "x"
      exact kE (fun f => by have := f.c70; omega) _ (Same.refl _)
    rw [decide_eq_false c3]
    refine iteF ?_
    walk_at "x"
    refine x_lenL hG ?_
    walk_at "x"
    refine x_lenL hC ?_
    rw [List.length_map, hlt]
    walk_at "x"
    by_cases c4 : (gs.length : Int) = (cs.length : Int)
    case neg =>
      rw [decide_eq_false c4]
      refine iteT ?_
      walk_at "x"
      exact kE (fun f => by have := f.gl; omega) _ (Same.refl _)
    rw [decide_eq_true c4]
    refine iteF ?_
    walk_at "x"
    refine ⟨_, rfl, ⟨_, hC⟩, for_list (xs := ts.map V.ref) (fun i σ' H' => (∃ v, σ' = [some (.ref cA), some (.ref dA), some (.ref gA), v]) ∧ Same H H' ∧ ∀ c ∈ cs.take i, c.length = ds.length ∧ c.all isI = true) ⟨⟨_, rfl⟩, Same.refl _, fun c hc => by rw [List.take_zero] at hc; cases hc⟩ (fun i σ' H' _ h => h.2.1.seq hC) ?_ ?_⟩
    · rintro i x σ' H' hx ⟨⟨v, rfl⟩, s1, p⟩
      obtain ⟨t, ht, rfl⟩ := map_at hx
      obtain ⟨c, hc, hR⟩ := hL.at ht
      have hcm := List.mem_of_getElem? hc
      have hR := s1 _ _ hR
      walk_at "x"
      refine x_lenL (SqL.of hR) ?_
      walk_at "x"
      refine x_lenL (s1.seq hD) ?_
      walk_at "x"
      by_cases c5 : (c.length : Int) = (ds.length : Int)
      case neg =>
        rw [decide_eq_false c5]
        refine iteT ?_
        walk_at "x"
        exact kE (fun f => c5 (by rw [(f.cl c hcm).1])) _ s1
      rw [decide_eq_true c5]
      refine iteF ?_
      walk_at "x"
      refine ⟨t, c, rfl, SqL.of hR, fun y hy => ((hV.tc c hcm y hy).same s1).th, fun hI H2 s2 => ?_, fun hI H2 s2 => kE (fun f => by rw [(f.cl c hcm).2] at hI; cases hI) _ (s1.trans s2)⟩
      walk_at "x"
      refine ⟨⟨_, rfl⟩, s1.trans s2, fun e he => ?_⟩
      rw [List.take_add_one, hc] at he
      rcases List.mem_append.mp he with m | m
      · exact p e m
      · rw [Option.toList_some, List.mem_singleton] at m
        subst m
        exact ⟨by omega, hI⟩
    · rintro σ' H' ⟨⟨v, rfl⟩, s1, p⟩
      rw [List.length_map, hlt, List.take_length] at p
      walk_at "x"
      refine ⟨dA, ds, rfl, s1.seq hD, fun y hy => ((hV.td y hy).same s1).th, fun hdI H2 s2 => ?_, fun hI H2 s2 => kE (fun f => by rw [f.di] at hI; cases hI) _ (s1.trans s2)⟩
      have s2 := s1.trans s2
      walk_at "x"
      refine ⟨gA, gs, rfl, s2.seq hG, fun y hy => ((hV.tg y hy).same s2).th, fun hgI H3 s3 => ?_, fun hI H3 s3 => kE (fun f => by rw [f.gi] at hI; cases hI) _ (s2.trans s3)⟩
      walk_at "x"
      exact k ⟨by omega, by omega, by omega, by omega, p, hdI, hgI⟩ _ (s2.trans s3)

/-! ### Slate___init__ -/
def sp_Slate___init__ (A : Ads) (K : PySem.W.Frag) : Sp := fun vs H Q _ => ∃ (p dx cA dA gA : Addr) (n w z : Nat) (C : Nat → Nat → Int) (Dv G : Nat → Int) (ts : List Addr) (B : Hp) (cs : Cells), vs = [.ref p, .ref cA, .ref dA, .ref gA] ∧
  Own B ((p, .ins A.Slate dx []) :: cs) H ∧ ColsAt K B cA ts n w C ∧ SqL K B dA ((tl n Dv).map V.int) ∧ SqL K B gA ((tl w G).map V.int) ∧ n ≤ 8 ∧ w ≤ 1000 ∧ 0 < z ∧ z ≤ 4400 ∧ (∀ j, j < w → ∀ c, c < n → (C j c).natAbs < 2 ^ z) ∧ (∀ c, c < n → (Dv c).natAbs < 2 ^ z) ∧
  ∀ (B' H' : Hp) (ps pr pb : Addr) (rs : List Addr), Same B B' → Own B' ((p, .ins A.Slate dx (slF w ps pr pb 1)) :: (pb, .lst (((List.range n).map (w + ·)).map vnat)) :: cs) H' → SlB B' n w (fun k v => Dt.stV n w C Dv G (Dt.sgnF Dv) v k) (tl n (Dt.sgnF Dv)) ps pr rs → Q .non H'
theorem ok_Slate___init__ (T : Txt K mg A) : FnOk P w K mg base (L2.CX P w) 1 A.a_Slate___init__ A.d_Slate___init__ ["self", "columns", "due", "gains"] (sp_Slate___init__ A K) := by
  refine T.F_Slate___init__.okX sc_Slate___init__ (fun vs H Q E h => ?_) (fun cdv A0 outer st H vs Q E hr h => ?_)
  · obtain ⟨p, dx, cA, dA, gA, n, w, z, C, Dv, G, ts, B, cs, rfl, _⟩ := h; rfl
  · obtain ⟨p, dx, cA, dA, gA, n, w, z, C, Dv, G, ts, B, cs, rfl, w0, hC, hD, hG, hn, hw, hz0, hz, hbC, hbD, k⟩ := h
    have z1000 : ∀ {m : Nat}, m ≤ 2000 → m ≤ sizeLine := fun h => Nat.le_trans h (by decide)
    let M : Nat → Nat → Int := fun k v => Dt.stV n w C Dv G (Dt.sgnF Dv) v k
    refine ⟨_, (pss_cons (ps_fld (pv 0) (pe_callB (call_lenK (K := K) rfl) (by rfl) T.z_len (by decide +kernel) (pa_cons (pv 1) pa_nil)) rfl)
      (pss_cons (ps_fld (pv 0) (pe_lc (own := [("number", 9)]) rfl sc_Slate___init__.nd (pi_listK (K := K) rfl (pv 2)) (blkOk_by (own := [("number", 9)]) (N := N_Slate___init__) (sc := defScope s_Slate___init__) (by decide +kernel)) (fun _ _ _ _ _ => (pg_name (i := 9) sc_Slate___init__.nd rfl (.inl rfl))) (fun _ _ _ _ _ => pts_nil) (fun _ _ _ _ _ => (pe_op op_subX pe_int (pe_op op_mulX pe_int (pe_callTy call_int1X (by rfl) T.z_int (by decide +kernel) (pa_cons (pe_cmpR op_ltX (pv 9) pe_int (nomark _)) pa_nil)))))) rfl)
      (pss_cons (ps_set (i := 4) sc_Slate___init__.nd rfl (.inr rfl) (pe_lst pa_nil))
      (pss_cons (ps_for (passes_of rfl) rfl (pi_range1 (by rfl) T.z_range (pa_cons (pe_callB (call_lenK (K := K) rfl) (by rfl) T.z_len (by decide +kernel) (pa_cons (pv 2) pa_nil)) pa_nil)) (pg_name (i := 5) sc_Slate___init__.nd rfl (.inr rfl)) (pss_cons (ps_setLc (i := 6) (own := [("column", 10)]) rfl sc_Slate___init__.nd rfl rfl (sw_true rfl rfl rfl (by decide +kernel)) (pi_listK (K := K) rfl (pv 1)) (blkOk_by (own := [("column", 10)]) (N := N_Slate___init__) (sc := defScope s_Slate___init__) (by decide +kernel)) (fun _ _ _ _ _ => (pg_name (i := 10) sc_Slate___init__.nd rfl (.inl rfl))) (fun _ _ _ _ _ => pts_nil) (fun _ _ _ _ _ => (pe_op op_mulX (pe_ix (ix_seqK (K := K) rfl) (pe_fldK (K := K) rfl (pv 0) rfl) (pv 5) (fun _ _ => rfl)) (pe_ix (ix_seqK (K := K) rfl) (pv 10) (pv 5) (fun _ _ => rfl)))))
      (pss_cons (ps_set (i := 6) sc_Slate___init__.nd rfl (.inl rfl) (pe_op op_addX (pv 6) (pe_lc (own := [("j", 11)]) rfl sc_Slate___init__.nd (pi_range1 (by rfl) T.z_range (pa_cons (pe_callB (call_lenK (K := K) rfl) (by rfl) T.z_len (by decide +kernel) (pa_cons (pv 2) pa_nil)) pa_nil)) (blkOk_by (own := [("j", 11)]) (N := N_Slate___init__) (sc := defScope s_Slate___init__) (by decide +kernel)) (fun _ _ _ _ _ => (pg_name (i := 11) sc_Slate___init__.nd rfl (.inl rfl))) (fun _ _ _ _ _ => pts_nil) (fun _ _ _ _ _ => (pe_callTy call_int1X (by rfl) T.z_int (by decide +kernel) (pa_cons (pe_cmpR (op_eqK (K := K) rfl hr.units) (pv 11) (pv 5) (nomark _)) pa_nil))))))
      (pss_one (ps_expr (pe_bm PySem.F.plainAttrs_list PySem.F.slot_list_append PySem.F.type_list_append mt_append (pv 4) (pa_cons (pe_op op_addX (pv 6) (pe_lst (pa_cons (pe_op op_mulX (pe_ix (ix_seqK (K := K) rfl) (pe_fldK (K := K) rfl (pv 0) rfl) (pv 5) (fun _ _ => rfl)) (pe_ix (ix_seqK (K := K) rfl) (pv 2) (pv 5) (fun _ _ => rfl))) pa_nil))) pa_nil)))))))
      (pss_cons (ps_setLc (i := 7) (own := [("j", 11)]) rfl sc_Slate___init__.nd rfl rfl (sw_true rfl rfl rfl (by decide +kernel)) (pi_range1 (by rfl) T.z_range (pa_cons (pe_fldK (K := K) rfl (pv 0) rfl) pa_nil)) (blkOk_by (own := [("j", 11)]) (N := N_Slate___init__) (sc := defScope s_Slate___init__) (by decide +kernel)) (fun _ _ _ _ _ => (pg_name (i := 11) sc_Slate___init__.nd rfl (.inr rfl))) (fun _ _ _ _ _ => pts_nil) (fun _ _ _ _ _ => (pe_op op_subX pe_int (pe_callB (cr_sumK (K := K) rfl rfl) (by rfl) T.z_sum (by decide +kernel) (pa_cons (pe_lc (own := [("row", 6)]) rfl sc_Slate___init__.nd (pi_listK (K := K) rfl (pv 4)) (blkOk_by (own := [("row", 6)]) (N := N_Slate___init__) (sc := ({ kind := .function, names := [(".0", .local), ("j", .cell), ("sum", .globalImplicit), ("rows", .cell)], isGenerator := false, isCoroutine := false } : PySem.Scope)) (by decide +kernel)) (fun _ _ _ _ _ => (pg_name (i := 6) sc_Slate___init__.nd rfl (.inl rfl))) (fun _ _ _ _ _ => pts_nil) (fun _ _ _ _ _ => (pe_ix (ix_seqK (K := K) rfl) (pv 6) (pv 11) (fun _ _ => rfl)))) pa_nil)))))
      (pss_cons (ps_set (i := 7) sc_Slate___init__.nd rfl (.inl rfl) (pe_op op_addX (pe_op op_addX (pv 7) (pe_op op_mulX (pe_lst (pa_cons pe_int pa_nil)) (pe_callB (call_lenK (K := K) rfl) (by rfl) T.z_len (by decide +kernel) (pa_cons (pv 2) pa_nil)))) (pe_lst (pa_cons (pe_op op_subX pe_int (pe_callB (cr_sumK (K := K) rfl rfl) (by rfl) T.z_sum (by decide +kernel) (pa_cons (pe_lc (own := [("row", 6)]) rfl sc_Slate___init__.nd (pi_listK (K := K) rfl (pv 4)) (blkOk_by (own := [("row", 6)]) (N := N_Slate___init__) (sc := defScope s_Slate___init__) (by decide +kernel)) (fun _ _ _ _ _ => (pg_name (i := 6) sc_Slate___init__.nd rfl (.inl rfl))) (fun _ _ _ _ _ => pts_nil) (fun _ _ _ _ _ => (pe_ix (ix_seqK (K := K) rfl) (pv 6) (pe_un un_neg pe_int) (fun _ _ => rfl)))) pa_nil))) pa_nil))))
      (pss_cons (ps_set (i := 8) sc_Slate___init__.nd rfl (.inl rfl) (pe_op op_addX (pe_lc (own := [("number", 9)]) rfl sc_Slate___init__.nd (pi_listK (K := K) rfl (pv 3)) (blkOk_by (own := [("number", 9)]) (N := N_Slate___init__) (sc := defScope s_Slate___init__) (by decide +kernel)) (fun _ _ _ _ _ => (pg_name (i := 9) sc_Slate___init__.nd rfl (.inl rfl))) (fun _ _ _ _ _ => pts_nil) (fun _ _ _ _ _ => (pe_op op_subX pe_int (pv 9)))) (pe_op op_mulX (pe_lst (pa_cons pe_int pa_nil)) (pe_op op_addX (pe_callB (call_lenK (K := K) rfl) (by rfl) T.z_len (by decide +kernel) (pa_cons (pv 2) pa_nil)) pe_int))))
      (pss_cons (ps_fld (pv 0) (pe_op op_addX (pv 4) (pe_lst (pa_cons (pv 7) (pa_cons (pv 8) pa_nil)))) rfl)
      (pss_cons (ps_fld (pv 0) (pe_lc (own := [("k", 5)]) rfl sc_Slate___init__.nd (pi_range1 (by rfl) T.z_range (pa_cons (pe_callB (call_lenK (K := K) rfl) (by rfl) T.z_len (by decide +kernel) (pa_cons (pv 2) pa_nil)) pa_nil)) (blkOk_by (own := [("k", 5)]) (N := N_Slate___init__) (sc := defScope s_Slate___init__) (by decide +kernel)) (fun _ _ _ _ _ => (pg_name (i := 5) sc_Slate___init__.nd rfl (.inl rfl))) (fun _ _ _ _ _ => pts_nil) (fun _ _ _ _ _ => (pe_op op_addX (pe_fldK (K := K) rfl (pv 0) rfl) (pv 5)))) rfl)
      (pss_one (ps_fld (pv 0) pe_int rfl))))))))))), ?_⟩
    walk_at "x"
    refine x_lenL (w0.seq hC.l) ?_
    rw [List.length_map, hC.len]
    walk_at "x"
    refine ⟨p, A.Slate, dx, _, rfl, w0.get 0 rfl, T.cl_Slate, T.n_Slate_wide, by show 0 < 1000; decide, ?_⟩
    have w1 := w0.put (o' := .ins A.Slate dx (putF "wide" (.int (w : Int)) [])) 0 rfl
    -- signs
    walk_at "x"
    refine ⟨_, rfl, ⟨_, w1.seq hD⟩, cp_list (xs := (tl n Dv).map V.int) (fun i => (tl i (Dt.sgnF Dv)).map V.int) w1 hD rfl ?_ ?_⟩
    · intro D i x H' hx pv
      obtain ⟨hi, rfl⟩ := tl_at hx
      walk_at "x"
      refine ⟨rfl, ?_⟩
      walk_at "x"
      refine iteT ?_
      walk_at "x"
      refine .inr ⟨_, rfl, ?_⟩
      refine x_mulI (mulok (n := 2) (m := 1) (by decide) (by cases decide (Dv i < 0) <;> decide) (by decide) (by decide) (by decide)) ?_
      walk_at "x"
      refine cp_fin pv ?_ (by rw [List.length_map, tl_len]; omega)
      rw [tl_more]
      congr 3
      unfold Dt.sgnF
      by_cases c : Dv i < 0
      · rw [if_pos c, decide_eq_true c, if_pos rfl]; rfl
      · rw [if_neg c, decide_eq_false c, if_neg Bool.false_ne_true]; rfl
    intro pS HS wS
    rw [List.length_map, tl_len] at wS
    have nS := wS.none 0 rfl
    have wS := wS.freeze
    have sS := same_upd (o := .lst ((tl n (Dt.sgnF Dv)).map V.int)) nS
    have hC := hC.same sS
    have hD := sS.seq hD
    have hG := sS.seq hG
    generalize hB1 : upd B pS (.lst ((tl n (Dt.sgnF Dv)).map V.int)) = B1 at *
    have hS0 : B1 pS = some (.lst ((tl n (Dt.sgnF Dv)).map V.int)) := by rw [← hB1]; exact upd_same
    have hS : SqL K B1 pS ((tl n (Dt.sgnF Dv)).map V.int) := SqL.of hS0
    walk_at "x"
    refine ⟨p, A.Slate, dx, _, rfl, wS.get 0 rfl, T.cl_Slate, T.n_Slate_signs, by show 1 < 1000; decide, ?_⟩
    have w2 := wS.put (o' := .ins A.Slate dx (putF "signs" (.ref pS) (putF "wide" (.int (w : Int)) []))) 0 rfl
    -- rows
    walk_at "x"
    refine ⟨(by show 0 ≤ sizeLine; decide), fun pr nr => ?_⟩
    have w3 := w2.new (o := .lst (([] : List Addr).map V.ref)) nr
    walk_at "x"
    refine x_lenL (w3.seq hD) ?_
    rw [List.length_map, tl_len]
    refine ⟨_, rfl, by omega, by omega, for_r0 (n := (n : Int)) (fun i σ' H' => ∃ (B' : Hp) (us : List Addr), (∃ v5 v6, σ' = [some (.ref p), some (.ref cA), some (.ref dA), some (.ref gA), some (.ref pr), v5, v6, none, none, none, none, none]) ∧ Same B1 B' ∧ us.length = i ∧ RwAt B' us (w + n + 1) M ∧ Own B' ((pr, .lst (us.map V.ref)) :: (p, .ins A.Slate dx (putF "signs" (.ref pS) (putF "wide" (.int (w : Int)) []))) :: cs) H') ⟨B1, [], ⟨_, _, rfl⟩, Same.refl B1, rfl, fun k t e => (by rw [List.getElem?_nil] at e; cases e), w3⟩ ?_ ?_⟩
    · rintro i σ' H' hi ⟨B', us, ⟨v5, v6, rfl⟩, sB, hul, hrow, w4⟩
      have hin : i < n := by omega
      have hC := hC.same sB
      have hD := sB.seq hD
      have hS := sB.seq hS
      walk_at "x"
      refine ⟨_, rfl, ⟨_, w4.seq hC.l⟩, cp_list (xs := ts.map V.ref) (fun j => (tl j (M i)).map V.int) w4 hC.l rfl ?_ ?_⟩
      · intro D j x H2 hx pv
        obtain ⟨t, ht, rfl⟩ := map_at hx
        have hj : j < w := by have := (List.getElem?_eq_some_iff.mp ht).1; rw [hC.len] at this; exact this
        walk_at "x"
        refine ⟨rfl, ?_⟩
        walk_at "x"
        refine iteT ?_
        walk_at "x"
        refine ⟨p, A.Slate, dx, _, _, rfl, Own.get pv 2 rfl, T.cl_Slate, T.n_Slate_signs, rfl, ?_⟩
        walk_at "x"
        refine x_ixXL (Own.seq pv hS) (tl_atI hin) ?_
        walk_at "x"
        refine x_ixXL (Own.seq pv (hC.row j t ht)) (tl_atI hin) ?_
        refine x_mulI (mulok (n := 2) (m := z) (sgn_lt Dv i) (hbC j hj i hin) (by decide) hz0 (by omega)) ?_
        refine cp_fin pv ?_ (by rw [List.length_map, tl_len]; omega)
        rw [tl_more, show M i j = Dt.sgnF Dv i * C j i from Dt.stV_col hj hin]
      intro pX HX wX
      rw [List.length_map, hC.len] at wX
      walk_at "x"
      refine x_lenL (wX.seq hD) ?_
      rw [List.length_map, tl_len]
      refine ⟨_, rfl, by omega, by omega, cp_r0 (n := (n : Int)) (fun j => (tl j (fun v => M i (w + v))).map V.int) wX rfl ?_ ?_⟩
      · intro D j H2 hj pv
        have hjn : j < n := by omega
        walk_at "x"
        refine ⟨rfl, ?_⟩
        walk_at "x"
        refine iteT ?_
        walk_at "x"
        refine .inr ⟨_, rfl, ?_⟩
        refine cp_fin pv ?_ (by rw [List.length_map, tl_len]; omega)
        rw [tl_more, show M i (w + j) = Dt.uni j i from Dt.stV_slack hjn i]
        unfold Dt.uni
        by_cases c : i = j
        · subst c; rw [if_pos rfl, decide_eq_true rfl, if_pos rfl]
        · rw [if_neg c, decide_eq_false (show ¬ (j : Int) = (i : Int) by omega), if_neg Bool.false_ne_true]
      intro pY HY wY
      rw [Int.toNat_natCast] at wY
      refine x_addL (.inl (wY.get 1 rfl)) (.inl (wY.get 0 rfl)) (z1000 (by rw [List.length_map, List.length_map, tl_len, tl_len]; omega)) (fun pZ nZ => ?_)
      rw [tl_app (f := M i) (h := M i) (fun _ _ => rfl) (fun _ _ => rfl)]
      have wZ := wY.new (o := .lst ((tl (w + n) (M i)).map V.int)) nZ
      walk_at "x"
      refine ⟨x_tyL (wZ.get 3 rfl), ?_⟩
      walk_at "x"
      refine ⟨p, A.Slate, dx, _, _, rfl, wZ.get 4 rfl, T.cl_Slate, T.n_Slate_signs, rfl, ?_⟩
      walk_at "x"
      refine x_ixXL (wZ.seq hS) (tl_atI hin) ?_
      walk_at "x"
      refine x_ixXL (wZ.seq hD) (tl_atI hin) ?_
      refine x_mulI (mulok (n := 2) (m := z) (sgn_lt Dv i) (hbD i hin) (by decide) hz0 (by omega)) ?_
      walk_at "x"
      refine ⟨(by show 1 ≤ sizeLine; decide), fun pO nO => ?_⟩
      rw [tl_one (f := fun v => M i (w + n + v)) (show Dt.sgnF Dv i * Dv i = M i (w + n + 0) by exact (Dt.stV_due hin).symm)]
      have wO := wZ.new (o := .lst ((tl 1 (fun v => M i (w + n + v))).map V.int)) nO
      refine x_addL (.inl (wO.get 1 rfl)) (.inl (wO.get 0 rfl)) (z1000 (by rw [List.length_map, tl_len, List.length_map, tl_len]; omega)) (fun pN nN => ?_)
      rw [tl_app (f := M i) (h := M i) (fun _ _ => rfl) (fun _ _ => rfl)]
      have wN := wO.new (o := .lst ((tl (w + n + 1) (M i)).map V.int)) nN
      have wN := wN.sub (ds := [(pN, .lst ((tl (w + n + 1) (M i)).map V.int)), (pr, .lst (us.map V.ref)), (p, .ins A.Slate dx (putF "signs" (.ref pS) (putF "wide" (.int (w : Int)) [])))] ++ cs) (.cons_cons _ (.cons _ (.cons _ (.cons _ (.cons _ (List.Sublist.refl _))))))
      have nB := wN.none 0 rfl
      have wN := wN.freeze
      walk_at "x"
      refine x_append (wN.get 0 rfl) (by rw [List.length_map]; exact Nat.lt_of_lt_of_le (show us.length < 1000 by omega) (by decide)) ?_
      rw [show us.map V.ref ++ [V.ref pN] = (us ++ [pN]).map V.ref by rw [List.map_append] <;> rfl]
      have sN := same_upd (o := .lst ((tl (w + n + 1) (M i)).map V.int)) nB
      exact ⟨_, us ++ [pN], ⟨_, _, rfl⟩, sB.trans sN, by rw [List.length_append, hul] <;> rfl, (hrow.same sN).snoc (by rw [hul]; exact upd_same), wN.put (o' := .lst ((us ++ [pN]).map V.ref)) 0 rfl⟩
    · rintro σ' H' ⟨B', us, ⟨v5, v6, rfl⟩, sB, hul, hrow, w4⟩
      rw [Int.toNat_natCast] at hul
      have nB := w4.none 0 rfl
      have w4 := w4.freeze
      have sR := same_upd (o := .lst (us.map V.ref)) nB
      have hrow := hrow.same sR
      have sB := sB.trans sR
      generalize hB2 : upd B' pr (.lst (us.map V.ref)) = B2 at *
      have hR0 : B2 pr = some (.lst (us.map V.ref)) := by rw [← hB2]; exact upd_same
      have hR : SqL K B2 pr (us.map V.ref) := SqL.of hR0
      have hC := hC.same sB
      have hD := sB.seq hD
      have hG := sB.seq hG
      -- short
      walk_at "x"
      refine ⟨p, A.Slate, dx, _, _, rfl, w4.get 0 rfl, T.cl_Slate, T.n_Slate_wide, rfl, ?_⟩
      refine ⟨_, rfl, by omega, by omega, cp_r0 (n := (w : Int)) (fun j => (tl j (M n)).map V.int) w4 rfl ?_ ?_⟩
      · intro D j H2 hj pv
        have hjw : j < w := by omega
        walk_at "x"
        refine ⟨rfl, ?_⟩
        walk_at "x"
        refine iteT ?_
        walk_at "x"
        refine ⟨_, rfl, ⟨_, Own.seq pv hR⟩, cp_list (xs := us.map V.ref) (fun k => (tl k (fun c => M c j)).map V.int) pv hR rfl ?_ ?_⟩
        · intro D2 c x H3 hx pv2
          obtain ⟨t, ht, rfl⟩ := map_at hx
          walk_at "x"
          refine ⟨rfl, ?_⟩
          walk_at "x"
          refine iteT ?_
          walk_at "x"
          refine x_ixXL (Own.seq pv2 (SqL.of (hrow c t ht))) (row_at (by omega)) ?_
          exact cp_fin pv2 (tl_more _ _) (by rw [List.length_map, tl_len]; have := (List.getElem?_eq_some_iff.mp ht).1; omega)
        · intro D2 H3 w8
          rw [List.length_map, hul] at w8
          refine x_nil ?_
          refine x_sum (w8.sq 0 rfl) ?_
          walk_at "x"
          refine cp_fin w8.pop ?_ (by rw [List.length_map, tl_len]; omega)
          rw [tl_more, tl_sum]
          congr 3
          have e := (Dt.stV_start (n := n) (w := w) (C := C) (D := Dv) (G := G) (Dt.sgnF Dv)).short j (.inl hjw)
          show Dt.stV n w C Dv G (Dt.sgnF Dv) j n = _
          rw [e, Int.zero_sub]
      intro pX HX wX
      rw [Int.toNat_natCast] at wX
      walk_at "x"
      refine ⟨(by show 1 ≤ sizeLine; decide), fun q1 nq1 => ?_⟩
      have w5 := wX.new (o := .lst [.int 0]) nq1
      walk_at "x"
      refine x_lenL (w5.seq hD) ?_
      rw [List.length_map, tl_len]
      walk_at "x"
      refine x_mulL (w5.get 0 rfl) ⟨by omega, by omega, z1000 (by show 1 * _ ≤ _; rw [Int.toNat_natCast]; omega)⟩ (fun q2 nq2 => ?_)
      rw [Int.toNat_natCast, rep_int n (fun v => M n (w + v)) fun i hi => by show Dt.stV n w C Dv G (Dt.sgnF Dv) (w + i) n = 0; rw [Dt.stV_slack hi]; exact if_neg (by omega)]
      have w6 := w5.new (o := .lst ((tl n (fun v => M n (w + v))).map V.int)) nq2
      refine x_addL (.inl (w6.get 2 rfl)) (.inl (w6.get 0 rfl)) (z1000 (by rw [List.length_map, List.length_map, tl_len, tl_len]; omega)) (fun q3 nq3 => ?_)
      rw [tl_app (f := M n) (h := M n) (fun _ _ => rfl) (fun _ _ => rfl)]
      have w7 := w6.new (o := .lst ((tl (w + n) (M n)).map V.int)) nq3
      walk_at "x"
      refine ⟨_, rfl, ⟨_, w7.seq hR⟩, cp_list (xs := us.map V.ref) (fun k => (tl k (fun c => M c (w + n))).map V.int) w7 hR rfl ?_ ?_⟩
      · intro D2 c x H3 hx pv2
        obtain ⟨t, ht, rfl⟩ := map_at hx
        walk_at "x"
        refine ⟨rfl, ?_⟩
        walk_at "x"
        refine iteT ?_
        walk_at "x"
        refine x_ixXL (Own.seq pv2 (SqL.of (hrow c t ht))) row_last ?_
        exact cp_fin pv2 (tl_more _ _) (by rw [List.length_map, tl_len]; have := (List.getElem?_eq_some_iff.mp ht).1; omega)
      intro D2 H3 w8
      rw [List.length_map, hul] at w8
      refine x_nil ?_
      refine x_sum (w8.sq 0 rfl) ?_
      walk_at "x"
      refine ⟨(by show 1 ≤ sizeLine; decide), fun q4 nq4 => ?_⟩
      rw [tl_one (f := fun v => M n (w + n + v)) (x := 0 - (tl n (fun c => M c (w + n))).sum) (by
        rw [tl_sum]
        have e := (Dt.stV_start (n := n) (w := w) (C := C) (D := Dv) (G := G) (Dt.sgnF Dv)).short (w + n) (.inr rfl)
        show _ = Dt.stV n w C Dv G (Dt.sgnF Dv) (w + n) n
        rw [e, Int.zero_sub])]
      have w9 := w8.new (o := .lst ((tl 1 (fun v => M n (w + n + v))).map V.int)) nq4
      refine x_addL (.inl (w9.get 2 rfl)) (.inl (w9.get 0 rfl)) (z1000 (by rw [List.length_map, tl_len, List.length_map, tl_len]; omega)) (fun pSh nSh => ?_)
      rw [tl_app (f := M n) (h := M n) (fun _ _ => rfl) (fun _ _ => rfl)]
      have wA := w9.new (o := .lst ((tl (w + n + 1) (M n)).map V.int)) nSh
      have wA := wA.sub (ds := [(pSh, .lst ((tl (w + n + 1) (M n)).map V.int)), (p, .ins A.Slate dx (putF "signs" (.ref pS) (putF "wide" (.int (w : Int)) [])))] ++ cs) (.cons_cons _ (.cons _ (.cons _ (.cons _ (.cons _ (.cons _ (.cons _ (List.Sublist.refl _))))))))
      have nB3 := wA.none 0 rfl
      have wA := wA.freeze
      have sC := same_upd (o := .lst ((tl (w + n + 1) (M n)).map V.int)) nB3
      have hrow := hrow.same sC
      have hR0 := sC _ _ hR0
      have hR := sC.seq hR
      have hD := sC.seq hD
      have hG := sC.seq hG
      have sB := sB.trans sC
      generalize hB3 : upd B2 pSh (.lst ((tl (w + n + 1) (M n)).map V.int)) = B3 at *
      have hSh : B3 pSh = some (.lst ((tl (w + n + 1) (M n)).map V.int)) := by rw [← hB3]; exact upd_same
      -- gained
      walk_at "x"
      refine ⟨_, rfl, ⟨_, wA.seq hG⟩, cp_list (xs := (tl w G).map V.int) (fun i => (tl i (M (n + 1))).map V.int) wA hG rfl ?_ ?_⟩
      · intro D i x H4 hx pv
        obtain ⟨hi, rfl⟩ := tl_at hx
        walk_at "x"
        refine ⟨rfl, ?_⟩
        walk_at "x"
        refine iteT ?_
        walk_at "x"
        refine cp_fin pv ?_ (by rw [List.length_map, tl_len]; omega)
        rw [tl_more, show M (n + 1) i = -G i from Dt.stV_gain hi, Int.zero_sub]
      intro pX2 HX2 wX2
      rw [List.length_map, tl_len] at wX2
      walk_at "x"
      refine ⟨(by show 1 ≤ sizeLine; decide), fun g1 ng1 => ?_⟩
      have y5 := wX2.new (o := .lst [.int 0]) ng1
      walk_at "x"
      refine x_lenL (y5.seq hD) ?_
      rw [List.length_map, tl_len]
      walk_at "x"
      refine x_mulL (y5.get 0 rfl) ⟨by omega, by omega, z1000 (by show 1 * _ ≤ _; omega)⟩ (fun g2 ng2 => ?_)
      rw [show ((n : Int) + 1).toNat = n + 1 by omega, rep_int (n + 1) (fun v => M (n + 1) (w + v)) fun i hi => by exact Dt.stV_gain0 (by omega) (by omega)]
      have y6 := y5.new (o := .lst ((tl (n + 1) (fun v => M (n + 1) (w + v))).map V.int)) ng2
      refine x_addL (.inl (y6.get 2 rfl)) (.inl (y6.get 0 rfl)) (z1000 (by rw [List.length_map, List.length_map, tl_len, tl_len]; omega)) (fun pG nG => ?_)
      rw [tl_app (f := M (n + 1)) (h := M (n + 1)) (fun _ _ => rfl) (fun _ _ => rfl)]
      have y7 := y6.new (o := .lst ((tl (w + (n + 1)) (M (n + 1))).map V.int)) nG
      have y7 := y7.sub (ds := [(pG, .lst ((tl (w + n + 1) (M (n + 1))).map V.int)), (p, .ins A.Slate dx (putF "signs" (.ref pS) (putF "wide" (.int (w : Int)) [])))] ++ cs) (.cons_cons _ (.cons _ (.cons _ (.cons _ (List.Sublist.refl _)))))
      have nB4 := y7.none 0 rfl
      have y7 := y7.freeze
      have sD := same_upd (o := .lst ((tl (w + n + 1) (M (n + 1))).map V.int)) nB4
      have hrow := hrow.same sD
      have hR0 := sD _ _ hR0
      have hSh := sD _ _ hSh
      have hD := sD.seq hD
      have sB := sB.trans sD
      generalize hB4 : upd B3 pG (.lst ((tl (w + n + 1) (M (n + 1))).map V.int)) = B4 at *
      have hGa : B4 pG = some (.lst ((tl (w + n + 1) (M (n + 1))).map V.int)) := by rw [← hB4]; exact upd_same
      walk_at "x"
      refine ⟨(by show 2 ≤ sizeLine; decide), fun p2 n2 => ?_⟩
      have y8 := y7.new (o := .lst [.ref pSh, .ref pG]) n2
      refine x_addL (.inl (y8.ex _ _ hR0)) (.inl (y8.get 0 rfl)) (z1000 (by rw [List.length_map, hul]; show n + 2 ≤ 2000; omega)) (fun pr2 nr2 => ?_)
      rw [show us.map V.ref ++ [V.ref pSh, V.ref pG] = (us ++ [pSh] ++ [pG]).map V.ref by rw [List.map_append, List.map_append, List.append_assoc] <;> rfl]
      have y9 := y8.new (o := .lst ((us ++ [pSh] ++ [pG]).map V.ref)) nr2
      have y9 := y9.sub (ds := [(pr2, .lst ((us ++ [pSh] ++ [pG]).map V.ref)), (p, .ins A.Slate dx (putF "signs" (.ref pS) (putF "wide" (.int (w : Int)) [])))] ++ cs) (.cons_cons _ (.cons _ (List.Sublist.refl _)))
      have nB5 := y9.none 0 rfl
      have y9 := y9.freeze
      have sE := same_upd (o := .lst ((us ++ [pSh] ++ [pG]).map V.ref)) nB5
      have hrow := hrow.same sE
      have hSh := sE _ _ hSh
      have hGa := sE _ _ hGa
      have hD := sE.seq hD
      have sB := sB.trans sE
      generalize hB5 : upd B4 pr2 (.lst ((us ++ [pSh] ++ [pG]).map V.ref)) = B5 at *
      have hRR : B5 pr2 = some (.lst ((us ++ [pSh] ++ [pG]).map V.ref)) := by rw [← hB5]; exact upd_same
      walk_at "x"
      refine ⟨p, A.Slate, dx, _, rfl, y9.get 0 rfl, T.cl_Slate, T.n_Slate_rows, by show 2 < 1000; decide, ?_⟩
      have yA := y9.put (o' := .ins A.Slate dx (putF "rows" (.ref pr2) (putF "signs" (.ref pS) (putF "wide" (.int (w : Int)) [])))) 0 rfl
      -- base
      walk_at "x"
      refine x_lenL (yA.seq hD) ?_
      rw [List.length_map, tl_len]
      refine ⟨_, rfl, by omega, by omega, cp_r0 (n := (n : Int)) (fun i => ((List.range i).map (w + ·)).map vnat) yA rfl ?_ ?_⟩
      · intro D i H4 hi pv
        walk_at "x"
        refine ⟨rfl, ?_⟩
        walk_at "x"
        refine iteT ?_
        walk_at "x"
        refine ⟨p, A.Slate, dx, _, _, rfl, Own.get pv 1 rfl, T.cl_Slate, T.n_Slate_wide, rfl, ?_⟩
        walk_at "x"
        exact cp_fin pv (base_more w i) (by rw [List.length_map, List.length_map, List.length_range]; omega)
      intro pb HB wB
      rw [Int.toNat_natCast] at wB
      walk_at "x"
      refine ⟨p, A.Slate, dx, _, rfl, wB.get 1 rfl, T.cl_Slate, T.n_Slate_base, by show 3 < 1000; decide, ?_⟩
      have yC := wB.put (o' := .ins A.Slate dx (putF "base" (.ref pb) (putF "rows" (.ref pr2) (putF "signs" (.ref pS) (putF "wide" (.int (w : Int)) []))))) 1 rfl
      walk_at "x"
      refine ⟨p, A.Slate, dx, _, rfl, yC.get 1 rfl, T.cl_Slate, T.n_Slate_share, by show 4 < 1000; decide, ?_⟩
      have yD := yC.put (o' := .ins A.Slate dx (slF w pS pr2 pb 1)) 1 rfl
      have yD := yD.perm2 (ds := (p, .ins A.Slate dx (slF w pS pr2 pb 1)) :: (pb, .lst (((List.range n).map (w + ·)).map vnat)) :: cs) (List.Perm.swap _ _ _)
      walk_at "x"
      have hlast : RwAt B5 (us ++ [pSh] ++ [pG]) (w + n + 1) M := (hrow.snoc (by rw [hul]; exact hSh)).snoc (by rw [List.length_append, hul]; exact hGa)
      exact k B5 _ pS pr2 pb (us ++ [pSh] ++ [pG]) (sS.trans sB) yD ⟨sB _ _ hS0, hRR, tl_len _ _, by rw [List.length_append, List.length_append, hul] <;> rfl, hlast⟩

/-! ### Slate_turn -/
def sp_Slate_turn (A : Ads) (K : PySem.W.Frag) : Sp := fun vs H Q _ => ∃ (a : Addr) (n w r c z : Nat) (M : Nat → Nat → Int) (s : Int) (bs : List Nat) (sg : List Int) (dx ps pr pb : Addr) (rs : List Addr) (B : Hp) (cs : Cells), vs = [.ref a, .int (r : Int), .int (c : Int)] ∧
  Own B ((a, .ins A.Slate dx (slF w ps pr pb s)) :: (pb, .lst (bs.map vnat)) :: cs) H ∧ SlB B n w M sg ps pr rs ∧ bs.length = n ∧ Siz z n w M s ∧ 0 < s ∧ w ≤ 1000 ∧ n ≤ 8 ∧ r < n ∧ c < w ∧
  ∀ (B' H' : Hp) (pr' : Addr) (rs' : List Addr), Same B B' → Own B' ((a, .ins A.Slate dx (slF w ps pr' pb (M r c))) :: (pb, .lst ((bs.set r c).map vnat)) :: cs) H' → SlB B' n w (Dt.turnT M s r c) sg ps pr' rs' → Q .non H'
theorem ok_Slate_turn (T : Txt K mg A) : FnOk P w K mg base (L2.CX P w) 1 A.a_Slate_turn A.d_Slate_turn ["self", "at", "to"] (sp_Slate_turn A K) := by
  refine T.F_Slate_turn.okX sc_Slate_turn (fun vs H Q E h => ?_) (fun cdv A0 outer st H vs Q E hr h => ?_)
  · obtain ⟨a, n, w, r, c, z, M, s, bs, sg, dx, ps, pr, pb, rs, B, cs, rfl, _⟩ := h; rfl
  · obtain ⟨a, n, w, r, c, z, M, s, bs, sg, dx, ps, pr, pb, rs, B, cs, rfl, w0, SB, hbl, hz, hs, hw, hn, hrn, hcw, k⟩ := h
    have AT : ∀ {B' H' : Hp} {ds : Cells}, Same B B' → Own B' ds H' → ∀ k, k < n + 2 → ∃ t, rs[k]? = some t ∧ atI (rs.map V.ref) (k : Int) = some (.ref t) ∧ B' t = some (.lst ((tl (w + n + 1) (M k)).map V.int)) := fun {B' H' ds} sB w k hk => by
      have hl := SB.len
      refine ⟨rs[k], List.getElem?_eq_getElem (by omega), ?_, sB _ _ (SB.row k _ (List.getElem?_eq_getElem (by omega)))⟩
      unfold atI ixN
      rw [List.length_map, if_pos (by omega), if_pos (by omega), Option.bind_some, Int.toNat_natCast, List.getElem?_map, List.getElem?_eq_getElem (by omega)] <;> rfl
    obtain ⟨told, hold1, hold2, hold3⟩ := AT (Same.refl B) w0 r (by omega)
    have hpr : ∀ {B' H' : Hp} {ds : Cells}, Same B B' → Own B' ds H' → SqL K H' pr (rs.map V.ref) := fun sB w => SqL.of (w.ex _ _ (sB _ _ SB.hr))
    refine ⟨_, (pss_cons (ps_set (i := 3) sc_Slate_turn.nd rfl (.inl rfl) (pe_ix (ix_seqK (K := K) rfl) (pe_fldK (K := K) rfl (pv 0) rfl) (pv 1) (fun _ _ => rfl)))
      (pss_cons (ps_set (i := 4) sc_Slate_turn.nd rfl (.inr rfl) (pe_ix (ix_seqK (K := K) rfl) (pv 3) (pv 2) (fun _ _ => rfl)))
      (pss_cons (ps_set (i := 5) sc_Slate_turn.nd rfl (.inl rfl) (pe_lst pa_nil))
      (pss_cons (ps_for (passes_of rfl) rfl (pi_range1 (by rfl) T.z_range (pa_cons (pe_callB (call_lenK (K := K) rfl) (by rfl) T.z_len (by decide +kernel) (pa_cons (pe_fldK (K := K) rfl (pv 0) rfl) pa_nil)) pa_nil)) (pg_name (i := 6) sc_Slate_turn.nd rfl (.inl rfl)) (pss_cons (ps_set (i := 7) sc_Slate_turn.nd rfl (.inr rfl) (pe_ix (ix_seqK (K := K) rfl) (pe_fldK (K := K) rfl (pv 0) rfl) (pv 6) (fun _ _ => rfl)))
      (pss_cons (ps_if (pt_cmpR (op_neK (K := K) rfl hr.units) (pv 6) (pv 1) (nomark _)) (pss_one (ps_set (i := 7) sc_Slate_turn.nd rfl (.inr rfl) (pe_lc (own := [("x", 8), ("y", 9)]) rfl sc_Slate_turn.nd (pi_zipK (K := K) rfl (by rfl) T.z_zip (pa_cons (pv 7) (pa_cons (pv 3) pa_nil))) (blkOk_by (own := [("x", 8), ("y", 9)]) (N := N_Slate_turn) (sc := defScope s_Slate_turn) (by decide +kernel)) (fun _ _ _ _ _ => (pg_tupK (K := K) (n := 2) rfl rfl (pgs_cons (pg_name (i := 8) sc_Slate_turn.nd rfl (.inl rfl)) (pgs_cons (pg_name (i := 9) sc_Slate_turn.nd rfl (.inl rfl)) pgs_nil)))) (fun _ _ _ _ _ => pts_nil) (fun _ _ _ _ _ => (pe_op op_fdivX (pe_op op_subX (pe_op op_mulX (pv 8) (pv 4)) (pe_op op_mulX (pe_ix (ix_seqK (K := K) rfl) (pv 7) (pv 2) (fun _ _ => rfl)) (pv 9))) (pe_fldK (K := K) rfl (pv 0) rfl)))))) pss_nil)
      (pss_one (ps_expr (pe_bm PySem.F.plainAttrs_list PySem.F.slot_list_append PySem.F.type_list_append mt_append (pv 5) (pa_cons (pv 7) pa_nil)))))))
      (pss_cons (ps_fld (pv 0) (pv 5) rfl)
      (pss_cons (ps_asg (pv 2) (pg_sub (pe_fldK (K := K) rfl (pv 0) rfl) (pv 1) set_list))
      (pss_one (ps_fld (pv 0) (pv 4) rfl)))))))), ?_⟩
    walk_at "x"
    refine ⟨a, A.Slate, dx, _, _, rfl, w0.get 0 rfl, T.cl_Slate, T.n_Slate_rows, rfl, ?_⟩
    walk_at "x"
    refine x_ixXL (hpr (Same.refl B) w0) hold2 ?_
    walk_at "x"
    refine x_ixXL (SqL.of (w0.ex _ _ hold3)) (row_at (by omega)) ?_
    walk_at "x"
    refine ⟨(by show 0 ≤ sizeLine; decide), fun p5 n5 => ?_⟩
    have w5 := w0.new (o := .lst (([] : List Addr).map V.ref)) n5
    walk_at "x"
    refine ⟨a, A.Slate, dx, _, _, rfl, w5.get 1 rfl, T.cl_Slate, T.n_Slate_rows, rfl, ?_⟩
    refine x_nil ?_
    refine x_lenL (hpr (Same.refl B) w5) ?_
    rw [List.length_map, SB.len]
    refine ⟨_, rfl, by omega, by omega, for_r0 (n := ((n + 2 : Nat) : Int)) (fun i σ' H' => ∃ (B' : Hp) (us : List Addr), (∃ v6 v7 v8 v9, σ' = [some (.ref a), some (.int (r : Int)), some (.int (c : Int)), some (.ref told), some (.int (M r c)), some (.ref p5), v6, v7, v8, v9]) ∧ Same B B' ∧ us.length = i ∧ RwAt B' us (w + n + 1) (Dt.turnT M s r c) ∧ Own B' ((p5, .lst (us.map V.ref)) :: (a, .ins A.Slate dx (slF w ps pr pb s)) :: (pb, .lst (bs.map vnat)) :: cs) H') ⟨B, [], ⟨_, _, _, _, rfl⟩, Same.refl B, rfl, fun k t e => (by rw [List.getElem?_nil] at e; cases e), w5⟩ ?_ ?_⟩
    · rintro i σ' H' hi ⟨B', us, ⟨v6, v7, v8, v9, rfl⟩, sB, hul, hrow, w6⟩
      have hin : i < n + 2 := by omega
      obtain ⟨ti, ei, ei2, ei3⟩ := AT sB w6 i hin
      walk_at "x"
      refine ⟨a, A.Slate, dx, _, _, rfl, w6.get 1 rfl, T.cl_Slate, T.n_Slate_rows, rfl, ?_⟩
      walk_at "x"
      refine x_ixXL (hpr sB w6) ei2 ?_
      walk_at "x"
      by_cases d : i = r
      · subst d
        rw [decide_eq_true rfl]
        refine iteF ?_
        walk_at "x"
        refine ⟨x_tyL (w6.get 0 rfl), ?_⟩
        walk_at "x"
        refine x_append (w6.get 0 rfl) (by rw [List.length_map]; exact Nat.lt_of_lt_of_le (show us.length < 1000 by omega) (by decide)) ?_
        rw [show us.map V.ref ++ [V.ref ti] = (us ++ [ti]).map V.ref by rw [List.map_append] <;> rfl]
        refine ⟨B', us ++ [ti], ⟨_, _, _, _, rfl⟩, sB, by rw [List.length_append, hul] <;> rfl, hrow.snoc ?_, w6.put (o' := .lst ((us ++ [ti]).map V.ref)) 0 rfl⟩
        rw [hul, ei3, show Dt.turnT M s i c i = M i from funext fun v => if_pos rfl]
      · rw [decide_eq_false (show ¬ (i : Int) = (r : Int) by omega)]
        refine iteT ?_
        walk_at "x"
        have hlenW : ∀ f : Nat → Int, ((tl (w + n + 1) f).map V.int).length = w + n + 1 := fun f => by rw [List.length_map, tl_len]
        have qi : SqL K H' ti ((tl (w + n + 1) (M i)).map V.int) := SqL.of (w6.ex _ _ ei3)
        have qo : SqL K H' told ((tl (w + n + 1) (M r)).map V.int) := SqL.of (w6.ex _ _ (sB _ _ hold3))
        refine ⟨ti, told, _, _, rfl, qi, qo, cp_zip (xs := (tl (w + n + 1) (M i)).map V.int) (ys := (tl (w + n + 1) (M r)).map V.int) (fun v => (tl v (Dt.turnT M s r c i)).map V.int) (Own.start (H := H')) (by rw [hlenW, hlenW]) qi qo rfl ?_ ?_⟩
        · intro D v x y U H2 hx hy w7 hU
          have hvW : v < w + n + 1 := by have := (List.getElem?_eq_some_iff.mp hx).1; rw [hlenW] at this; exact this
          have ex : x = .int (M i v) := by
            unfold tl at hx
            rw [List.getElem?_map, List.getElem?_map, List.getElem?_range hvW] at hx
            exact (Option.some.inj hx).symm
          have ey : y = .int (M r v) := by
            unfold tl at hy
            rw [List.getElem?_map, List.getElem?_map, List.getElem?_range hvW] at hy
            exact (Option.some.inj hy).symm
          subst ex ey
          have w8 := Own.new (o := .tup [.int (M i v), .int (M r v)]) w7 hU
          have e8 := w8.ex
          have b1 := hz.row i hin v (by omega)
          have b2 := hz.row r (by omega) c (by omega)
          have b3 := hz.row i hin c (by omega)
          have b4 := hz.row r (by omega) v (by omega)
          refine x_gt (w8.sqT 0 rfl) rfl ?_
          walk_at "x"
          refine ⟨rfl, ?_⟩
          walk_at "x"
          refine iteT ?_
          walk_at "x"
          refine x_mulI (hz.mul b1 b2) ?_
          walk_at "x"
          refine x_ixXL (e8.seq qi) (row_at (by omega)) ?_
          walk_at "x"
          refine x_mulI (hz.mul b3 b4) ?_
          walk_at "x"
          refine ⟨a, A.Slate, dx, _, _, rfl, e8 _ _ (w6.get 1 rfl), T.cl_Slate, T.n_Slate_share, rfl, ?_⟩
          refine x_divP hs (hz.log hs) ?_
          refine cp_fin w8.pop ?_ (by rw [List.length_map, tl_len]; omega)
          show (tl (v + 1) _).map V.int = _
          unfold tl
          rw [range_map, List.map_append]
          show _ ++ [V.int (Dt.turnT M s r c i v)] = _
          unfold Dt.turnT
          rw [if_neg d]
        intro p7 H7 w7
        have w7 := own_join2 w6 w7
        rw [hlenW] at w7
        have nB := w7.none 0 rfl
        have w7 := w7.freeze
        walk_at "x"
        refine ⟨x_tyL (w7.get 0 rfl), ?_⟩
        walk_at "x"
        refine x_append (w7.get 0 rfl) (by rw [List.length_map]; exact Nat.lt_of_lt_of_le (show us.length < 1000 by omega) (by decide)) ?_
        rw [show us.map V.ref ++ [V.ref p7] = (us ++ [p7]).map V.ref by rw [List.map_append] <;> rfl]
        have hB7 : Same B' (upd B' p7 (.lst ((tl (w + n + 1) (Dt.turnT M s r c i)).map V.int))) := same_upd nB
        refine ⟨_, us ++ [p7], ⟨_, _, _, _, rfl⟩, sB.trans hB7, by rw [List.length_append, hul] <;> rfl, (hrow.same hB7).snoc (by rw [hul]; exact upd_same), w7.put (o' := .lst ((us ++ [p7]).map V.ref)) 0 rfl⟩
    · rintro σ' H' ⟨B', us, ⟨v6, v7, v8, v9, rfl⟩, sB, hul, hrow, w6⟩
      walk_at "x"
      refine ⟨a, A.Slate, dx, _, rfl, w6.get 1 rfl, T.cl_Slate, T.n_Slate_rows, by show 5 < 1000; decide, ?_⟩
      have w7 := w6.put (o' := .ins A.Slate dx (putF "rows" (.ref p5) (slF w ps pr pb s))) 1 rfl
      walk_at "x"
      refine ⟨a, A.Slate, dx, _, _, rfl, w7.get 1 rfl, T.cl_Slate, T.n_Slate_base, rfl, ?_⟩
      walk_at "x"
      refine x_setL (w7.get 2 rfl) (by rw [List.length_map]; exact ixN_int (by omega) (by omega)) ?_
      have w8 := w7.put (o' := .lst ((bs.map vnat).set (r : Int).toNat (.int (c : Int)))) 2 rfl
      walk_at "x"
      refine ⟨a, A.Slate, dx, _, rfl, w8.get 1 rfl, T.cl_Slate, T.n_Slate_share, by show 5 < 1000; decide, ?_⟩
      rw [show putF "share" (.int (M r c)) (putF "rows" (.ref p5) (slF w ps pr pb s)) = slF w ps p5 pb (M r c) from rfl, Int.toNat_natCast, show (bs.map vnat).set r (.int (c : Int)) = (bs.set r c).map vnat from List.map_set.symm] at *
      have w9 := w8.put (o' := .ins A.Slate dx (slF w ps p5 pb (M r c))) 1 rfl
      have nB := w9.none 0 rfl
      have w9 := w9.freeze
      walk_at "x"
      have sB9 := same_upd (o := .lst (us.map V.ref)) nB
      exact k _ _ p5 us (sB.trans sB9) w9 ⟨sB9 _ _ (sB _ _ SB.hs), upd_same, SB.sl, by rw [hul] <;> rfl, hrow.same sB9⟩

/-! ### Slate_come_in -/
def sp_Slate_come_in (A : Ads) (K : PySem.W.Frag) : Sp := fun vs H Q _ => ∃ (a : Addr) (n w : Nat) (M : Nat → Nat → Int) (s : Int) (bs : List Nat) (sg : List Int) (dx ps pr pb : Addr) (rs : List Addr), vs = [.ref a] ∧ SlAt A.Slate H a n w M s bs sg dx ps pr pb rs ∧ w ≤ 1000 ∧ (∀ v, ComeAt n w M v → RetV (.int (v : Int)) H Q) ∧ (ComeNo n w M → RetV .non H Q)
theorem ok_Slate_come_in (T : Txt K mg A) : FnOk P w K mg base (L2.CX P w) 1 A.a_Slate_come_in A.d_Slate_come_in ["self"] (sp_Slate_come_in A K) := by
  refine T.F_Slate_come_in.okX sc_Slate_come_in (fun vs H Q E h => ?_) (fun cdv A0 outer s H vs Q E hr h => ?_)
  · obtain ⟨a, n, w, M, s, bs, sg, dx, ps, pr, pb, rs, rfl, _⟩ := h; rfl
  · obtain ⟨a, n, w, M, s, bs, sg, dx, ps, pr, pb, rs, rfl, S, hw, kS, kN⟩ := h
    obtain ⟨t2, _, e2, r2⟩ := S.at2 (K := K)
    obtain ⟨t1, _, e1, r1⟩ := S.at1 (K := K)
    have hR := S.rows (K := K)
    refine ⟨_, (pss_cons (ps_for (passes_of rfl) rfl (pi_range1 (by rfl) T.z_range (pa_cons (pe_fldK (K := K) rfl (pv 0) rfl) pa_nil)) (pg_name (i := 1) sc_Slate_come_in.nd rfl (.inl rfl)) (pss_one (ps_if (pt_cmpR op_ltX (pe_ix (ix_seqK (K := K) rfl) (pe_ix (ix_seqK (K := K) rfl) (pe_fldK (K := K) rfl (pv 0) rfl) (pe_un un_neg pe_int) (fun _ _ => rfl)) (pv 1) (fun _ _ => rfl)) pe_int (nomark _)) (pss_one (ps_ret (pv 1))) pss_nil)))
      (pss_cons (ps_for (passes_of rfl) rfl (pi_range1 (by rfl) T.z_range (pa_cons (pe_fldK (K := K) rfl (pv 0) rfl) pa_nil)) (pg_name (i := 1) sc_Slate_come_in.nd rfl (.inl rfl)) (pss_one (ps_if (PW.pt (pw_and (pt_cmpR (op_eqK (K := K) rfl hr.units) (pe_ix (ix_seqK (K := K) rfl) (pe_ix (ix_seqK (K := K) rfl) (pe_fldK (K := K) rfl (pv 0) rfl) (pe_un un_neg pe_int) (fun _ _ => rfl)) (pe_un un_neg pe_int) (fun _ _ => rfl)) pe_int (nomark _)) (pw_and (pt_cmpR (op_eqK (K := K) rfl hr.units) (pe_ix (ix_seqK (K := K) rfl) (pe_ix (ix_seqK (K := K) rfl) (pe_fldK (K := K) rfl (pv 0) rfl) (pe_un un_neg pe_int) (fun _ _ => rfl)) (pv 1) (fun _ _ => rfl)) pe_int (nomark _)) (pw_and1 (pt_cmpR op_ltX (pe_ix (ix_seqK (K := K) rfl) (pe_ix (ix_seqK (K := K) rfl) (pe_fldK (K := K) rfl (pv 0) rfl) (pe_un un_neg pe_int) (fun _ _ => rfl)) (pv 1) (fun _ _ => rfl)) pe_int (nomark _)))))) (pss_one (ps_ret (pv 1))) pss_nil)))
      (pss_one (ps_ret pe_non)))), ?_⟩
    walk_at "x"
    refine ⟨a, A.Slate, dx, _, _, rfl, S.e, T.cl_Slate, T.n_Slate_wide, rfl, ?_⟩
    refine ⟨_, rfl, by omega, by omega, for_r0 (n := (w : Int)) (fun i σ' H' => (∃ v1, σ' = [some (.ref a), v1]) ∧ Same H H' ∧ ∀ v, v < i → 0 ≤ M n v) ⟨⟨_, rfl⟩, Same.refl _, fun v hv => absurd hv (Nat.not_lt_zero v)⟩ ?_ ?_⟩
    · rintro v σ' H' hv ⟨⟨v1, rfl⟩, sH, hx⟩
      have S := S.same sH
      have hR := S.rows (K := K)
      obtain ⟨t2, _, e2, r2⟩ := S.at2 (K := K)
      obtain ⟨t1, _, e1, r1⟩ := S.at1 (K := K)
      walk_at "x"
      refine ⟨a, A.Slate, dx, _, _, rfl, S.e, T.cl_Slate, T.n_Slate_rows, rfl, ?_⟩
      walk_at "x"
      refine x_ixXL hR e2 ?_
      walk_at "x"
      refine x_ixXL r2 (row_at (by omega)) ?_
      walk_at "x"
      refine ite2 (fun c => ?_) (fun c => ?_)
      · have c := of_decide_eq_true c
        walk_at "x"
        exact (kS v ⟨by omega, .inl c⟩).go sH
      · have c := of_decide_eq_false (Bool.eq_false_iff.mpr c)
        walk_at "x"
        refine ⟨⟨_, rfl⟩, sH, fun u hu => ?_⟩
        by_cases z : u = v
        · subst z; omega
        · exact hx u (by omega)
    · rintro σ' H' ⟨⟨v1, rfl⟩, sH, hx⟩
      rw [Int.toNat_natCast] at hx
      have S0 := S
      have S := S.same sH
      walk_at "x"
      refine ⟨a, A.Slate, dx, _, _, rfl, S.e, T.cl_Slate, T.n_Slate_wide, rfl, ?_⟩
      refine ⟨_, rfl, by omega, by omega, for_r0 (n := (w : Int)) (fun i σ' H' => (∃ v1, σ' = [some (.ref a), v1]) ∧ Same H H' ∧ (M n (w + n) = 0 → ∀ v, v < i → M n v = 0 → 0 ≤ M (n + 1) v)) ⟨⟨_, rfl⟩, sH, fun _ v hv => absurd hv (Nat.not_lt_zero v)⟩ ?_ ?_⟩
      · rintro v σ' H' hv ⟨⟨v1, rfl⟩, sH, hy⟩
        have nx : (M n (w + n) = 0 → M n v = 0 → 0 ≤ M (n + 1) v) → M n (w + n) = 0 → ∀ u, u < v + 1 → M n u = 0 → 0 ≤ M (n + 1) u := fun q h0 u hu hz => by
          by_cases z : u = v
          · subst z; exact q h0 hz
          · exact hy h0 u (by omega) hz
        have S := S0.same sH
        have hR := S.rows (K := K)
        obtain ⟨t2, _, e2, r2⟩ := S.at2 (K := K)
        obtain ⟨t1, _, e1, r1⟩ := S.at1 (K := K)
        walk_at "x"
        refine ⟨a, A.Slate, dx, _, _, rfl, S.e, T.cl_Slate, T.n_Slate_rows, rfl, ?_⟩
        walk_at "x"
        refine x_ixXL hR e2 ?_
        walk_at "x"
        refine x_ixXL r2 row_last ?_
        walk_at "x"
        by_cases c : M n (w + n) = 0
        · rw [decide_eq_true c]
          refine iteT ?_
          walk_at "x"
          refine ⟨a, A.Slate, dx, _, _, rfl, S.e, T.cl_Slate, T.n_Slate_rows, rfl, ?_⟩
          walk_at "x"
          refine x_ixXL hR e2 ?_
          walk_at "x"
          refine x_ixXL r2 (row_at (by omega)) ?_
          walk_at "x"
          by_cases d : M n v = 0
          · rw [decide_eq_true d]
            refine iteT ?_
            walk_at "x"
            refine ⟨a, A.Slate, dx, _, _, rfl, S.e, T.cl_Slate, T.n_Slate_rows, rfl, ?_⟩
            walk_at "x"
            refine x_ixXL hR e1 ?_
            walk_at "x"
            refine x_ixXL r1 (row_at (by omega)) ?_
            walk_at "x"
            refine ite2 (fun g => ?_) (fun g => ?_)
            · have g := of_decide_eq_true g
              walk_at "x"
              exact (kS v ⟨by omega, .inr ⟨c, d, g⟩⟩).go sH
            · have g := of_decide_eq_false (Bool.eq_false_iff.mpr g)
              walk_at "x"
              exact ⟨⟨_, rfl⟩, sH, nx fun _ _ => by omega⟩
          · rw [decide_eq_false d]
            refine iteF ?_
            refine iteF ?_
            walk_at "x"
            exact ⟨⟨_, rfl⟩, sH, nx fun _ z => absurd z d⟩
        · rw [decide_eq_false c]
          refine iteF ?_
          refine iteF ?_
          walk_at "x"
          exact ⟨⟨_, rfl⟩, sH, nx fun z _ => absurd z c⟩
      · rintro σ' H' ⟨⟨v1, rfl⟩, sH, hy⟩
        rw [Int.toNat_natCast] at hy
        walk_at "x"
        exact (kN ⟨hx, hy⟩).go sH

/-! ### Slate_sooner -/
def sp_Slate_sooner (A : Ads) (K : PySem.W.Frag) : Sp := fun vs H Q _ => ∃ (a : Addr) (n w i j c z : Nat) (M : Nat → Nat → Int) (s : Int) (bs : List Nat) (sg : List Int) (dx ps pr pb : Addr) (rs : List Addr), vs = [.ref a, .int (i : Int), .int (j : Int), .int (c : Int)] ∧ SlAt A.Slate H a n w M s bs sg dx ps pr pb rs ∧ w ≤ 1000 ∧ n ≤ 8 ∧ Siz z n w M s ∧ i < n ∧ j < n ∧ c < w ∧
  ∀ b : Bool, (b = true → Dt.LexN (n + 1) fun p => M j (Dt.cl n w p) * M i c - M i (Dt.cl n w p) * M j c) → (b = false → Dt.LexN (n + 1) fun p => M i (Dt.cl n w p) * M j c - M j (Dt.cl n w p) * M i c) → RetV (.bl b) H Q
def posV (w p : Nat) : V := .int (if p = 0 then -1 else (w : Int) + ((p : Int) - 1))
theorem posV_list (n w : Nat) : [V.int (-1)] ++ (List.range n).map (fun i : Nat => V.int ((w : Int) + (i : Int))) = (List.range (n + 1)).map (posV w) := by
  rw [List.range_succ_eq_map, List.map_cons, List.map_map]
  show V.int (-1) :: _ = V.int (if 0 = 0 then -1 else _) :: _
  rw [if_pos rfl]
  show V.int (-1) :: _ = V.int (-1) :: _
  congr 1
  refine List.map_congr_left fun i _ => ?_
  show _ = V.int (if i + 1 = 0 then _ else (w : Int) + (((i + 1 : Nat) : Int) - 1))
  rw [if_neg (by omega)]
  congr 1
  omega
theorem ok_Slate_sooner (T : Txt K mg A) : FnOk P w K mg base (L2.CX P w) 1 A.a_Slate_sooner A.d_Slate_sooner ["self", "here", "there", "to"] (sp_Slate_sooner A K) := by
  refine T.F_Slate_sooner.okX sc_Slate_sooner (fun vs H Q E h => ?_) (fun cdv A0 outer s H vs Q E hr h => ?_)
  · obtain ⟨a, n, w, i, j, c, z, M, s, bs, sg, dx, ps, pr, pb, rs, rfl, _⟩ := h; rfl
  · obtain ⟨a, n, w, i, j, c, z, M, s, bs, sg, dx, ps, pr, pb, rs, rfl, S, hw, hn, hz, hi, hj, hc, k⟩ := h
    refine ⟨_, (pss_cons (ps_for (passes_of rfl) rfl (pi_listK (K := K) rfl (pe_op op_addX (pe_lst (pa_cons (pe_un un_neg pe_int) pa_nil)) (pe_listRg rfl (by rfl) T.z_list (prg_2 (by rfl) T.z_range (pe_fldK (K := K) rfl (pv 0) rfl) (pe_op op_addX (pe_fldK (K := K) rfl (pv 0) rfl) (pe_callB (call_lenK (K := K) rfl) (by rfl) T.z_len (by decide +kernel) (pa_cons (pe_fldK (K := K) rfl (pv 0) rfl) pa_nil))))))) (pg_name (i := 4) sc_Slate_sooner.nd rfl (.inl rfl)) (pss_cons (ps_set (i := 5) sc_Slate_sooner.nd rfl (.inl rfl) (pe_op op_mulX (pe_ix (ix_seqK (K := K) rfl) (pe_ix (ix_seqK (K := K) rfl) (pe_fldK (K := K) rfl (pv 0) rfl) (pv 1) (fun _ _ => rfl)) (pv 4) (fun _ _ => rfl)) (pe_ix (ix_seqK (K := K) rfl) (pe_ix (ix_seqK (K := K) rfl) (pe_fldK (K := K) rfl (pv 0) rfl) (pv 2) (fun _ _ => rfl)) (pv 3) (fun _ _ => rfl))))
      (pss_cons (ps_set (i := 6) sc_Slate_sooner.nd rfl (.inl rfl) (pe_op op_mulX (pe_ix (ix_seqK (K := K) rfl) (pe_ix (ix_seqK (K := K) rfl) (pe_fldK (K := K) rfl (pv 0) rfl) (pv 2) (fun _ _ => rfl)) (pv 4) (fun _ _ => rfl)) (pe_ix (ix_seqK (K := K) rfl) (pe_ix (ix_seqK (K := K) rfl) (pe_fldK (K := K) rfl (pv 0) rfl) (pv 1) (fun _ _ => rfl)) (pv 3) (fun _ _ => rfl))))
      (pss_one (ps_if (pt_cmpR (op_neK (K := K) rfl hr.units) (pv 5) (pv 6) (nomark _)) (pss_one (ps_ret (pe_cmpR op_ltX (pv 5) (pv 6) (nomark _)))) pss_nil)))))
      (pss_one (ps_ret pe_bl))), ?_⟩
    walk_at "x"
    refine ⟨(by show 1 ≤ sizeLine; decide), fun p1 n1 => ?_⟩
    have w1 := (Own.start (H := H)).new (o := .lst [.int (-1)]) n1
    have S1 := S.same w1.ex
    refine x_lstRg2 ?_
    walk_at "x"
    refine ⟨a, A.Slate, dx, _, _, rfl, S1.e, T.cl_Slate, T.n_Slate_wide, rfl, ?_⟩
    walk_at "x"
    refine ⟨a, A.Slate, dx, _, _, rfl, S1.e, T.cl_Slate, T.n_Slate_wide, rfl, ?_⟩
    walk_at "x"
    refine ⟨a, A.Slate, dx, _, _, rfl, S1.e, T.cl_Slate, T.n_Slate_base, rfl, ?_⟩
    walk_at "x"
    refine x_lenL S1.base ?_
    rw [List.length_map, S.hl]
    walk_at "x"
    refine ⟨_, _, rfl, rfl, RgOk.of_le (by omega) (by omega) (by omega) (by omega), fun p2 n2 => ?_⟩
    have erg : rgV (w : Int) ((w : Int) + (n : Int)) = (List.range n).map (fun i : Nat => V.int ((w : Int) + (i : Int))) := by
      unfold rgV
      rw [show ((w : Int) + (n : Int) - (w : Int)).toNat = n by omega]
    rw [erg]
    have w2 := w1.new (o := .lst ((List.range n).map (fun i : Nat => V.int ((w : Int) + (i : Int))))) n2
    refine x_addL (.inl (w2.get 1 rfl)) (.inl (w2.get 0 rfl)) (Nat.le_trans (show _ ≤ 9 by rw [List.length_map, List.length_range]; show 1 + n ≤ 9; omega) (by decide)) (fun p3 n3 => ?_)
    rw [posV_list]
    have w3 := w2.new (o := .lst ((List.range (n + 1)).map (posV w))) n3
    refine ⟨_, rfl, ⟨_, w3.sq 0 rfl⟩, for_list (xs := (List.range (n + 1)).map (posV w)) (fun p σ' H' => (∃ v4 v5 v6, σ' = [some (.ref a), some (.int (i : Int)), some (.int (j : Int)), some (.int (c : Int)), v4, v5, v6]) ∧ Own H [(p3, .lst ((List.range (n + 1)).map (posV w)))] H' ∧ ∀ q, q < p → M i (Dt.cl n w q) * M j c = M j (Dt.cl n w q) * M i c) ⟨⟨_, _, _, rfl⟩, w3.sub (.cons_cons _ (.cons _ (.cons _ .slnil))), fun q hq => absurd hq (Nat.not_lt_zero q)⟩ (fun p σ' H' _ h => h.2.1.sq 0 rfl) ?_ ?_⟩
    · rintro p x σ' H' hx ⟨⟨v4, v5, v6, rfl⟩, w4, hq⟩
      obtain ⟨p', hp', rfl⟩ := map_at hx
      have hpn : p < n + 1 := by have := (List.getElem?_eq_some_iff.mp hx).1; rw [List.length_map, List.length_range] at this; exact this
      obtain rfl : p = p' := by rw [List.getElem?_range hpn] at hp'; exact Option.some.inj hp'
      have S := S.same w4.ex
      have hcl := cl_row (w := w) hpn
      obtain ⟨ti, _, ei, ri⟩ := S.at (K := K) (show i < n + 2 by omega)
      obtain ⟨tj, _, ej, rj⟩ := S.at (K := K) (show j < n + 2 by omega)
      unfold posV
      walk_at "x"
      refine ⟨a, A.Slate, dx, _, _, rfl, S.e, T.cl_Slate, T.n_Slate_rows, rfl, ?_⟩
      walk_at "x"
      refine x_ixXL S.rows ei ?_
      walk_at "x"
      refine x_ixXL ri (row_cl hpn) ?_
      walk_at "x"
      refine ⟨a, A.Slate, dx, _, _, rfl, S.e, T.cl_Slate, T.n_Slate_rows, rfl, ?_⟩
      walk_at "x"
      refine x_ixXL S.rows ej ?_
      walk_at "x"
      refine x_ixXL rj (row_at (by omega)) ?_
      refine x_mulI (hz.mul (hz.row i (by omega) _ hcl) (hz.row j (by omega) _ (by omega))) ?_
      walk_at "x"
      refine ⟨a, A.Slate, dx, _, _, rfl, S.e, T.cl_Slate, T.n_Slate_rows, rfl, ?_⟩
      walk_at "x"
      refine x_ixXL S.rows ej ?_
      walk_at "x"
      refine x_ixXL rj (row_cl hpn) ?_
      walk_at "x"
      refine ⟨a, A.Slate, dx, _, _, rfl, S.e, T.cl_Slate, T.n_Slate_rows, rfl, ?_⟩
      walk_at "x"
      refine x_ixXL S.rows ei ?_
      walk_at "x"
      refine x_ixXL ri (row_at (by omega)) ?_
      refine x_mulI (hz.mul (hz.row j (by omega) _ hcl) (hz.row i (by omega) _ (by omega))) ?_
      walk_at "x"
      by_cases d : M i (Dt.cl n w p) * M j c = M j (Dt.cl n w p) * M i c
      · rw [decide_eq_true d]
        refine iteF ?_
        walk_at "x"
        refine ⟨⟨_, _, _, rfl⟩, w4, fun q hq2 => ?_⟩
        by_cases e : q = p
        · subst e; exact d
        · exact hq q (by omega)
      · rw [decide_eq_false d]
        refine iteT ?_
        walk_at "x"
        refine k _ (fun g r hr h0 => ?_) (fun g r hr h0 => ?_) _ w4.ex
        · have g := of_decide_eq_true g
          show 0 ≤ M j (Dt.cl n w r) * M i c - M i (Dt.cl n w r) * M j c
          have h0 : ∀ q, q < r → M j (Dt.cl n w q) * M i c - M i (Dt.cl n w q) * M j c = 0 := h0
          rcases Nat.lt_trichotomy r p with e | e | e
          · have := hq r e; omega
          · subst e; omega
          · have := h0 p e; omega
        · have g := of_decide_eq_false g
          show 0 ≤ M i (Dt.cl n w r) * M j c - M j (Dt.cl n w r) * M i c
          have h0 : ∀ q, q < r → M i (Dt.cl n w q) * M j c - M j (Dt.cl n w q) * M i c = 0 := h0
          rcases Nat.lt_trichotomy r p with e | e | e
          · have := hq r e; omega
          · subst e; omega
          · have := h0 p e; omega
    · rintro σ' H' ⟨⟨v4, v5, v6, rfl⟩, w4, hq⟩
      rw [List.length_map, List.length_range] at hq
      walk_at "x"
      refine k false (fun g => nomatch g) (fun _ r hr _ => ?_) _ w4.ex
      have := hq r hr
      show 0 ≤ M i (Dt.cl n w r) * M j c - M j (Dt.cl n w r) * M i c
      omega

/-! ### Slate_go_out -/
def sp_Slate_go_out (A : Ads) (K : PySem.W.Frag) : Sp := fun vs H Q _ => ∃ (a : Addr) (n w c z : Nat) (M : Nat → Nat → Int) (s : Int) (bs : List Nat) (sg : List Int) (dx ps pr pb : Addr) (rs : List Addr), vs = [.ref a, .int (c : Int)] ∧ SlAt A.Slate H a n w M s bs sg dx ps pr pb rs ∧ w ≤ 1000 ∧ n ≤ 8 ∧ Siz z n w M s ∧ c < w ∧
  (∀ r, r < n → 0 < M r c → Dt.First n w M r c → RetV (.int (r : Int)) H Q) ∧ ((∀ k, k < n → M k c ≤ 0) → RetV .non H Q)
theorem ok_Slate_go_out (T : Txt K mg A) : FnOk P w K mg base (L2.CX P w) 2 A.a_Slate_go_out A.d_Slate_go_out ["self", "to"] (sp_Slate_go_out A K) := by
  refine T.F_Slate_go_out.okX sc_Slate_go_out (fun vs H Q E h => ?_) (fun cdv A0 outer s H vs Q E hr h => ?_)
  · obtain ⟨a, n, w, c, z, M, s, bs, sg, dx, ps, pr, pb, rs, rfl, _⟩ := h; rfl
  · obtain ⟨a, n, w, c, z, M, s, bs, sg, dx, ps, pr, pb, rs, rfl, S, hw, hn, hz, hc, kS, kN⟩ := h
    refine ⟨_, (pss_cons (ps_set (i := 2) sc_Slate_go_out.nd rfl (.inl rfl) pe_non)
      (pss_cons (ps_for (passes_of rfl) rfl (pi_range1 (by rfl) T.z_range (pa_cons (pe_callB (call_lenK (K := K) rfl) (by rfl) T.z_len (by decide +kernel) (pa_cons (pe_fldK (K := K) rfl (pv 0) rfl) pa_nil)) pa_nil)) (pg_name (i := 3) sc_Slate_go_out.nd rfl (.inl rfl)) (pss_one (ps_if (PW.pt (pw_and (pt_cmpR op_gtX (pe_ix (ix_seqK (K := K) rfl) (pe_ix (ix_seqK (K := K) rfl) (pe_fldK (K := K) rfl (pv 0) rfl) (pv 3) (fun _ _ => rfl)) (pv 1) (fun _ _ => rfl)) pe_int (nomark _)) (pw_and1 (PW.pt (pw_or (pt_cmpR op_isNX (pv 2) pe_non (nomark _)) (pw_or1 (pt_val (pe_meth (pv 0) T.cl_Slate T.m_Slate_sooner (ok_Slate_sooner T) (hr.mono (by decide)) T.b_Slate_sooner .nil (passes_call (takes_of rfl rfl rfl rfl) (fun _ _ _ _ h => h)) (pa_cons (pv 3) (pa_cons (pv 2) (pa_cons (pv 1) pa_nil))))))))))) (pss_one (ps_set (i := 2) sc_Slate_go_out.nd rfl (.inl rfl) (pv 3))) pss_nil)))
      (pss_one (ps_ret (pv 2))))), ?_⟩
    walk_at "x"
    refine ⟨a, A.Slate, dx, _, _, rfl, S.e, T.cl_Slate, T.n_Slate_base, rfl, ?_⟩
    refine x_nil ?_
    refine x_lenL S.base ?_
    rw [List.length_map, S.hl]
    refine ⟨_, rfl, by omega, by omega, for_r0 (n := (n : Int)) (fun i σ' H' => Same H H' ∧ ((∃ v3, σ' = [some (.ref a), some (.int (c : Int)), some .non, v3]) ∧ (∀ k, k < i → M k c ≤ 0) ∨ ∃ r, r < n ∧ (∃ v3, σ' = [some (.ref a), some (.int (c : Int)), some (.int (r : Int)), v3]) ∧ 0 < M r c ∧ ∀ k, k < i → 0 < M k c → Dt.LexN (n + 1) fun p => M k (Dt.cl n w p) * M r c - M r (Dt.cl n w p) * M k c)) ⟨Same.refl _, .inl ⟨⟨_, rfl⟩, fun k hk => absurd hk (Nat.not_lt_zero k)⟩⟩ ?_ ?_⟩
    · rintro k σ' H' hk ⟨sH, hI⟩
      have hkn : k < n := by omega
      have S := S.same sH
      obtain ⟨t, _, et, rt⟩ := S.at (K := K) (show k < n + 2 by omega)
      rcases hI with ⟨⟨v3, rfl⟩, hx⟩ | ⟨r, hrn, ⟨v3, rfl⟩, hp, hx⟩
      · walk_at "x"
        refine ⟨a, A.Slate, dx, _, _, rfl, S.e, T.cl_Slate, T.n_Slate_rows, rfl, ?_⟩
        walk_at "x"
        refine x_ixXL S.rows et ?_
        walk_at "x"
        refine x_ixXL rt (row_at (by omega)) ?_
        walk_at "x"
        by_cases d : 0 < M k c
        · rw [decide_eq_true d]
          refine iteT ?_
          walk_at "x"
          refine iteT ?_
          refine iteT ?_
          walk_at "x"
          refine ⟨sH, .inr ⟨k, hkn, ⟨_, rfl⟩, d, fun i hi hpi => ?_⟩⟩
          by_cases e : i = k
          · subst e
            exact fun p _ _ => by show 0 ≤ M i (Dt.cl n w p) * M i c - M i (Dt.cl n w p) * M i c; omega
          · have := hx i (by omega); omega
        · rw [decide_eq_false d]
          refine iteF ?_
          refine iteF ?_
          walk_at "x"
          refine ⟨sH, .inl ⟨⟨_, rfl⟩, fun i hi => ?_⟩⟩
          by_cases e : i = k
          · subst e; omega
          · exact hx i (by omega)
      · walk_at "x"
        refine ⟨a, A.Slate, dx, _, _, rfl, S.e, T.cl_Slate, T.n_Slate_rows, rfl, ?_⟩
        walk_at "x"
        refine x_ixXL S.rows et ?_
        walk_at "x"
        refine x_ixXL rt (row_at (by omega)) ?_
        walk_at "x"
        by_cases d : 0 < M k c
        · rw [decide_eq_true d]
          refine iteT ?_
          walk_at "x"
          refine iteF ?_
          walk_at "x"
          refine ⟨a, dx, _, rfl, S.e, rfl, ?_⟩
          walk_at "x"
          refine ⟨a, n, w, k, r, c, z, M, s, bs, sg, dx, ps, pr, pb, rs, rfl, S, hw, hn, hz, hkn, hrn, hc, fun b hb1 hb2 H2 s2 => ?_⟩
          have sH2 := sH.trans s2
          cases b with
          | true =>
            refine ⟨_, rfl, iteT ?_⟩
            walk_at "x"
            have l1 := hb1 rfl
            refine ⟨sH2, .inr ⟨k, hkn, ⟨_, rfl⟩, d, fun i hi hpi => ?_⟩⟩
            by_cases e : i = k
            · subst e
              exact fun p _ _ => by show 0 ≤ M i (Dt.cl n w p) * M i c - M i (Dt.cl n w p) * M i c; omega
            · exact first_trans hp d (n + 1) l1 hpi (hx i (by omega) hpi)
          | false =>
            refine ⟨_, rfl, iteF ?_⟩
            walk_at "x"
            have l1 := hb2 rfl
            refine ⟨sH2, .inr ⟨r, hrn, ⟨_, rfl⟩, hp, fun i hi hpi => ?_⟩⟩
            by_cases e : i = k
            · subst e; exact l1
            · exact hx i (by omega) hpi
        · rw [decide_eq_false d]
          refine iteF ?_
          refine iteF ?_
          walk_at "x"
          refine ⟨sH, .inr ⟨r, hrn, ⟨_, rfl⟩, hp, fun i hi hpi => ?_⟩⟩
          by_cases e : i = k
          · subst e; omega
          · exact hx i (by omega) hpi
    · rintro σ' H' ⟨sH, hI⟩
      rw [Int.toNat_natCast] at hI
      rcases hI with ⟨⟨v3, rfl⟩, hx⟩ | ⟨r, hrn, ⟨v3, rfl⟩, hp, hx⟩
      · walk_at "x"
        exact (kN hx).go sH
      · walk_at "x"
        exact (kS r hrn hp hx).go sH

/-! ### Slate_climb -/
def sp_Slate_climb (A : Ads) (K : PySem.W.Frag) : Sp := fun vs H Q _ => ∃ (a : Addr) (n w z : Nat) (C : Nat → Nat → Int) (D G : Nat → Int) (M : Nat → Nat → Int) (s : Int) (bs : List Nat) (sg : List Int) (dx ps pr pb : Addr) (rs : List Addr) (B : Hp) (cs : Cells), vs = [.ref a] ∧
  Own B ((a, .ins A.Slate dx (slF w ps pr pb s)) :: (pb, .lst (bs.map vnat)) :: cs) H ∧ SlB B n w M sg ps pr rs ∧ Dt.InvW n w C D G bs M s ∧ Dt.Feas n w M ∧ (∀ bs M s, Dt.InvW n w C D G bs M s → Siz z n w M s) ∧ w ≤ 1000 ∧ n ≤ 8 ∧
  ∀ (B' H' : Hp) (pr' : Addr) (rs' : List Addr) (bs' : List Nat) (M' : Nat → Nat → Int) (s' : Int), Same B B' → Own B' ((a, .ins A.Slate dx (slF w ps pr' pb s')) :: (pb, .lst (bs'.map vnat)) :: cs) H' → SlB B' n w M' sg ps pr' rs' → Dt.InvW n w C D G bs' M' s' → Dt.Feas n w M' →
    (ComeNo n w M' → Q .non H') ∧ (∀ v, ComeAt n w M' v → (∀ k, k < n → M' k v ≤ 0) → Q (.int (v : Int)) H')
theorem sl_at {C a dx ps pr pb : Addr} {B' H' : Hp} {ds : Cells} {n w : Nat} {sg : List Int} {rs : List Addr} {bs : List Nat} {M : Nat → Nat → Int} {s : Int} (w0 : Own B' ((a, .ins C dx (slF w ps pr pb s)) :: (pb, .lst (bs.map vnat)) :: ds) H') (SB : SlB B' n w M sg ps pr rs) (h : bs.length = n) : SlAt C H' a n w M s bs sg dx ps pr pb rs :=
  ⟨w0.get 0 rfl, w0.get 1 rfl, h, SB.same w0.ex⟩
theorem ok_Slate_climb (T : Txt K mg A) : FnOk P w K mg base (L2.CX P w) 3 A.a_Slate_climb A.d_Slate_climb ["self"] (sp_Slate_climb A K) := by
  refine T.F_Slate_climb.okX sc_Slate_climb (fun vs H Q E h => ?_) (fun cdv A0 outer st H vs Q E hr h => ?_)
  · obtain ⟨a, n, w, z, C, D, G, M, s, bs, sg, dx, ps, pr, pb, rs, B, cs, rfl, _⟩ := h; rfl
  · obtain ⟨a, n, w, z, C, D, G, M, s, bs, sg, dx, ps, pr, pb, rs, B, cs, rfl, w0, SB, I, F, hZ, hw, hn, k⟩ := h
    have S0 := sl_at w0 SB I.len
    refine ⟨_, (pss_cons (ps_set (i := 1) sc_Slate_climb.nd rfl (.inl rfl) (pe_meth0 (pv 0) T.cl_Slate T.m_Slate_come_in (ok_Slate_come_in T) (hr.mono (by decide)) T.b_Slate_come_in .nil (passes_call (takes_of rfl rfl rfl rfl) (fun _ _ _ _ h => h))))
      (pss_cons (ps_while (passes_of rfl) (pt_cmpR op_notNX (pv 1) pe_non (nomark _)) (pss_cons (ps_set (i := 2) sc_Slate_climb.nd rfl (.inl rfl) (pe_meth (pv 0) T.cl_Slate T.m_Slate_go_out (ok_Slate_go_out T) (hr.mono (by decide)) T.b_Slate_go_out .nil (passes_call (takes_of rfl rfl rfl rfl) (fun _ _ _ _ h => h)) (pa_cons (pv 1) pa_nil)))
      (pss_cons (ps_if (pt_cmpR op_isNX (pv 2) pe_non (nomark _)) (pss_one (ps_ret (pv 1))) pss_nil)
      (pss_cons (ps_expr (pe_meth (pv 0) T.cl_Slate T.m_Slate_turn (ok_Slate_turn T) (hr.mono (by decide)) T.b_Slate_turn .nil (passes_call (takes_of rfl rfl rfl rfl) (fun _ _ _ _ h => h)) (pa_cons (pv 2) (pa_cons (pv 1) pa_nil))))
      (pss_one (ps_set (i := 1) sc_Slate_climb.nd rfl (.inl rfl) (pe_meth0 (pv 0) T.cl_Slate T.m_Slate_come_in (ok_Slate_come_in T) (hr.mono (by decide)) T.b_Slate_come_in .nil (passes_call (takes_of rfl rfl rfl rfl) (fun _ _ _ _ h => h)))))))))
      (pss_one (ps_ret pe_non)))), ?_⟩
    let St : V → Nat → Hp → Prop := fun v m H' => ∃ (B' : Hp) (pr' : Addr) (rs' : List Addr) (bs' : List Nat) (M' : Nat → Nat → Int) (s' : Int), Same B B' ∧ Own B' ((a, .ins A.Slate dx (slF w ps pr' pb s')) :: (pb, .lst (bs'.map vnat)) :: cs) H' ∧ SlB B' n w M' sg ps pr' rs' ∧ Dt.InvW n w C D G bs' M' s' ∧ Dt.Feas n w M' ∧ m = Dt.muB n w (Dt.stV n w C D G (Dt.sgnF D)) bs' ∧ (v = .non ∧ ComeNo n w M' ∨ ∃ u : Nat, v = .int (u : Int) ∧ ComeAt n w M' u)
    refine x_seqJ (fun σ' H' => ∃ v1 m, σ' = [some (.ref a), some v1, none] ∧ St v1 m H') ?_ (fun J => ?_)
    · rintro σ' H' ⟨v1, m0, rfl, hSt⟩
      walk_at "x"
      refine x_while (fun m σ' H' => ∃ v1 v2, σ' = [some (.ref a), some v1, v2] ∧ St v1 m H') m0 ⟨v1, none, rfl, hSt⟩ ?_
      rintro m σ' H' ⟨v1, v2, rfl, B', pr', rs', bs', M', s', sB, w1, SB1, I1, F1, rfl, hv⟩
      have S1 := sl_at w1 SB1 I1.len
      walk_at "x"
      rcases hv with ⟨rfl, cn⟩ | ⟨u, rfl, cu⟩
      · refine iteF ?_
        walk_at "x"
        exact (k B' H' pr' rs' bs' M' s' sB w1 SB1 I1 F1).1 cn
      · refine iteT ?_
        refine x_N ?_
        walk_at "x"
        refine ⟨a, dx, _, rfl, S1.e, rfl, ?_⟩
        walk_at "x"
        refine ⟨a, n, w, u, z, M', s', bs', sg, dx, ps, pr', pb, rs', rfl, S1, hw, hn, hZ _ _ _ I1, cu.lt, fun r hr hp hf H2 s2 => ?_, fun hall H2 s2 => ?_⟩
        · have w2 := w1.ext s2
          walk_at "x"
          refine iteF ?_
          walk_at "x"
          refine ⟨a, dx, _, rfl, w2.get 0 rfl, rfl, ?_⟩
          walk_at "x"
          refine ⟨a, n, w, r, u, z, M', s', bs', sg, dx, ps, pr', pb, rs', B', cs, rfl, w2, SB1, I1.len, hZ _ _ _ I1, I1.pos, hw, hn, hr, cu.lt, fun B3 H3 pr3 rs3 sB3 w3 SB3 => ?_⟩
          have I3 := I1.turn hr (by have := cu.lt; omega) hp
          have F3 := I1.feas F1 hr (by have := cu.lt; omega) hp hf
          have mu := I1.step (Dt.stV_start _) F1 hr (by have := cu.lt; omega) hp (cu.why.imp id fun h => h.2)
          have S3 := sl_at w3 SB3 I3.len
          walk_at "x"
          refine ⟨a, dx, _, rfl, S3.e, rfl, ?_⟩
          refine ⟨a, n, w, _, _, _, sg, dx, ps, pr3, pb, rs3, rfl, S3, hw, fun v hv H4 s4 => ?_, fun hv H4 s4 => ?_⟩
          · walk_at "x"
            exact ⟨_, mu, _, _, rfl, B3, pr3, rs3, _, _, _, sB.trans sB3, w3.ext s4, SB3, I3, F3, rfl, .inr ⟨v, rfl, hv⟩⟩
          · walk_at "x"
            exact ⟨_, mu, _, _, rfl, B3, pr3, rs3, _, _, _, sB.trans sB3, w3.ext s4, SB3, I3, F3, rfl, .inl ⟨rfl, hv⟩⟩
        · have w2 := w1.ext s2
          walk_at "x"
          refine iteT ?_
          walk_at "x"
          exact (k B' H2 pr' rs' bs' M' s' sB w2 SB1 I1 F1).2 u cu hall
    · refine x_asg ?_
      walk_at "x"
      refine ⟨a, dx, _, rfl, S0.e, rfl, ?_⟩
      refine ⟨a, n, w, M, s, bs, sg, dx, ps, pr, pb, rs, rfl, S0, hw, fun v hv H1 s1 => ?_, fun hv H1 s1 => ?_⟩
      · exact J _ _ ⟨_, _, rfl, B, pr, rs, bs, M, s, Same.refl B, w0.ext s1, SB, I, F, rfl, .inr ⟨v, rfl, hv⟩⟩
      · exact J _ _ ⟨_, _, rfl, B, pr, rs, bs, M, s, Same.refl B, w0.ext s1, SB, I, F, rfl, .inl ⟨rfl, hv⟩⟩

/-! ### Slate_told_weights -/
def sp_Slate_told_weights (A : Ads) (K : PySem.W.Frag) : Sp := fun vs H Q _ => ∃ (a : Addr) (n w z : Nat) (M : Nat → Nat → Int) (s : Int) (bs : List Nat) (sg : List Int) (dx ps pr pb : Addr) (rs : List Addr), vs = [.ref a] ∧ SlAt A.Slate H a n w M s bs sg dx ps pr pb rs ∧ Siz z n w M s ∧ 0 < s ∧ w ≤ 1000 ∧ n ≤ 8 ∧ (∀ k j, k < n → j < n → bs.getD k 0 = bs.getD j 0 → k = j) ∧
  RetFs ((List.range w).map fun j => shortM (Dt.hold n bs (fun k => M k (w + n)) j) s) H Q
theorem ok_Slate_told_weights (T : Txt K mg A) : FnOk P w K mg base (L2.CX P w) 4 A.a_Slate_told_weights A.d_Slate_told_weights ["self"] (sp_Slate_told_weights A K) := by
  refine T.F_Slate_told_weights.okX sc_Slate_told_weights (fun vs H Q E h => ?_) (fun cdv A0 outer st H vs Q E hr h => ?_)
  · obtain ⟨a, n, w, z, M, s, bs, sg, dx, ps, pr, pb, rs, rfl, _⟩ := h; rfl
  · obtain ⟨a, n, w0, z, M, s, bs, sg, dx, ps, pr, pb, rs, rfl, S, hz, hs, hw, hn, hinj, k⟩ := h
    rw [show ((List.range w0).map fun j => shortM (Dt.hold n bs (fun k => M k (w0 + n)) j) s) = fsTo w0 (fun _ => 0) bs (fun k => M k (w0 + n)) s n from List.map_congr_left fun j _ => by rw [Int.zero_add]] at k
    have inj : ∀ i, i < n → ∀ k, k < i → bs.getD k 0 ≠ bs.getD i 0 := fun i hi k hk e => by have := hinj k i (by omega) hi e; omega
    refine ⟨_, (pss_cons (ps_set (i := 1) sc_Slate_told_weights.nd rfl (.inl rfl) (pe_op op_mulX (pe_lst (pa_cons (pe_tup (pa_cons pe_int (pa_cons pe_int pa_nil))) pa_nil)) (pe_fldK (K := K) rfl (pv 0) rfl)))
      (pss_cons (ps_for (passes_of rfl) rfl (pi_range1 (by rfl) T.z_range (pa_cons (pe_callB (call_lenK (K := K) rfl) (by rfl) T.z_len (by decide +kernel) (pa_cons (pe_fldK (K := K) rfl (pv 0) rfl) pa_nil)) pa_nil)) (pg_name (i := 2) sc_Slate_told_weights.nd rfl (.inl rfl)) (pss_one (ps_if (pt_cmpR op_ltX (pe_ix (ix_seqK (K := K) rfl) (pe_fldK (K := K) rfl (pv 0) rfl) (pv 2) (fun _ _ => rfl)) (pe_fldK (K := K) rfl (pv 0) rfl) (nomark _)) (pss_one (ps_asg (pe_call (ok_fraction T) (hr.mono (by decide)) (by rfl) T.g_fraction T.F_fraction.kp T.b_fraction .nil (passes_call (takes_of rfl rfl rfl rfl) (fun _ _ _ _ h => h)) (pa_cons (pe_ix (ix_seqK (K := K) rfl) (pe_ix (ix_seqK (K := K) rfl) (pe_fldK (K := K) rfl (pv 0) rfl) (pv 2) (fun _ _ => rfl)) (pe_un un_neg pe_int) (fun _ _ => rfl)) (pa_cons (pe_fldK (K := K) rfl (pv 0) rfl) pa_nil))) (pg_sub (pv 1) (pe_ix (ix_seqK (K := K) rfl) (pe_fldK (K := K) rfl (pv 0) rfl) (pv 2) (fun _ _ => rfl)) set_list))) pss_nil)))
      (pss_one (ps_ret (pv 1))))), ?_⟩
    walk_at "x"
    refine ⟨(by show 2 ≤ sizeLine; decide), fun p0 n0 => ?_⟩
    have w1 := (Own.start (H := H)).new (o := .tup (frV (0, 1))) n0
    refine ⟨(by show 1 ≤ sizeLine; decide), fun p1 n1 => ?_⟩
    have w2 := w1.new (o := .lst [.ref p0]) n1
    walk_at "x"
    refine ⟨a, A.Slate, dx, _, _, rfl, w2.ex _ _ S.e, T.cl_Slate, T.n_Slate_wide, rfl, ?_⟩
    refine x_mulL (w2.get 0 rfl) ⟨by omega, by omega, ?_⟩ (fun p2 n2 => ?_)
    · rw [Int.toNat_natCast]
      exact Nat.le_trans (show 1 * w0 ≤ 1000 by omega) (by decide)
    rw [Int.toNat_natCast, rep_refs]
    have w3 := w2.new (o := .lst ((List.replicate w0 p0).map V.ref)) n2
    have w3 := (w3.sub (ds := [(p2, .lst ((List.replicate w0 p0).map V.ref)), (p0, .tup (frV (0, 1)))]) (.cons_cons _ (.cons _ (.cons_cons _ .slnil)))).perm2 (ds := [(p0, .tup (frV (0, 1))), (p2, .lst ((List.replicate w0 p0).map V.ref))]) (List.Perm.swap _ _ _)
    have nB0 := w3.none 0 rfl
    have w3 := w3.freeze
    have sB0 := same_upd (o := .tup (frV (0, 1))) nB0
    have A0 : FrAll (upd H p0 (.tup (frV (0, 1)))) (List.replicate w0 p0) (List.replicate w0 (0, 1)) := FrAll.rep w0 upd_same
    have f0 : ∀ t ∈ List.replicate w0 p0, H t = none := fun t ht => by rw [(List.mem_replicate.mp ht).2]; exact nB0
    walk_at "x"
    refine ⟨a, A.Slate, dx, _, _, rfl, w3.ex _ _ (sB0 _ _ S.e), T.cl_Slate, T.n_Slate_base, rfl, ?_⟩
    refine x_nil ?_
    refine x_lenL (S.same (sB0.trans w3.ex)).base ?_
    rw [List.length_map, S.hl]
    refine ⟨_, rfl, by omega, by omega, for_r0 (n := (n : Int)) (fun i σ' H' => ∃ (B' : Hp) (us : List Addr), (∃ v2, σ' = [some (.ref a), some (.ref p2), v2]) ∧ Same H B' ∧ (∀ t ∈ us, H t = none) ∧ FrAll B' us (fsTo w0 (fun _ => 0) bs (fun k => M k (w0 + n)) s i) ∧ Own B' [(p2, .lst (us.map V.ref))] H') ⟨_, _, ⟨_, rfl⟩, sB0, f0, by rw [fsTo_zero hs]; exact A0, w3⟩ ?_ ?_⟩
    · rintro i σ' H' hi ⟨B', us, ⟨v2, rfl⟩, sB, hf, hA, w⟩
      have hin : i < n := by omega
      have hul : us.length = w0 := by rw [hA.len, fsTo_len]
      have S2 := S.same (sB.trans w.ex)
      obtain ⟨t, _, et, rt⟩ := S2.at (K := K) (show i < n + 2 by omega)
      walk_at "x"
      refine ⟨a, A.Slate, dx, _, _, rfl, S2.e, T.cl_Slate, T.n_Slate_base, rfl, ?_⟩
      walk_at "x"
      refine x_ixXL S2.base (base_at (by rw [S.hl]; exact hin)) ?_
      walk_at "x"
      refine ⟨a, A.Slate, dx, _, _, rfl, S2.e, T.cl_Slate, T.n_Slate_wide, rfl, ?_⟩
      walk_at "x"
      by_cases c : bs.getD i 0 < w0
      · rw [decide_eq_true (show ((bs.getD i 0 : Nat) : Int) < (w0 : Int) by omega)]
        refine iteT ?_
        walk_at "x"
        refine ⟨a, A.Slate, dx, _, _, rfl, S2.e, T.cl_Slate, T.n_Slate_rows, rfl, ?_⟩
        walk_at "x"
        refine x_ixXL S2.rows et ?_
        walk_at "x"
        refine x_ixXL rt row_last ?_
        walk_at "x"
        refine ⟨a, A.Slate, dx, _, _, rfl, S2.e, T.cl_Slate, T.n_Slate_share, rfl, ?_⟩
        walk_at "x"
        refine u_fraction (B := z) ⟨by have := hz.c1; omega, hz.row i (by omega) _ (Nat.le_refl _), hz.sh⟩ (by omega) fun t H7 n7 s7 c7 => ?_
        have w7 := w.newE n7 s7 c7
        have nB := w7.none 0 rfl
        have w7 := w7.freeze
        have sB7 := same_upd (o := .tup (frV (shortM (M i (w0 + n)) s))) nB
        have S3 := S.same ((sB.trans sB7).trans w7.ex)
        walk_at "x"
        refine ⟨a, A.Slate, dx, _, _, rfl, S3.e, T.cl_Slate, T.n_Slate_base, rfl, ?_⟩
        walk_at "x"
        refine x_ixXL S3.base (base_at (by rw [S.hl]; exact hin)) ?_
        refine x_setL (w7.get 0 rfl) (j := bs.getD i 0) (by rw [List.length_map]; exact ixN_int (by omega) (by omega)) ?_
        rw [show (us.map V.ref).set (bs.getD i 0) (.ref t) = (us.set (bs.getD i 0) t).map V.ref from List.map_set.symm]
        refine ⟨_, us.set (bs.getD i 0) t, ⟨_, rfl⟩, sB.trans sB7, fun u hu => ?_, ?_, w7.put (o' := .lst ((us.set (bs.getD i 0) t).map V.ref)) 0 rfl⟩
        · rcases List.mem_or_eq_of_mem_set hu with h | h
          · exact hf u h
          · rw [h]; exact sB.free nB
        · rw [fsTo_step c rfl (inj i hin)]
          exact (hA.same sB7).put upd_same
      · rw [decide_eq_false (show ¬ ((bs.getD i 0 : Nat) : Int) < (w0 : Int) by omega)]
        refine iteF ?_
        walk_at "x"
        exact ⟨B', us, ⟨_, rfl⟩, sB, hf, by rw [fsTo_skip c]; exact hA, w⟩
    · rintro σ' H' ⟨B', us, ⟨v2, rfl⟩, sB, hf, hA, w⟩
      rw [Int.toNat_natCast] at hA
      walk_at "x"
      exact k p2 us H' (sB.free (w.none 0 rfl)) hf (sB.trans w.ex) (w.get 0 rfl) (hA.same w.ex)

/-! ### Slate_told_way -/
def sp_Slate_told_way (A : Ads) (K : PySem.W.Frag) : Sp := fun vs H Q _ => ∃ (a : Addr) (n w z v : Nat) (M : Nat → Nat → Int) (s : Int) (bs : List Nat) (sg : List Int) (dx ps pr pb : Addr) (rs : List Addr), vs = [.ref a, .int (v : Int)] ∧ SlAt A.Slate H a n w M s bs sg dx ps pr pb rs ∧ Siz z n w M s ∧ 0 < s ∧ w ≤ 1000 ∧ n ≤ 8 ∧ v < w ∧ (∀ k j, k < n → j < n → bs.getD k 0 = bs.getD j 0 → k = j) ∧ (∀ k, k < n → bs.getD k 0 ≠ v) ∧
  RetFs ((List.range w).map fun j => shortM (Dt.wayW n bs M s v j) s) H Q
theorem ok_Slate_told_way (T : Txt K mg A) : FnOk P w K mg base (L2.CX P w) 4 A.a_Slate_told_way A.d_Slate_told_way ["self", "to"] (sp_Slate_told_way A K) := by
  refine T.F_Slate_told_way.okX sc_Slate_told_way (fun vs H Q E h => ?_) (fun cdv A0 outer st H vs Q E hr h => ?_)
  · obtain ⟨a, n, w, z, v, M, s, bs, sg, dx, ps, pr, pb, rs, rfl, _⟩ := h; rfl
  · obtain ⟨a, n, w0, z, v, M, s, bs, sg, dx, ps, pr, pb, rs, rfl, S, hz, hs, hw, hn, hv, hinj, hout, k⟩ := h
    rw [show ((List.range w0).map fun j => shortM (Dt.wayW n bs M s v j) s) = fsTo w0 (fun j => if j = v then s else 0) bs (fun k => -M k v) s n from rfl] at k
    have inj : ∀ i, i < n → ∀ k, k < i → bs.getD k 0 ≠ bs.getD i 0 := fun i hi k hk e => by have := hinj k i (by omega) hi e; omega
    refine ⟨_, (pss_cons (ps_set (i := 2) sc_Slate_told_way.nd rfl (.inl rfl) (pe_op op_mulX (pe_lst (pa_cons (pe_tup (pa_cons pe_int (pa_cons pe_int pa_nil))) pa_nil)) (pe_fldK (K := K) rfl (pv 0) rfl)))
      (pss_cons (ps_asg (pe_tup (pa_cons pe_int (pa_cons pe_int pa_nil))) (pg_sub (pv 2) (pv 1) set_list))
      (pss_cons (ps_for (passes_of rfl) rfl (pi_range1 (by rfl) T.z_range (pa_cons (pe_callB (call_lenK (K := K) rfl) (by rfl) T.z_len (by decide +kernel) (pa_cons (pe_fldK (K := K) rfl (pv 0) rfl) pa_nil)) pa_nil)) (pg_name (i := 3) sc_Slate_told_way.nd rfl (.inl rfl)) (pss_one (ps_if (pt_cmpR op_ltX (pe_ix (ix_seqK (K := K) rfl) (pe_fldK (K := K) rfl (pv 0) rfl) (pv 3) (fun _ _ => rfl)) (pe_fldK (K := K) rfl (pv 0) rfl) (nomark _)) (pss_one (ps_asg (pe_call (ok_fraction T) (hr.mono (by decide)) (by rfl) T.g_fraction T.F_fraction.kp T.b_fraction .nil (passes_call (takes_of rfl rfl rfl rfl) (fun _ _ _ _ h => h)) (pa_cons (pe_op op_subX pe_int (pe_ix (ix_seqK (K := K) rfl) (pe_ix (ix_seqK (K := K) rfl) (pe_fldK (K := K) rfl (pv 0) rfl) (pv 3) (fun _ _ => rfl)) (pv 1) (fun _ _ => rfl))) (pa_cons (pe_fldK (K := K) rfl (pv 0) rfl) pa_nil))) (pg_sub (pv 2) (pe_ix (ix_seqK (K := K) rfl) (pe_fldK (K := K) rfl (pv 0) rfl) (pv 3) (fun _ _ => rfl)) set_list))) pss_nil)))
      (pss_one (ps_ret (pv 2)))))), ?_⟩
    walk_at "x"
    refine ⟨(by show 2 ≤ sizeLine; decide), fun p0 n0 => ?_⟩
    have w1 := (Own.start (H := H)).new (o := .tup (frV (0, 1))) n0
    refine ⟨(by show 1 ≤ sizeLine; decide), fun p1 n1 => ?_⟩
    have w2 := w1.new (o := .lst [.ref p0]) n1
    walk_at "x"
    refine ⟨a, A.Slate, dx, _, _, rfl, w2.ex _ _ S.e, T.cl_Slate, T.n_Slate_wide, rfl, ?_⟩
    refine x_mulL (w2.get 0 rfl) ⟨by omega, by omega, ?_⟩ (fun p2 n2 => ?_)
    · rw [Int.toNat_natCast]
      exact Nat.le_trans (show 1 * w0 ≤ 1000 by omega) (by decide)
    rw [Int.toNat_natCast, rep_refs]
    have w3 := w2.new (o := .lst ((List.replicate w0 p0).map V.ref)) n2
    have w3 := (w3.sub (ds := [(p2, .lst ((List.replicate w0 p0).map V.ref)), (p0, .tup (frV (0, 1)))]) (.cons_cons _ (.cons _ (.cons_cons _ .slnil)))).perm2 (ds := [(p0, .tup (frV (0, 1))), (p2, .lst ((List.replicate w0 p0).map V.ref))]) (List.Perm.swap _ _ _)
    have nB0 := w3.none 0 rfl
    have w3 := w3.freeze
    have sB0 := same_upd (o := .tup (frV (0, 1))) nB0
    have A0 : FrAll (upd H p0 (.tup (frV (0, 1)))) (List.replicate w0 p0) (List.replicate w0 (0, 1)) := FrAll.rep w0 upd_same
    have f0 : ∀ t ∈ List.replicate w0 p0, H t = none := fun t ht => by rw [(List.mem_replicate.mp ht).2]; exact nB0
    walk_at "x"
    refine ⟨(by show 2 ≤ sizeLine; decide), fun p4 n4 => ?_⟩
    have w4 := w3.new (o := .tup (frV (1, 1))) n4
    have nB4 := w4.none 0 rfl
    have w4 := w4.freeze
    have sB4 := same_upd (o := .tup (frV (1, 1))) nB4
    walk_at "x"
    refine x_setL (w4.get 0 rfl) (j := v) (by rw [List.length_map, List.length_replicate]; exact ixN_int (by omega) (by omega)) ?_
    rw [show ((List.replicate w0 p0).map V.ref).set v (.ref p4) = ((List.replicate w0 p0).set v p4).map V.ref from List.map_set.symm]
    have w5 := w4.put (o' := .lst (((List.replicate w0 p0).set v p4).map V.ref)) 0 rfl
    have A5 := (A0.same sB4).put (j := v) (t := p4) (f := (1, 1)) upd_same
    have f5 : ∀ t ∈ (List.replicate w0 p0).set v p4, H t = none := fun t ht => by
      rcases List.mem_or_eq_of_mem_set ht with h | h
      · exact f0 t h
      · rw [h]; exact sB0.free nB4
    have sB5 := sB0.trans sB4
    walk_at "x"
    refine ⟨a, A.Slate, dx, _, _, rfl, w5.ex _ _ (sB5 _ _ S.e), T.cl_Slate, T.n_Slate_base, rfl, ?_⟩
    refine x_nil ?_
    refine x_lenL (S.same (sB5.trans w5.ex)).base ?_
    rw [List.length_map, S.hl]
    refine ⟨_, rfl, by omega, by omega, for_r0 (n := (n : Int)) (fun i σ' H' => ∃ (B' : Hp) (us : List Addr), (∃ v2, σ' = [some (.ref a), some (.int (v : Int)), some (.ref p2), v2]) ∧ Same H B' ∧ (∀ t ∈ us, H t = none) ∧ FrAll B' us (fsTo w0 (fun j => if j = v then s else 0) bs (fun k => -M k v) s i) ∧ Own B' [(p2, .lst (us.map V.ref))] H') ⟨_, _, ⟨_, rfl⟩, sB5, f5, by rw [fsTo_way hs]; exact A5, w5⟩ ?_ ?_⟩
    · rintro i σ' H' hi ⟨B', us, ⟨v2, rfl⟩, sB, hf, hA, w⟩
      have hin : i < n := by omega
      have hul : us.length = w0 := by rw [hA.len, fsTo_len]
      have S2 := S.same (sB.trans w.ex)
      obtain ⟨t, _, et, rt⟩ := S2.at (K := K) (show i < n + 2 by omega)
      walk_at "x"
      refine ⟨a, A.Slate, dx, _, _, rfl, S2.e, T.cl_Slate, T.n_Slate_base, rfl, ?_⟩
      walk_at "x"
      refine x_ixXL S2.base (base_at (by rw [S.hl]; exact hin)) ?_
      walk_at "x"
      refine ⟨a, A.Slate, dx, _, _, rfl, S2.e, T.cl_Slate, T.n_Slate_wide, rfl, ?_⟩
      walk_at "x"
      by_cases c : bs.getD i 0 < w0
      · rw [decide_eq_true (show ((bs.getD i 0 : Nat) : Int) < (w0 : Int) by omega)]
        refine iteT ?_
        walk_at "x"
        refine ⟨a, A.Slate, dx, _, _, rfl, S2.e, T.cl_Slate, T.n_Slate_rows, rfl, ?_⟩
        walk_at "x"
        refine x_ixXL S2.rows et ?_
        walk_at "x"
        refine x_ixXL rt (row_at (by omega)) ?_
        walk_at "x"
        refine ⟨a, A.Slate, dx, _, _, rfl, S2.e, T.cl_Slate, T.n_Slate_share, rfl, ?_⟩
        walk_at "x"
        rw [Int.zero_sub]
        refine u_fraction (B := z) ⟨by have := hz.c1; omega, by rw [Int.natAbs_neg]; exact hz.row i (by omega) _ (by omega), hz.sh⟩ (by omega) fun t H7 n7 s7 c7 => ?_
        have w7 := w.newE n7 s7 c7
        have nB := w7.none 0 rfl
        have w7 := w7.freeze
        have sB7 := same_upd (o := .tup (frV (shortM (-M i v) s))) nB
        have S3 := S.same ((sB.trans sB7).trans w7.ex)
        walk_at "x"
        refine ⟨a, A.Slate, dx, _, _, rfl, S3.e, T.cl_Slate, T.n_Slate_base, rfl, ?_⟩
        walk_at "x"
        refine x_ixXL S3.base (base_at (by rw [S.hl]; exact hin)) ?_
        refine x_setL (w7.get 0 rfl) (j := bs.getD i 0) (by rw [List.length_map]; exact ixN_int (by omega) (by omega)) ?_
        rw [show (us.map V.ref).set (bs.getD i 0) (.ref t) = (us.set (bs.getD i 0) t).map V.ref from List.map_set.symm]
        refine ⟨_, us.set (bs.getD i 0) t, ⟨_, rfl⟩, sB.trans sB7, fun u hu => ?_, ?_, w7.put (o' := .lst ((us.set (bs.getD i 0) t).map V.ref)) 0 rfl⟩
        · rcases List.mem_or_eq_of_mem_set hu with h | h
          · exact hf u h
          · rw [h]; exact sB.free nB
        · rw [fsTo_step c (if_neg (hout i hin)) (inj i hin)]
          exact (hA.same sB7).put upd_same
      · rw [decide_eq_false (show ¬ ((bs.getD i 0 : Nat) : Int) < (w0 : Int) by omega)]
        refine iteF ?_
        walk_at "x"
        exact ⟨B', us, ⟨_, rfl⟩, sB, hf, by rw [fsTo_skip c]; exact hA, w⟩
    · rintro σ' H' ⟨B', us, ⟨v2, rfl⟩, sB, hf, hA, w⟩
      rw [Int.toNat_natCast] at hA
      walk_at "x"
      exact k p2 us H' (sB.free (w.none 0 rfl)) hf (sB.trans w.ex) (w.get 0 rfl) (hA.same w.ex)

/-! ### Slate_told_prices -/
def sp_Slate_told_prices (A : Ads) (K : PySem.W.Frag) : Sp := fun vs H Q _ => ∃ (a : Addr) (n w z : Nat) (g h : Int) (Dv : Nat → Int) (M : Nat → Nat → Int) (s : Int) (bs : List Nat) (dx ps pr pb : Addr) (rs : List Addr), vs = [.ref a, .int g, .int h] ∧ SlAt A.Slate H a n w M s bs (tl n (Dt.sgnF Dv)) dx ps pr pb rs ∧ Siz z n w M s ∧ 0 < s ∧ w ≤ 1000 ∧ n ≤ 8 ∧ g.natAbs ≤ 1 ∧ h.natAbs ≤ 2 ^ z ∧
  RetFs (tl2 n fun i => shortM (Dt.priceY n w Dv M s g h i) s) H Q
theorem price_bits {z n w : Nat} {Dv : Nat → Int} {M : Nat → Nat → Int} {s g h : Int} (hz : Siz z n w M s) (hg : g.natAbs ≤ 1) (hh : h.natAbs ≤ 2 ^ z) {i : Nat} (hi : i < n) :
    ((g * M (n + 1) (w + i) + h * (M n (w + i) - s)).natAbs < 2 ^ (z + z + 3)) ∧ (M n (w + i) - s).natAbs < 2 ^ (z + 1) := by
  have a1 := hz.row (n + 1) (by omega) (w + i) (by omega)
  have a2 := hz.row n (by omega) (w + i) (by omega)
  have a3 := hz.sh
  have e1 : (g * M (n + 1) (w + i)).natAbs ≤ 2 ^ z := by
    rw [Int.natAbs_mul]
    have := Nat.mul_le_mul hg (Nat.le_of_lt a1)
    omega
  have e2 : (M n (w + i) - s).natAbs < 2 ^ (z + 1) := by
    have := Int.natAbs_sub_le (M n (w + i)) s
    rw [Nat.pow_succ]
    omega
  have e3 : (h * (M n (w + i) - s)).natAbs ≤ 2 ^ (z + (z + 1)) := by
    rw [Int.natAbs_mul, Nat.pow_add]
    exact Nat.mul_le_mul hh (Nat.le_of_lt e2)
  refine ⟨?_, e2⟩
  have e4 := Int.natAbs_add_le (g * M (n + 1) (w + i)) (h * (M n (w + i) - s))
  have e5 : 2 ^ z ≤ 2 ^ (z + (z + 1)) := Nat.pow_le_pow_right (by decide) (by omega)
  have e6 : 2 ^ (z + z + 3) = 4 * 2 ^ (z + (z + 1)) := by
    rw [show z + z + 3 = (z + (z + 1)) + 2 by omega, Nat.pow_add]
    omega
  have e7 : 0 < 2 ^ (z + (z + 1)) := Nat.two_pow_pos _
  omega
theorem ok_Slate_told_prices (T : Txt K mg A) : FnOk P w K mg base (L2.CX P w) 4 A.a_Slate_told_prices A.d_Slate_told_prices ["self", "gained", "short"] (sp_Slate_told_prices A K) := by
  refine T.F_Slate_told_prices.okX sc_Slate_told_prices (fun vs H Q E h => ?_) (fun cdv A0 outer st H vs Q E hr h => ?_)
  · obtain ⟨a, n, w, z, g, h, Dv, M, s, bs, dx, ps, pr, pb, rs, rfl, _⟩ := h; rfl
  · obtain ⟨a, n, w0, z, g, h, Dv, M, s, bs, dx, ps, pr, pb, rs, rfl, S, hz, hs, hw, hn, hg, hh, k⟩ := h
    refine ⟨_, (pss_cons (ps_set (i := 3) sc_Slate_told_prices.nd rfl (.inl rfl) (pe_lst pa_nil))
      (pss_cons (ps_for (passes_of rfl) rfl (pi_range2 (by rfl) T.z_range (pa_cons (pe_fldK (K := K) rfl (pv 0) rfl) (pa_cons (pe_op op_addX (pe_fldK (K := K) rfl (pv 0) rfl) (pe_callB (call_lenK (K := K) rfl) (by rfl) T.z_len (by decide +kernel) (pa_cons (pe_fldK (K := K) rfl (pv 0) rfl) pa_nil))) pa_nil))) (pg_name (i := 4) sc_Slate_told_prices.nd rfl (.inl rfl)) (pss_cons (ps_set (i := 5) sc_Slate_told_prices.nd rfl (.inl rfl) (pe_op op_addX (pe_op op_mulX (pv 1) (pe_ix (ix_seqK (K := K) rfl) (pe_ix (ix_seqK (K := K) rfl) (pe_fldK (K := K) rfl (pv 0) rfl) (pe_un un_neg pe_int) (fun _ _ => rfl)) (pv 4) (fun _ _ => rfl))) (pe_op op_mulX (pv 2) (pe_op op_subX (pe_ix (ix_seqK (K := K) rfl) (pe_ix (ix_seqK (K := K) rfl) (pe_fldK (K := K) rfl (pv 0) rfl) (pe_un un_neg pe_int) (fun _ _ => rfl)) (pv 4) (fun _ _ => rfl)) (pe_fldK (K := K) rfl (pv 0) rfl)))))
      (pss_one (ps_expr (pe_bm PySem.F.plainAttrs_list PySem.F.slot_list_append PySem.F.type_list_append mt_append (pv 3) (pa_cons (pe_call (ok_fraction T) (hr.mono (by decide)) (by rfl) T.g_fraction T.F_fraction.kp T.b_fraction .nil (passes_call (takes_of rfl rfl rfl rfl) (fun _ _ _ _ h => h)) (pa_cons (pe_op op_mulX (pe_ix (ix_seqK (K := K) rfl) (pe_fldK (K := K) rfl (pv 0) rfl) (pe_op op_subX (pv 4) (pe_fldK (K := K) rfl (pv 0) rfl)) (fun _ _ => rfl)) (pv 5)) (pa_cons (pe_fldK (K := K) rfl (pv 0) rfl) pa_nil))) pa_nil))))))
      (pss_one (ps_ret (pv 3))))), ?_⟩
    walk_at "x"
    refine ⟨(by show 0 ≤ sizeLine; decide), fun p0 n0 => ?_⟩
    have o0 := OwnF.start (Own.start (H := H)) n0
    have S0 := S.same o0.cell.ex
    walk_at "x"
    refine ⟨a, A.Slate, dx, _, _, rfl, S0.e, T.cl_Slate, T.n_Slate_wide, rfl, ?_⟩
    walk_at "x"
    refine ⟨a, A.Slate, dx, _, _, rfl, S0.e, T.cl_Slate, T.n_Slate_wide, rfl, ?_⟩
    walk_at "x"
    refine ⟨a, A.Slate, dx, _, _, rfl, S0.e, T.cl_Slate, T.n_Slate_base, rfl, ?_⟩
    walk_at "x"
    refine x_lenL S0.base ?_
    rw [List.length_map, S.hl]
    walk_at "x"
    refine ⟨_, _, rfl, ⟨by omega, by omega, by omega, by omega⟩, for_range (lo := (w0 : Int)) (n := ((w0 : Int) + (n : Int) - (w0 : Int)).toNat) (fun i σ' H' => (∃ v4 v5, σ' = [some (.ref a), some (.int g), some (.int h), some (.ref p0), v4, v5]) ∧ OwnF H [] p0 ((tl2 n fun i => shortM (Dt.priceY n w0 Dv M s g h i) s).take i) H') ⟨⟨_, _, rfl⟩, o0⟩ ?_ ?_⟩
    · rintro i σ' H' hi ⟨⟨v4, v5, rfl⟩, o⟩
      have hin : i < n := by omega
      have S := S.same o.cell.ex
      obtain ⟨t2, _, e2, r2⟩ := S.at2 (K := K)
      obtain ⟨t1, _, e1, r1⟩ := S.at1 (K := K)
      obtain ⟨b1, b2⟩ := price_bits (Dv := Dv) hz hg hh hin
      have zc := hz.c1
      walk_at "x"
      refine ⟨a, A.Slate, dx, _, _, rfl, S.e, T.cl_Slate, T.n_Slate_rows, rfl, ?_⟩
      walk_at "x"
      refine x_ixXL S.rows e1 ?_
      walk_at "x"
      refine x_ixXL r1 (by rw [show (w0 : Int) + (i : Int) = ((w0 + i : Nat) : Int) by omega]; exact row_at (by omega)) ?_
      refine x_mulI (mulok (n := 1) (m := z) (by omega) (hz.row (n + 1) (by omega) (w0 + i) (by omega)) (by decide) hz.c0 (by omega)) ?_
      walk_at "x"
      refine ⟨a, A.Slate, dx, _, _, rfl, S.e, T.cl_Slate, T.n_Slate_rows, rfl, ?_⟩
      walk_at "x"
      refine x_ixXL S.rows e2 ?_
      walk_at "x"
      refine x_ixXL r2 (by rw [show (w0 : Int) + (i : Int) = ((w0 + i : Nat) : Int) by omega]; exact row_at (by omega)) ?_
      walk_at "x"
      refine ⟨a, A.Slate, dx, _, _, rfl, S.e, T.cl_Slate, T.n_Slate_share, rfl, ?_⟩
      walk_at "x"
      refine x_mulI (mulok (n := z + 1) (m := z + 1) (Nat.lt_of_le_of_lt hh (Nat.pow_lt_pow_right (by decide) (by omega))) b2 (by omega) (by omega) (by omega)) ?_
      walk_at "x"
      refine ⟨.inl ⟨rfl, ?_⟩, ?_⟩
      · obtain ⟨ts, w, _, _⟩ := o.own
        exact ⟨_, w.sq 0 rfl⟩
      walk_at "x"
      refine ⟨a, A.Slate, dx, _, _, rfl, S.e, T.cl_Slate, T.n_Slate_signs, rfl, ?_⟩
      walk_at "x"
      refine ⟨a, A.Slate, dx, _, _, rfl, S.e, T.cl_Slate, T.n_Slate_wide, rfl, ?_⟩
      walk_at "x"
      refine x_ixXL S.signs (i := (w0 : Int) + (i : Int) - (w0 : Int)) (by rw [show (w0 : Int) + (i : Int) - (w0 : Int) = (i : Int) by omega, at_int (by omega) (by rw [tl_len]; omega), gi_tln hin]) ?_
      walk_at "x"
      refine x_mulI (mulok (n := 2) (m := z + z + 3) (sgn_lt Dv i) b1 (by decide) (by omega) (by omega)) ?_
      walk_at "x"
      refine ⟨a, A.Slate, dx, _, _, rfl, S.e, T.cl_Slate, T.n_Slate_share, rfl, ?_⟩
      walk_at "x"
      refine u_fraction (B := z + z + 3) ⟨by omega, by rw [sgn_abs]; exact b1, Nat.lt_trans hz.sh (Nat.pow_lt_pow_right (by decide) (by omega))⟩ (by omega) fun t H7 n7 s7 c7 => ?_
      obtain ⟨acc, ha, hl, o'⟩ := o.next (f := shortM (Dt.priceY n w0 Dv M s g h i) s) (by unfold tl2; rw [List.getElem?_map, List.getElem?_range hin] <;> rfl) (by unfold tl2; rw [List.length_map, List.length_range]; omega) n7 s7 c7
      refine x_nil ?_
      refine x_append ha hl ?_
      exact ⟨⟨_, _, rfl⟩, o'⟩
    · rintro σ' H' ⟨⟨v4, v5, rfl⟩, o⟩
      rw [show ((w0 : Int) + (n : Int) - (w0 : Int)).toNat = n by omega, List.take_of_length_le (by unfold tl2; rw [List.length_map, List.length_range]; exact Nat.le_refl _)] at o
      walk_at "x"
      exact o.ret k

/-! ### Slate_enough -/
def sp_Slate_enough (A : Ads) (K : PySem.W.Frag) : Sp := fun vs H Q _ => ∃ (a : Addr) (n w z : Nat) (M : Nat → Nat → Int) (s : Int) (bs : List Nat) (sg : List Int) (dx ps pr pb : Addr) (rs : List Addr), vs = [.ref a] ∧ SlAt A.Slate H a n w M s bs sg dx ps pr pb rs ∧ Siz z n w M s ∧ w ≤ 1000 ∧
  ∀ b : Int, 0 ≤ b → b.natAbs ≤ 2 ^ z → (∀ v, v < w → 0 < M n v → 0 ≤ M (n + 1) v + b * M n v) → RetV (.int b) H Q
theorem enough_step {x y b : Int} (h : 0 < y) (hb : -(x / y) ≤ b) : 0 ≤ x + b * y := by
  have h1 : x / y * y ≤ x := Int.ediv_mul_le x (by omega)
  have h2 : -(x / y) * y ≤ b * y := Int.mul_le_mul_of_nonneg_right hb (by omega)
  rw [Int.neg_mul] at h2
  omega
theorem div_small {x y : Int} (h : 0 < y) : (x / y).natAbs ≤ x.natAbs := by
  have := Int.natAbs_ediv_le_natAbs x y
  exact this
theorem ok_Slate_enough (T : Txt K mg A) : FnOk P w K mg base (L2.CX P w) 1 A.a_Slate_enough A.d_Slate_enough ["self"] (sp_Slate_enough A K) := by
  refine T.F_Slate_enough.okX sc_Slate_enough (fun vs H Q E h => ?_) (fun cdv A0 outer s H vs Q E hr h => ?_)
  · obtain ⟨a, n, w, z, M, s, bs, sg, dx, ps, pr, pb, rs, rfl, _⟩ := h; rfl
  · obtain ⟨a, n, w, z, M, s, bs, sg, dx, ps, pr, pb, rs, rfl, S, hz, hw, k⟩ := h
    refine ⟨_, (pss_cons (ps_set (i := 1) sc_Slate_enough.nd rfl (.inl rfl) pe_int)
      (pss_cons (ps_for (passes_of rfl) rfl (pi_range1 (by rfl) T.z_range (pa_cons (pe_fldK (K := K) rfl (pv 0) rfl) pa_nil)) (pg_name (i := 2) sc_Slate_enough.nd rfl (.inl rfl)) (pss_cons (ps_set (i := 3) sc_Slate_enough.nd rfl (.inl rfl) (pe_ix (ix_seqK (K := K) rfl) (pe_ix (ix_seqK (K := K) rfl) (pe_fldK (K := K) rfl (pv 0) rfl) (pe_un un_neg pe_int) (fun _ _ => rfl)) (pv 2) (fun _ _ => rfl)))
      (pss_one (ps_if (pt_cmpR op_gtX (pv 3) pe_int (nomark _)) (pss_one (ps_set (i := 1) sc_Slate_enough.nd rfl (.inl rfl) (pe_callB (call_max2X rfl) (by rfl) T.z_max (by decide +kernel) (pa_cons (pv 1) (pa_cons (pe_op op_subX pe_int (pe_op op_fdivX (pe_ix (ix_seqK (K := K) rfl) (pe_ix (ix_seqK (K := K) rfl) (pe_fldK (K := K) rfl (pv 0) rfl) (pe_un un_neg pe_int) (fun _ _ => rfl)) (pv 2) (fun _ _ => rfl)) (pv 3))) pa_nil))))) pss_nil))))
      (pss_one (ps_ret (pv 1))))), ?_⟩
    walk_at "x"
    refine ⟨a, A.Slate, dx, _, _, rfl, S.e, T.cl_Slate, T.n_Slate_wide, rfl, ?_⟩
    refine ⟨_, rfl, by omega, by omega, for_r0 (n := (w : Int)) (fun i σ' H' => ∃ b : Int, (∃ v2 v3, σ' = [some (.ref a), some (.int b), v2, v3]) ∧ Same H H' ∧ 0 ≤ b ∧ b.natAbs ≤ 2 ^ z ∧ ∀ v, v < i → 0 < M n v → 0 ≤ M (n + 1) v + b * M n v) ⟨0, ⟨_, _, rfl⟩, Same.refl _, Int.le_refl 0, Nat.zero_le _, fun v hv => absurd hv (Nat.not_lt_zero v)⟩ ?_ ?_⟩
    · rintro v σ' H' hv ⟨b, ⟨v2, v3, rfl⟩, sH, hb0, hb1, hx⟩
      have S := S.same sH
      obtain ⟨t2, _, e2, r2⟩ := S.at2 (K := K)
      obtain ⟨t1, _, e1, r1⟩ := S.at1 (K := K)
      walk_at "x"
      refine ⟨a, A.Slate, dx, _, _, rfl, S.e, T.cl_Slate, T.n_Slate_rows, rfl, ?_⟩
      walk_at "x"
      refine x_ixXL S.rows e2 ?_
      walk_at "x"
      refine x_ixXL r2 (row_at (by omega)) ?_
      walk_at "x"
      refine ite2 (fun c => ?_) (fun c => ?_)
      · have c := of_decide_eq_true c
        walk_at "x"
        refine ⟨a, A.Slate, dx, _, _, rfl, S.e, T.cl_Slate, T.n_Slate_rows, rfl, ?_⟩
        walk_at "x"
        refine x_ixXL S.rows e1 ?_
        walk_at "x"
        refine x_ixXL r1 (row_at (by omega)) ?_
        walk_at "x"
        have zr := hz.row n (by omega) v (by omega)
        have zg := hz.row (n + 1) (by omega) v (by omega)
        refine x_divP c (by
          have h1 : (M n v).natAbs.log2 < z := PySem.Flt.log2_lt_of hz.c0 zr
          have := hz.c1
          omega) ?_
        walk_at "x"
        have hd := div_small (x := M (n + 1) v) c
        rw [Int.zero_sub]
        have mx : ∀ y : Int, b ≤ y → ∀ u, u < v → 0 < M n u → 0 ≤ M (n + 1) u + y * M n u := fun y hy u hu hp => by
          have h1 := hx u hu hp
          have h2 := Int.mul_le_mul_of_nonneg_right hy (show 0 ≤ M n u by omega)
          omega
        by_cases d : -(M (n + 1) v / M n v) > b
        · rw [if_pos d]
          refine ⟨_, ⟨_, _, rfl⟩, sH, by omega, by omega, fun u hu hp => ?_⟩
          by_cases e : u = v
          · subst e; exact enough_step c (Int.le_refl _)
          · exact mx _ (by omega) u (by omega) hp
        · rw [if_neg d]
          refine ⟨_, ⟨_, _, rfl⟩, sH, hb0, hb1, fun u hu hp => ?_⟩
          by_cases e : u = v
          · subst e; exact enough_step c (by omega)
          · exact hx u (by omega) hp
      · have c := of_decide_eq_false (Bool.eq_false_iff.mpr c)
        walk_at "x"
        refine ⟨b, ⟨_, _, rfl⟩, sH, hb0, hb1, fun u hu hp => ?_⟩
        by_cases e : u = v
        · subst e; omega
        · exact hx u (by omega) hp
    · rintro σ' H' ⟨b, ⟨v2, v3, rfl⟩, sH, hb0, hb1, hx⟩
      rw [Int.toNat_natCast] at hx
      walk_at "x"
      exact k b hb0 hb1 hx _ sH

/-! ### weighed -/
def sp_weighed (K : PySem.W.Frag) : Sp := fun vs H Q _ => ∃ (cA dA gA : Addr) (n w x : Nat) (C : Nat → Nat → Int) (Dv G : Nat → Int) (ts : List Addr), vs = [.ref cA, .ref dA, .ref gA] ∧ ColsAt K H cA ts n w C ∧ SqL K H dA ((tl n Dv).map V.int) ∧ SqL K H gA ((tl w G).map V.int) ∧ Small3 n w x C Dv G ∧ RetWgh n w (zOf n x) C Dv G H Q
theorem ok_weighed (T : Txt K mg A) : FnOk P w K mg base (L2.CX P w) 5 A.a_weighed A.d_weighed ["columns", "due", "gains"] (sp_weighed K) := by
  refine T.F_weighed.okX sc_weighed (fun vs H Q E h => ?_) (fun cdv A0 outer st H vs Q E hr h => ?_)
  · obtain ⟨cA, dA, gA, n, w, x, C, Dv, G, ts, rfl, _⟩ := h; rfl
  · obtain ⟨cA, dA, gA, n, w, x, C, Dv, G, ts, rfl, hC, hD, hG, hZ, k⟩ := h
    have hn := hZ.n8
    have hw := hZ.w1
    have hx0 := hZ.x0
    have hbig := hZ.big
    have hx : x ≤ 4400 := by
      have : 1 * (x + 3) ≤ (n + 2) * (x + 3) := Nat.mul_le_mul_right _ (by omega)
      omega
    refine ⟨_, (pss_cons (ps_set (i := 3) sc_weighed.nd rfl (.inl rfl) (pe_make T.mk_Slate (ok_Slate___init__ T) (hr.mono (by decide)) (by rfl) T.g_Slate T.b_Slate___init__ .nil (passes_call (takes_of rfl rfl rfl rfl) (fun _ _ _ _ h => h)) (pa_cons (pv 0) (pa_cons (pv 1) (pa_cons (pv 2) pa_nil)))))
      (pss_cons (ps_set (i := 4) sc_weighed.nd rfl (.inl rfl) (pe_meth0 (pv 3) T.cl_Slate T.m_Slate_climb (ok_Slate_climb T) (hr.mono (by decide)) T.b_Slate_climb .nil (passes_call (takes_of rfl rfl rfl rfl) (fun _ _ _ _ h => h))))
      (pss_cons (ps_if (pt_cmpR op_ltX (pe_ix (ix_seqK (K := K) rfl) (pe_ix (ix_seqK (K := K) rfl) (pe_fldK (K := K) rfl (pv 3) rfl) (pe_un un_neg pe_int) (fun _ _ => rfl)) (pe_un un_neg pe_int) (fun _ _ => rfl)) pe_int (nomark _)) (pss_one (ps_ret (pe_tup (pa_cons pe_str (pa_cons (pe_meth (pv 3) T.cl_Slate T.m_Slate_told_prices (ok_Slate_told_prices T) (hr.mono (by decide)) T.b_Slate_told_prices .nil (passes_call (takes_of rfl rfl rfl rfl) (fun _ _ _ _ h => h)) (pa_cons pe_int (pa_cons pe_int pa_nil))) pa_nil))))) pss_nil)
      (pss_cons (ps_if (pt_cmpR op_notNX (pv 4) pe_non (nomark _)) (pss_one (ps_ret (pe_tup (pa_cons pe_str (pa_cons (pe_meth0 (pv 3) T.cl_Slate T.m_Slate_told_weights (ok_Slate_told_weights T) (hr.mono (by decide)) T.b_Slate_told_weights .nil (passes_call (takes_of rfl rfl rfl rfl) (fun _ _ _ _ h => h))) (pa_cons (pe_meth (pv 3) T.cl_Slate T.m_Slate_told_way (ok_Slate_told_way T) (hr.mono (by decide)) T.b_Slate_told_way .nil (passes_call (takes_of rfl rfl rfl rfl) (fun _ _ _ _ h => h)) (pa_cons (pv 4) pa_nil)) pa_nil)))))) pss_nil)
      (pss_one (ps_ret (pe_tup (pa_cons pe_str (pa_cons (pe_meth0 (pv 3) T.cl_Slate T.m_Slate_told_weights (ok_Slate_told_weights T) (hr.mono (by decide)) T.b_Slate_told_weights .nil (passes_call (takes_of rfl rfl rfl rfl) (fun _ _ _ _ h => h))) (pa_cons (pe_meth (pv 3) T.cl_Slate T.m_Slate_told_prices (ok_Slate_told_prices T) (hr.mono (by decide)) T.b_Slate_told_prices .nil (passes_call (takes_of rfl rfl rfl rfl) (fun _ _ _ _ h => h)) (pa_cons pe_int (pa_cons (pe_meth0 (pv 3) T.cl_Slate T.m_Slate_enough (ok_Slate_enough T) (hr.mono (by decide)) T.b_Slate_enough .nil (passes_call (takes_of rfl rfl rfl rfl) (fun _ _ _ _ h => h))) pa_nil))) pa_nil)))))))))), ?_⟩
    walk_at "x"
    intro p dx np ndx hne
    have w1 := ((Own.start (H := H)).new (o := .own p) ndx).new (p := p) (o := .ins A.Slate dx []) (by rw [upd_ne (Ne.symm hne)]; exact np)
    refine ⟨p, dx, cA, dA, gA, n, w, x, C, Dv, G, ts, H, _, rfl, w1, hC, hD, hG, hn, hw, hx0, hx, hZ.c, hZ.d, fun B1 H1 ps pr pb rs sB1 w2 SB => ⟨rfl, ?_⟩⟩
    walk_at "x"
    refine ⟨p, dx, _, rfl, w2.get 0 rfl, rfl, ?_⟩
    refine ⟨p, n, w, zOf n x, C, Dv, G, _, 1, _, _, dx, ps, pr, pb, rs, B1, _, rfl, w2, SB, Dt.inv_start _, Dt.feas_start, fun bs M s I => hZ.siz I, hw, hn, fun B2 H2 pr2 rs2 bs M s sB2 w3 SB2 I F => ⟨fun cn => ?_, fun v cu hall => ?_⟩⟩
    · have S := sl_at w3 SB2 I.len
      have hz := hZ.siz I
      obtain ⟨t2, _, e2, r2⟩ := S.at2 (K := K)
      have sH : Same H H2 := (sB1.trans sB2).trans w3.ex
      walk_at "x"
      refine ⟨p, A.Slate, dx, _, _, rfl, S.e, T.cl_Slate, T.n_Slate_rows, rfl, ?_⟩
      walk_at "x"
      refine x_ixXL S.rows e2 ?_
      walk_at "x"
      refine x_ixXL r2 row_last ?_
      walk_at "x"
      refine ite2 (fun c => ?_) (fun c => ?_)
      · have c := of_decide_eq_true c
        walk_at "x"
        refine ⟨p, dx, _, rfl, S.e, rfl, ?_⟩
        walk_at "x"
        refine ⟨p, n, w, zOf n x, 0, 1, Dv, M, s, bs, dx, ps, pr2, pb, rs2, rfl, S, hz, I.pos, hw, hn, by decide, Nat.two_pow_pos _, fun pP ts3 H3 nP nT s3 c3 f3 => ?_⟩
        refine x_nil ?_
        refine ⟨(by show 2 ≤ sizeLine; decide), fun pt nt => ?_⟩
        have st3 := same_upd (o := .tup [.str "none", .ref pP]) nt
        have hI := I.none c cn.short
        refine k s _ _ pt _ (.none hI hz.sh fun i hi => ?_) ((sH.trans s3).trans st3) ⟨[pP], (sH.trans s3).free nt, upd_same, .cons (sH.free nP) (st3 _ _ c3) (fun t ht => sH.free (nT t ht)) (f3.same st3) .nil⟩
        unfold Dt.priceY
        rw [sgn_abs]
        exact (price_bits (Dv := Dv) hz (by decide) (Nat.two_pow_pos _) hi).1
      · have h0 : M n (w + n) = 0 := by
          have h1 := (I.short_rhs F).1
          have c : ¬ M n (w + n) < 0 := fun h => c (decide_eq_true h)
          omega
        walk_at "x"
        refine iteF ?_
        walk_at "x"
        refine ⟨p, dx, _, rfl, S.e, rfl, ?_⟩
        refine ⟨p, n, w, zOf n x, M, s, bs, _, dx, ps, pr2, pb, rs2, rfl, S, hz, I.pos, hw, hn, fun i j hi hj e => I.inj hi hj e, fun pX ts3 H3 nX nT s3 c3 f3 => ?_⟩
        have S3 := S.same s3
        walk_at "x"
        refine ⟨p, dx, _, rfl, S3.e, rfl, ?_⟩
        walk_at "x"
        refine ⟨p, dx, _, rfl, S3.e, rfl, ?_⟩
        refine ⟨p, n, w, zOf n x, M, s, bs, _, dx, ps, pr2, pb, rs2, rfl, S3, hz, hw, fun b hb0 hb1 hb H4 s4 => ?_⟩
        have S4 := S3.same s4
        walk_at "x"
        refine ⟨p, n, w, zOf n x, 1, b, Dv, M, s, bs, dx, ps, pr2, pb, rs2, rfl, S4, hz, I.pos, hw, hn, by decide, hb1, fun pY ts5 H5 nY nT5 s5 c5 f5 => ?_⟩
        refine x_nil ?_
        refine ⟨(by show 3 ≤ sizeLine; decide), fun pt nt => ?_⟩
        have st3 := same_upd (o := .tup [.str "best", .ref pX, .ref pY]) nt
        have sH4 := (sH.trans s3).trans s4
        have s5t := s5.trans st3
        have hI := I.best F h0 b fun j hj => by
          have h1 := cn.short j hj
          by_cases e : M n j = 0
          · have := cn.gain h0 j hj e
            rw [e, Int.mul_zero]; omega
          · exact hb j hj (by omega)
        refine k s _ _ pt _ (.best hI hz.sh (hold_abs I (fun i hi => hz.row i (by omega) _ (Nat.le_refl _)) (Nat.two_pow_pos _)) fun i hi => ?_) ((sH4.trans s5).trans st3) ⟨[pX, pY], (sH4.trans s5).free nt, upd_same, .cons (sH.free nX) (s5t _ _ (s4 _ _ c3)) (fun t ht => sH.free (nT t ht)) ((f3.same s4).same s5t) (.cons (sH4.free nY) (st3 _ _ c5) (fun t ht => sH4.free (nT5 t ht)) (f5.same st3) .nil)⟩
        unfold Dt.priceY
        rw [sgn_abs]
        exact (price_bits (Dv := Dv) hz (by decide) hb1 hi).1
    · have S := sl_at w3 SB2 I.len
      have hz := hZ.siz I
      obtain ⟨t2, _, e2, r2⟩ := S.at2 (K := K)
      have sH : Same H H2 := (sB1.trans sB2).trans w3.ex
      have hv := cu.lt
      have hw2 : M n (w + n) = 0 ∧ M n v = 0 ∧ M (n + 1) v < 0 := by
        rcases cu.why with h | h
        · have := (I.short_col hv hall).1; omega
        · exact h
      have hout := I.out (v := v) (by omega) (by omega)
      walk_at "x"
      refine ⟨p, A.Slate, dx, _, _, rfl, S.e, T.cl_Slate, T.n_Slate_rows, rfl, ?_⟩
      walk_at "x"
      refine x_ixXL S.rows e2 ?_
      walk_at "x"
      refine x_ixXL r2 row_last ?_
      walk_at "x"
      rw [decide_eq_false (show ¬ M n (w + n) < 0 by omega)]
      refine iteF ?_
      walk_at "x"
      refine iteT ?_
      walk_at "x"
      refine ⟨p, dx, _, rfl, S.e, rfl, ?_⟩
      refine ⟨p, n, w, zOf n x, M, s, bs, _, dx, ps, pr2, pb, rs2, rfl, S, hz, I.pos, hw, hn, fun i j hi hj e => I.inj hi hj e, fun pX ts3 H3 nX nT s3 c3 f3 => ?_⟩
      have S3 := S.same s3
      walk_at "x"
      refine ⟨p, dx, _, rfl, S3.e, rfl, ?_⟩
      walk_at "x"
      refine ⟨p, n, w, zOf n x, v, M, s, bs, _, dx, ps, pr2, pb, rs2, rfl, S3, hz, I.pos, hw, hn, hv, fun i j hi hj e => I.inj hi hj e, hout, fun pY ts5 H5 nY nT5 s5 c5 f5 => ?_⟩
      refine x_nil ?_
      refine ⟨(by show 3 ≤ sizeLine; decide), fun pt nt => ?_⟩
      have st3 := same_upd (o := .tup [.str "endless", .ref pX, .ref pY]) nt
      have sH4 := sH.trans s3
      have s5t := s5.trans st3
      have hI := I.endless F hw2.1 hv hw2.2.1 hw2.2.2 hall
      exact k s _ _ pt _ (.endless hI hz.sh (hold_abs I (fun i hi => hz.row i (by omega) _ (Nat.le_refl _)) (Nat.two_pow_pos _)) (way_abs I (fun i hi => hz.row i (by omega) _ (by omega)) hz.sh hout)) ((sH4.trans s5).trans st3) ⟨[pX, pY], (sH4.trans s5).free nt, upd_same, .cons (sH.free nX) (s5t _ _ c3) (fun t ht => sH.free (nT t ht)) (f3.same s5t) (.cons (sH4.free nY) (st3 _ _ c5) (fun t ht => sH4.free (nT5 t ht)) (f5.same st3) .nil)⟩

/-! ### weigh -/
def Weighed (K : PySem.W.Frag) (cA dA gA : Addr) (H : Hp) (Q : VK) : Prop := ∃ (n w x : Nat) (C : Nat → Nat → Int) (Dv G : Nat → Int) (ts : List Addr), ColsAt K H cA ts n w C ∧ SqL K H dA ((tl n Dv).map V.int) ∧ SqL K H gA ((tl w G).map V.int) ∧ Small3 n w x C Dv G ∧ RetWgh n w (zOf n x) C Dv G H Q
def sp_weigh (A : Ads) (K : PySem.W.Frag) : Sp := fun vs H Q E => ∃ (cA dA gA : Addr) (cs : List (List V)) (ds gs : List V), vs = [.ref cA, .ref dA, .ref gA] ∧ RowsV K H cA dA gA cs ds gs ∧ (Fits cs ds gs → Weighed K cA dA gA H Q) ∧ (¬ Fits cs ds gs → ∀ H', Same H H' → E (.ref A.NoRows) none H')
theorem RetWgh.back {n w z : Nat} {C : Nat → Nat → Int} {D G : Nat → Int} {H H2 : Hp} {Q : VK} (s : Same H H2) (k : RetWgh n w z C D G H Q) : RetWgh n w z C D G H2 Q := fun s' word ls p H' h1 h2 h3 => by
  obtain ⟨as, a, b, c⟩ := h3.ex
  exact k s' word ls p H' h1 (s.trans h2) ⟨as, s.free a, b, c.back s⟩
theorem ok_weigh (T : Txt K mg A) : FnOk P w K mg base (L2.CX P w) 6 A.a_weigh A.d_weigh ["columns", "due", "gains"] (sp_weigh A K) := by
  refine T.F_weigh.okX sc_weigh (fun vs H Q E h => ?_) (fun cdv A0 outer st H vs Q E hr h => ?_)
  · obtain ⟨cA, dA, gA, cs, ds, gs, rfl, _⟩ := h; rfl
  · obtain ⟨cA, dA, gA, cs, ds, gs, rfl, hV, k, kE⟩ := h
    refine ⟨_, (pss_cons (ps_expr (pe_call (ok_look_rows T) (hr.mono (by decide)) (by rfl) T.g_look_rows T.F_look_rows.kp T.b_look_rows .nil (passes_call (takes_of rfl rfl rfl rfl) (fun _ _ _ _ h => h)) (pa_cons (pv 0) (pa_cons (pv 1) (pa_cons (pv 2) pa_nil)))))
      (pss_one (ps_ret (pe_call (ok_weighed T) (hr.mono (by decide)) (by rfl) T.g_weighed T.F_weighed.kp T.b_weighed .nil (passes_call (takes_of rfl rfl rfl rfl) (fun _ _ _ _ h => h)) (pa_cons (pv 0) (pa_cons (pv 1) (pa_cons (pv 2) pa_nil))))))), ?_⟩
    walk_at "x"
    refine ⟨cA, dA, gA, cs, ds, gs, rfl, hV, fun f H2 s2 => ?_, kE⟩
    obtain ⟨n, w, x, C, Dv, G, ts, hC, hD, hG, hz, k⟩ := k f
    walk_at "x"
    exact ⟨cA, dA, gA, n, w, x, C, Dv, G, ts, rfl, hC.same s2, s2.seq hD, s2.seq hG, hz, RetWgh.back s2 k⟩

/-! ### _law_cell -/
def sp__law_cell (K : PySem.W.Frag) : Sp := fun vs H Q _ => ∃ (a : Addr) (ns : List Int) (j : Nat), vs = [.ref a, .int (j : Int)] ∧ SqL K H a (ns.map V.int) ∧ RetV (.int (gi ns (j : Int))) H Q
theorem ok__law_cell (T : Txt K mg A) : FnOk P w K mg base (L2.CX P w) 1 A.a__law_cell A.d__law_cell ["_law_script", "_law_k"] (sp__law_cell K) := by
  refine T.F__law_cell.okX sc__law_cell (fun vs H Q E h => ?_) (fun cdv A0 outer s H vs Q E hr h => ?_)
  · obtain ⟨a, ns, j, rfl, _⟩ := h; rfl
  · obtain ⟨a, ns, j, rfl, hS, k⟩ := h
    have k' := k.go (Same.refl H)
    refine ⟨_, (pss_cons (ps_if (pt_cmpR op_ltX (pv 1) (pe_callB (call_lenK (K := K) rfl) (by rfl) T.z_len (by decide +kernel) (pa_cons (pv 0) pa_nil)) (nomark _)) (pss_one (ps_ret (pe_ix (ix_seqK (K := K) rfl) (pv 0) (pv 1) (fun _ _ => rfl)))) pss_nil)
      (pss_one (ps_ret pe_int))), ?_⟩
    walk_at "x"
    refine x_lenL hS ?_
    walk_at "x"
    rw [List.length_map]
    refine ite2 (fun c => ?_) (fun c => x_next ?_)
    · have c := of_decide_eq_true c
      walk_at "x"
      exact x_ixXL hS (at_int (by omega) c) k'
    · have c := of_decide_eq_false (Bool.eq_false_iff.mpr c)
      walk_at "x"
      have e : gi ns (j : Int) = 0 := by
        unfold gi
        rw [Int.toNat_natCast, List.getD_eq_getElem?_getD, List.getElem?_eq_none (by omega)] <;> rfl
      rw [e] at k'
      exact k'

/-! ### _law_number -/
def sp__law_number : Sp := fun vs H Q _ => ∃ c : Int, vs = [.int c] ∧ ∀ z, Small z → RetV (.int z) H Q
theorem ok__law_number (T : Txt K mg A) : FnOk P w K mg base (L2.CX P w) 1 A.a__law_number A.d__law_number ["_law_cell_here"] sp__law_number := by
  refine T.F__law_number.okX sc__law_number (fun vs H Q E h => ?_) (fun cdv A0 outer s H vs Q E hr h => ?_)
  · obtain ⟨c, rfl, _⟩ := h; rfl
  · obtain ⟨c, rfl, k⟩ := h
    have k' : ∀ z, Small z → Q (.int z) H := fun z hz => (k z hz).go (Same.refl H)
    refine ⟨_, (pss_cons (ps_if (pt_cmpR op_ltX (pe_op op_modX (pv 0) pe_int) pe_int (nomark _)) (pss_one (ps_ret (pe_op op_subX (pe_op op_modX (pe_op op_fdivX (pv 0) pe_int) pe_int) pe_int))) pss_nil)
      (pss_cons (ps_if (pt_cmpR (op_eqK (K := K) rfl hr.units) (pe_op op_modX (pv 0) pe_int) pe_int (nomark _)) (pss_one (ps_ret (pe_op op_subX (pe_op op_modX (pe_op op_fdivX (pv 0) pe_int) pe_int) pe_int))) pss_nil)
      (pss_one (ps_ret (pe_op op_subX (pe_op op_modX (pe_op op_mulX (pe_op op_fdivX (pv 0) pe_int) pe_int) (pe_op op_addX (pe_op op_mulX pe_int (pe_op op_powX pe_int pe_int)) pe_int)) (pe_op op_powX pe_int pe_int)))))), ?_⟩
    walk_at "x"
    refine x_modP (by decide) ?_
    walk_at "x"
    refine ite2 (fun _ => ?_) (fun _ => x_next ?_)
    · walk_at "x"
      refine x_divP (by decide) (by decide) ?_
      walk_at "x"
      refine x_modP (by decide) ?_
      walk_at "x"
      exact k' _ ⟨by omega, by omega⟩
    · walk_at "x"
      refine x_modP (by decide) ?_
      walk_at "x"
      refine ite2 (fun _ => ?_) (fun _ => x_next ?_)
      · walk_at "x"
        refine x_divP (by decide) (by decide) ?_
        walk_at "x"
        refine x_modP (by decide) ?_
        walk_at "x"
        exact k' _ ⟨by omega, by omega⟩
      · walk_at "x"
        refine x_divP (by decide) (by decide) ?_
        walk_at "x"
        refine x_mulI (.of_right (by decide)) ?_
        walk_at "x"
        refine x_powN ⟨by decide, by decide, by decide⟩ ?_
        walk_at "x"
        refine x_mulI (.of_left (by decide)) ?_
        walk_at "x"
        have e : (2 : Int) * 10 ^ (18 : Int).toNat + 1 = 2000000000000000001 := by decide
        rw [e]
        refine x_modP (by decide) ?_
        walk_at "x"
        refine x_powN ⟨by decide, by decide, by decide⟩ ?_
        walk_at "x"
        have e2 : (10 : Int) ^ (18 : Int).toNat = 1000000000000000000 := by decide
        rw [e2]
        exact k' _ ⟨by omega, by omega⟩

/-! ### _law_lists -/
def sp__law_lists (K : PySem.W.Frag) : Sp := fun vs H Q _ => ∃ (a : Addr) (ns : List Int), vs = [.ref a] ∧ SqL K H a (ns.map V.int) ∧
  ∀ (n w : Nat) (C : Nat → Nat → Int) (D G : Nat → Int) (B H' : Hp) (p pC pD pG : Addr) (us : List Addr), GoodR B pC pD pG us n w C D G → Same H B → Own B [(p, .lst [.ref pC, .ref pD, .ref pG])] H' → Q (.ref p) H'
theorem ok__law_lists (T : Txt K mg A) : FnOk P w K mg base (L2.CX P w) 2 A.a__law_lists A.d__law_lists ["_law_script"] (sp__law_lists K) := by
  refine T.F__law_lists.okX sc__law_lists (fun vs H Q E h => ?_) (fun cdv A0 outer s H vs Q E hr h => ?_)
  · obtain ⟨a, ns, rfl, _⟩ := h; rfl
  · obtain ⟨a, ns, rfl, hS, k⟩ := h
    refine ⟨_, (pss_cons (ps_set (i := 1) sc__law_lists.nd rfl (.inr rfl) (pe_op op_addX pe_int (pe_op op_modX (pe_call (ok__law_cell T) (hr.mono (by decide)) (by rfl) T.g__law_cell T.F__law_cell.kp T.b__law_cell .nil (passes_call (takes_of rfl rfl rfl rfl) (fun _ _ _ _ h => h)) (pa_cons (pv 0) (pa_cons pe_int pa_nil))) pe_int)))
      (pss_cons (ps_set (i := 2) sc__law_lists.nd rfl (.inl rfl) (pe_op op_modX (pe_op op_fdivX (pe_call (ok__law_cell T) (hr.mono (by decide)) (by rfl) T.g__law_cell T.F__law_cell.kp T.b__law_cell .nil (passes_call (takes_of rfl rfl rfl rfl) (fun _ _ _ _ h => h)) (pa_cons (pv 0) (pa_cons pe_int pa_nil))) pe_int) pe_int))
      (pss_cons (ps_if (pt_cmpR (op_eqK (K := K) rfl hr.units) (pe_op op_modX (pe_op op_fdivX (pe_call (ok__law_cell T) (hr.mono (by decide)) (by rfl) T.g__law_cell T.F__law_cell.kp T.b__law_cell .nil (passes_call (takes_of rfl rfl rfl rfl) (fun _ _ _ _ h => h)) (pa_cons (pv 0) (pa_cons pe_int pa_nil))) pe_int) pe_int) pe_int (nomark _)) (pss_one (ps_set (i := 2) sc__law_lists.nd rfl (.inl rfl) (pe_op op_modX (pe_op op_fdivX (pe_call (ok__law_cell T) (hr.mono (by decide)) (by rfl) T.g__law_cell T.F__law_cell.kp T.b__law_cell .nil (passes_call (takes_of rfl rfl rfl rfl) (fun _ _ _ _ h => h)) (pa_cons (pv 0) (pa_cons pe_int pa_nil))) pe_int) pe_int))) pss_nil)
      (pss_cons (ps_setLc (i := 3) (own := [("_law_k", 6)]) rfl sc__law_lists.nd rfl rfl (sw_true rfl rfl rfl (by decide +kernel)) (pi_range1 (by rfl) T.z_range (pa_cons (pv 1) pa_nil)) (blkOk_by (own := [("_law_k", 6)]) (N := N__law_lists) (sc := defScope s__law_lists) (by decide +kernel)) (fun _ _ _ _ _ => (pg_name (i := 6) sc__law_lists.nd rfl (.inl rfl))) (fun _ _ _ _ _ => pts_nil) (fun _ _ _ _ _ => (pe_call (ok__law_number T) (hr.mono (by decide)) (by rfl) T.g__law_number T.F__law_number.kp T.b__law_number .nil passL (pa_cons (pe_call (ok__law_cell T) (hr.mono (by decide)) (by rfl) T.g__law_cell T.F__law_cell.kp T.b__law_cell .nil passL (pa_cons (pv 0) (pa_cons (pe_op op_addX pe_int (pv 6)) pa_nil))) pa_nil))))
      (pss_cons (ps_set (i := 4) sc__law_lists.nd rfl (.inl rfl) (pe_lst pa_nil))
      (pss_cons (ps_for (passes_of rfl) rfl (pi_range1 (by rfl) T.z_range (pa_cons (pv 2) pa_nil)) (pg_name (i := 5) sc__law_lists.nd rfl (.inr rfl)) (pss_one (ps_expr (pe_bm PySem.F.plainAttrs_list PySem.F.slot_list_append PySem.F.type_list_append mt_append (pv 4) (pa_cons (pe_lc (own := [("_law_k", 6)]) rfl sc__law_lists.nd (pi_range1 (by rfl) T.z_range (pa_cons (pv 1) pa_nil)) (blkOk_by (own := [("_law_k", 6)]) (N := N__law_lists) (sc := defScope s__law_lists) (by decide +kernel)) (fun _ _ _ _ _ => (pg_name (i := 6) sc__law_lists.nd rfl (.inl rfl))) (fun _ _ _ _ _ => pts_nil) (fun _ _ _ _ _ => (pe_call (ok__law_number T) (hr.mono (by decide)) (by rfl) T.g__law_number T.F__law_number.kp T.b__law_number .nil passL (pa_cons (pe_op op_addX (pe_call (ok__law_cell T) (hr.mono (by decide)) (by rfl) T.g__law_cell T.F__law_cell.kp T.b__law_cell .nil passL (pa_cons (pv 0) (pa_cons (pe_op op_addX pe_int (pe_op op_modX (pe_op op_addX (pe_op op_mulX (pv 5) (pv 1)) (pv 6)) pe_int)) pa_nil))) (pe_op op_mulX (pv 5) (pv 6))) pa_nil)))) pa_nil)))))
      (pss_one (ps_ret (pe_lst (pa_cons (pv 4) (pa_cons (pv 3) (pa_cons (pe_lc (own := [("_law_j", 5)]) rfl sc__law_lists.nd (pi_range1 (by rfl) T.z_range (pa_cons (pv 2) pa_nil)) (blkOk_by (own := [("_law_j", 5)]) (N := N__law_lists) (sc := defScope s__law_lists) (by decide +kernel)) (fun _ _ _ _ _ => (pg_name (i := 5) sc__law_lists.nd rfl (.inl rfl))) (fun _ _ _ _ _ => pts_nil) (fun _ _ _ _ _ => (pe_call (ok__law_number T) (hr.mono (by decide)) (by rfl) T.g__law_number T.F__law_number.kp T.b__law_number .nil passL (pa_cons (pe_op op_addX (pe_call (ok__law_cell T) (hr.mono (by decide)) (by rfl) T.g__law_cell T.F__law_cell.kp T.b__law_cell .nil passL (pa_cons (pv 0) (pa_cons (pe_op op_addX pe_int (pe_op op_modX (pv 5) pe_int)) pa_nil))) (pv 5)) pa_nil)))) pa_nil)))))))))))), ?_⟩
    walk_at "x"
    refine ⟨a, ns, 0, rfl, hS, fun H1 s1 => ?_⟩
    walk_at "x"
    refine x_modP (by decide) ?_
    walk_at "x"
    refine ⟨a, ns, 0, rfl, s1.seq hS, fun H2 s2 => ?_⟩
    have s2 := s1.trans s2
    walk_at "x"
    refine x_divP (by decide) (by decide) ?_
    walk_at "x"
    refine x_modP (by decide) ?_
    generalize gi ns ((0 : Nat) : Int) = z0 at *
    obtain ⟨n, e0, hn1, hn8⟩ : ∃ n0 : Nat, 1 + z0 % 8 = (n0 : Int) ∧ 1 ≤ n0 ∧ n0 ≤ 8 := ⟨(1 + z0 % 8).toNat, by omega, by omega, by omega⟩
    obtain ⟨w0, f0, hw0⟩ : ∃ w0 : Nat, z0 / 8 % 8 = (w0 : Int) ∧ w0 ≤ 7 := ⟨(z0 / 8 % 8).toNat, by omega, by omega⟩
    rw [e0, f0]
    dsimp only
    refine x_seqJ (fun σ' H' => ∃ w : Nat, σ' = [some (.ref a), some (.int (n : Int)), some (.int (w : Int)), none, none, none, none] ∧ Same H H' ∧ w ≤ 70) ?_ (fun J => ?_)
    · rintro σ' H3 ⟨w, rfl, s3, hw⟩
      have hS := s3.seq hS
      walk_at "x"
      refine ⟨_, rfl, by omega, by omega, cpb_r0 (n := (n : Int)) intR (Own.start (H := H3)) intR.nil ?_ ?_⟩
      · intro D i B' ys H4 hi sB hR w4
        walk_at "x"
        refine ⟨rfl, ?_⟩
        walk_at "x"
        refine iteT ?_
        walk_at "x"
        refine ⟨a, ns, 4 + i, (by rw [show (4 : Int) + (i : Int) = ((4 + i : Nat) : Int) by omega] <;> rfl), w4.seq (sB.seq hS), fun H5 s5 => ?_⟩
        refine x_nil ?_
        refine ⟨_, rfl, fun z hz H6 s6 => ?_⟩
        have w6 := (w4.ext s5).ext s6
        exact pvb_fin sB (hR.snoc hz) w6 (by rw [hR.len]; omega)
      intro pD B4 ys H4 sB4 hR w4
      rw [Int.toNat_natCast] at hR
      obtain ⟨D, rfl, hD⟩ := hR.fn
      have s4 := s3.trans sB4
      have hS := sB4.seq hS
      walk_at "x"
      refine ⟨Nat.zero_le _, fun pC nC => ?_⟩
      have w5 := w4.new (o := .lst []) nC
      walk_at "x"
      refine ⟨_, rfl, by omega, by omega, for_r0 (fun j σ' H' => ∃ (B : Hp) (C : Nat → Nat → Int) (cs : List V) (v5 v6 : Option V), σ' = [some (.ref a), some (.int (n : Int)), some (.int (w : Int)), some (.ref pD), some (.ref pC), v5, v6] ∧ Same B4 B ∧ RwsR n C j B cs ∧ (∀ j c, (C j c).natAbs < 2 ^ 60) ∧ Own B [(pC, .lst cs), (pD, .lst ((tl n D).map V.int))] H') ⟨B4, fun _ _ => 0, _, _, _, rfl, Same.refl _, RwsR.nil, fun _ _ => (by show (0 : Int).natAbs < _; decide), w5⟩ ?_ ?_⟩
      · rintro j σ' H6 hj ⟨B, C, cs, v5, v6, rfl, sB, hR, hC, w6⟩
        have hj : j < w := by omega
        walk_at "x"
        refine ⟨x_tyL (w6.get 0 rfl), ?_⟩
        walk_at "x"
        refine ⟨_, rfl, by omega, by omega, cpb_r0 (n := (n : Int)) intR w6 intR.nil ?_ ?_⟩
        · intro D2 i B' ys H7 hi sB2 hR2 w7
          walk_at "x"
          refine ⟨rfl, ?_⟩
          walk_at "x"
          refine iteT ?_
          walk_at "x"
          refine x_mulI (.of_right (intBits_le_64 (by omega) (by omega))) ?_
          walk_at "x"
          refine x_modP (by decide) ?_
          have q0 := Int.emod_nonneg ((j : Int) * (n : Int) + (i : Int)) (show (40 : Int) ≠ 0 by decide)
          obtain ⟨q, hq⟩ := Int.eq_ofNat_of_zero_le q0
          rw [hq]
          walk_at "x"
          refine ⟨a, ns, 12 + q, (by rw [show (12 : Int) + (q : Int) = ((12 + q : Nat) : Int) by omega] <;> rfl), w7.seq (sB2.seq (sB.seq hS)), fun H8 s8 => ?_⟩
          walk_at "x"
          refine x_mulI (.of_right (intBits_le_64 (by omega) (by omega))) ?_
          walk_at "x"
          refine ⟨_, rfl, fun z hz H9 s9 => ?_⟩
          have w9 := (w7.ext s8).ext s9
          exact pvb_fin sB2 (hR2.snoc hz) w9 (by rw [hR2.len]; omega)
        · intro pN B' ys H7 sB2 hR2 w7
          rw [Int.toNat_natCast] at hR2
          obtain ⟨f, rfl, hf⟩ := hR2.fn
          have nB := w7.none 0 rfl
          have w7 := w7.freeze
          have sN := same_upd (o := .lst ((tl n f).map V.int)) nB
          have hR3 : RwsR n (fun j' c => if j' = j then f c else C j' c) j B cs := hR.congr fun k hk v _ => (if_neg (by omega)).symm
          have hR4 := (hR3.same (sB2.trans sN)).snoc (t := pN) (by rw [upd_same]; congr 3; unfold tl; exact List.map_congr_left fun v _ => (if_pos rfl).symm)
          refine x_nil ?_
          refine x_append (w7.get 0 rfl) (by rw [hR.len]; exact small1000 (by omega)) ?_
          have w8 := w7.put (o' := .lst (cs ++ [.ref pN])) 0 rfl
          walk_at "x"
          refine ⟨_, _, _, _, _, rfl, (sB.trans sB2).trans sN, hR4, fun j' c => ?_, w8⟩
          show (if j' = j then f c else C j' c).natAbs < _
          by_cases e : j' = j
          · rw [if_pos e]; exact hf c
          · rw [if_neg e]; exact hC j' c
      · rintro σ' H6 ⟨B, C, cs, v5, v6, rfl, sB, hR, hC, w6⟩
        rw [Int.toNat_natCast] at hR
        have hS := sB.seq hS
        walk_at "x"
        refine ⟨_, rfl, by omega, by omega, cpb_r0 (n := (w : Int)) intR w6 intR.nil ?_ ?_⟩
        · intro D2 i B' ys H7 hi sB2 hR2 w7
          walk_at "x"
          refine ⟨rfl, ?_⟩
          walk_at "x"
          refine iteT ?_
          walk_at "x"
          refine x_modP (by decide) ?_
          have q0 := Int.emod_nonneg (i : Int) (show (8 : Int) ≠ 0 by decide)
          obtain ⟨q, hq⟩ := Int.eq_ofNat_of_zero_le q0
          rw [hq]
          walk_at "x"
          refine ⟨a, ns, 52 + q, (by rw [show (52 : Int) + (q : Int) = ((52 + q : Nat) : Int) by omega] <;> rfl), w7.seq (sB2.seq hS), fun H8 s8 => ?_⟩
          walk_at "x"
          refine ⟨_, rfl, fun z hz H9 s9 => ?_⟩
          have w9 := (w7.ext s8).ext s9
          exact pvb_fin sB2 (hR2.snoc hz) w9 (by rw [hR2.len]; omega)
        · intro pG B' ys H7 sB2 hR2 w7
          rw [Int.toNat_natCast] at hR2
          obtain ⟨G, rfl, hG⟩ := hR2.fn
          walk_at "x"
          have hR := hR.same sB2
          obtain ⟨us, rfl, hus, hrow⟩ := hR
          have nG := w7.none 0 rfl
          have w7 := w7.freeze
          have sG := same_upd (o := .lst ((tl w G).map V.int)) nG
          have hG1 : (upd B' pG (.lst ((tl w G).map V.int))) pG = some (.lst ((tl w G).map V.int)) := upd_same
          generalize upd B' pG (.lst ((tl w G).map V.int)) = B1 at *
          have nC := w7.none 0 rfl
          have w7 := w7.freeze
          have sC := same_upd (o := .lst (us.map V.ref)) nC
          have hC1 : (upd B1 pC (.lst (us.map V.ref))) pC = some (.lst (us.map V.ref)) := upd_same
          generalize upd B1 pC (.lst (us.map V.ref)) = B2 at *
          have nD := w7.none 0 rfl
          have w7 := w7.freeze
          have sD := same_upd (o := .lst ((tl n D).map V.int)) nD
          have hD1 : (upd B2 pD (.lst ((tl n D).map V.int))) pD = some (.lst ((tl n D).map V.int)) := upd_same
          generalize upd B2 pD (.lst ((tl n D).map V.int)) = B3 at *
          have sX := (sG.trans sC).trans sD
          refine ⟨(by show 3 ≤ sizeLine; decide), fun pL nL => ?_⟩
          exact k n w C D G B3 _ pL pC pD pG us ⟨sD _ _ hC1, hus, fun j t e => sX _ _ (hrow j t e), hD1, sD _ _ (sC _ _ hG1), hn1, hn8, hw, hC, hD, hG⟩ (((s4.trans sB).trans sB2).trans sX) (w7.new nL)
    · walk_at "x"
      refine ⟨a, ns, 0, rfl, s2.seq hS, fun H3 s3 => ?_⟩
      have s3 := s2.trans s3
      walk_at "x"
      refine x_divP (by decide) (by decide) ?_
      walk_at "x"
      refine x_modP (by decide) ?_
      walk_at "x"
      refine ite2 (fun c => ?_) (fun c => x_next (J _ _ ⟨w0, rfl, s3, by omega⟩))
      walk_at "x"
      refine ⟨a, ns, 0, rfl, s3.seq hS, fun H4 s4 => ?_⟩
      have s4 := s3.trans s4
      walk_at "x"
      refine x_divP (by decide) (by decide) ?_
      walk_at "x"
      refine x_modP (by decide) ?_
      obtain ⟨w1, f1, hw1⟩ : ∃ w0 : Nat, gi ns ((0 : Nat) : Int) / 256 % 71 = (w0 : Int) ∧ w0 ≤ 70 := ⟨(gi ns ((0 : Nat) : Int) / 256 % 71).toNat, by omega, by omega⟩
      rw [f1]
      exact J _ _ ⟨w1, rfl, s4, hw1⟩

/-! ### _law_odd -/
def sp__law_odd (K : PySem.W.Frag) : Sp := fun vs H Q _ => ∃ c : Int, vs = [.int c] ∧ ∀ v H', Same H H' → isI v = false → CellV K (newR H H') v → Q v H'
theorem ok__law_odd (T : Txt K mg A) : FnOk P w K mg base (L2.CX P w) 1 A.a__law_odd A.d__law_odd ["_law_cell_here"] (sp__law_odd K) := by
  refine T.F__law_odd.okX sc__law_odd (fun vs H Q E h => ?_) (fun cdv A0 outer s H vs Q E hr h => ?_)
  · obtain ⟨c, rfl, _⟩ := h; rfl
  · obtain ⟨c, rfl, k⟩ := h
    refine ⟨_, (pss_one (ps_ret (pe_ix (ix_seqK (K := K) rfl) (pe_lst (pa_cons pe_bl (pa_cons pe_non (pa_cons pe_str (pa_cons (pe_tup (pa_cons pe_int (pa_cons pe_int pa_nil))) (pa_cons (pe_lst (pa_cons pe_int pa_nil)) (pa_cons pe_bl pa_nil))))))) (pe_op op_modX (pv 0) pe_int) (fun _ _ => rfl)))), ?_⟩
    walk_at "x"
    refine ⟨(by show 2 ≤ sizeLine; decide), fun p1 n1 => ?_⟩
    have w := (Own.start (H := H)).new (o := .tup [.int 1, .int 1]) n1
    walk_at "x"
    refine ⟨(by show 1 ≤ sizeLine; decide), fun p2 n2 => ?_⟩
    have w := w.new (o := .lst [.int 1]) n2
    walk_at "x"
    refine ⟨(by show 6 ≤ sizeLine; decide), fun p3 n3 => ?_⟩
    have w := w.new (o := .lst [.bl true, .non, .str "1", .ref p1, .ref p2, .bl false]) n3
    walk_at "x"
    refine x_modP (by decide) ?_
    obtain ⟨v, ev, hv⟩ := at_mem (xs := [.bl true, .non, .str "1", .ref p1, .ref p2, .bl false]) (i := c % 6) (by omega) (by show c % 6 < 6; omega)
    refine x_ixXL (w.sq 0 rfl) ev ?_
    have w' := own_newR w
    have tp : ∀ e ∈ [PyData.int 1, PyData.int 1], LayD 2 e := fun d hd => by
      simp at hd
      subst hd
      exact LayD.int (by decide) _
    have ls : ∀ e ∈ [PyData.int 1], LayD 2 e := fun d hd => by
      simp at hd
      subst hd
      exact LayD.int (by decide) _
    simp only [List.mem_cons, List.not_mem_nil, or_false] at hv
    rcases hv with rfl | rfl | rfl | rfl | rfl | rfl
    · exact k _ _ w.ex rfl ⟨.bl _, _, .bl true, LayD.bool (by decide) _⟩
    · exact k _ _ w.ex rfl ⟨.non, _, .non, LayD.none (by decide)⟩
    · exact k _ _ w.ex rfl ⟨.str _, _, .str _, LayD.str (by decide) (by decide +kernel)⟩
    · exact k _ _ w.ex rfl ⟨.tup (.inl (w'.get 2 rfl)), _, .tup (SqT.of (w'.get 2 rfl)) (.cons (.int _) (.cons (.int _) .nil)), LayD.tuple tp⟩
    · exact k _ _ w.ex rfl ⟨.lst (.inl (w'.get 1 rfl)), _, .lst (SqL.of (w'.get 1 rfl)) (.cons (.int _) .nil), LayD.list ls⟩
    · exact k _ _ w.ex rfl ⟨.bl _, _, .bl false, LayD.bool (by decide) _⟩

/-! ### _law_longer -/
def sp__law_longer (K : PySem.W.Frag) : Sp := fun vs H Q _ => ∃ (a : Addr) (xs : List V) (c : Int), vs = [.ref a, .int c] ∧ H a = some (.lst xs) ∧ xs.length ≤ 100 ∧ ∀ ys : List V, ys.length ≠ xs.length → ys.length ≤ 101 → (∀ v ∈ ys, v ∈ xs ∨ ∃ i : Int, v = .int i) → RetL ys H Q
theorem ok__law_longer (T : Txt K mg A) : FnOk P w K mg base (L2.CX P w) 1 A.a__law_longer A.d__law_longer ["_law_row", "_law_cell_here"] (sp__law_longer K) := by
  refine T.F__law_longer.okX sc__law_longer (fun vs H Q E h => ?_) (fun cdv A0 outer s H vs Q E hr h => ?_)
  · obtain ⟨a, xs, c, rfl, _⟩ := h; rfl
  · obtain ⟨a, xs, c, rfl, hA, hl, k⟩ := h
    have hS : SqL K H a xs := SqL.of hA
    refine ⟨_, (pss_cons (ps_if (PW.pt (pw_and (pt_cmpR (op_eqK (K := K) rfl hr.units) (pe_op op_modX (pv 1) pe_int) pe_int (nomark _)) (pw_and1 (pt_cmpR op_gtX (pe_callB (call_lenK (K := K) rfl) (by rfl) T.z_len (by decide +kernel) (pa_cons (pv 0) pa_nil)) pe_int (nomark _))))) (pss_one (ps_ret (pe_slice (sl_listK (K := K) rfl) (pv 0) (po_some pe_int) po_none))) pss_nil)
      (pss_one (ps_ret (pe_op op_addX (pv 0) (pe_lst (pa_cons (pe_op op_modX (pe_op op_fdivX (pv 1) pe_int) pe_int) pa_nil)))))), ?_⟩
    have longer : ∀ Q', (∀ p H', H p = none → Same H H' → H' p = some (.lst (xs ++ [.int (c / 2 % 3)])) → Q' (.ref p) H') → tOp rAddX (tVar 0) (tLst (tCons (tOp rModX (tOp rDivX (tVar 1) (tC (V.int 2))) (tC (V.int 3))) tNil)) [some (.ref a), some (.int c)] H Q' := fun Q' q => by
      walk_at "x"
      refine x_divP (by decide) (by decide) ?_
      walk_at "x"
      refine x_modP (by decide) ?_
      walk_at "x"
      refine ⟨(by show 1 ≤ sizeLine; decide), fun p1 n1 => ?_⟩
      have w1 := (Own.start (H := H)).new (o := .lst [.int (c / 2 % 3)]) n1
      refine x_addL (.inl (w1.ex _ _ hA)) (.inl (w1.get 0 rfl)) (Nat.le_trans (show xs.length + [V.int (c / 2 % 3)].length ≤ 101 by show _ + 1 ≤ 101; omega) (by decide)) (fun p2 n2 => ?_)
      have w2 := w1.new (o := .lst (xs ++ [.int (c / 2 % 3)])) n2
      exact q p2 _ (w2.none 0 rfl) w2.ex (w2.get 0 rfl)
    have longer : tRet (tOp rAddX (tVar 0) (tLst (tCons (tOp rModX (tOp rDivX (tVar 1) (tC (V.int 2))) (tC (V.int 3))) tNil))) { nx := fun x H' => Q V.non H', rt := Q } [some (.ref a), some (.int c)] H := longer Q fun p H' np s cp => k (xs ++ [.int (c / 2 % 3)]) (by rw [List.length_append]; show _ + 1 ≠ _; omega) (by rw [List.length_append]; show _ + 1 ≤ _; omega) (fun v hv => by
      rcases List.mem_append.mp hv with m | m
      · exact .inl m
      · rw [List.mem_singleton] at m; exact .inr ⟨_, m⟩) p H' np s cp
    walk_at "x"
    refine x_modP (by decide) ?_
    walk_at "x"
    refine ite2 (fun c1 => ?_) (fun c1 => iteF ?_)
    · walk_at "x"
      refine x_lenL hS ?_
      walk_at "x"
      refine ite2 (fun c2 => ?_) (fun c2 => ?_)
      · have c2 := of_decide_eq_true c2
        walk_at "x"
        refine ⟨_, _, rfl, hS, fun p2 n2 => ?_⟩
        rw [show (1 : Int) = ((1 : Nat) : Int) from rfl, cut_from]
        have w2 := (Own.start (H := H)).new (o := .lst (xs.drop 1)) n2
        exact k (xs.drop 1) (by rw [List.length_drop]; omega) (by rw [List.length_drop]; omega) (fun v hv => .inl (List.mem_of_mem_drop hv)) p2 _ (w2.none 0 rfl) w2.ex (w2.get 0 rfl)
      · exact x_next longer
    · exact x_next longer

/-! ### _law_amiss -/
def sp__law_amiss (K : PySem.W.Frag) : Sp := fun vs H Q _ => ∃ (a sA qC qD qG : Addr) (ns : List Int) (us : List Addr) (n w : Nat) (C : Nat → Nat → Int) (D G : Nat → Int), vs = [.ref a, .ref sA] ∧ SqL K H a [.ref qC, .ref qD, .ref qG] ∧ SqL K H sA (ns.map V.int) ∧ GoodR H qC qD qG us n w C D G ∧
  ∀ (p pC pD pG : Addr) (cs : List (List V)) (ds gs : List V) (H' : Hp), Same H H' → H' p = some (.lst [.ref pC, .ref pD, .ref pG]) → RowsV K H' pC pD pG cs ds gs → ¬ Fits cs ds gs → cs.length ≤ 71 → Q (.ref p) H'
theorem eqv_empty (ds : List PyData) : PyData.eqv (.list ds) (.list []) = ds.isEmpty := by cases ds <;> simp [PyData.eqv, PyData.eqvAll]
theorem x_eqE {K : PySem.W.Frag} {H : Hp} {Q : VK} {x : V} {p : Addr} {ds : List PyData} {k : Nat} (h1 : Dp K H x (.list ds)) (l : LayD k (.list ds)) (h2 : SqL K H p []) (q : Q (.bl ds.isEmpty) H) (hk : k ≤ 64 := by decide) : rEqX K x (.ref p) H Q :=
  .inr ⟨_, _, h1, .lst h2 .nil, l.shaped hk, (LayD.list (k := 1) (ds := []) fun d hd => (by cases hd)).shaped, by rw [eqv_empty]; exact q⟩
theorem x_neE {K : PySem.W.Frag} {H : Hp} {Q : VK} {x : V} {p : Addr} {ds : List PyData} {k : Nat} (h1 : Dp K H x (.list ds)) (l : LayD k (.list ds)) (h2 : SqL K H p []) (q : Q (.bl (!ds.isEmpty)) H) (hk : k ≤ 64 := by decide) : rNeX K x (.ref p) H Q :=
  .inr ⟨_, _, h1, .lst h2 .nil, l.shaped hk, (LayD.list (k := 1) (ds := []) fun d hd => (by cases hd)).shaped, by rw [eqv_empty]; exact q⟩
theorem lsv_dp {K : PySem.W.Frag} {H : Hp} : ∀ {ts : List Addr} {cs : List (List V)}, LsV H ts cs → (∀ c ∈ cs, ∀ v ∈ c, CellV K H v) → ∃ dd, DpAll K H (ts.map V.ref) dd ∧ (∀ d ∈ dd, LayD 4 d) ∧ dd.length = cs.length
  | _, _, .nil, _ => ⟨[], .nil, fun d hd => (by cases hd), rfl⟩
  | _, _, .cons e r, h => by
    obtain ⟨es, h1, h2⟩ := cells_dp (h _ (.head _))
    obtain ⟨dd, h3, h4, h5⟩ := lsv_dp r fun c hc => h c (.tail _ hc)
    refine ⟨_ :: dd, .cons (.lst (SqL.of e) h1) h3, fun d hd => ?_, by rw [List.length_cons, List.length_cons, h5]⟩
    cases hd with
    | head => exact LayD.list h2
    | tail _ m => exact h4 d m
theorem emp_dec {dd : List PyData} {w : Nat} (h : dd.length = w) : dd.isEmpty = decide (w = 0) := by
  subst h
  cases dd <;> simp
theorem not_all {xs : List V} {v : V} (hv : isI v = false) (hm : v ∈ xs) (h : xs.all isI = true) : False := by
  have := List.all_eq_true.mp h v hm
  rw [hv] at this
  cases this
theorem ixJ {n : Nat} {t : Int} (h : 0 < n) : ∃ j : Nat, t % (n : Int) = (j : Int) ∧ j < n ∧ ixN n (j : Int) = some j := by
  have h0 := Int.emod_nonneg t (show (n : Int) ≠ 0 by omega)
  have h1 := Int.emod_lt_of_pos t (show (0 : Int) < (n : Int) by omega)
  obtain ⟨j, hj⟩ := Int.eq_ofNat_of_zero_le h0
  exact ⟨j, hj, by omega, by have := ixN_int (n := n) (i := (j : Int)) (by omega) (by omega); rwa [Int.toNat_natCast] at this⟩
theorem set_cells {K : PySem.W.Frag} {H : Hp} {xs : List Int} {j : Nat} {v : V} (hv : CellV K H v) : ∀ u ∈ (xs.map V.int).set j v, CellV K H u := fun u hu => by
  rcases List.mem_or_eq_of_mem_set hu with m | rfl
  · exact ints_cell u m
  · exact hv
def RepR (ds : List V) (i : Nat) (B : Hp) (ys : List V) : Prop := ∃ ts : List Addr, ys = ts.map V.ref ∧ LsV B ts (List.replicate i ds)
theorem RepR.nil {ds : List V} {B : Hp} : RepR ds 0 B [] := ⟨[], rfl, .nil⟩
theorem RepR.same {ds : List V} {i : Nat} {B B' : Hp} {ys : List V} (s : Same B B') (h : RepR ds i B ys) : RepR ds i B' ys := by
  obtain ⟨ts, e, l⟩ := h
  exact ⟨ts, e, l.same s⟩
theorem RepR.len {ds : List V} {i : Nat} {B : Hp} {ys : List V} (h : RepR ds i B ys) : ys.length = i := by
  obtain ⟨ts, rfl, l⟩ := h
  rw [List.length_map, l.len, List.length_replicate]
theorem RepR.snoc {ds : List V} {i : Nat} {B : Hp} {ys : List V} {t : Addr} (h : RepR ds i B ys) (ht : B t = some (.lst ds)) : RepR ds (i + 1) B (ys ++ [.ref t]) := by
  obtain ⟨ts, rfl, l⟩ := h
  exact ⟨ts ++ [t], by rw [List.map_append] <;> rfl, by rw [List.replicate_succ']; exact l.snoc ht⟩
theorem rep_flat {a : V} : ∀ k : Nat, (List.replicate k [a]).flatten = List.replicate k a
  | 0 => rfl
  | k + 1 => by rw [List.replicate_succ, List.flatten_cons, rep_flat k] <;> rfl
theorem ok__law_amiss (T : Txt K mg A) : FnOk P w K mg base (L2.CX P w) 2 A.a__law_amiss A.d__law_amiss ["_law_lists_here", "_law_script"] (sp__law_amiss K) := by
  refine T.F__law_amiss.okX sc__law_amiss (fun vs H Q E h => ?_) (fun cdv A0 outer st H vs Q E hr h => ?_)
  · obtain ⟨a, sA, qC, qD, qG, ns, us, n, w, C, D, G, rfl, _⟩ := h; rfl
  · obtain ⟨a, sA, qC, qD, qG, ns, us, n, w, C, D, G, rfl, hA, hS, good, k⟩ := h
    have hn1 := good.n1
    have hn8 := good.n8
    have hw := good.w70
    refine ⟨_, (pss_cons (ps_setLc (i := 2) (own := [("_law_column", 8)]) rfl sc__law_amiss.nd rfl rfl (sw_true rfl rfl rfl (by decide +kernel)) (pi_listK (K := K) rfl (pe_ix (ix_seqK (K := K) rfl) (pv 0) pe_int (fun _ _ => rfl))) (blkOk_by (own := [("_law_column", 8)]) (N := N__law_amiss) (sc := defScope s__law_amiss) (by decide +kernel)) (fun _ _ _ _ _ => (pg_name (i := 8) sc__law_amiss.nd rfl (.inl rfl))) (fun _ _ _ _ _ => pts_nil) (fun _ _ _ _ _ => (pe_callTy (call_listK (K := K) rfl) (by rfl) T.z_list (by decide +kernel) (pa_cons (pv 8) pa_nil))))
      (pss_cons (ps_set (i := 3) sc__law_amiss.nd rfl (.inr rfl) (pe_callTy (call_listK (K := K) rfl) (by rfl) T.z_list (by decide +kernel) (pa_cons (pe_ix (ix_seqK (K := K) rfl) (pv 0) pe_int (fun _ _ => rfl)) pa_nil)))
      (pss_cons (ps_set (i := 4) sc__law_amiss.nd rfl (.inl rfl) (pe_callTy (call_listK (K := K) rfl) (by rfl) T.z_list (by decide +kernel) (pa_cons (pe_ix (ix_seqK (K := K) rfl) (pv 0) pe_int (fun _ _ => rfl)) pa_nil)))
      (pss_cons (ps_set (i := 5) sc__law_amiss.nd rfl (.inl rfl) (pe_op op_modX (pe_call (ok__law_cell T) (hr.mono (by decide)) (by rfl) T.g__law_cell T.F__law_cell.kp T.b__law_cell .nil (passes_call (takes_of rfl rfl rfl rfl) (fun _ _ _ _ h => h)) (pa_cons (pv 1) (pa_cons pe_int pa_nil))) pe_int))
      (pss_cons (ps_set (i := 6) sc__law_amiss.nd rfl (.inl rfl) (pe_call (ok__law_cell T) (hr.mono (by decide)) (by rfl) T.g__law_cell T.F__law_cell.kp T.b__law_cell .nil (passes_call (takes_of rfl rfl rfl rfl) (fun _ _ _ _ h => h)) (pa_cons (pv 1) (pa_cons pe_int pa_nil))))
      (pss_cons (ps_set (i := 7) sc__law_amiss.nd rfl (.inl rfl) (pe_call (ok__law_cell T) (hr.mono (by decide)) (by rfl) T.g__law_cell T.F__law_cell.kp T.b__law_cell .nil (passes_call (takes_of rfl rfl rfl rfl) (fun _ _ _ _ h => h)) (pa_cons (pv 1) (pa_cons pe_int pa_nil))))
      (pss_cons (ps_if (pt_cmpR (op_eqK (K := K) rfl hr.units) (pv 5) pe_int (nomark _)) (pss_cons (ps_set (i := 3) sc__law_amiss.nd rfl (.inr rfl) (pe_ix (ix_seqK (K := K) rfl) (pe_lst (pa_cons (pe_lst pa_nil) (pa_cons (pe_op op_mulX (pe_lst (pa_cons pe_int pa_nil)) pe_int) pa_nil))) (pe_op op_modX (pv 6) pe_int) (fun _ _ => rfl)))
      (pss_one (ps_setLc (i := 2) (own := [("_law_column", 8)]) rfl sc__law_amiss.nd rfl rfl (sw_true rfl rfl rfl (by decide +kernel)) (pi_listK (K := K) rfl (pv 2)) (blkOk_by (own := [("_law_column", 8)]) (N := N__law_amiss) (sc := defScope s__law_amiss) (by decide +kernel)) (fun _ _ _ _ _ => (pg_name (i := 8) sc__law_amiss.nd rfl (.inl rfl))) (fun _ _ _ _ _ => pts_nil) (fun _ _ _ _ _ => (pe_callTy (call_listK (K := K) rfl) (by rfl) T.z_list (by decide +kernel) (pa_cons (pv 3) pa_nil)))))) pss_nil)
      (pss_cons (ps_if (pt_cmpR (op_eqK (K := K) rfl hr.units) (pv 5) pe_int (nomark _)) (pss_cons (ps_set (i := 2) sc__law_amiss.nd rfl (.inl rfl) (pe_op op_addX (pv 2) (pe_lc (own := [("_law_k", 9)]) rfl sc__law_amiss.nd (pi_range1 (by rfl) T.z_range (pa_cons (pe_op op_subX pe_int (pe_callB (call_lenK (K := K) rfl) (by rfl) T.z_len (by decide +kernel) (pa_cons (pv 2) pa_nil))) pa_nil)) (blkOk_by (own := [("_law_k", 9)]) (N := N__law_amiss) (sc := defScope s__law_amiss) (by decide +kernel)) (fun _ _ _ _ _ => (pg_name (i := 9) sc__law_amiss.nd rfl (.inl rfl))) (fun _ _ _ _ _ => pts_nil) (fun _ _ _ _ _ => (pe_callTy (call_listK (K := K) rfl) (by rfl) T.z_list (by decide +kernel) (pa_cons (pv 3) pa_nil))))))
      (pss_one (ps_set (i := 4) sc__law_amiss.nd rfl (.inl rfl) (pe_op op_addX (pv 4) (pe_op op_mulX (pe_lst (pa_cons pe_int pa_nil)) (pe_op op_subX pe_int (pe_callB (call_lenK (K := K) rfl) (by rfl) T.z_len (by decide +kernel) (pa_cons (pv 4) pa_nil)))))))) pss_nil)
      (pss_cons (ps_if (PW.pt (pw_or (pt_cmpR (op_eqK (K := K) rfl hr.units) (pv 5) pe_int (nomark _)) (pw_or1 (PW.pt (pw_and (PW.pt (pw_or (pt_cmpR (op_eqK (K := K) rfl hr.units) (pv 5) pe_int (nomark _)) (pw_or1 (pt_cmpR (op_eqK (K := K) rfl hr.units) (pv 5) pe_int (nomark _))))) (pw_and1 (pt_cmpR (op_eqK (K := K) rfl hr.units) (pv 2) (pe_lst pa_nil) (nomark _)))))))) (pss_one (ps_set (i := 4) sc__law_amiss.nd rfl (.inl rfl) (pe_call (ok__law_longer T) (hr.mono (by decide)) (by rfl) T.g__law_longer T.F__law_longer.kp T.b__law_longer .nil (passes_call (takes_of rfl rfl rfl rfl) (fun _ _ _ _ h => h)) (pa_cons (pv 4) (pa_cons (pv 6) pa_nil))))) pss_nil)
      (pss_cons (ps_if (PW.pt (pw_and (pt_cmpR (op_eqK (K := K) rfl hr.units) (pv 5) pe_int (nomark _)) (pw_and1 (pt_cmpR (op_neK (K := K) rfl hr.units) (pv 2) (pe_lst pa_nil) (nomark _))))) (pss_one (ps_asg (pe_call (ok__law_longer T) (hr.mono (by decide)) (by rfl) T.g__law_longer T.F__law_longer.kp T.b__law_longer .nil (passes_call (takes_of rfl rfl rfl rfl) (fun _ _ _ _ h => h)) (pa_cons (pe_ix (ix_seqK (K := K) rfl) (pv 2) (pe_op op_modX (pv 7) (pe_callB (call_lenK (K := K) rfl) (by rfl) T.z_len (by decide +kernel) (pa_cons (pv 2) pa_nil))) (fun _ _ => rfl)) (pa_cons (pv 6) pa_nil))) (pg_sub (pv 2) (pe_op op_modX (pv 7) (pe_callB (call_lenK (K := K) rfl) (by rfl) T.z_len (by decide +kernel) (pa_cons (pv 2) pa_nil))) set_list))) pss_nil)
      (pss_cons (ps_if (PW.pt (pw_or (pt_cmpR (op_eqK (K := K) rfl hr.units) (pv 5) pe_int (nomark _)) (pw_or1 (PW.pt (pw_and (pt_cmpR (op_eqK (K := K) rfl hr.units) (pv 5) pe_int (nomark _)) (pw_and1 (pt_cmpR (op_eqK (K := K) rfl hr.units) (pv 4) (pe_lst pa_nil) (nomark _)))))))) (pss_one (ps_asg (pe_call (ok__law_odd T) (hr.mono (by decide)) (by rfl) T.g__law_odd T.F__law_odd.kp T.b__law_odd .nil (passes_call (takes_of rfl rfl rfl rfl) (fun _ _ _ _ h => h)) (pa_cons (pv 6) pa_nil)) (pg_sub (pv 3) (pe_op op_modX (pv 7) (pe_callB (call_lenK (K := K) rfl) (by rfl) T.z_len (by decide +kernel) (pa_cons (pv 3) pa_nil))) set_list))) pss_nil)
      (pss_cons (ps_if (PW.pt (pw_and (pt_cmpR (op_eqK (K := K) rfl hr.units) (pv 5) pe_int (nomark _)) (pw_and1 (pt_cmpR (op_neK (K := K) rfl hr.units) (pv 4) (pe_lst pa_nil) (nomark _))))) (pss_one (ps_asg (pe_call (ok__law_odd T) (hr.mono (by decide)) (by rfl) T.g__law_odd T.F__law_odd.kp T.b__law_odd .nil (passes_call (takes_of rfl rfl rfl rfl) (fun _ _ _ _ h => h)) (pa_cons (pv 6) pa_nil)) (pg_sub (pv 4) (pe_op op_modX (pv 7) (pe_callB (call_lenK (K := K) rfl) (by rfl) T.z_len (by decide +kernel) (pa_cons (pv 4) pa_nil))) set_list))) pss_nil)
      (pss_cons (ps_if (PW.pt (pw_and (pt_cmpR (op_eqK (K := K) rfl hr.units) (pv 5) pe_int (nomark _)) (pw_and1 (pt_cmpR (op_neK (K := K) rfl hr.units) (pv 2) (pe_lst pa_nil) (nomark _))))) (pss_one (ps_asg (pe_call (ok__law_odd T) (hr.mono (by decide)) (by rfl) T.g__law_odd T.F__law_odd.kp T.b__law_odd .nil (passes_call (takes_of rfl rfl rfl rfl) (fun _ _ _ _ h => h)) (pa_cons (pv 6) pa_nil)) (pg_sub (pe_ix (ix_seqK (K := K) rfl) (pv 2) (pe_op op_modX (pv 7) (pe_callB (call_lenK (K := K) rfl) (by rfl) T.z_len (by decide +kernel) (pa_cons (pv 2) pa_nil))) (fun _ _ => rfl)) (pe_op op_modX (pe_op op_fdivX (pv 7) pe_int) (pe_callB (call_lenK (K := K) rfl) (by rfl) T.z_len (by decide +kernel) (pa_cons (pv 3) pa_nil))) set_list))) pss_nil)
      (pss_one (ps_ret (pe_lst (pa_cons (pv 2) (pa_cons (pv 3) (pa_cons (pv 4) pa_nil))))))))))))))))))), ?_⟩
    walk_at "x"
    refine x_ixXL hA (v := .ref qC) (atI_nat (j := 0) rfl) ?_
    refine ⟨_, rfl, ⟨_, SqL.of good.c⟩, cpb_list (xs := us.map V.ref) (CopR H n C) (Own.start (H := H)) (SqL.of good.c) CopR.nil ?_ ?_⟩
    · intro D2 i x B' ys H1 hx sB hR w1
      obtain ⟨t, ht, rfl⟩ := map_at hx
      walk_at "x"
      refine ⟨rfl, ?_⟩
      walk_at "x"
      refine iteT ?_
      walk_at "x"
      refine x_list (w1.seq (sB.seq (SqL.of (good.row i t ht)))) (fun t2 nt => ?_)
      have w2 := w1.new (o := .lst ((tl n (C i)).map V.int)) nt
      have nB := w2.none 0 rfl
      have w2 := w2.freeze
      have nH : H t2 = none := by
        cases e : H t2 with
        | none => rfl
        | some o => rw [sB _ _ e] at nB; cases nB
      exact pvb_fin (sB.trans (same_upd nB)) (hR.snoc nH nB) w2 (by rw [hR.len]; have := (List.getElem?_eq_some_iff.mp ht).1; have := good.len; omega)
    intro pC B1 ys H1 sB1 hR w1
    rw [List.length_map, good.len] at hR
    walk_at "x"
    refine x_ixXL (w1.seq (sB1.seq hA)) (v := .ref qD) (atI_nat (j := 1) rfl) ?_
    walk_at "x"
    refine x_list (w1.seq (sB1.seq (SqL.of good.d))) (fun pD nD => ?_)
    have w2 := w1.new (o := .lst ((tl n D).map V.int)) nD
    walk_at "x"
    refine x_ixXL (w2.seq (sB1.seq hA)) (v := .ref qG) (atI_nat (j := 2) rfl) ?_
    walk_at "x"
    refine x_list (w2.seq (sB1.seq (SqL.of good.g))) (fun pG nG => ?_)
    have w3 := w2.new (o := .lst ((tl w G).map V.int)) nG
    walk_at "x"
    refine ⟨sA, ns, 1, rfl, w3.seq (sB1.seq hS), fun H4 s4 => ?_⟩
    walk_at "x"
    refine x_modP (by decide) ?_
    walk_at "x"
    refine ⟨sA, ns, 2, rfl, (w3.ext s4).seq (sB1.seq hS), fun H5 s5 => ?_⟩
    walk_at "x"
    refine ⟨sA, ns, 3, rfl, ((w3.ext s4).ext s5).seq (sB1.seq hS), fun H6 s6 => ?_⟩
    have w6 := ((w3.ext s4).ext s5).ext s6
    generalize gi ns ((2 : Nat) : Int) = c at *
    generalize gi ns ((3 : Nat) : Int) = t0 at *
    have hway : gi ns ((1 : Nat) : Int) % 7 = 0 ∨ gi ns ((1 : Nat) : Int) % 7 = 1 ∨ gi ns ((1 : Nat) : Int) % 7 = 2 ∨ gi ns ((1 : Nat) : Int) % 7 = 3 ∨ gi ns ((1 : Nat) : Int) % 7 = 4 ∨ gi ns ((1 : Nat) : Int) % 7 = 5 ∨ gi ns ((1 : Nat) : Int) % 7 = 6 := by omega
    clear w3 s4 s5 s6 w2 nD nG
    obtain ⟨ts, rfl, hts, hrow, hfr, hnd⟩ := hR
    have hlv : LsV B1 ts (colsV n w C) := LsV.of (by unfold colsV; rw [tl2_len]; exact hts) fun i t c h1 h2 => by
      unfold colsV at h2
      obtain ⟨_, rfl⟩ := tl2_at h2
      exact hrow i t h1
    have hcv : ∀ {H' : Hp}, ∀ c ∈ colsV n w C, ∀ v ∈ c, CellV K H' v := fun c hc => by
      unfold colsV tl2 at hc
      obtain ⟨j, _, rfl⟩ := List.mem_map.mp hc
      exact ints_cell
    have hcl : (colsV n w C).length = w := by unfold colsV; rw [tl2_len]
    rcases hway with e | e | e | e | e | e | e <;> rw [e]
    · walk_at "x"
      refine iteT ?_
      walk_at "x"
      refine ⟨Nat.zero_le _, fun p0 n0 => ?_⟩
      have v0 := w6.new (o := .lst []) n0
      walk_at "x"
      refine ⟨(by show 1 ≤ sizeLine; decide), fun p1 n1 => ?_⟩
      have v1 := v0.new (o := .lst [.int 0]) n1
      walk_at "x"
      refine x_mulL (v1.get 0 rfl) ⟨by decide, by decide, by show 1 * 9 ≤ sizeLine; decide⟩ (fun p2 n2 => ?_)
      have v2 := v1.new (o := .lst (List.replicate (9 : Int).toNat [V.int 0]).flatten) n2
      walk_at "x"
      refine ⟨(by show 2 ≤ sizeLine; decide), fun p3 n3 => ?_⟩
      have v3 := v2.new (o := .lst [.ref p0, .ref p2]) n3
      walk_at "x"
      refine x_modP (by decide) ?_
      obtain ⟨pE, zs, e1, hz, wE⟩ : ∃ (pE : Addr) (zs : List Int), atI [V.ref p0, V.ref p2] (c % 2) = some (.ref pE) ∧ (zs.length = 0 ∨ zs.length = 9) ∧ Own B1 [(pE, .lst (zs.map V.int)), (pG, .lst ((tl w G).map V.int)), (pD, .lst ((tl n D).map V.int)), (pC, .lst (ts.map V.ref))] (upd (upd (upd (upd H6 p0 (.lst [])) p1 (.lst [.int 0])) p2 (.lst (List.replicate (9 : Int).toNat [V.int 0]).flatten)) p3 (.lst [.ref p0, .ref p2])) := by
        have hc : c % 2 = 0 ∨ c % 2 = 1 := by omega
        rcases hc with e | e <;> rw [e]
        · exact ⟨p0, [], rfl, .inl rfl, v3.sub (.cons _ (.cons _ (.cons _ (List.Sublist.refl _))))⟩
        · exact ⟨p2, [0, 0, 0, 0, 0, 0, 0, 0, 0], rfl, .inr rfl, v3.sub (.cons _ (.cons₂ _ (.cons _ (.cons _ (List.Sublist.refl _)))))⟩
      refine x_ixXL (v3.sq 0 rfl) e1 ?_
      walk_at "x"
      refine ⟨_, rfl, ⟨_, SqL.of (wE.get 3 rfl)⟩, cpb_listO (xs := ts.map V.ref) (RepR (zs.map V.int)) wE 3 rfl RepR.nil ?_ ?_⟩
      · intro D2 i x B' ys H1 hx sB hR w1
        walk_at "x"
        refine ⟨rfl, ?_⟩
        walk_at "x"
        refine iteT ?_
        walk_at "x"
        refine x_list (w1.sq 1 rfl) (fun t2 nt => ?_)
        have w2 := w1.new (o := .lst (zs.map V.int)) nt
        have nB := w2.none 0 rfl
        have w2 := w2.freeze
        exact pvb_fin (sB.trans (same_upd nB)) ((hR.same (same_upd nB)).snoc upd_same) w2 (by rw [hR.len]; have := (List.getElem?_eq_some_iff.mp hx).1; rw [List.length_map] at this; omega)
      intro pC2 B2 ys H8 sB2 hR2 w8
      rw [List.length_map, hts] at hR2
      obtain ⟨us, rfl, hl2⟩ := hR2
      walk_at "x"
      repeat (refine iteF ?_; walk_at "x")
      refine ⟨(by show 3 ≤ sizeLine; decide), fun p9 n9 => ?_⟩
      have w9 := w8.new (o := .lst [.ref pC2, .ref pE, .ref pG]) n9
      refine k p9 pC2 pE pG (List.replicate w (zs.map V.int)) _ _ _ ((sB1.trans sB2).trans w9.ex) (w9.get 0 rfl) ⟨⟨us, w9.get 1 rfl, hl2.same w9.ex⟩, w9.get 2 rfl, w9.get 3 rfl, ints_cell, ints_cell, fun e he => ?_⟩ (fun f => ?_) (by rw [List.length_replicate]; omega)
      · obtain rfl := List.eq_of_mem_replicate he
        exact ints_cell
      · have f1 := f.d1
        have f8 := f.d8
        rw [List.length_map] at f1 f8
        omega
    · walk_at "x"
      refine iteF ?_
      walk_at "x"
      refine iteT ?_
      walk_at "x"
      refine x_lenL (w6.sq 2 rfl) ?_
      rw [List.length_map, hts]
      walk_at "x"
      refine ⟨_, rfl, by omega, by omega, cpb_r0 (n := 71 - (w : Int)) (RepR ((tl n D).map V.int)) w6 RepR.nil ?_ ?_⟩
      · intro D2 i B' ys H1 hi sB hR w1
        walk_at "x"
        refine ⟨rfl, ?_⟩
        walk_at "x"
        refine iteT ?_
        walk_at "x"
        refine x_list (w1.sq 2 rfl) (fun t2 nt => ?_)
        have w2 := w1.new (o := .lst ((tl n D).map V.int)) nt
        have nB := w2.none 0 rfl
        have w2 := w2.freeze
        exact pvb_fin (sB.trans (same_upd nB)) ((hR.same (same_upd nB)).snoc upd_same) w2 (by rw [hR.len]; omega)
      intro pX B2 ys H8 sB2 hR2 w8
      rw [show (71 - (w : Int)).toNat = 71 - w by omega] at hR2
      obtain ⟨us, rfl, hl2⟩ := hR2
      have hus := hl2.len
      rw [List.length_replicate] at hus
      walk_at "x"
      refine x_addL (.inl (w8.get 3 rfl)) (.inl (w8.get 0 rfl)) (Nat.le_trans (m := 1000) (by rw [List.length_map, List.length_map]; omega) (by decide)) (fun pC2 nC2 => ?_)
      have w9 := w8.new (o := .lst (ts.map V.ref ++ us.map V.ref)) nC2
      walk_at "x"
      refine ⟨(by show 1 ≤ sizeLine; decide), fun p1 n1 => ?_⟩
      have v1 := w9.new (o := .lst [.int 0]) n1
      walk_at "x"
      refine x_lenL (v1.sq 3 rfl) ?_
      rw [List.length_map, tl_len]
      walk_at "x"
      refine x_mulL (v1.get 0 rfl) ⟨by omega, by omega, Nat.le_trans (m := 1000) (by rw [show (71 - (w : Int)).toNat = 71 - w by omega]; show 1 * (71 - w) ≤ 1000; omega) (by decide)⟩ (fun p2 n2 => ?_)
      have v2 := v1.new (o := .lst (List.replicate (71 - (w : Int)).toNat [V.int 0]).flatten) n2
      rw [rep_flat, show (71 - (w : Int)).toNat = 71 - w by omega, ← List.map_replicate] at v2 ⊢
      walk_at "x"
      refine x_addL (.inl (v2.get 4 rfl)) (.inl (v2.get 0 rfl)) (Nat.le_trans (m := 1000) (by rw [List.length_map, List.length_map, tl_len, List.length_replicate]; omega) (by decide)) (fun p3 n3 => ?_)
      have v3 := v2.new (o := .lst ((tl w G).map V.int ++ (List.replicate (71 - w) (0 : Int)).map V.int)) n3
      walk_at "x"
      repeat (refine iteF ?_; walk_at "x")
      refine ⟨(by show 3 ≤ sizeLine; decide), fun p9 n9 => ?_⟩
      have w9 := v3.new (o := .lst [.ref pC2, .ref pD, .ref p3]) n9
      refine k p9 pC2 pD p3 (colsV n w C ++ List.replicate (71 - w) ((tl n D).map V.int)) _ _ _ ((sB1.trans sB2).trans w9.ex) (w9.get 0 rfl) ⟨⟨ts ++ us, (by rw [List.map_append]; exact w9.get 4 rfl), LsV.app ((hlv.same sB2).same w9.ex) (hl2.same w9.ex)⟩, w9.get 7 rfl, w9.get 1 rfl, ints_cell, fun v hv => (List.mem_append.mp hv).elim (ints_cell v) (ints_cell v), fun e he => ?_⟩ (fun f => ?_) (by rw [List.length_append, hcl, List.length_replicate]; omega)
      · rcases List.mem_append.mp he with m | m
        · exact hcv e m
        · obtain rfl := List.eq_of_mem_replicate m
          exact ints_cell
      · have := f.c70
        rw [List.length_append, hcl, List.length_replicate] at this
        omega
    · walk_at "x"
      repeat (refine iteF ?_; walk_at "x")
      refine iteT ?_
      walk_at "x"
      refine iteT ?_
      walk_at "x"
      refine ⟨pG, _, c, rfl, w6.get 0 rfl, by rw [List.length_map, tl_len]; omega, fun ys hne hle hm p7 H7 n7 s7 c7 => ?_⟩
      have w7 := w6.newE n7 s7 c7
      walk_at "x"
      repeat (refine iteF ?_; walk_at "x")
      refine ⟨(by show 3 ≤ sizeLine; decide), fun p8 n8 => ?_⟩
      have w8 := w7.new (o := .lst [.ref pC, .ref pD, .ref p7]) n8
      refine k p8 pC pD p7 (colsV n w C) _ ys _ (sB1.trans w8.ex) (w8.get 0 rfl) ⟨⟨ts, w8.get 4 rfl, hlv.same w8.ex⟩, w8.get 3 rfl, w8.get 1 rfl, ints_cell, fun v hv => ?_, hcv⟩ (fun f => hne (by rw [f.gl, hcl, List.length_map, tl_len])) (by omega)
      rcases hm v hv with m | ⟨i, rfl⟩
      · exact ints_cell v m
      · exact .int i
    · walk_at "x"
      repeat (refine iteF ?_; walk_at "x")
      refine iteT ?_
      walk_at "x"
      refine iteT ?_
      walk_at "x"
      refine ⟨Nat.zero_le _, fun pE nE => ?_⟩
      have wE := w6.new (o := .lst []) nE
      obtain ⟨dd, hd1, hd2, hd3⟩ := lsv_dp (K := K) (hlv.same wE.ex) hcv
      refine x_eqE (.lst (wE.sq 3 rfl) hd1) (LayD.list hd2) (wE.sq 0 rfl) ?_
      rw [emp_dec (hd3.trans hcl)]
      have w6 := wE.sub (ds := [(pG, _), (pD, _), (pC, _)]) (List.sublist_cons_self _ _)
      refine ⟨_, rfl, ?_⟩
      by_cases h0 : w = 0
      · subst h0
        refine iteT ?_
        walk_at "x"
        refine ⟨pG, _, c, rfl, w6.get 0 rfl, by rw [List.length_map, tl_len]; omega, fun ys hne hle hm p7 H7 n7 s7 c7 => ?_⟩
        have w6 := w6.newE n7 s7 c7
        walk_at "x"
        refine iteT ?_
        walk_at "x"
        refine ⟨Nat.zero_le _, fun pE nE => ?_⟩
        have wE := w6.new (o := .lst []) nE
        obtain ⟨dd, hd1, hd2, hd3⟩ := lsv_dp (K := K) (hlv.same wE.ex) hcv
        refine x_neE (.lst (wE.sq 4 rfl) hd1) (LayD.list hd2) (wE.sq 0 rfl) ?_
        rw [emp_dec (hd3.trans hcl), decide_eq_true rfl]
        have w7 := wE.sub (ds := [(p7, _), (pG, _), (pD, _), (pC, _)]) (List.sublist_cons_self _ _)
        refine ⟨_, rfl, iteF ?_⟩
        walk_at "x"
        repeat (refine iteF ?_; walk_at "x")
        refine ⟨(by show 3 ≤ sizeLine; decide), fun p8 n8 => ?_⟩
        have w8 := w7.new (o := .lst [.ref pC, .ref pD, .ref p7]) n8
        refine k p8 pC pD p7 (colsV n 0 C) _ ys _ (sB1.trans w8.ex) (w8.get 0 rfl) ⟨⟨ts, w8.get 4 rfl, hlv.same w8.ex⟩, w8.get 3 rfl, w8.get 1 rfl, ints_cell, fun v hv => ?_, hcv⟩ (fun f => hne (by rw [f.gl, hcl, List.length_map, tl_len])) (by omega)
        rcases hm v hv with m | ⟨i, rfl⟩
        · exact ints_cell v m
        · exact .int i
      · rw [decide_eq_false h0]
        repeat (refine iteF ?_; walk_at "x")
        refine iteT ?_
        walk_at "x"
        refine ⟨Nat.zero_le _, fun pE nE => ?_⟩
        have wE := w6.new (o := .lst []) nE
        obtain ⟨dd, hd1, hd2, hd3⟩ := lsv_dp (K := K) (hlv.same wE.ex) hcv
        refine x_neE (.lst (wE.sq 3 rfl) hd1) (LayD.list hd2) (wE.sq 0 rfl) ?_
        rw [emp_dec (hd3.trans hcl)]
        have w6 := wE.sub (ds := [(pG, _), (pD, _), (pC, _)]) (List.sublist_cons_self _ _)
        refine ⟨_, rfl, ?_⟩
        rw [decide_eq_false h0]
        refine iteT ?_
        walk_at "x"
        refine x_lenL (w6.sq 2 rfl) ?_
        rw [List.length_map, hts]
        walk_at "x"
        refine x_modP (by omega) ?_
        obtain ⟨j, ej, hj, hix⟩ := ixJ (n := w) (t := t0) (by omega)
        rw [ej]
        obtain ⟨t, ht⟩ : ∃ t, ts[j]? = some t := ⟨ts[j], List.getElem?_eq_getElem (by omega)⟩
        refine x_ixXL (w6.sq 2 rfl) (v := .ref t) (atI_nat (j := j) (by rw [List.getElem?_map, ht] <;> rfl)) ?_
        walk_at "x"
        refine ⟨t, _, c, rfl, w6.ex _ _ (hrow j t ht), by rw [List.length_map, tl_len]; omega, fun ys hne hle hm p7 H7 n7 s7 c7 => ?_⟩
        have w7 := w6.newE n7 s7 c7
        walk_at "x"
        refine x_lenL (w7.sq 3 rfl) ?_
        rw [List.length_map, hts]
        walk_at "x"
        refine x_modP (by omega) ?_
        rw [ej]
        refine x_setL (w7.get 3 rfl) (j := j) (by rw [List.length_map, hts]; exact hix) ?_
        have w8 := w7.put (o' := .lst ((ts.map V.ref).set j (.ref p7))) 3 rfl
        walk_at "x"
        repeat (refine iteF ?_; walk_at "x")
        refine ⟨(by show 3 ≤ sizeLine; decide), fun p9 n9 => ?_⟩
        have w9 := w8.new (o := .lst [.ref pC, .ref pD, .ref pG]) n9
        refine k p9 pC pD pG ((colsV n w C).set j ys) _ _ _ (sB1.trans w9.ex) (w9.get 0 rfl) ⟨⟨ts.set j p7, (by rw [List.map_set]; exact w9.get 4 rfl), LsV.set (w9.get 1 rfl) (hlv.same w9.ex) j⟩, w9.get 3 rfl, w9.get 2 rfl, ints_cell, ints_cell, fun e he v hv => ?_⟩ (fun f => hne ?_) (by rw [List.length_set]; omega)
        · rcases List.mem_or_eq_of_mem_set he with m | rfl
          · exact hcv e m v hv
          · rcases hm v hv with m | ⟨i, rfl⟩
            · exact ints_cell v m
            · exact .int i
        · have := (f.cl ys (List.mem_of_getElem? (List.getElem?_set_self (by rw [hcl]; exact hj)))).1
          rw [this, List.length_map, List.length_map, tl_len, tl_len]
    · walk_at "x"
      repeat (refine iteF ?_; walk_at "x")
      refine iteT ?_
      walk_at "x"
      refine iteT ?_
      walk_at "x"
      refine ⟨c, rfl, fun v H7 s7 hv hc7 => ?_⟩
      obtain ⟨B2, sB2, w7, sN⟩ := own_grow w6 s7
      have hv7 := hc7.same sN
      walk_at "x"
      refine x_lenL (w7.sq 1 rfl) ?_
      rw [List.length_map, tl_len]
      walk_at "x"
      refine x_modP (by omega) ?_
      obtain ⟨j, ej, hj, hix⟩ := ixJ (n := n) (t := t0) (by omega)
      rw [ej]
      refine x_setL (w7.get 1 rfl) (j := j) (by rw [List.length_map, tl_len]; exact hix) ?_
      have w8 := w7.put (o' := .lst (((tl n D).map V.int).set j v)) 1 rfl
      walk_at "x"
      repeat (refine iteF ?_; walk_at "x")
      refine ⟨(by show 3 ≤ sizeLine; decide), fun p9 n9 => ?_⟩
      have w9 := w8.new (o := .lst [.ref pC, .ref pD, .ref pG]) n9
      exact k p9 pC pD pG (colsV n w C) _ _ _ ((sB1.trans sB2).trans w9.ex) (w9.get 0 rfl) ⟨⟨ts, w9.get 3 rfl, (hlv.same sB2).same w9.ex⟩, w9.get 2 rfl, w9.get 1 rfl, set_cells (hv7.same w9.ex), ints_cell, hcv⟩ (fun f => not_all hv (List.mem_of_getElem? (List.getElem?_set_self (by rw [List.length_map, tl_len]; exact hj))) f.di) (by omega)
    · walk_at "x"
      repeat (refine iteF ?_; walk_at "x")
      refine iteT ?_
      walk_at "x"
      refine ⟨Nat.zero_le _, fun pE nE => ?_⟩
      have wE := w6.new (o := .lst []) nE
      refine x_eqLI (ns := tl w G) (ms := []) (wE.sq 1 rfl) (SqL.of (wE.get 0 rfl)) ?_
      have w6 := wE.sub (ds := [(pG, _), (pD, _), (pC, _)]) (List.sublist_cons_self _ _)
      refine ⟨_, rfl, ?_⟩
      by_cases h0 : w = 0
      · subst h0
        refine iteT ?_
        walk_at "x"
        refine ⟨c, rfl, fun v H7 s7 hv hc7 => ?_⟩
        obtain ⟨B2, sB2, w7, sN⟩ := own_grow w6 s7
        have hv7 := hc7.same sN
        walk_at "x"
        refine x_lenL (w7.sq 1 rfl) ?_
        rw [List.length_map, tl_len]
        walk_at "x"
        refine x_modP (by omega) ?_
        obtain ⟨j, ej, hj, hix⟩ := ixJ (n := n) (t := t0) (by omega)
        rw [ej]
        refine x_setL (w7.get 1 rfl) (j := j) (by rw [List.length_map, tl_len]; exact hix) ?_
        have w8 := w7.put (o' := .lst (((tl n D).map V.int).set j v)) 1 rfl
        walk_at "x"
        repeat (refine iteF ?_; walk_at "x")
        refine iteT ?_
        walk_at "x"
        refine ⟨Nat.zero_le _, fun pX nX => ?_⟩
        have wX := w8.new (o := .lst []) nX
        refine x_neLI (ns := tl 0 G) (ms := []) (wX.sq 1 rfl) (SqL.of (wX.get 0 rfl)) ?_
        have w8 := wX.sub (ds := [(pG, _), (pD, _), (pC, _)]) (List.sublist_cons_self _ _)
        rw [decide_eq_true (show tl 0 G = [] from rfl)]
        refine ⟨_, rfl, iteF ?_⟩
        walk_at "x"
        repeat (refine iteF ?_; walk_at "x")
        refine ⟨(by show 3 ≤ sizeLine; decide), fun p9 n9 => ?_⟩
        have w9 := w8.new (o := .lst [.ref pC, .ref pD, .ref pG]) n9
        exact k p9 pC pD pG (colsV n 0 C) _ _ _ ((sB1.trans sB2).trans w9.ex) (w9.get 0 rfl) ⟨⟨ts, w9.get 3 rfl, (hlv.same sB2).same w9.ex⟩, w9.get 2 rfl, w9.get 1 rfl, set_cells (hv7.same w9.ex), ints_cell, hcv⟩ (fun f => not_all hv (List.mem_of_getElem? (List.getElem?_set_self (by rw [List.length_map, tl_len]; exact hj))) f.di) (by omega)
      · rw [decide_eq_false (fun e => h0 (by have := congrArg List.length e; rw [tl_len] at this; exact this))]
        repeat (refine iteF ?_; walk_at "x")
        refine iteT ?_
        walk_at "x"
        refine ⟨Nat.zero_le _, fun pE nE => ?_⟩
        have wE := w6.new (o := .lst []) nE
        refine x_neLI (ns := tl w G) (ms := []) (wE.sq 1 rfl) (SqL.of (wE.get 0 rfl)) ?_
        have w6 := wE.sub (ds := [(pG, _), (pD, _), (pC, _)]) (List.sublist_cons_self _ _)
        refine ⟨_, rfl, ?_⟩
        rw [decide_eq_false (fun e => h0 (by have := congrArg List.length e; rw [tl_len] at this; exact this))]
        refine iteT ?_
        walk_at "x"
        refine ⟨c, rfl, fun v H7 s7 hv hc7 => ?_⟩
        obtain ⟨B2, sB2, w7, sN⟩ := own_grow w6 s7
        have hv7 := hc7.same sN
        walk_at "x"
        refine x_lenL (w7.sq 0 rfl) ?_
        rw [List.length_map, tl_len]
        walk_at "x"
        refine x_modP (by omega) ?_
        obtain ⟨j, ej, hj, hix⟩ := ixJ (n := w) (t := t0) (by omega)
        rw [ej]
        refine x_setL (w7.get 0 rfl) (j := j) (by rw [List.length_map, tl_len]; exact hix) ?_
        have w8 := w7.put (o' := .lst (((tl w G).map V.int).set j v)) 0 rfl
        walk_at "x"
        repeat (refine iteF ?_; walk_at "x")
        refine ⟨(by show 3 ≤ sizeLine; decide), fun p9 n9 => ?_⟩
        have w9 := w8.new (o := .lst [.ref pC, .ref pD, .ref pG]) n9
        exact k p9 pC pD pG (colsV n w C) _ _ _ ((sB1.trans sB2).trans w9.ex) (w9.get 0 rfl) ⟨⟨ts, w9.get 3 rfl, (hlv.same sB2).same w9.ex⟩, w9.get 2 rfl, w9.get 1 rfl, ints_cell, set_cells (hv7.same w9.ex), hcv⟩ (fun f => not_all hv (List.mem_of_getElem? (List.getElem?_set_self (by rw [List.length_map, tl_len]; exact hj))) f.gi) (by omega)
    · walk_at "x"
      repeat (refine iteF ?_; walk_at "x")
      refine iteT ?_
      walk_at "x"
      refine ⟨Nat.zero_le _, fun pE nE => ?_⟩
      have wE := w6.new (o := .lst []) nE
      obtain ⟨dd, hd1, hd2, hd3⟩ := lsv_dp (K := K) (hlv.same wE.ex) hcv
      refine x_eqE (.lst (wE.sq 3 rfl) hd1) (LayD.list hd2) (wE.sq 0 rfl) ?_
      rw [emp_dec (hd3.trans hcl)]
      have w6 := wE.sub (ds := [(pG, _), (pD, _), (pC, _)]) (List.sublist_cons_self _ _)
      refine ⟨_, rfl, ?_⟩
      by_cases h0 : w = 0
      · subst h0
        refine iteT ?_
        walk_at "x"
        refine ⟨pG, _, c, rfl, w6.get 0 rfl, by rw [List.length_map, tl_len]; omega, fun ys hne hle hm p7 H7 n7 s7 c7 => ?_⟩
        have w6 := w6.newE n7 s7 c7
        walk_at "x"
        repeat (refine iteF ?_; walk_at "x")
        refine iteT ?_
        walk_at "x"
        refine ⟨Nat.zero_le _, fun pE nE => ?_⟩
        have wE := w6.new (o := .lst []) nE
        obtain ⟨dd, hd1, hd2, hd3⟩ := lsv_dp (K := K) (hlv.same wE.ex) hcv
        refine x_neE (.lst (wE.sq 4 rfl) hd1) (LayD.list hd2) (wE.sq 0 rfl) ?_
        rw [emp_dec (hd3.trans hcl), decide_eq_true rfl]
        have w7 := wE.sub (ds := [(p7, _), (pG, _), (pD, _), (pC, _)]) (List.sublist_cons_self _ _)
        refine ⟨_, rfl, iteF ?_⟩
        walk_at "x"
        repeat (refine iteF ?_; walk_at "x")
        refine ⟨(by show 3 ≤ sizeLine; decide), fun p8 n8 => ?_⟩
        have w8 := w7.new (o := .lst [.ref pC, .ref pD, .ref p7]) n8
        refine k p8 pC pD p7 (colsV n 0 C) _ ys _ (sB1.trans w8.ex) (w8.get 0 rfl) ⟨⟨ts, w8.get 4 rfl, hlv.same w8.ex⟩, w8.get 3 rfl, w8.get 1 rfl, ints_cell, fun v hv => ?_, hcv⟩ (fun f => hne (by rw [f.gl, hcl, List.length_map, tl_len])) (by omega)
        rcases hm v hv with m | ⟨i, rfl⟩
        · exact ints_cell v m
        · exact .int i
      · rw [decide_eq_false h0]
        repeat (refine iteF ?_; walk_at "x")
        refine iteT ?_
        walk_at "x"
        refine ⟨Nat.zero_le _, fun pE nE => ?_⟩
        have wE := w6.new (o := .lst []) nE
        obtain ⟨dd, hd1, hd2, hd3⟩ := lsv_dp (K := K) (hlv.same wE.ex) hcv
        refine x_neE (.lst (wE.sq 3 rfl) hd1) (LayD.list hd2) (wE.sq 0 rfl) ?_
        rw [emp_dec (hd3.trans hcl)]
        have w6 := wE.sub (ds := [(pG, _), (pD, _), (pC, _)]) (List.sublist_cons_self _ _)
        refine ⟨_, rfl, ?_⟩
        rw [decide_eq_false h0]
        refine iteT ?_
        walk_at "x"
        refine ⟨c, rfl, fun v H7 s7 hv hc7 => ?_⟩
        obtain ⟨B2, sB2, w7, sN⟩ := own_grow w6 s7
        walk_at "x"
        refine x_lenL (w7.sq 2 rfl) ?_
        rw [List.length_map, hts]
        walk_at "x"
        refine x_modP (by omega) ?_
        obtain ⟨j, ej, hj, hix⟩ := ixJ (n := w) (t := t0) (by omega)
        rw [ej]
        obtain ⟨t, ht⟩ : ∃ t, ts[j]? = some t := ⟨ts[j], List.getElem?_eq_getElem (by omega)⟩
        refine x_ixXL (w7.sq 2 rfl) (v := .ref t) (atI_nat (j := j) (by rw [List.getElem?_map, ht] <;> rfl)) ?_
        walk_at "x"
        refine x_divP (by decide) (by decide) ?_
        walk_at "x"
        refine x_lenL (w7.sq 1 rfl) ?_
        rw [List.length_map, tl_len]
        walk_at "x"
        refine x_modP (by omega) ?_
        obtain ⟨i2, ei2, hi2, hix2⟩ := ixJ (n := n) (t := t0 / 70) (by omega)
        rw [ei2]
        have hB2t := sB2 _ _ (hrow j t ht)
        have hHt : H t = none := hfr t (List.mem_of_getElem? ht)
        have ne : ∀ {a : Addr}, B2 a = none → a ≠ t := fun e z => by subst z; rw [hB2t] at e; cases e
        refine x_setL (w7.ex _ _ hB2t) (j := i2) (by rw [List.length_map, tl_len]; exact hix2) ?_
        have kC := w7.get 2 rfl
        have kD := w7.get 1 rfl
        have kG := w7.get 0 rfl
        rw [← upd_ne (H := H7) (o := .lst (((tl n (C j)).map V.int).set i2 v)) (ne (w7.none 2 rfl))] at kC
        rw [← upd_ne (H := H7) (o := .lst (((tl n (C j)).map V.int).set i2 v)) (ne (w7.none 1 rfl))] at kD
        rw [← upd_ne (H := H7) (o := .lst (((tl n (C j)).map V.int).set i2 v)) (ne (w7.none 0 rfl))] at kG
        have kt : (upd H7 t (.lst (((tl n (C j)).map V.int).set i2 v))) t = some (.lst (((tl n (C j)).map V.int).set i2 v)) := upd_same
        have ko : ∀ {a : Addr} {o : HO}, a ≠ t → H7 a = some o → (upd H7 t (.lst (((tl n (C j)).map V.int).set i2 v))) a = some o := fun h e => by rw [upd_ne h]; exact e
        have sH : Same H (upd H7 t (.lst (((tl n (C j)).map V.int).set i2 v))) := fun a o h => ko (fun z => by subst z; rw [hHt] at h; cases h) (((sB1.trans sB2).trans w7.ex) _ _ h)
        have hv8 : CellV K (upd H7 t (.lst (((tl n (C j)).map V.int).set i2 v))) v := hc7.same fun a o h => by
          obtain ⟨h1, h2⟩ := newR_in h
          refine ko (fun z => ?_) h2
          have e6 := w6.ex _ _ (hrow j t ht)
          rw [← z, h1] at e6
          cases e6
        have hl8 : LsV (upd H7 t (.lst (((tl n (C j)).map V.int).set i2 v))) ts ((colsV n w C).set j (((tl n (C j)).map V.int).set i2 v)) := LsV.of (by rw [List.length_set, hcl]; exact hts) fun i t' c' h1 h2 => by
          by_cases ij : j = i
          · subst ij
            rw [ht] at h1
            obtain rfl := Option.some.inj h1
            rw [List.getElem?_set_self (by rw [hcl]; exact hj)] at h2
            obtain rfl := Option.some.inj h2
            exact kt
          · rw [List.getElem?_set_ne ij] at h2
            unfold colsV at h2
            obtain ⟨_, rfl⟩ := tl2_at h2
            refine ko (fun z => ij ?_) (w7.ex _ _ (sB2 _ _ (hrow i t' h1)))
            subst z
            exact (List.getElem?_inj (show j < ts.length by omega) hnd).mp (ht.trans h1.symm)
        generalize upd H7 t (.lst (((tl n (C j)).map V.int).set i2 v)) = H8 at *
        walk_at "x"
        refine ⟨(by show 3 ≤ sizeLine; decide), fun p9 n9 => ?_⟩
        have w9 := (Own.start (H := H8)).new (o := .lst [.ref pC, .ref pD, .ref pG]) n9
        refine k p9 pC pD pG ((colsV n w C).set j (((tl n (C j)).map V.int).set i2 v)) _ _ _ (sH.trans w9.ex) (w9.get 0 rfl) ⟨⟨ts, w9.ex _ _ kC, hl8.same w9.ex⟩, w9.ex _ _ kD, w9.ex _ _ kG, ints_cell, ints_cell, fun e he u hu => ?_⟩ (fun f => ?_) (by rw [List.length_set]; omega)
        · rcases List.mem_or_eq_of_mem_set he with m | rfl
          · exact hcv e m u hu
          · exact set_cells (hv8.same w9.ex) u hu
        · exact not_all hv (List.mem_of_getElem? (List.getElem?_set_self (by rw [List.length_map, tl_len]; exact hi2))) (f.cl _ (List.mem_of_getElem? (List.getElem?_set_self (by rw [hcl]; exact hj)))).2

/-! ### _law_own -/
def sp__law_own (A : Ads) : Addr → Value → Option Addr → Sp := fun a cls d vs H Q _ => vs = [.ref a] ∧ cls = .ref A.NoRows ∧ d = none ∧ RetV (.bl true) H Q
theorem ok__law_own (T : Txt K mg A) : FnP P w K mg base 1 A.a__law_own A.d__law_own ["_law_error"] (sp__law_own A) := by
  refine okP T.F__law_own sc__law_own (fun a c d vs H Q E h => ?_) (fun cdv A0 outer s H vs Q E a oe hr hf h => ?_)
  · obtain ⟨rfl, _⟩ := h; rfl
  · obtain ⟨rfl, hc, hd, k⟩ := h
    have w := Own.start (H := H)
    refine ⟨_, (pss_cons (ps_if (PW.pt (pw_or (pt_val (pe_callB (call_isPTX (K := K) rfl (List.mem_singleton_self _) hf) (by rfl) T.z_isinstance (by decide +kernel) (pa_cons (pv 0) (pa_cons (pe_tup (pa_cons (pe_glob (v := .ref A.NoGroup) (by rfl) T.g_NoGroup rfl) (pa_cons (pe_glob (v := .ref A.NoNumber) (by rfl) T.g_NoNumber rfl) pa_nil))) pa_nil)))) (pw_or1 (pt_val (pe_callB (call_isPTX (K := K) rfl (List.mem_singleton_self _) hf) (by rfl) T.z_isinstance (by decide +kernel) (pa_cons (pv 0) (pa_cons (pe_tup (pa_cons (pe_glob (v := .ref A.NoOrder) (by rfl) T.g_NoOrder rfl) (pa_cons (pe_glob (v := .ref A.NoRule) (by rfl) T.g_NoRule rfl) pa_nil))) pa_nil))))))) (pss_one (ps_ret pe_bl)) pss_nil)
      (pss_cons (ps_if (PW.pt (pw_or (pt_val (pe_callB (call_isPTX (K := K) rfl (List.mem_singleton_self _) hf) (by rfl) T.z_isinstance (by decide +kernel) (pa_cons (pv 0) (pa_cons (pe_tup (pa_cons (pe_glob (v := .ref A.NoShares) (by rfl) T.g_NoShares rfl) (pa_cons (pe_glob (v := .ref A.NoTable) (by rfl) T.g_NoTable rfl) pa_nil))) pa_nil)))) (pw_or1 (pt_val (pe_callB (call_isPTX (K := K) rfl (List.mem_singleton_self _) hf) (by rfl) T.z_isinstance (by decide +kernel) (pa_cons (pv 0) (pa_cons (pe_tup (pa_cons (pe_glob (v := .ref A.NoText) (by rfl) T.g_NoText rfl) (pa_cons (pe_glob (v := .ref A.NoVotes) (by rfl) T.g_NoVotes rfl) pa_nil))) pa_nil))))))) (pss_one (ps_ret pe_bl)) pss_nil)
      (pss_cons (ps_if (pt_val (pe_callB (call_isPTX (K := K) rfl (List.mem_singleton_self _) hf) (by rfl) T.z_isinstance (by decide +kernel) (pa_cons (pv 0) (pa_cons (pe_tup (pa_cons (pe_glob (v := .ref A.TooMany) (by rfl) T.g_TooMany rfl) (pa_cons (pe_glob (v := .ref A.Unlike) (by rfl) T.g_Unlike rfl) pa_nil))) pa_nil)))) (pss_one (ps_ret pe_bl)) pss_nil)
      (pss_one (ps_ret (pe_and (pe_callB (call_isPX (K := K) rfl (List.mem_singleton_self _) hf) (by rfl) T.z_isinstance (by decide +kernel) (pa_cons (pv 0) (pa_cons (pe_glob (v := .ref A.NoRows) (by rfl) T.g_NoRows rfl) pa_nil))) (pe_one (pe_callB (call_isPX (K := K) rfl (List.mem_singleton_self _) hf) (by rfl) T.z_isinstance (by decide +kernel) (pa_cons (pv 0) (pa_cons (pe_bltn (v := .ty "ValueError") (by rfl) T.z_ValueError (by decide +kernel) rfl) pa_nil)))))))))), ?_⟩
    rw [hc, hd]
    walk_at "x"
    refine ⟨(by show 2 ≤ sizeLine; decide), fun p1 n1 => ?_⟩
    have w1 := w.new (o := .tup [.ref A.NoGroup, .ref A.NoNumber]) n1
    walk_at "x"
    refine x_isET (Cs := [A.NoGroup, A.NoNumber]) T.X_NoRows (w1.get 0 rfl) (kit_no (kit_own T.q_NoGroup T.u_NoRows_NoGroup) (kit_no (kit_own T.q_NoNumber T.u_NoRows_NoNumber) rfl)) ?_
    refine ⟨false, rfl, iteF ?_⟩
    walk_at "x"
    refine ⟨(by show 2 ≤ sizeLine; decide), fun p2 n2 => ?_⟩
    have w2 := w1.new (o := .tup [.ref A.NoOrder, .ref A.NoRule]) n2
    walk_at "x"
    refine x_isET (Cs := [A.NoOrder, A.NoRule]) T.X_NoRows (w2.get 0 rfl) (kit_no (kit_own T.q_NoOrder T.u_NoRows_NoOrder) (kit_no (kit_own T.q_NoRule T.u_NoRows_NoRule) rfl)) ?_
    refine ⟨false, rfl, iteF ?_⟩
    walk_at "x"
    refine ⟨(by show 2 ≤ sizeLine; decide), fun p3 n3 => ?_⟩
    have w3 := w2.new (o := .tup [.ref A.NoShares, .ref A.NoTable]) n3
    walk_at "x"
    refine x_isET (Cs := [A.NoShares, A.NoTable]) T.X_NoRows (w3.get 0 rfl) (kit_no (kit_own T.q_NoShares T.u_NoRows_NoShares) (kit_no (kit_own T.q_NoTable T.u_NoRows_NoTable) rfl)) ?_
    refine ⟨false, rfl, iteF ?_⟩
    walk_at "x"
    refine ⟨(by show 2 ≤ sizeLine; decide), fun p4 n4 => ?_⟩
    have w4 := w3.new (o := .tup [.ref A.NoText, .ref A.NoVotes]) n4
    walk_at "x"
    refine x_isET (Cs := [A.NoText, A.NoVotes]) T.X_NoRows (w4.get 0 rfl) (kit_no (kit_own T.q_NoText T.u_NoRows_NoText) (kit_no (kit_own T.q_NoVotes T.u_NoRows_NoVotes) rfl)) ?_
    refine ⟨false, rfl, iteF ?_⟩
    walk_at "x"
    refine ⟨(by show 2 ≤ sizeLine; decide), fun p5 n5 => ?_⟩
    have w5 := w4.new (o := .tup [.ref A.TooMany, .ref A.Unlike]) n5
    walk_at "x"
    refine x_isET (Cs := [A.TooMany, A.Unlike]) T.X_NoRows (w5.get 0 rfl) (kit_no (kit_own T.q_TooMany T.u_NoRows_TooMany) (kit_no (kit_own T.q_Unlike T.u_NoRows_Unlike) rfl)) ?_
    refine ⟨false, rfl, iteF ?_⟩
    walk_at "x"
    refine x_isE T.X_NoRows T.q_NoRows T.u_NoRows_NoRows ?_
    refine ⟨true, rfl, iteT ?_⟩
    walk_at "x"
    refine x_isEV T.X_NoRows T.v_NoRows ?_
    exact k _ w5.ex

/-! ### _law_refused -/
def sp__law_refused (K : PySem.W.Frag) : Sp := fun vs H Q _ => ∃ (a cA dA gA : Addr) (cs : List (List V)) (ds gs : List V), vs = [.ref a] ∧ SqL K H a [.ref cA, .ref dA, .ref gA] ∧ RowsV K H cA dA gA cs ds gs ∧ ¬ Fits cs ds gs ∧ RetV (.bl true) H Q
theorem ok__law_refused (T : Txt K mg A) : FnOk P w K mg base (L2.CX P w) 7 A.a__law_refused A.d__law_refused ["_law_lists_here"] (sp__law_refused K) := by
  refine T.F__law_refused.okX sc__law_refused (fun vs H Q E h => ?_) (fun cdv A0 outer s H vs Q E hr h => ?_)
  · obtain ⟨a, cA, dA, gA, cs, ds, gs, rfl, _⟩ := h; rfl
  · obtain ⟨a, cA, dA, gA, cs, ds, gs, rfl, hA, hV, bad, q⟩ := h
    refine ⟨_, (pss_cons (ps_set (i := 1) sc__law_refused.nd rfl (.inl rfl) pe_bl)
      (pss_cons (ps_try_as (i := 2) (Wout := fun _ _ _ _ => False) rfl rfl sc__law_refused.nd rfl rfl ⟨rfl, by decide, Or.inl T.g_ShareError⟩ takes0 (fun W pn xe tk _ => (pss_one (ps_expr (pe_callS (ok_weigh T) (hr.mono (by decide)) (by rfl) T.g_weigh T.F_weigh.kp T.b_weigh (fun σ => passAt tk σ) (pa_cons (pe_ix (ix_seqK (K := K) rfl) (pv 0) pe_int (fun _ _ => rfl)) (pa_cons (pe_ix (ix_seqK (K := K) rfl) (pv 0) pe_int (fun _ _ => rfl)) (pa_cons (pe_ix (ix_seqK (K := K) rfl) (pv 0) pe_int (fun _ _ => rfl)) pa_nil))))))) (fun a oe cls d pn hz hf => (pss_one (ps_set (i := 1) sc__law_refused.nd rfl (.inl rfl) (pe_callP hz hf (ok__law_own T) (hr.mono (by decide)) (by rfl) T.g__law_own T.F__law_own.kp T.b__law_own (pa_cons (pv 2) pa_nil))))))
      (pss_one (ps_ret (pv 1))))), ?_⟩
    walk_at "x"
    refine x_ixXL hA (v := .ref cA) (atI_nat (j := 0) rfl) ?_
    walk_at "x"
    refine x_ixXL hA (v := .ref dA) (atI_nat (j := 1) rfl) ?_
    walk_at "x"
    refine x_ixXL hA (v := .ref gA) (atI_nat (j := 2) rfl) ?_
    refine x_nil ?_
    have ex : ∀ (W : XK), (∀ H', Same H H' → W (.ref A.NoRows) none H') → ∀ (Q : VK), sp_weigh A K [.ref cA, .ref dA, .ref gA] H Q W := fun W hW Q => ⟨cA, dA, gA, cs, ds, gs, rfl, hV, fun f => absurd f bad, fun _ => hW⟩
    refine ex _ (fun H1 s1 => ⟨true, T.h_NoRows_ShareError, fun _ a0 ha0 => ?_, fun q => nomatch q⟩) _
    walk_at "x"
    refine ⟨rfl, rfl, rfl, fun H2 s2 => ?_⟩
    walk_at "x"
    exact q _ (s1.trans s2)

/-! ### _law_taken -/
def sp__law_taken (K : PySem.W.Frag) : Sp := fun vs H Q _ => ∃ (a pC pD pG : Addr) (us : List Addr) (n w : Nat) (C : Nat → Nat → Int) (D G : Nat → Int), vs = [.ref a] ∧ SqL K H a [.ref pC, .ref pD, .ref pG] ∧ GoodR H pC pD pG us n w C D G ∧ RetV (.bl true) H Q
theorem ok__law_taken (T : Txt K mg A) : FnOk P w K mg base (L2.CX P w) 7 A.a__law_taken A.d__law_taken ["_law_lists_here"] (sp__law_taken K) := by
  refine T.F__law_taken.okX sc__law_taken (fun vs H Q E h => ?_) (fun cdv A0 outer s H vs Q E hr h => ?_)
  · obtain ⟨a, pC, pD, pG, us, n, w, C, D, G, rfl, _⟩ := h; rfl
  · obtain ⟨a, pC, pD, pG, us, n, w, C, D, G, rfl, hA, good, k⟩ := h
    have hz := good.small
    refine ⟨_, (pss_cons (ps_set (i := 1) sc__law_taken.nd rfl (.inl rfl) (pe_call (ok_weigh T) (hr.mono (by decide)) (by rfl) T.g_weigh T.F_weigh.kp T.b_weigh .nil (passes_call (takes_of rfl rfl rfl rfl) (fun _ _ _ _ h => h)) (pa_cons (pe_ix (ix_seqK (K := K) rfl) (pv 0) pe_int (fun _ _ => rfl)) (pa_cons (pe_ix (ix_seqK (K := K) rfl) (pv 0) pe_int (fun _ _ => rfl)) (pa_cons (pe_ix (ix_seqK (K := K) rfl) (pv 0) pe_int (fun _ _ => rfl)) pa_nil)))))
      (pss_one (ps_ret (pe_and (pe_callB (call_isiX (K := K) rfl) (by rfl) T.z_isinstance (by decide +kernel) (pa_cons (pv 1) (pa_cons (pe_bltn (v := .ty "tuple") (by rfl) T.z_tuple (by decide +kernel) rfl) pa_nil))) (pe_and (pe_cmpR op_gtX (pe_callB (call_lenK (K := K) rfl) (by rfl) T.z_len (by decide +kernel) (pa_cons (pv 1) pa_nil)) pe_int (nomark _)) (pe_one (pe_cmpR (op_in_seqK (K := K) rfl) (pe_ix (ix_seqK (K := K) rfl) (pv 1) pe_int (fun _ _ => rfl)) (pe_tup (pa_cons pe_str (pa_cons pe_str (pa_cons pe_str pa_nil)))) (by rfl)))))))), ?_⟩
    walk_at "x"
    refine x_ixXL hA (v := .ref pC) (atI_nat (j := 0) rfl) ?_
    walk_at "x"
    refine x_ixXL hA (v := .ref pD) (atI_nat (j := 1) rfl) ?_
    walk_at "x"
    refine x_ixXL hA (v := .ref pG) (atI_nat (j := 2) rfl) ?_
    refine x_nil ?_
    refine ⟨pC, pD, pG, _, _, _, rfl, good.rows, fun _ => ⟨n, w, 60, C, D, G, us, good.cols, SqL.of good.d, SqL.of good.g, hz, fun s word ls pT H6 g1 s6 g3 => ?_⟩, fun f => absurd good.fits f⟩
    have hF := told_wgh2 hz g1 g3.a
    cases hF with
    | none hPt hI hY =>
      walk_at "x"
      refine x_isiTupT (.inl hPt) ?_
      walk_at "x"
      refine iteT ?_
      walk_at "x"
      refine x_lenT (.inl (.inl hPt)) ?_
      walk_at "x"
      refine iteT ?_
      walk_at "x"
      refine x_ixXT (.inl (.inl hPt)) (v := .str "none") (atI_nat (j := 0) rfl) ?_
      walk_at "x"
      refine ⟨(by show 3 ≤ sizeLine; decide), fun pN nN => ?_⟩
      have sN := same_upd (o := .tup [.str "best", .str "none", .str "endless"]) nN
      refine ⟨pN, _, rfl, .inr (SqT.of upd_same), rfl, rfl, ?_⟩
      exact k _ (s6.trans sN)
    | endless hPt hI hX hW =>
      walk_at "x"
      refine x_isiTupT (.inl hPt) ?_
      walk_at "x"
      refine iteT ?_
      walk_at "x"
      refine x_lenT (.inl (.inl hPt)) ?_
      walk_at "x"
      refine iteT ?_
      walk_at "x"
      refine x_ixXT (.inl (.inl hPt)) (v := .str "endless") (atI_nat (j := 0) rfl) ?_
      walk_at "x"
      refine ⟨(by show 3 ≤ sizeLine; decide), fun pN nN => ?_⟩
      have sN := same_upd (o := .tup [.str "best", .str "none", .str "endless"]) nN
      refine ⟨pN, _, rfl, .inr (SqT.of upd_same), rfl, rfl, ?_⟩
      exact k _ (s6.trans sN)
    | best hPt hI hX hY =>
      walk_at "x"
      refine x_isiTupT (.inl hPt) ?_
      walk_at "x"
      refine iteT ?_
      walk_at "x"
      refine x_lenT (.inl (.inl hPt)) ?_
      walk_at "x"
      refine iteT ?_
      walk_at "x"
      refine x_ixXT (.inl (.inl hPt)) (v := .str "best") (atI_nat (j := 0) rfl) ?_
      walk_at "x"
      refine ⟨(by show 3 ≤ sizeLine; decide), fun pN nN => ?_⟩
      have sN := same_upd (o := .tup [.str "best", .str "none", .str "endless"]) nN
      refine ⟨pN, _, rfl, .inr (SqT.of upd_same), rfl, rfl, ?_⟩
      exact k _ (s6.trans sN)

/-! ### law -/
def sp_law (K : PySem.W.Frag) : Sp := fun vs H Q _ => ∃ (a : Addr) (ns : List Int), vs = [.ref a] ∧ SqL K H a (ns.map V.int) ∧ ns.length ≤ 63 ∧ ∀ H', Q (.bl true) H'
theorem lsv_dp2 {K : PySem.W.Frag} {H : Hp} : ∀ {ts us : List Addr} {cs : List (List V)}, LsV H ts cs → LsV H us cs → (∀ c ∈ cs, ∀ v ∈ c, CellV K H v) → ∃ dd, DpAll K H (ts.map V.ref) dd ∧ DpAll K H (us.map V.ref) dd ∧ ∀ d ∈ dd, LayD 4 d
  | _, _, _, .nil, .nil, _ => ⟨[], .nil, .nil, fun d hd => (by cases hd)⟩
  | _, _, _, .cons e r, .cons e' r', h => by
    obtain ⟨es, h1, h2⟩ := cells_dp (h _ (.head _))
    obtain ⟨dd, h3, h5, h4⟩ := lsv_dp2 r r' fun c hc => h c (.tail _ hc)
    refine ⟨_ :: dd, .cons (.lst (SqL.of e) h1) h3, .cons (.lst (SqL.of e') h1) h5, fun d hd => ?_⟩
    cases hd with
    | head => exact LayD.list h2
    | tail _ m => exact h4 d m
theorem rows_dp2 {K : PySem.W.Frag} {H : Hp} {p q pC pD pG qC qD qG : Addr} {cs : List (List V)} {ds gs : List V} (hp : SqL K H p [.ref pC, .ref pD, .ref pG]) (h1 : RowsV K H pC pD pG cs ds gs) (hq : SqL K H q [.ref qC, .ref qD, .ref qG]) (h2 : RowsV K H qC qD qG cs ds gs) : ∃ d, Dp K H (.ref p) d ∧ Dp K H (.ref q) d ∧ LayD 6 d := by
  obtain ⟨ts, t1, t2⟩ := h1.c
  obtain ⟨us, u1, u2⟩ := h2.c
  obtain ⟨dd, a1, a2, a3⟩ := lsv_dp2 t2 u2 h1.tc
  obtain ⟨ed, b1, b2⟩ := cells_dp h1.td
  obtain ⟨eg, c1, c2⟩ := cells_dp h1.tg
  refine ⟨.list [.list dd, .list ed, .list eg], .lst hp (.cons (.lst (SqL.of t1) a1) (.cons (.lst (SqL.of h1.d) b1) (.cons (.lst (SqL.of h1.g) c1) .nil))), .lst hq (.cons (.lst (SqL.of u1) a2) (.cons (.lst (SqL.of h2.d) b1) (.cons (.lst (SqL.of h2.g) c1) .nil))), LayD.list fun d hd => ?_⟩
  simp only [List.mem_cons, List.not_mem_nil, or_false] at hd
  rcases hd with rfl | rfl | rfl
  · exact LayD.list a3
  · exact LayD.mono (by decide) (LayD.list b2)
  · exact LayD.mono (by decide) (LayD.list c2)
def CpV (cs : List (List V)) (i : Nat) (B : Hp) (ys : List V) : Prop := ∃ ts : List Addr, ys = ts.map V.ref ∧ LsV B ts (cs.take i)
theorem CpV.nil {cs : List (List V)} {B : Hp} : CpV cs 0 B [] := ⟨[], rfl, by rw [List.take_zero]; exact .nil⟩
theorem CpV.same {cs : List (List V)} {i : Nat} {B B' : Hp} {ys : List V} (s : Same B B') (h : CpV cs i B ys) : CpV cs i B' ys := by
  obtain ⟨ts, e, l⟩ := h
  exact ⟨ts, e, l.same s⟩
theorem CpV.len {cs : List (List V)} {i : Nat} {B : Hp} {ys : List V} (h : CpV cs i B ys) : ys.length ≤ i := by
  obtain ⟨ts, rfl, l⟩ := h
  rw [List.length_map, l.len, List.length_take]
  omega
theorem CpV.snoc {cs : List (List V)} {i : Nat} {B : Hp} {ys : List V} {t : Addr} {c : List V} (h : CpV cs i B ys) (hc : cs[i]? = some c) (ht : B t = some (.lst c)) : CpV cs (i + 1) B (ys ++ [.ref t]) := by
  obtain ⟨ts, rfl, l⟩ := h
  exact ⟨ts ++ [t], by rw [List.map_append] <;> rfl, by rw [List.take_add_one, hc]; exact l.snoc ht⟩
theorem ok_law (T : Txt K mg A) : FnOk P w K mg base (L2.CX P w) 8 A.a_law A.d_law ["_law_script"] (sp_law K) := by
  refine T.F_law.okX sc_law (fun vs H Q E h => ?_) (fun cdv A0 outer st H vs Q E hr h => ?_)
  · obtain ⟨a, ns, rfl, _⟩ := h; rfl
  · obtain ⟨a, ns, rfl, hS, hl, k⟩ := h
    refine ⟨_, (pss_cons (ps_set (i := 1) sc_law.nd rfl (.inr rfl) (pe_call (ok__law_lists T) (hr.mono (by decide)) (by rfl) T.g__law_lists T.F__law_lists.kp T.b__law_lists .nil (passes_call (takes_of rfl rfl rfl rfl) (fun _ _ _ _ h => h)) (pa_cons (pv 0) pa_nil)))
      (pss_cons (ps_if (pt_cmpR op_gtX (pe_callB (call_lenK (K := K) rfl) (by rfl) T.z_len (by decide +kernel) (pa_cons (pe_ix (ix_seqK (K := K) rfl) (pv 1) pe_int (fun _ _ => rfl)) pa_nil)) pe_int (nomark _)) (pss_cons (ps_asg (pe_lc (own := [("_law_j", 4)]) rfl sc_law.nd (pi_range1 (by rfl) T.z_range (pa_cons (pe_callB (call_lenK (K := K) rfl) (by rfl) T.z_len (by decide +kernel) (pa_cons (pe_ix (ix_seqK (K := K) rfl) (pv 1) pe_int (fun _ _ => rfl)) pa_nil)) pa_nil)) (blkOk_by (own := [("_law_j", 4)]) (N := N_law) (sc := defScope s_law) (by decide +kernel)) (fun _ _ _ _ _ => (pg_name (i := 4) sc_law.nd rfl (.inr rfl))) (fun _ _ _ _ _ => pts_nil) (fun _ _ _ _ _ => (pe_lc (own := [("_law_k", 5)]) rfl sc_law.nd (pi_range1 (by rfl) T.z_range (pa_cons (pe_callB (call_lenK (K := K) rfl) (by rfl) T.z_len (by decide +kernel) (pa_cons (pe_ix (ix_seqK (K := K) rfl) (pv 1) pe_int (fun _ _ => rfl)) pa_nil)) pa_nil)) (blkOk_by (own := [("_law_k", 5)]) (N := N_law) (sc := ({ kind := .function, names := [(".0", .local), ("_law_j", .cell), ("range", .globalImplicit), ("len", .globalImplicit), ("_law_lists_here", .cell)], isGenerator := false, isCoroutine := false } : PySem.Scope)) (by decide +kernel)) (fun _ _ _ _ _ => (pg_name (i := 5) sc_law.nd rfl (.inl rfl))) (fun _ _ _ _ _ => pts_nil) (fun _ _ _ _ _ => (pe_callTy call_int1X (by rfl) T.z_int (by decide +kernel) (pa_cons (pe_cmpR (op_eqK (K := K) rfl hr.units) (pe_op op_modX (pv 4) (pe_callB (call_lenK (K := K) rfl) (by rfl) T.z_len (by decide +kernel) (pa_cons (pe_ix (ix_seqK (K := K) rfl) (pv 1) pe_int (fun _ _ => rfl)) pa_nil))) (pv 5) (nomark _)) pa_nil)))))) (pg_sub (pv 1) pe_int set_list))
      (pss_one (ps_asg (pe_op op_mulX (pe_lst (pa_cons pe_int pa_nil)) (pe_callB (call_lenK (K := K) rfl) (by rfl) T.z_len (by decide +kernel) (pa_cons (pe_ix (ix_seqK (K := K) rfl) (pv 1) pe_int (fun _ _ => rfl)) pa_nil))) (pg_sub (pv 1) pe_int set_list)))) pss_nil)
      (pss_cons (ps_set (i := 2) sc_law.nd rfl (.inl rfl) (pe_call (ok__law_amiss T) (hr.mono (by decide)) (by rfl) T.g__law_amiss T.F__law_amiss.kp T.b__law_amiss .nil (passes_call (takes_of rfl rfl rfl rfl) (fun _ _ _ _ h => h)) (pa_cons (pv 1) (pa_cons (pv 0) pa_nil))))
      (pss_cons (ps_set (i := 3) sc_law.nd rfl (.inl rfl) (pe_lst (pa_cons (pe_lc (own := [("_law_column", 6)]) rfl sc_law.nd (pi_listK (K := K) rfl (pe_ix (ix_seqK (K := K) rfl) (pv 2) pe_int (fun _ _ => rfl))) (blkOk_by (own := [("_law_column", 6)]) (N := N_law) (sc := defScope s_law) (by decide +kernel)) (fun _ _ _ _ _ => (pg_name (i := 6) sc_law.nd rfl (.inl rfl))) (fun _ _ _ _ _ => pts_nil) (fun _ _ _ _ _ => (pe_callTy (call_listK (K := K) rfl) (by rfl) T.z_list (by decide +kernel) (pa_cons (pv 6) pa_nil)))) (pa_cons (pe_callTy (call_listK (K := K) rfl) (by rfl) T.z_list (by decide +kernel) (pa_cons (pe_ix (ix_seqK (K := K) rfl) (pv 2) pe_int (fun _ _ => rfl)) pa_nil)) (pa_cons (pe_callTy (call_listK (K := K) rfl) (by rfl) T.z_list (by decide +kernel) (pa_cons (pe_ix (ix_seqK (K := K) rfl) (pv 2) pe_int (fun _ _ => rfl)) pa_nil)) pa_nil)))))
      (pss_cons (ps_if (PW.pt (pw_or (pt_not (pt_val (pe_call (ok__law_refused T) (hr.mono (by decide)) (by rfl) T.g__law_refused T.F__law_refused.kp T.b__law_refused .nil (passes_call (takes_of rfl rfl rfl rfl) (fun _ _ _ _ h => h)) (pa_cons (pv 2) pa_nil)))) (pw_or (pt_cmpR (op_neK (K := K) rfl hr.units) (pv 2) (pv 3) (nomark _)) (pw_or1 (pt_not (pt_val (pe_call (ok__law_taken T) (hr.mono (by decide)) (by rfl) T.g__law_taken T.F__law_taken.kp T.b__law_taken .nil (passes_call (takes_of rfl rfl rfl rfl) (fun _ _ _ _ h => h)) (pa_cons (pv 1) pa_nil)))))))) (pss_one (ps_ret pe_bl)) pss_nil)
      (pss_one (ps_ret (pe_and (pe_call (ok__law_refused T) (hr.mono (by decide)) (by rfl) T.g__law_refused T.F__law_refused.kp T.b__law_refused .nil (passes_call (takes_of rfl rfl rfl rfl) (fun _ _ _ _ h => h)) (pa_cons (pv 2) pa_nil)) (pe_one (pe_cmpR (op_eqK (K := K) rfl hr.units) (pv 2) (pv 3) (nomark _))))))))))), ?_⟩
    walk_at "x"
    refine ⟨a, ns, rfl, hS, fun n w C D G B H1 p pC pD pG us good s1 w1 => ?_⟩
    dsimp only
    refine x_seqJ (fun σ' H' => ∃ (C : Nat → Nat → Int) (D G : Nat → Int) (B : Hp) (pC pD pG : Addr) (us : List Addr), σ' = [some (.ref a), some (.ref p), none, none, none, none, none] ∧ Same H B ∧ GoodR B pC pD pG us n w C D G ∧ Own B [(p, .lst [.ref pC, .ref pD, .ref pG])] H') ?_ (fun J => ?_)
    · rintro σ' H2 ⟨C, D, G, B, pC, pD, pG, us, rfl, sB, good, w2⟩
      have hS := w2.seq (sB.seq hS)
      have hg := good.same w2.ex
      walk_at "x"
      refine ⟨p, a, pC, pD, pG, ns, us, n, w, C, D, G, rfl, w2.sq 0 rfl, hS, hg, fun p1 qC qD qG cs ds gs H3 s3 c3 hV bad hc71 => ?_⟩
      obtain ⟨ts, hts, hlv⟩ := hV.c
      have hln := hlv.len
      walk_at "x"
      refine x_ixXL (SqL.of c3) (v := .ref qC) (atI_nat (j := 0) rfl) ?_
      refine ⟨_, rfl, ⟨_, SqL.of hts⟩, cpb_list (xs := ts.map V.ref) (CpV cs) (Own.start (H := H3)) (SqL.of hts) CpV.nil ?_ ?_⟩
      · intro D2 i x B' ys H8 hx sB hR w8
        obtain ⟨t, ht, rfl⟩ := map_at hx
        obtain ⟨c, hc, htc⟩ := hlv.at ht
        walk_at "x"
        refine ⟨rfl, ?_⟩
        walk_at "x"
        refine iteT ?_
        walk_at "x"
        refine x_list (w8.seq (sB.seq (SqL.of htc))) (fun pN nN => ?_)
        have w9 := w8.new (o := .lst c) nN
        have nB := w9.none 0 rfl
        have w9 := w9.freeze
        have sN := same_upd (o := .lst c) nB
        exact pvb_fin (sB.trans sN) ((hR.same sN).snoc hc upd_same) w9 (by have := hR.len; have := (List.getElem?_eq_some_iff.mp ht).1; omega)
      intro rC B3 ys H4 sB3 hR w4
      rw [List.length_map, hln] at hR
      obtain ⟨vs, rfl, hvs⟩ := hR
      rw [List.take_length] at hvs
      have s34 : Same H3 H4 := sB3.trans w4.ex
      have hvs := hvs.same w4.ex
      have hrC := w4.get 0 rfl
      have hV4 := hV.same s34
      have c4 := s34 _ _ c3
      walk_at "x"
      refine x_ixXL (SqL.of c4) (v := .ref qD) (atI_nat (j := 1) rfl) ?_
      walk_at "x"
      refine x_list (SqL.of hV4.d) (fun rD nD => ?_)
      have w5 := (Own.start (H := H4)).new (o := .lst ds) nD
      walk_at "x"
      refine x_ixXL (w5.seq (SqL.of c4)) (v := .ref qG) (atI_nat (j := 2) rfl) ?_
      walk_at "x"
      refine x_list (w5.seq (SqL.of hV4.g)) (fun rG nG => ?_)
      have w6 := w5.new (o := .lst gs) nG
      refine x_nil ?_
      refine ⟨(by show 3 ≤ sizeLine; decide), fun r nr => ?_⟩
      have w7 := w6.new (o := .lst [.ref rC, .ref rD, .ref rG]) nr
      have hV7 := hV4.same w7.ex
      have hW7 : RowsV K _ rC rD rG cs ds gs := ⟨⟨vs, w7.ex _ _ hrC, hvs.same w7.ex⟩, w7.get 2 rfl, w7.get 1 rfl, hV7.td, hV7.tg, hV7.tc⟩
      have c7 := w7.ex _ _ c4
      have d7 := w7.get 0 rfl
      have g7 := hg.same ((s3.trans s34).trans w7.ex)
      have e7 := ((s3.trans s34).trans w7.ex) _ _ (w2.get 0 rfl)
      generalize upd (upd (upd H4 rD (.lst ds)) rG (.lst gs)) r (.lst [.ref rC, .ref rD, .ref rG]) = H7 at *
      walk_at "x"
      refine ⟨p1, qC, qD, qG, cs, ds, gs, rfl, SqL.of c7, hV7, bad, fun H8 s8 => ?_⟩
      obtain ⟨d, hd1, hd2, hd3⟩ := rows_dp2 (K := K) (SqL.of (s8 _ _ c7)) (hV7.same s8) (SqL.of (s8 _ _ d7)) (hW7.same s8)
      walk_at "x"
      refine iteF ?_
      walk_at "x"
      refine x_neD hd1 hd2 hd3 ?_
      walk_at "x"
      refine iteF ?_
      walk_at "x"
      refine ⟨p, pC, pD, pG, us, n, w, C, D, G, rfl, SqL.of (s8 _ _ e7), g7.same s8, fun H9 s9 => ?_⟩
      walk_at "x"
      refine iteF ?_
      walk_at "x"
      have s9 := s8.trans s9
      refine ⟨p1, qC, qD, qG, cs, ds, gs, rfl, SqL.of (s9 _ _ c7), hV7.same s9, bad, fun H10 s10 => ?_⟩
      have s10 := s9.trans s10
      obtain ⟨d, hd1, hd2, hd3⟩ := rows_dp2 (K := K) (SqL.of (s10 _ _ c7)) (hV7.same s10) (SqL.of (s10 _ _ d7)) (hW7.same s10)
      refine ⟨true, rfl, iteT ?_⟩
      walk_at "x"
      refine x_eqD hd1 hd2 hd3 ?_
      exact k _
    · walk_at "x"
      refine x_ixXL (w1.sq 0 rfl) (v := .ref pC) (atI_nat (j := 0) rfl) ?_
      refine x_nil ?_
      refine x_lenL (w1.seq (SqL.of good.c)) ?_
      rw [List.length_map, good.len]
      walk_at "x"
      have hn1 := good.n1
      have hn8 := good.n8
      have hw70 := good.w70
      refine ite2 (fun c => ?_) (fun c => x_next (J _ _ ⟨C, D, G, B, pC, pD, pG, us, rfl, s1, good, w1⟩))
      walk_at "x"
      refine x_ixXL (w1.sq 0 rfl) (v := .ref pC) (atI_nat (j := 0) rfl) ?_
      refine x_nil ?_
      refine x_lenL (w1.seq (SqL.of good.c)) ?_
      rw [List.length_map, good.len]
      walk_at "x"
      refine ⟨_, rfl, by omega, by omega, cpb_r0 (n := (w : Int)) (RwsR n fun j k => if (j : Int) % (n : Int) = (k : Int) then 1 else 0) w1 RwsR.nil ?_ ?_⟩
      · intro D2 j B' ys H2 hj sB hR w2
        walk_at "x"
        refine ⟨rfl, ?_⟩
        walk_at "x"
        refine iteT ?_
        walk_at "x"
        refine x_ixXL (w2.sq 1 rfl) (v := .ref pD) (atI_nat (j := 1) rfl) ?_
        refine x_nil ?_
        refine x_lenL (w2.seq (sB.seq (SqL.of good.d))) ?_
        rw [List.length_map, tl_len]
        walk_at "x"
        refine ⟨_, rfl, by omega, by omega, cp_r0 (n := (n : Int)) (fun i => (tl i fun k => if (j : Int) % (n : Int) = (k : Int) then 1 else 0).map V.int) w2 rfl ?_ ?_⟩
        · intro D3 i H3 hi w3
          walk_at "x"
          refine ⟨rfl, ?_⟩
          walk_at "x"
          refine iteT ?_
          walk_at "x"
          refine x_ixXL (Own.sq w3 2 rfl) (v := .ref pD) (atI_nat (j := 1) rfl) ?_
          refine x_nil ?_
          refine x_lenL (Own.seq w3 (sB.seq (SqL.of good.d))) ?_
          rw [List.length_map, tl_len]
          walk_at "x"
          refine x_modP (by omega) ?_
          walk_at "x"
          refine .inr ⟨_, rfl, ?_⟩
          refine cp_fin w3 ?_ (by rw [List.length_map, tl_len]; omega)
          show (tl (i + 1) fun k => if (j : Int) % (n : Int) = (k : Int) then (1 : Int) else 0).map V.int = _
          unfold tl
          rw [range_map, List.map_append, List.map_cons, List.map_nil]
          congr 3
          by_cases e : (j : Int) % (n : Int) = (i : Int)
          · simp [e]
          · simp [e]
        · intro pN H3 w3
          rw [Int.toNat_natCast] at w3
          have nB := w3.none 0 rfl
          have w3 := w3.freeze
          exact pvb_fin (sB.trans (same_upd nB)) ((hR.same (same_upd nB)).snoc upd_same) w3 (by rw [hR.len]; omega)
      intro qC B2 ys H2 sB2 hR w2
      rw [Int.toNat_natCast] at hR
      obtain ⟨vs, rfl, hvl, hrw⟩ := hR
      have nC := w2.none 0 rfl
      have w2 := w2.freeze
      have hC2 : (upd B2 qC (.lst (vs.map V.ref))) qC = some (.lst (vs.map V.ref)) := upd_same
      have sC := same_upd (o := .lst (vs.map V.ref)) nC
      have hrw := hrw.same sC
      have good := good.same (sB2.trans sC)
      have s1 := s1.trans (sB2.trans sC)
      generalize upd B2 qC (.lst (vs.map V.ref)) = B3 at *
      walk_at "x"
      refine x_setL (w2.get 0 rfl) (j := 0) rfl ?_
      have w3 := w2.put (o' := .lst [.ref qC, .ref pD, .ref pG]) 0 rfl
      walk_at "x"
      refine ⟨(by show 1 ≤ sizeLine; decide), fun p1 n1 => ?_⟩
      have w4 := w3.new (o := .lst [.int 0]) n1
      walk_at "x"
      refine x_ixXL (w4.sq 1 rfl) (v := .ref qC) (atI_nat (j := 0) rfl) ?_
      refine x_nil ?_
      refine x_lenL (w4.seq (SqL.of hC2)) ?_
      rw [List.length_map, hvl]
      walk_at "x"
      refine x_mulL (w4.get 0 rfl) ⟨by omega, by omega, Nat.le_trans (m := 1000) (by rw [Int.toNat_natCast]; show 1 * w ≤ 1000; omega) (by decide)⟩ (fun p2 n2 => ?_)
      rw [rep_flat, Int.toNat_natCast]
      have e0 : List.replicate w (V.int 0) = (tl w fun _ => 0).map V.int := by
        unfold tl
        rw [List.map_map]
        symm
        rw [List.eq_replicate_iff]
        exact ⟨by rw [List.length_map, List.length_range], fun b hb => by obtain ⟨_, _, rfl⟩ := List.mem_map.mp hb; rfl⟩
      rw [e0]
      have w5 := w4.new (o := .lst ((tl w fun _ => 0).map V.int)) (by exact n2)
      walk_at "x"
      refine x_setL (w5.get 2 rfl) (j := 2) rfl ?_
      have w6 := w5.put (o' := .lst [.ref qC, .ref pD, .ref p2]) 2 rfl
      have nG := w6.none 0 rfl
      have w6 := w6.freeze
      have sG := same_upd (o := .lst ((tl w fun _ => 0).map V.int)) nG
      refine x_next ?_
      refine J _ _ ⟨_, D, fun _ => 0, _, qC, pD, p2, vs, rfl, s1.trans sG, ⟨sG _ _ hC2, hvl, fun j t e => sG _ _ (hrw j t e), sG _ _ good.d, upd_same, hn1, hn8, hw70, fun j c => ?_, good.bd, fun _ => (by show (0 : Int).natAbs < _; decide)⟩, w6.sub (.cons _ (List.Sublist.refl _))⟩
      show (if (j : Int) % (n : Int) = (c : Int) then (1 : Int) else 0).natAbs < _
      by_cases e : (j : Int) % (n : Int) = (c : Int)
      · rw [if_pos e]; decide
      · rw [if_neg e]; decide

end
theorem all_mk {l : PySem.W.OpenLaw} {w : World} {K : PySem.W.Frag} {h : Heap} {mg : Str → Option Value} {fa f_is_whole f_divisor f_shortest f_fraction f_look_wholes f_look_rows f_Slate___init__ f_Slate_turn f_Slate_come_in f_Slate_sooner f_Slate_go_out f_Slate_climb f_Slate_told_weights f_Slate_told_way f_Slate_told_prices f_Slate_enough f_weighed f_weigh f__law_cell f__law_number f__law_lists f__law_odd f__law_longer f__law_amiss f__law_own f__law_refused f__law_taken f_law C_ShareError C_NoNumber C_NoGroup C_NoRule C_NoText C_NoTable C_Unlike C_TooMany C_NoOrder C_NoRows C_NoShares C_NoVotes C_Slate : Addr} (X : K.In h) (G : h.Ns mainGlobals mg) (hfa : mg "law" = some (.ref fa))
    {od_is_whole an_is_whole od_divisor an_divisor od_shortest an_shortest od_fraction an_fraction od_look_wholes an_look_wholes od_look_rows an_look_rows od_Slate___init__ an_Slate___init__ od_Slate_turn an_Slate_turn od_Slate_come_in an_Slate_come_in od_Slate_sooner an_Slate_sooner od_Slate_go_out an_Slate_go_out od_Slate_climb an_Slate_climb od_Slate_told_weights an_Slate_told_weights od_Slate_told_way an_Slate_told_way od_Slate_told_prices an_Slate_told_prices od_Slate_enough an_Slate_enough od_weighed an_weighed od_weigh an_weigh od__law_cell an__law_cell od__law_number an__law_number od__law_lists an__law_lists od__law_odd an__law_odd od__law_longer an__law_longer od__law_amiss an__law_amiss od__law_own an__law_own od__law_refused an__law_refused od__law_taken an__law_taken od_law an_law : Option Addr} {sl_is_whole sl_divisor sl_shortest sl_fraction sl_look_wholes sl_look_rows sl_Slate___init__ sl_Slate_turn sl_Slate_come_in sl_Slate_sooner sl_Slate_go_out sl_Slate_climb sl_Slate_told_weights sl_Slate_told_way sl_Slate_told_prices sl_Slate_enough sl_weighed sl_weigh sl__law_cell sl__law_number sl__law_lists sl__law_odd sl__law_longer sl__law_amiss sl__law_own sl__law_refused sl__law_taken sl_law : Array (Option Value)} {oc_is_whole kV_is_whole dc_is_whole pm_is_whole cd_is_whole ct_is_whole oc_divisor kV_divisor dc_divisor pm_divisor cd_divisor ct_divisor oc_shortest kV_shortest dc_shortest pm_shortest cd_shortest ct_shortest oc_fraction kV_fraction dc_fraction pm_fraction cd_fraction ct_fraction oc_look_wholes kV_look_wholes dc_look_wholes pm_look_wholes cd_look_wholes ct_look_wholes oc_look_rows kV_look_rows dc_look_rows pm_look_rows cd_look_rows ct_look_rows oc_Slate___init__ kV_Slate___init__ dc_Slate___init__ pm_Slate___init__ cd_Slate___init__ ct_Slate___init__ oc_Slate_turn kV_Slate_turn dc_Slate_turn pm_Slate_turn cd_Slate_turn ct_Slate_turn oc_Slate_come_in kV_Slate_come_in dc_Slate_come_in pm_Slate_come_in cd_Slate_come_in ct_Slate_come_in oc_Slate_sooner kV_Slate_sooner dc_Slate_sooner pm_Slate_sooner cd_Slate_sooner ct_Slate_sooner oc_Slate_go_out kV_Slate_go_out dc_Slate_go_out pm_Slate_go_out cd_Slate_go_out ct_Slate_go_out oc_Slate_climb kV_Slate_climb dc_Slate_climb pm_Slate_climb cd_Slate_climb ct_Slate_climb oc_Slate_told_weights kV_Slate_told_weights dc_Slate_told_weights pm_Slate_told_weights cd_Slate_told_weights ct_Slate_told_weights oc_Slate_told_way kV_Slate_told_way dc_Slate_told_way pm_Slate_told_way cd_Slate_told_way ct_Slate_told_way oc_Slate_told_prices kV_Slate_told_prices dc_Slate_told_prices pm_Slate_told_prices cd_Slate_told_prices ct_Slate_told_prices oc_Slate_enough kV_Slate_enough dc_Slate_enough pm_Slate_enough cd_Slate_enough ct_Slate_enough oc_weighed kV_weighed dc_weighed pm_weighed cd_weighed ct_weighed oc_weigh kV_weigh dc_weigh pm_weigh cd_weigh ct_weigh oc__law_cell kV__law_cell dc__law_cell pm__law_cell cd__law_cell ct__law_cell oc__law_number kV__law_number dc__law_number pm__law_number cd__law_number ct__law_number oc__law_lists kV__law_lists dc__law_lists pm__law_lists cd__law_lists ct__law_lists oc__law_odd kV__law_odd dc__law_odd pm__law_odd cd__law_odd ct__law_odd oc__law_longer kV__law_longer dc__law_longer pm__law_longer cd__law_longer ct__law_longer oc__law_amiss kV__law_amiss dc__law_amiss pm__law_amiss cd__law_amiss ct__law_amiss oc__law_own kV__law_own dc__law_own pm__law_own cd__law_own ct__law_own oc__law_refused kV__law_refused dc__law_refused pm__law_refused cd__law_refused ct__law_refused oc__law_taken kV__law_taken dc__law_taken pm__law_taken cd__law_taken ct__law_taken oc_law kV_law dc_law pm_law cd_law ct_law : Value}
    (a_is_whole : PySem.W.nsIn K mainGlobals "is_whole" = some (some (.ref f_is_whole)))
    (l_is_whole : K.lookup f_is_whole = some ⟨oc_is_whole, od_is_whole, .func (PySem.W.fnOf "is_whole" "is_whole" (defArgs s_is_whole) (defBody s_is_whole) (defScope s_is_whole) .none kV_is_whole dc_is_whole pm_is_whole an_is_whole cd_is_whole ct_is_whole), sl_is_whole⟩)
    (c_is_whole : PySem.W.codeIn K cd_is_whole "is_whole" = true)
    (k_is_whole : PySem.W.keepIn K (.ref f_is_whole) = true)
    (a_divisor : PySem.W.nsIn K mainGlobals "divisor" = some (some (.ref f_divisor)))
    (l_divisor : K.lookup f_divisor = some ⟨oc_divisor, od_divisor, .func (PySem.W.fnOf "divisor" "divisor" (defArgs s_divisor) (defBody s_divisor) (defScope s_divisor) .none kV_divisor dc_divisor pm_divisor an_divisor cd_divisor ct_divisor), sl_divisor⟩)
    (c_divisor : PySem.W.codeIn K cd_divisor "divisor" = true)
    (k_divisor : PySem.W.keepIn K (.ref f_divisor) = true)
    (a_shortest : PySem.W.nsIn K mainGlobals "shortest" = some (some (.ref f_shortest)))
    (l_shortest : K.lookup f_shortest = some ⟨oc_shortest, od_shortest, .func (PySem.W.fnOf "shortest" "shortest" (defArgs s_shortest) (defBody s_shortest) (defScope s_shortest) .none kV_shortest dc_shortest pm_shortest an_shortest cd_shortest ct_shortest), sl_shortest⟩)
    (c_shortest : PySem.W.codeIn K cd_shortest "shortest" = true)
    (k_shortest : PySem.W.keepIn K (.ref f_shortest) = true)
    (a_fraction : PySem.W.nsIn K mainGlobals "fraction" = some (some (.ref f_fraction)))
    (l_fraction : K.lookup f_fraction = some ⟨oc_fraction, od_fraction, .func (PySem.W.fnOf "fraction" "fraction" (defArgs s_fraction) (defBody s_fraction) (defScope s_fraction) .none kV_fraction dc_fraction pm_fraction an_fraction cd_fraction ct_fraction), sl_fraction⟩)
    (c_fraction : PySem.W.codeIn K cd_fraction "fraction" = true)
    (k_fraction : PySem.W.keepIn K (.ref f_fraction) = true)
    (a_look_wholes : PySem.W.nsIn K mainGlobals "look_wholes" = some (some (.ref f_look_wholes)))
    (l_look_wholes : K.lookup f_look_wholes = some ⟨oc_look_wholes, od_look_wholes, .func (PySem.W.fnOf "look_wholes" "look_wholes" (defArgs s_look_wholes) (defBody s_look_wholes) (defScope s_look_wholes) .none kV_look_wholes dc_look_wholes pm_look_wholes an_look_wholes cd_look_wholes ct_look_wholes), sl_look_wholes⟩)
    (c_look_wholes : PySem.W.codeIn K cd_look_wholes "look_wholes" = true)
    (k_look_wholes : PySem.W.keepIn K (.ref f_look_wholes) = true)
    (a_look_rows : PySem.W.nsIn K mainGlobals "look_rows" = some (some (.ref f_look_rows)))
    (l_look_rows : K.lookup f_look_rows = some ⟨oc_look_rows, od_look_rows, .func (PySem.W.fnOf "look_rows" "look_rows" (defArgs s_look_rows) (defBody s_look_rows) (defScope s_look_rows) .none kV_look_rows dc_look_rows pm_look_rows an_look_rows cd_look_rows ct_look_rows), sl_look_rows⟩)
    (c_look_rows : PySem.W.codeIn K cd_look_rows "look_rows" = true)
    (k_look_rows : PySem.W.keepIn K (.ref f_look_rows) = true)
    (a_Slate___init__ : PySem.W.findIn K (.ref C_Slate) "__init__" = some (some (.ref f_Slate___init__)))
    (i_Slate___init__ : PySem.W.isFn K (.ref f_Slate___init__) = true)
    (l_Slate___init__ : K.lookup f_Slate___init__ = some ⟨oc_Slate___init__, od_Slate___init__, .func (PySem.W.fnOf "__init__" "Slate.__init__" (defArgs s_Slate___init__) (defBody s_Slate___init__) (defScope s_Slate___init__) .none kV_Slate___init__ dc_Slate___init__ pm_Slate___init__ an_Slate___init__ cd_Slate___init__ ct_Slate___init__), sl_Slate___init__⟩)
    (c_Slate___init__ : PySem.W.codeIn K cd_Slate___init__ "Slate.__init__" = true)
    (k_Slate___init__ : PySem.W.keepIn K (.ref f_Slate___init__) = true)
    (a_Slate_turn : PySem.W.findIn K (.ref C_Slate) "turn" = some (some (.ref f_Slate_turn)))
    (i_Slate_turn : PySem.W.isFn K (.ref f_Slate_turn) = true)
    (l_Slate_turn : K.lookup f_Slate_turn = some ⟨oc_Slate_turn, od_Slate_turn, .func (PySem.W.fnOf "turn" "Slate.turn" (defArgs s_Slate_turn) (defBody s_Slate_turn) (defScope s_Slate_turn) .none kV_Slate_turn dc_Slate_turn pm_Slate_turn an_Slate_turn cd_Slate_turn ct_Slate_turn), sl_Slate_turn⟩)
    (c_Slate_turn : PySem.W.codeIn K cd_Slate_turn "Slate.turn" = true)
    (k_Slate_turn : PySem.W.keepIn K (.ref f_Slate_turn) = true)
    (a_Slate_come_in : PySem.W.findIn K (.ref C_Slate) "come_in" = some (some (.ref f_Slate_come_in)))
    (i_Slate_come_in : PySem.W.isFn K (.ref f_Slate_come_in) = true)
    (l_Slate_come_in : K.lookup f_Slate_come_in = some ⟨oc_Slate_come_in, od_Slate_come_in, .func (PySem.W.fnOf "come_in" "Slate.come_in" (defArgs s_Slate_come_in) (defBody s_Slate_come_in) (defScope s_Slate_come_in) .none kV_Slate_come_in dc_Slate_come_in pm_Slate_come_in an_Slate_come_in cd_Slate_come_in ct_Slate_come_in), sl_Slate_come_in⟩)
    (c_Slate_come_in : PySem.W.codeIn K cd_Slate_come_in "Slate.come_in" = true)
    (k_Slate_come_in : PySem.W.keepIn K (.ref f_Slate_come_in) = true)
    (a_Slate_sooner : PySem.W.findIn K (.ref C_Slate) "sooner" = some (some (.ref f_Slate_sooner)))
    (i_Slate_sooner : PySem.W.isFn K (.ref f_Slate_sooner) = true)
    (l_Slate_sooner : K.lookup f_Slate_sooner = some ⟨oc_Slate_sooner, od_Slate_sooner, .func (PySem.W.fnOf "sooner" "Slate.sooner" (defArgs s_Slate_sooner) (defBody s_Slate_sooner) (defScope s_Slate_sooner) .none kV_Slate_sooner dc_Slate_sooner pm_Slate_sooner an_Slate_sooner cd_Slate_sooner ct_Slate_sooner), sl_Slate_sooner⟩)
    (c_Slate_sooner : PySem.W.codeIn K cd_Slate_sooner "Slate.sooner" = true)
    (k_Slate_sooner : PySem.W.keepIn K (.ref f_Slate_sooner) = true)
    (a_Slate_go_out : PySem.W.findIn K (.ref C_Slate) "go_out" = some (some (.ref f_Slate_go_out)))
    (i_Slate_go_out : PySem.W.isFn K (.ref f_Slate_go_out) = true)
    (l_Slate_go_out : K.lookup f_Slate_go_out = some ⟨oc_Slate_go_out, od_Slate_go_out, .func (PySem.W.fnOf "go_out" "Slate.go_out" (defArgs s_Slate_go_out) (defBody s_Slate_go_out) (defScope s_Slate_go_out) .none kV_Slate_go_out dc_Slate_go_out pm_Slate_go_out an_Slate_go_out cd_Slate_go_out ct_Slate_go_out), sl_Slate_go_out⟩)
    (c_Slate_go_out : PySem.W.codeIn K cd_Slate_go_out "Slate.go_out" = true)
    (k_Slate_go_out : PySem.W.keepIn K (.ref f_Slate_go_out) = true)
    (a_Slate_climb : PySem.W.findIn K (.ref C_Slate) "climb" = some (some (.ref f_Slate_climb)))
    (i_Slate_climb : PySem.W.isFn K (.ref f_Slate_climb) = true)
    (l_Slate_climb : K.lookup f_Slate_climb = some ⟨oc_Slate_climb, od_Slate_climb, .func (PySem.W.fnOf "climb" "Slate.climb" (defArgs s_Slate_climb) (defBody s_Slate_climb) (defScope s_Slate_climb) .none kV_Slate_climb dc_Slate_climb pm_Slate_climb an_Slate_climb cd_Slate_climb ct_Slate_climb), sl_Slate_climb⟩)
    (c_Slate_climb : PySem.W.codeIn K cd_Slate_climb "Slate.climb" = true)
    (k_Slate_climb : PySem.W.keepIn K (.ref f_Slate_climb) = true)
    (a_Slate_told_weights : PySem.W.findIn K (.ref C_Slate) "told_weights" = some (some (.ref f_Slate_told_weights)))
    (i_Slate_told_weights : PySem.W.isFn K (.ref f_Slate_told_weights) = true)
    (l_Slate_told_weights : K.lookup f_Slate_told_weights = some ⟨oc_Slate_told_weights, od_Slate_told_weights, .func (PySem.W.fnOf "told_weights" "Slate.told_weights" (defArgs s_Slate_told_weights) (defBody s_Slate_told_weights) (defScope s_Slate_told_weights) .none kV_Slate_told_weights dc_Slate_told_weights pm_Slate_told_weights an_Slate_told_weights cd_Slate_told_weights ct_Slate_told_weights), sl_Slate_told_weights⟩)
    (c_Slate_told_weights : PySem.W.codeIn K cd_Slate_told_weights "Slate.told_weights" = true)
    (k_Slate_told_weights : PySem.W.keepIn K (.ref f_Slate_told_weights) = true)
    (a_Slate_told_way : PySem.W.findIn K (.ref C_Slate) "told_way" = some (some (.ref f_Slate_told_way)))
    (i_Slate_told_way : PySem.W.isFn K (.ref f_Slate_told_way) = true)
    (l_Slate_told_way : K.lookup f_Slate_told_way = some ⟨oc_Slate_told_way, od_Slate_told_way, .func (PySem.W.fnOf "told_way" "Slate.told_way" (defArgs s_Slate_told_way) (defBody s_Slate_told_way) (defScope s_Slate_told_way) .none kV_Slate_told_way dc_Slate_told_way pm_Slate_told_way an_Slate_told_way cd_Slate_told_way ct_Slate_told_way), sl_Slate_told_way⟩)
    (c_Slate_told_way : PySem.W.codeIn K cd_Slate_told_way "Slate.told_way" = true)
    (k_Slate_told_way : PySem.W.keepIn K (.ref f_Slate_told_way) = true)
    (a_Slate_told_prices : PySem.W.findIn K (.ref C_Slate) "told_prices" = some (some (.ref f_Slate_told_prices)))
    (i_Slate_told_prices : PySem.W.isFn K (.ref f_Slate_told_prices) = true)
    (l_Slate_told_prices : K.lookup f_Slate_told_prices = some ⟨oc_Slate_told_prices, od_Slate_told_prices, .func (PySem.W.fnOf "told_prices" "Slate.told_prices" (defArgs s_Slate_told_prices) (defBody s_Slate_told_prices) (defScope s_Slate_told_prices) .none kV_Slate_told_prices dc_Slate_told_prices pm_Slate_told_prices an_Slate_told_prices cd_Slate_told_prices ct_Slate_told_prices), sl_Slate_told_prices⟩)
    (c_Slate_told_prices : PySem.W.codeIn K cd_Slate_told_prices "Slate.told_prices" = true)
    (k_Slate_told_prices : PySem.W.keepIn K (.ref f_Slate_told_prices) = true)
    (a_Slate_enough : PySem.W.findIn K (.ref C_Slate) "enough" = some (some (.ref f_Slate_enough)))
    (i_Slate_enough : PySem.W.isFn K (.ref f_Slate_enough) = true)
    (l_Slate_enough : K.lookup f_Slate_enough = some ⟨oc_Slate_enough, od_Slate_enough, .func (PySem.W.fnOf "enough" "Slate.enough" (defArgs s_Slate_enough) (defBody s_Slate_enough) (defScope s_Slate_enough) .none kV_Slate_enough dc_Slate_enough pm_Slate_enough an_Slate_enough cd_Slate_enough ct_Slate_enough), sl_Slate_enough⟩)
    (c_Slate_enough : PySem.W.codeIn K cd_Slate_enough "Slate.enough" = true)
    (k_Slate_enough : PySem.W.keepIn K (.ref f_Slate_enough) = true)
    (a_weighed : PySem.W.nsIn K mainGlobals "weighed" = some (some (.ref f_weighed)))
    (l_weighed : K.lookup f_weighed = some ⟨oc_weighed, od_weighed, .func (PySem.W.fnOf "weighed" "weighed" (defArgs s_weighed) (defBody s_weighed) (defScope s_weighed) .none kV_weighed dc_weighed pm_weighed an_weighed cd_weighed ct_weighed), sl_weighed⟩)
    (c_weighed : PySem.W.codeIn K cd_weighed "weighed" = true)
    (k_weighed : PySem.W.keepIn K (.ref f_weighed) = true)
    (a_weigh : PySem.W.nsIn K mainGlobals "weigh" = some (some (.ref f_weigh)))
    (l_weigh : K.lookup f_weigh = some ⟨oc_weigh, od_weigh, .func (PySem.W.fnOf "weigh" "weigh" (defArgs s_weigh) (defBody s_weigh) (defScope s_weigh) .none kV_weigh dc_weigh pm_weigh an_weigh cd_weigh ct_weigh), sl_weigh⟩)
    (c_weigh : PySem.W.codeIn K cd_weigh "weigh" = true)
    (k_weigh : PySem.W.keepIn K (.ref f_weigh) = true)
    (a__law_cell : PySem.W.nsIn K mainGlobals "_law_cell" = some (some (.ref f__law_cell)))
    (l__law_cell : K.lookup f__law_cell = some ⟨oc__law_cell, od__law_cell, .func (PySem.W.fnOf "_law_cell" "_law_cell" (defArgs s__law_cell) (defBody s__law_cell) (defScope s__law_cell) .none kV__law_cell dc__law_cell pm__law_cell an__law_cell cd__law_cell ct__law_cell), sl__law_cell⟩)
    (c__law_cell : PySem.W.codeIn K cd__law_cell "_law_cell" = true)
    (k__law_cell : PySem.W.keepIn K (.ref f__law_cell) = true)
    (a__law_number : PySem.W.nsIn K mainGlobals "_law_number" = some (some (.ref f__law_number)))
    (l__law_number : K.lookup f__law_number = some ⟨oc__law_number, od__law_number, .func (PySem.W.fnOf "_law_number" "_law_number" (defArgs s__law_number) (defBody s__law_number) (defScope s__law_number) .none kV__law_number dc__law_number pm__law_number an__law_number cd__law_number ct__law_number), sl__law_number⟩)
    (c__law_number : PySem.W.codeIn K cd__law_number "_law_number" = true)
    (k__law_number : PySem.W.keepIn K (.ref f__law_number) = true)
    (a__law_lists : PySem.W.nsIn K mainGlobals "_law_lists" = some (some (.ref f__law_lists)))
    (l__law_lists : K.lookup f__law_lists = some ⟨oc__law_lists, od__law_lists, .func (PySem.W.fnOf "_law_lists" "_law_lists" (defArgs s__law_lists) (defBody s__law_lists) (defScope s__law_lists) .none kV__law_lists dc__law_lists pm__law_lists an__law_lists cd__law_lists ct__law_lists), sl__law_lists⟩)
    (c__law_lists : PySem.W.codeIn K cd__law_lists "_law_lists" = true)
    (k__law_lists : PySem.W.keepIn K (.ref f__law_lists) = true)
    (a__law_odd : PySem.W.nsIn K mainGlobals "_law_odd" = some (some (.ref f__law_odd)))
    (l__law_odd : K.lookup f__law_odd = some ⟨oc__law_odd, od__law_odd, .func (PySem.W.fnOf "_law_odd" "_law_odd" (defArgs s__law_odd) (defBody s__law_odd) (defScope s__law_odd) .none kV__law_odd dc__law_odd pm__law_odd an__law_odd cd__law_odd ct__law_odd), sl__law_odd⟩)
    (c__law_odd : PySem.W.codeIn K cd__law_odd "_law_odd" = true)
    (k__law_odd : PySem.W.keepIn K (.ref f__law_odd) = true)
    (a__law_longer : PySem.W.nsIn K mainGlobals "_law_longer" = some (some (.ref f__law_longer)))
    (l__law_longer : K.lookup f__law_longer = some ⟨oc__law_longer, od__law_longer, .func (PySem.W.fnOf "_law_longer" "_law_longer" (defArgs s__law_longer) (defBody s__law_longer) (defScope s__law_longer) .none kV__law_longer dc__law_longer pm__law_longer an__law_longer cd__law_longer ct__law_longer), sl__law_longer⟩)
    (c__law_longer : PySem.W.codeIn K cd__law_longer "_law_longer" = true)
    (k__law_longer : PySem.W.keepIn K (.ref f__law_longer) = true)
    (a__law_amiss : PySem.W.nsIn K mainGlobals "_law_amiss" = some (some (.ref f__law_amiss)))
    (l__law_amiss : K.lookup f__law_amiss = some ⟨oc__law_amiss, od__law_amiss, .func (PySem.W.fnOf "_law_amiss" "_law_amiss" (defArgs s__law_amiss) (defBody s__law_amiss) (defScope s__law_amiss) .none kV__law_amiss dc__law_amiss pm__law_amiss an__law_amiss cd__law_amiss ct__law_amiss), sl__law_amiss⟩)
    (c__law_amiss : PySem.W.codeIn K cd__law_amiss "_law_amiss" = true)
    (k__law_amiss : PySem.W.keepIn K (.ref f__law_amiss) = true)
    (a__law_own : PySem.W.nsIn K mainGlobals "_law_own" = some (some (.ref f__law_own)))
    (l__law_own : K.lookup f__law_own = some ⟨oc__law_own, od__law_own, .func (PySem.W.fnOf "_law_own" "_law_own" (defArgs s__law_own) (defBody s__law_own) (defScope s__law_own) .none kV__law_own dc__law_own pm__law_own an__law_own cd__law_own ct__law_own), sl__law_own⟩)
    (c__law_own : PySem.W.codeIn K cd__law_own "_law_own" = true)
    (k__law_own : PySem.W.keepIn K (.ref f__law_own) = true)
    (a__law_refused : PySem.W.nsIn K mainGlobals "_law_refused" = some (some (.ref f__law_refused)))
    (l__law_refused : K.lookup f__law_refused = some ⟨oc__law_refused, od__law_refused, .func (PySem.W.fnOf "_law_refused" "_law_refused" (defArgs s__law_refused) (defBody s__law_refused) (defScope s__law_refused) .none kV__law_refused dc__law_refused pm__law_refused an__law_refused cd__law_refused ct__law_refused), sl__law_refused⟩)
    (c__law_refused : PySem.W.codeIn K cd__law_refused "_law_refused" = true)
    (k__law_refused : PySem.W.keepIn K (.ref f__law_refused) = true)
    (a__law_taken : PySem.W.nsIn K mainGlobals "_law_taken" = some (some (.ref f__law_taken)))
    (l__law_taken : K.lookup f__law_taken = some ⟨oc__law_taken, od__law_taken, .func (PySem.W.fnOf "_law_taken" "_law_taken" (defArgs s__law_taken) (defBody s__law_taken) (defScope s__law_taken) .none kV__law_taken dc__law_taken pm__law_taken an__law_taken cd__law_taken ct__law_taken), sl__law_taken⟩)
    (c__law_taken : PySem.W.codeIn K cd__law_taken "_law_taken" = true)
    (k__law_taken : PySem.W.keepIn K (.ref f__law_taken) = true)
    (a_law : PySem.W.nsIn K mainGlobals "law" = some (some (.ref f_law)))
    (l_law : K.lookup f_law = some ⟨oc_law, od_law, .func (PySem.W.fnOf "law" "law" (defArgs s_law) (defBody s_law) (defScope s_law) .none kV_law dc_law pm_law an_law cd_law ct_law), sl_law⟩)
    (c_law : PySem.W.codeIn K cd_law "law" = true)
    (k_law : PySem.W.keepIn K (.ref f_law) = true)
    (ac_ShareError : PySem.W.nsIn K mainGlobals "ShareError" = some (some (.ref C_ShareError)))
    (tc_ShareError : PySem.W.typeIn K (.ref C_ShareError) = some (.type "type"))
    (ec_ShareError : PySem.W.subIn K (.ref C_ShareError) (.type "BaseException") = some true)
    (ac_NoNumber : PySem.W.nsIn K mainGlobals "NoNumber" = some (some (.ref C_NoNumber)))
    (kc_NoNumber : PySem.W.keepIn K (.ref C_NoNumber) = true)
    (ec_NoNumber : PySem.W.subIn K (.ref C_NoNumber) (.type "BaseException") = some true)
    (tc_NoNumber : PySem.W.typeIn K (.ref C_NoNumber) = some (.type "type"))
    (xc_NoNumber : PySem.W.excIn K C_NoNumber [.type "ValueError", .type "Exception", .type "BaseException", .type "object"] "ValueError.__new__" = true)
    (ac_NoGroup : PySem.W.nsIn K mainGlobals "NoGroup" = some (some (.ref C_NoGroup)))
    (tc_NoGroup : PySem.W.typeIn K (.ref C_NoGroup) = some (.type "type"))
    (ec_NoGroup : PySem.W.subIn K (.ref C_NoGroup) (.type "BaseException") = some true)
    (ac_NoRule : PySem.W.nsIn K mainGlobals "NoRule" = some (some (.ref C_NoRule)))
    (tc_NoRule : PySem.W.typeIn K (.ref C_NoRule) = some (.type "type"))
    (ec_NoRule : PySem.W.subIn K (.ref C_NoRule) (.type "BaseException") = some true)
    (ac_NoText : PySem.W.nsIn K mainGlobals "NoText" = some (some (.ref C_NoText)))
    (tc_NoText : PySem.W.typeIn K (.ref C_NoText) = some (.type "type"))
    (ec_NoText : PySem.W.subIn K (.ref C_NoText) (.type "BaseException") = some true)
    (ac_NoTable : PySem.W.nsIn K mainGlobals "NoTable" = some (some (.ref C_NoTable)))
    (tc_NoTable : PySem.W.typeIn K (.ref C_NoTable) = some (.type "type"))
    (ec_NoTable : PySem.W.subIn K (.ref C_NoTable) (.type "BaseException") = some true)
    (ac_Unlike : PySem.W.nsIn K mainGlobals "Unlike" = some (some (.ref C_Unlike)))
    (tc_Unlike : PySem.W.typeIn K (.ref C_Unlike) = some (.type "type"))
    (ec_Unlike : PySem.W.subIn K (.ref C_Unlike) (.type "BaseException") = some true)
    (ac_TooMany : PySem.W.nsIn K mainGlobals "TooMany" = some (some (.ref C_TooMany)))
    (tc_TooMany : PySem.W.typeIn K (.ref C_TooMany) = some (.type "type"))
    (ec_TooMany : PySem.W.subIn K (.ref C_TooMany) (.type "BaseException") = some true)
    (ac_NoOrder : PySem.W.nsIn K mainGlobals "NoOrder" = some (some (.ref C_NoOrder)))
    (tc_NoOrder : PySem.W.typeIn K (.ref C_NoOrder) = some (.type "type"))
    (ec_NoOrder : PySem.W.subIn K (.ref C_NoOrder) (.type "BaseException") = some true)
    (ac_NoRows : PySem.W.nsIn K mainGlobals "NoRows" = some (some (.ref C_NoRows)))
    (kc_NoRows : PySem.W.keepIn K (.ref C_NoRows) = true)
    (ec_NoRows : PySem.W.subIn K (.ref C_NoRows) (.type "BaseException") = some true)
    (tc_NoRows : PySem.W.typeIn K (.ref C_NoRows) = some (.type "type"))
    (xc_NoRows : PySem.W.excIn K C_NoRows [.type "ValueError", .type "Exception", .type "BaseException", .type "object"] "ValueError.__new__" = true)
    (ac_NoShares : PySem.W.nsIn K mainGlobals "NoShares" = some (some (.ref C_NoShares)))
    (tc_NoShares : PySem.W.typeIn K (.ref C_NoShares) = some (.type "type"))
    (ec_NoShares : PySem.W.subIn K (.ref C_NoShares) (.type "BaseException") = some true)
    (ac_NoVotes : PySem.W.nsIn K mainGlobals "NoVotes" = some (some (.ref C_NoVotes)))
    (tc_NoVotes : PySem.W.typeIn K (.ref C_NoVotes) = some (.type "type"))
    (ec_NoVotes : PySem.W.subIn K (.ref C_NoVotes) (.type "BaseException") = some true)
    (ac_Slate : PySem.W.nsIn K mainGlobals "Slate" = some (some (.ref C_Slate)))
    (kc_Slate : PySem.W.keepIn K (.ref C_Slate) = true)
    (pg_Slate : PySem.W.plainGet K C_Slate Str.empty = true)
    (hd_Slate : PySem.W.hasDictIn K C_Slate = true)
    (po_Slate : PySem.W.plainOver K C_Slate = true)
    (sa_Slate : PySem.W.findIn K (.ref C_Slate) "__setattr__" = some (some (.builtin "object.__setattr__")))
    (mk_Slate : PySem.W.makesIn K C_Slate = true)
    (na_Slate_wide : PySem.W.findIn K (.ref C_Slate) "wide" = some none)
    (na_Slate_signs : PySem.W.findIn K (.ref C_Slate) "signs" = some none)
    (na_Slate_rows : PySem.W.findIn K (.ref C_Slate) "rows" = some none)
    (na_Slate_base : PySem.W.findIn K (.ref C_Slate) "base" = some none)
    (na_Slate_share : PySem.W.findIn K (.ref C_Slate) "share" = some none)
    (ic_NoGroup : PySem.W.isClsIn K C_NoGroup = true)
    (sc_NoGroup : PySem.W.subIn K (.ref C_NoGroup) (.ref C_NoGroup) = some true)
    (ic_NoNumber : PySem.W.isClsIn K C_NoNumber = true)
    (sc_NoNumber : PySem.W.subIn K (.ref C_NoNumber) (.ref C_NoNumber) = some true)
    (ic_NoOrder : PySem.W.isClsIn K C_NoOrder = true)
    (sc_NoOrder : PySem.W.subIn K (.ref C_NoOrder) (.ref C_NoOrder) = some true)
    (ic_NoRows : PySem.W.isClsIn K C_NoRows = true)
    (sc_NoRows : PySem.W.subIn K (.ref C_NoRows) (.ref C_NoRows) = some true)
    (ic_NoRule : PySem.W.isClsIn K C_NoRule = true)
    (sc_NoRule : PySem.W.subIn K (.ref C_NoRule) (.ref C_NoRule) = some true)
    (ic_NoShares : PySem.W.isClsIn K C_NoShares = true)
    (sc_NoShares : PySem.W.subIn K (.ref C_NoShares) (.ref C_NoShares) = some true)
    (ic_NoTable : PySem.W.isClsIn K C_NoTable = true)
    (sc_NoTable : PySem.W.subIn K (.ref C_NoTable) (.ref C_NoTable) = some true)
    (ic_NoText : PySem.W.isClsIn K C_NoText = true)
    (sc_NoText : PySem.W.subIn K (.ref C_NoText) (.ref C_NoText) = some true)
    (ic_NoVotes : PySem.W.isClsIn K C_NoVotes = true)
    (sc_NoVotes : PySem.W.subIn K (.ref C_NoVotes) (.ref C_NoVotes) = some true)
    (ic_ShareError : PySem.W.isClsIn K C_ShareError = true)
    (sc_ShareError : PySem.W.subIn K (.ref C_ShareError) (.ref C_ShareError) = some true)
    (ic_TooMany : PySem.W.isClsIn K C_TooMany = true)
    (sc_TooMany : PySem.W.subIn K (.ref C_TooMany) (.ref C_TooMany) = some true)
    (ic_Unlike : PySem.W.isClsIn K C_Unlike = true)
    (sc_Unlike : PySem.W.subIn K (.ref C_Unlike) (.ref C_Unlike) = some true)
    (xg_NoNumber : PySem.W.findIn K (.ref C_NoNumber) "__getattribute__" = some (some (.builtin "BaseException.__getattribute__")))
    (xk_NoNumber : PySem.W.findIn K (.ref C_NoNumber) "__getattr__" = some none)
    (xh_NoNumber : PySem.W.hasDictIn K C_NoNumber = true)
    (xa_NoNumber : PySem.W.findIn K (.ref C_NoNumber) "__class__" = some (some (.builtin "object.__class__")))
    (xm_NoNumber : PySem.W.mroIn K C_NoNumber (.type "object") = some true)
    (xn : PySem.W.specialIn K (.builtin "object.__class__") "__get__" = some (some (.builtin "getset_descriptor.__get__")))
    (xt : PySem.W.takesIn K (.builtin "object.__class__") = some true)
    (us_NoNumber_NoGroup : PySem.W.subIn K (.ref C_NoNumber) (.ref C_NoGroup) = some false)
    (us_NoNumber_NoNumber : PySem.W.subIn K (.ref C_NoNumber) (.ref C_NoNumber) = some true)
    (us_NoNumber_NoOrder : PySem.W.subIn K (.ref C_NoNumber) (.ref C_NoOrder) = some false)
    (us_NoNumber_NoRows : PySem.W.subIn K (.ref C_NoNumber) (.ref C_NoRows) = some false)
    (us_NoNumber_NoRule : PySem.W.subIn K (.ref C_NoNumber) (.ref C_NoRule) = some false)
    (us_NoNumber_NoShares : PySem.W.subIn K (.ref C_NoNumber) (.ref C_NoShares) = some false)
    (us_NoNumber_NoTable : PySem.W.subIn K (.ref C_NoNumber) (.ref C_NoTable) = some false)
    (us_NoNumber_NoText : PySem.W.subIn K (.ref C_NoNumber) (.ref C_NoText) = some false)
    (us_NoNumber_NoVotes : PySem.W.subIn K (.ref C_NoNumber) (.ref C_NoVotes) = some false)
    (us_NoNumber_ShareError : PySem.W.subIn K (.ref C_NoNumber) (.ref C_ShareError) = some true)
    (us_NoNumber_TooMany : PySem.W.subIn K (.ref C_NoNumber) (.ref C_TooMany) = some false)
    (us_NoNumber_Unlike : PySem.W.subIn K (.ref C_NoNumber) (.ref C_Unlike) = some false)
    (uv_NoNumber : PySem.W.subIn K (.ref C_NoNumber) (.type "ValueError") = some true)
    (hh_NoNumber_ShareError : PySem.W.hasDictIn K C_ShareError = true)
    (xg_NoRows : PySem.W.findIn K (.ref C_NoRows) "__getattribute__" = some (some (.builtin "BaseException.__getattribute__")))
    (xk_NoRows : PySem.W.findIn K (.ref C_NoRows) "__getattr__" = some none)
    (xh_NoRows : PySem.W.hasDictIn K C_NoRows = true)
    (xa_NoRows : PySem.W.findIn K (.ref C_NoRows) "__class__" = some (some (.builtin "object.__class__")))
    (xm_NoRows : PySem.W.mroIn K C_NoRows (.type "object") = some true)
    (us_NoRows_NoGroup : PySem.W.subIn K (.ref C_NoRows) (.ref C_NoGroup) = some false)
    (us_NoRows_NoNumber : PySem.W.subIn K (.ref C_NoRows) (.ref C_NoNumber) = some false)
    (us_NoRows_NoOrder : PySem.W.subIn K (.ref C_NoRows) (.ref C_NoOrder) = some false)
    (us_NoRows_NoRows : PySem.W.subIn K (.ref C_NoRows) (.ref C_NoRows) = some true)
    (us_NoRows_NoRule : PySem.W.subIn K (.ref C_NoRows) (.ref C_NoRule) = some false)
    (us_NoRows_NoShares : PySem.W.subIn K (.ref C_NoRows) (.ref C_NoShares) = some false)
    (us_NoRows_NoTable : PySem.W.subIn K (.ref C_NoRows) (.ref C_NoTable) = some false)
    (us_NoRows_NoText : PySem.W.subIn K (.ref C_NoRows) (.ref C_NoText) = some false)
    (us_NoRows_NoVotes : PySem.W.subIn K (.ref C_NoRows) (.ref C_NoVotes) = some false)
    (us_NoRows_ShareError : PySem.W.subIn K (.ref C_NoRows) (.ref C_ShareError) = some true)
    (us_NoRows_TooMany : PySem.W.subIn K (.ref C_NoRows) (.ref C_TooMany) = some false)
    (us_NoRows_Unlike : PySem.W.subIn K (.ref C_NoRows) (.ref C_Unlike) = some false)
    (uv_NoRows : PySem.W.subIn K (.ref C_NoRows) (.type "ValueError") = some true)
    (hh_NoRows_ShareError : PySem.W.hasDictIn K C_ShareError = true)
    (z_ValueError : PySem.W.nsIn K mainGlobals "ValueError" = some none)
    (z_abs : PySem.W.nsIn K mainGlobals "abs" = some none)
    (z_int : PySem.W.nsIn K mainGlobals "int" = some none)
    (z_isinstance : PySem.W.nsIn K mainGlobals "isinstance" = some none)
    (z_len : PySem.W.nsIn K mainGlobals "len" = some none)
    (z_list : PySem.W.nsIn K mainGlobals "list" = some none)
    (z_max : PySem.W.nsIn K mainGlobals "max" = some none)
    (z_range : PySem.W.nsIn K mainGlobals "range" = some none)
    (z_sum : PySem.W.nsIn K mainGlobals "sum" = some none)
    (z_tuple : PySem.W.nsIn K mainGlobals "tuple" = some none)
    (z_zip : PySem.W.nsIn K mainGlobals "zip" = some none)
    : ∃ fd : FuncData, (∀ (s : Shared) (v : Value), BindsTo s fd ⟨[v], []⟩ [("_law_script", v)]) ∧ ∀ base : Heap, K.In base → base.Ns mainGlobals mg → FnOk l.prog w K mg base (L2.CX l.prog w) 8 fa fd ["_law_script"] (sp_law K) := by
  have e := hfa.symm.trans (PySem.W.mg_of X G a_law)
  cases e
  have T : Txt K mg ⟨f_is_whole, PySem.W.fnOf "is_whole" "is_whole" (defArgs s_is_whole) (defBody s_is_whole) (defScope s_is_whole) .none kV_is_whole dc_is_whole pm_is_whole an_is_whole cd_is_whole ct_is_whole, f_divisor, PySem.W.fnOf "divisor" "divisor" (defArgs s_divisor) (defBody s_divisor) (defScope s_divisor) .none kV_divisor dc_divisor pm_divisor an_divisor cd_divisor ct_divisor, f_shortest, PySem.W.fnOf "shortest" "shortest" (defArgs s_shortest) (defBody s_shortest) (defScope s_shortest) .none kV_shortest dc_shortest pm_shortest an_shortest cd_shortest ct_shortest, f_fraction, PySem.W.fnOf "fraction" "fraction" (defArgs s_fraction) (defBody s_fraction) (defScope s_fraction) .none kV_fraction dc_fraction pm_fraction an_fraction cd_fraction ct_fraction, f_look_wholes, PySem.W.fnOf "look_wholes" "look_wholes" (defArgs s_look_wholes) (defBody s_look_wholes) (defScope s_look_wholes) .none kV_look_wholes dc_look_wholes pm_look_wholes an_look_wholes cd_look_wholes ct_look_wholes, f_look_rows, PySem.W.fnOf "look_rows" "look_rows" (defArgs s_look_rows) (defBody s_look_rows) (defScope s_look_rows) .none kV_look_rows dc_look_rows pm_look_rows an_look_rows cd_look_rows ct_look_rows, f_Slate___init__, PySem.W.fnOf "__init__" "Slate.__init__" (defArgs s_Slate___init__) (defBody s_Slate___init__) (defScope s_Slate___init__) .none kV_Slate___init__ dc_Slate___init__ pm_Slate___init__ an_Slate___init__ cd_Slate___init__ ct_Slate___init__, f_Slate_turn, PySem.W.fnOf "turn" "Slate.turn" (defArgs s_Slate_turn) (defBody s_Slate_turn) (defScope s_Slate_turn) .none kV_Slate_turn dc_Slate_turn pm_Slate_turn an_Slate_turn cd_Slate_turn ct_Slate_turn, f_Slate_come_in, PySem.W.fnOf "come_in" "Slate.come_in" (defArgs s_Slate_come_in) (defBody s_Slate_come_in) (defScope s_Slate_come_in) .none kV_Slate_come_in dc_Slate_come_in pm_Slate_come_in an_Slate_come_in cd_Slate_come_in ct_Slate_come_in, f_Slate_sooner, PySem.W.fnOf "sooner" "Slate.sooner" (defArgs s_Slate_sooner) (defBody s_Slate_sooner) (defScope s_Slate_sooner) .none kV_Slate_sooner dc_Slate_sooner pm_Slate_sooner an_Slate_sooner cd_Slate_sooner ct_Slate_sooner, f_Slate_go_out, PySem.W.fnOf "go_out" "Slate.go_out" (defArgs s_Slate_go_out) (defBody s_Slate_go_out) (defScope s_Slate_go_out) .none kV_Slate_go_out dc_Slate_go_out pm_Slate_go_out an_Slate_go_out cd_Slate_go_out ct_Slate_go_out, f_Slate_climb, PySem.W.fnOf "climb" "Slate.climb" (defArgs s_Slate_climb) (defBody s_Slate_climb) (defScope s_Slate_climb) .none kV_Slate_climb dc_Slate_climb pm_Slate_climb an_Slate_climb cd_Slate_climb ct_Slate_climb, f_Slate_told_weights, PySem.W.fnOf "told_weights" "Slate.told_weights" (defArgs s_Slate_told_weights) (defBody s_Slate_told_weights) (defScope s_Slate_told_weights) .none kV_Slate_told_weights dc_Slate_told_weights pm_Slate_told_weights an_Slate_told_weights cd_Slate_told_weights ct_Slate_told_weights, f_Slate_told_way, PySem.W.fnOf "told_way" "Slate.told_way" (defArgs s_Slate_told_way) (defBody s_Slate_told_way) (defScope s_Slate_told_way) .none kV_Slate_told_way dc_Slate_told_way pm_Slate_told_way an_Slate_told_way cd_Slate_told_way ct_Slate_told_way, f_Slate_told_prices, PySem.W.fnOf "told_prices" "Slate.told_prices" (defArgs s_Slate_told_prices) (defBody s_Slate_told_prices) (defScope s_Slate_told_prices) .none kV_Slate_told_prices dc_Slate_told_prices pm_Slate_told_prices an_Slate_told_prices cd_Slate_told_prices ct_Slate_told_prices, f_Slate_enough, PySem.W.fnOf "enough" "Slate.enough" (defArgs s_Slate_enough) (defBody s_Slate_enough) (defScope s_Slate_enough) .none kV_Slate_enough dc_Slate_enough pm_Slate_enough an_Slate_enough cd_Slate_enough ct_Slate_enough, f_weighed, PySem.W.fnOf "weighed" "weighed" (defArgs s_weighed) (defBody s_weighed) (defScope s_weighed) .none kV_weighed dc_weighed pm_weighed an_weighed cd_weighed ct_weighed, f_weigh, PySem.W.fnOf "weigh" "weigh" (defArgs s_weigh) (defBody s_weigh) (defScope s_weigh) .none kV_weigh dc_weigh pm_weigh an_weigh cd_weigh ct_weigh, f__law_cell, PySem.W.fnOf "_law_cell" "_law_cell" (defArgs s__law_cell) (defBody s__law_cell) (defScope s__law_cell) .none kV__law_cell dc__law_cell pm__law_cell an__law_cell cd__law_cell ct__law_cell, f__law_number, PySem.W.fnOf "_law_number" "_law_number" (defArgs s__law_number) (defBody s__law_number) (defScope s__law_number) .none kV__law_number dc__law_number pm__law_number an__law_number cd__law_number ct__law_number, f__law_lists, PySem.W.fnOf "_law_lists" "_law_lists" (defArgs s__law_lists) (defBody s__law_lists) (defScope s__law_lists) .none kV__law_lists dc__law_lists pm__law_lists an__law_lists cd__law_lists ct__law_lists, f__law_odd, PySem.W.fnOf "_law_odd" "_law_odd" (defArgs s__law_odd) (defBody s__law_odd) (defScope s__law_odd) .none kV__law_odd dc__law_odd pm__law_odd an__law_odd cd__law_odd ct__law_odd, f__law_longer, PySem.W.fnOf "_law_longer" "_law_longer" (defArgs s__law_longer) (defBody s__law_longer) (defScope s__law_longer) .none kV__law_longer dc__law_longer pm__law_longer an__law_longer cd__law_longer ct__law_longer, f__law_amiss, PySem.W.fnOf "_law_amiss" "_law_amiss" (defArgs s__law_amiss) (defBody s__law_amiss) (defScope s__law_amiss) .none kV__law_amiss dc__law_amiss pm__law_amiss an__law_amiss cd__law_amiss ct__law_amiss, f__law_own, PySem.W.fnOf "_law_own" "_law_own" (defArgs s__law_own) (defBody s__law_own) (defScope s__law_own) .none kV__law_own dc__law_own pm__law_own an__law_own cd__law_own ct__law_own, f__law_refused, PySem.W.fnOf "_law_refused" "_law_refused" (defArgs s__law_refused) (defBody s__law_refused) (defScope s__law_refused) .none kV__law_refused dc__law_refused pm__law_refused an__law_refused cd__law_refused ct__law_refused, f__law_taken, PySem.W.fnOf "_law_taken" "_law_taken" (defArgs s__law_taken) (defBody s__law_taken) (defScope s__law_taken) .none kV__law_taken dc__law_taken pm__law_taken an__law_taken cd__law_taken ct__law_taken, fa, PySem.W.fnOf "law" "law" (defArgs s_law) (defBody s_law) (defScope s_law) .none kV_law dc_law pm_law an_law cd_law ct_law, C_ShareError, C_NoNumber, C_NoGroup, C_NoRule, C_NoText, C_NoTable, C_Unlike, C_TooMany, C_NoOrder, C_NoRows, C_NoShares, C_NoVotes, C_Slate⟩ := {
    F_is_whole := fun_mk (st := s_is_whole) l_is_whole c_is_whole k_is_whole
    b_is_whole := (fun_mk (st := s_is_whole) l_is_whole c_is_whole k_is_whole).binds (ps := ["thing"]) fun _ _ _ _ _ _ us hl => match us, hl with | [_], _ => rfl
    g_is_whole := PySem.W.mg_of X G a_is_whole
    F_divisor := fun_mk (st := s_divisor) l_divisor c_divisor k_divisor
    b_divisor := (fun_mk (st := s_divisor) l_divisor c_divisor k_divisor).binds (ps := ["one", "other"]) fun _ _ _ _ _ _ us hl => match us, hl with | [_, _], _ => rfl
    g_divisor := PySem.W.mg_of X G a_divisor
    F_shortest := fun_mk (st := s_shortest) l_shortest c_shortest k_shortest
    b_shortest := (fun_mk (st := s_shortest) l_shortest c_shortest k_shortest).binds (ps := ["top", "bottom"]) fun _ _ _ _ _ _ us hl => match us, hl with | [_, _], _ => rfl
    g_shortest := PySem.W.mg_of X G a_shortest
    F_fraction := fun_mk (st := s_fraction) l_fraction c_fraction k_fraction
    b_fraction := (fun_mk (st := s_fraction) l_fraction c_fraction k_fraction).binds (ps := ["top", "bottom"]) fun _ _ _ _ _ _ us hl => match us, hl with | [_, _], _ => rfl
    g_fraction := PySem.W.mg_of X G a_fraction
    F_look_wholes := fun_mk (st := s_look_wholes) l_look_wholes c_look_wholes k_look_wholes
    b_look_wholes := (fun_mk (st := s_look_wholes) l_look_wholes c_look_wholes k_look_wholes).binds (ps := ["row"]) fun _ _ _ _ _ _ us hl => match us, hl with | [_], _ => rfl
    g_look_wholes := PySem.W.mg_of X G a_look_wholes
    F_look_rows := fun_mk (st := s_look_rows) l_look_rows c_look_rows k_look_rows
    b_look_rows := (fun_mk (st := s_look_rows) l_look_rows c_look_rows k_look_rows).binds (ps := ["columns", "due", "gains"]) fun _ _ _ _ _ _ us hl => match us, hl with | [_, _, _], _ => rfl
    g_look_rows := PySem.W.mg_of X G a_look_rows
    F_Slate___init__ := fun_mk (st := s_Slate___init__) l_Slate___init__ c_Slate___init__ k_Slate___init__
    b_Slate___init__ := (fun_mk (st := s_Slate___init__) l_Slate___init__ c_Slate___init__ k_Slate___init__).binds (ps := ["self", "columns", "due", "gains"]) fun _ _ _ _ _ _ us hl => match us, hl with | [_, _, _, _], _ => rfl
    F_Slate_turn := fun_mk (st := s_Slate_turn) l_Slate_turn c_Slate_turn k_Slate_turn
    b_Slate_turn := (fun_mk (st := s_Slate_turn) l_Slate_turn c_Slate_turn k_Slate_turn).binds (ps := ["self", "at", "to"]) fun _ _ _ _ _ _ us hl => match us, hl with | [_, _, _], _ => rfl
    F_Slate_come_in := fun_mk (st := s_Slate_come_in) l_Slate_come_in c_Slate_come_in k_Slate_come_in
    b_Slate_come_in := (fun_mk (st := s_Slate_come_in) l_Slate_come_in c_Slate_come_in k_Slate_come_in).binds (ps := ["self"]) fun _ _ _ _ _ _ us hl => match us, hl with | [_], _ => rfl
    F_Slate_sooner := fun_mk (st := s_Slate_sooner) l_Slate_sooner c_Slate_sooner k_Slate_sooner
    b_Slate_sooner := (fun_mk (st := s_Slate_sooner) l_Slate_sooner c_Slate_sooner k_Slate_sooner).binds (ps := ["self", "here", "there", "to"]) fun _ _ _ _ _ _ us hl => match us, hl with | [_, _, _, _], _ => rfl
    F_Slate_go_out := fun_mk (st := s_Slate_go_out) l_Slate_go_out c_Slate_go_out k_Slate_go_out
    b_Slate_go_out := (fun_mk (st := s_Slate_go_out) l_Slate_go_out c_Slate_go_out k_Slate_go_out).binds (ps := ["self", "to"]) fun _ _ _ _ _ _ us hl => match us, hl with | [_, _], _ => rfl
    F_Slate_climb := fun_mk (st := s_Slate_climb) l_Slate_climb c_Slate_climb k_Slate_climb
    b_Slate_climb := (fun_mk (st := s_Slate_climb) l_Slate_climb c_Slate_climb k_Slate_climb).binds (ps := ["self"]) fun _ _ _ _ _ _ us hl => match us, hl with | [_], _ => rfl
    F_Slate_told_weights := fun_mk (st := s_Slate_told_weights) l_Slate_told_weights c_Slate_told_weights k_Slate_told_weights
    b_Slate_told_weights := (fun_mk (st := s_Slate_told_weights) l_Slate_told_weights c_Slate_told_weights k_Slate_told_weights).binds (ps := ["self"]) fun _ _ _ _ _ _ us hl => match us, hl with | [_], _ => rfl
    F_Slate_told_way := fun_mk (st := s_Slate_told_way) l_Slate_told_way c_Slate_told_way k_Slate_told_way
    b_Slate_told_way := (fun_mk (st := s_Slate_told_way) l_Slate_told_way c_Slate_told_way k_Slate_told_way).binds (ps := ["self", "to"]) fun _ _ _ _ _ _ us hl => match us, hl with | [_, _], _ => rfl
    F_Slate_told_prices := fun_mk (st := s_Slate_told_prices) l_Slate_told_prices c_Slate_told_prices k_Slate_told_prices
    b_Slate_told_prices := (fun_mk (st := s_Slate_told_prices) l_Slate_told_prices c_Slate_told_prices k_Slate_told_prices).binds (ps := ["self", "gained", "short"]) fun _ _ _ _ _ _ us hl => match us, hl with | [_, _, _], _ => rfl
    F_Slate_enough := fun_mk (st := s_Slate_enough) l_Slate_enough c_Slate_enough k_Slate_enough
    b_Slate_enough := (fun_mk (st := s_Slate_enough) l_Slate_enough c_Slate_enough k_Slate_enough).binds (ps := ["self"]) fun _ _ _ _ _ _ us hl => match us, hl with | [_], _ => rfl
    F_weighed := fun_mk (st := s_weighed) l_weighed c_weighed k_weighed
    b_weighed := (fun_mk (st := s_weighed) l_weighed c_weighed k_weighed).binds (ps := ["columns", "due", "gains"]) fun _ _ _ _ _ _ us hl => match us, hl with | [_, _, _], _ => rfl
    g_weighed := PySem.W.mg_of X G a_weighed
    F_weigh := fun_mk (st := s_weigh) l_weigh c_weigh k_weigh
    b_weigh := (fun_mk (st := s_weigh) l_weigh c_weigh k_weigh).binds (ps := ["columns", "due", "gains"]) fun _ _ _ _ _ _ us hl => match us, hl with | [_, _, _], _ => rfl
    g_weigh := PySem.W.mg_of X G a_weigh
    F__law_cell := fun_mk (st := s__law_cell) l__law_cell c__law_cell k__law_cell
    b__law_cell := (fun_mk (st := s__law_cell) l__law_cell c__law_cell k__law_cell).binds (ps := ["_law_script", "_law_k"]) fun _ _ _ _ _ _ us hl => match us, hl with | [_, _], _ => rfl
    g__law_cell := PySem.W.mg_of X G a__law_cell
    F__law_number := fun_mk (st := s__law_number) l__law_number c__law_number k__law_number
    b__law_number := (fun_mk (st := s__law_number) l__law_number c__law_number k__law_number).binds (ps := ["_law_cell_here"]) fun _ _ _ _ _ _ us hl => match us, hl with | [_], _ => rfl
    g__law_number := PySem.W.mg_of X G a__law_number
    F__law_lists := fun_mk (st := s__law_lists) l__law_lists c__law_lists k__law_lists
    b__law_lists := (fun_mk (st := s__law_lists) l__law_lists c__law_lists k__law_lists).binds (ps := ["_law_script"]) fun _ _ _ _ _ _ us hl => match us, hl with | [_], _ => rfl
    g__law_lists := PySem.W.mg_of X G a__law_lists
    F__law_odd := fun_mk (st := s__law_odd) l__law_odd c__law_odd k__law_odd
    b__law_odd := (fun_mk (st := s__law_odd) l__law_odd c__law_odd k__law_odd).binds (ps := ["_law_cell_here"]) fun _ _ _ _ _ _ us hl => match us, hl with | [_], _ => rfl
    g__law_odd := PySem.W.mg_of X G a__law_odd
    F__law_longer := fun_mk (st := s__law_longer) l__law_longer c__law_longer k__law_longer
    b__law_longer := (fun_mk (st := s__law_longer) l__law_longer c__law_longer k__law_longer).binds (ps := ["_law_row", "_law_cell_here"]) fun _ _ _ _ _ _ us hl => match us, hl with | [_, _], _ => rfl
    g__law_longer := PySem.W.mg_of X G a__law_longer
    F__law_amiss := fun_mk (st := s__law_amiss) l__law_amiss c__law_amiss k__law_amiss
    b__law_amiss := (fun_mk (st := s__law_amiss) l__law_amiss c__law_amiss k__law_amiss).binds (ps := ["_law_lists_here", "_law_script"]) fun _ _ _ _ _ _ us hl => match us, hl with | [_, _], _ => rfl
    g__law_amiss := PySem.W.mg_of X G a__law_amiss
    F__law_own := fun_mk (st := s__law_own) l__law_own c__law_own k__law_own
    b__law_own := (fun_mk (st := s__law_own) l__law_own c__law_own k__law_own).binds (ps := ["_law_error"]) fun _ _ _ _ _ _ us hl => match us, hl with | [_], _ => rfl
    g__law_own := PySem.W.mg_of X G a__law_own
    F__law_refused := fun_mk (st := s__law_refused) l__law_refused c__law_refused k__law_refused
    b__law_refused := (fun_mk (st := s__law_refused) l__law_refused c__law_refused k__law_refused).binds (ps := ["_law_lists_here"]) fun _ _ _ _ _ _ us hl => match us, hl with | [_], _ => rfl
    g__law_refused := PySem.W.mg_of X G a__law_refused
    F__law_taken := fun_mk (st := s__law_taken) l__law_taken c__law_taken k__law_taken
    b__law_taken := (fun_mk (st := s__law_taken) l__law_taken c__law_taken k__law_taken).binds (ps := ["_law_lists_here"]) fun _ _ _ _ _ _ us hl => match us, hl with | [_], _ => rfl
    g__law_taken := PySem.W.mg_of X G a__law_taken
    F_law := fun_mk (st := s_law) l_law c_law k_law
    b_law := (fun_mk (st := s_law) l_law c_law k_law).binds (ps := ["_law_script"]) fun _ _ _ _ _ _ us hl => match us, hl with | [_], _ => rfl
    g_law := PySem.W.mg_of X G a_law
    g_ShareError := PySem.W.mg_of X G ac_ShareError
    g_NoNumber := PySem.W.mg_of X G ac_NoNumber
    k_NoNumber := kc_NoNumber
    e_NoNumber := ec_NoNumber
    t_NoNumber := tc_NoNumber
    x_NoNumber := xc_NoNumber
    g_NoGroup := PySem.W.mg_of X G ac_NoGroup
    g_NoRule := PySem.W.mg_of X G ac_NoRule
    g_NoText := PySem.W.mg_of X G ac_NoText
    g_NoTable := PySem.W.mg_of X G ac_NoTable
    g_Unlike := PySem.W.mg_of X G ac_Unlike
    g_TooMany := PySem.W.mg_of X G ac_TooMany
    g_NoOrder := PySem.W.mg_of X G ac_NoOrder
    g_NoRows := PySem.W.mg_of X G ac_NoRows
    k_NoRows := kc_NoRows
    e_NoRows := ec_NoRows
    t_NoRows := tc_NoRows
    x_NoRows := xc_NoRows
    g_NoShares := PySem.W.mg_of X G ac_NoShares
    g_NoVotes := PySem.W.mg_of X G ac_NoVotes
    g_Slate := PySem.W.mg_of X G ac_Slate
    cl_Slate := ⟨pg_Slate, hd_Slate, po_Slate, sa_Slate⟩
    mk_Slate := ⟨mk_Slate, a_Slate___init__, i_Slate___init__, kc_Slate⟩
    m_Slate_turn := ⟨a_Slate_turn, i_Slate_turn, k_Slate_turn⟩
    m_Slate_come_in := ⟨a_Slate_come_in, i_Slate_come_in, k_Slate_come_in⟩
    m_Slate_sooner := ⟨a_Slate_sooner, i_Slate_sooner, k_Slate_sooner⟩
    m_Slate_go_out := ⟨a_Slate_go_out, i_Slate_go_out, k_Slate_go_out⟩
    m_Slate_climb := ⟨a_Slate_climb, i_Slate_climb, k_Slate_climb⟩
    m_Slate_told_weights := ⟨a_Slate_told_weights, i_Slate_told_weights, k_Slate_told_weights⟩
    m_Slate_told_way := ⟨a_Slate_told_way, i_Slate_told_way, k_Slate_told_way⟩
    m_Slate_told_prices := ⟨a_Slate_told_prices, i_Slate_told_prices, k_Slate_told_prices⟩
    m_Slate_enough := ⟨a_Slate_enough, i_Slate_enough, k_Slate_enough⟩
    n_Slate_wide := na_Slate_wide
    n_Slate_signs := na_Slate_signs
    n_Slate_rows := na_Slate_rows
    n_Slate_base := na_Slate_base
    n_Slate_share := na_Slate_share
    q_NoGroup := ⟨ic_NoGroup, tc_NoGroup, sc_NoGroup⟩
    q_NoNumber := ⟨ic_NoNumber, tc_NoNumber, sc_NoNumber⟩
    q_NoOrder := ⟨ic_NoOrder, tc_NoOrder, sc_NoOrder⟩
    q_NoRows := ⟨ic_NoRows, tc_NoRows, sc_NoRows⟩
    q_NoRule := ⟨ic_NoRule, tc_NoRule, sc_NoRule⟩
    q_NoShares := ⟨ic_NoShares, tc_NoShares, sc_NoShares⟩
    q_NoTable := ⟨ic_NoTable, tc_NoTable, sc_NoTable⟩
    q_NoText := ⟨ic_NoText, tc_NoText, sc_NoText⟩
    q_NoVotes := ⟨ic_NoVotes, tc_NoVotes, sc_NoVotes⟩
    q_ShareError := ⟨ic_ShareError, tc_ShareError, sc_ShareError⟩
    q_TooMany := ⟨ic_TooMany, tc_TooMany, sc_TooMany⟩
    q_Unlike := ⟨ic_Unlike, tc_Unlike, sc_Unlike⟩
    X_NoNumber := ⟨xg_NoNumber, xk_NoNumber, ec_NoNumber, xh_NoNumber, xa_NoNumber, xn, xt, xm_NoNumber⟩
    u_NoNumber_NoGroup := us_NoNumber_NoGroup
    u_NoNumber_NoNumber := us_NoNumber_NoNumber
    u_NoNumber_NoOrder := us_NoNumber_NoOrder
    u_NoNumber_NoRows := us_NoNumber_NoRows
    u_NoNumber_NoRule := us_NoNumber_NoRule
    u_NoNumber_NoShares := us_NoNumber_NoShares
    u_NoNumber_NoTable := us_NoNumber_NoTable
    u_NoNumber_NoText := us_NoNumber_NoText
    u_NoNumber_NoVotes := us_NoNumber_NoVotes
    u_NoNumber_ShareError := us_NoNumber_ShareError
    u_NoNumber_TooMany := us_NoNumber_TooMany
    u_NoNumber_Unlike := us_NoNumber_Unlike
    v_NoNumber := uv_NoNumber
    h_NoNumber_ShareError := PySem.W.exm_ref ec_ShareError hh_NoNumber_ShareError tc_ShareError us_NoNumber_ShareError
    X_NoRows := ⟨xg_NoRows, xk_NoRows, ec_NoRows, xh_NoRows, xa_NoRows, xn, xt, xm_NoRows⟩
    u_NoRows_NoGroup := us_NoRows_NoGroup
    u_NoRows_NoNumber := us_NoRows_NoNumber
    u_NoRows_NoOrder := us_NoRows_NoOrder
    u_NoRows_NoRows := us_NoRows_NoRows
    u_NoRows_NoRule := us_NoRows_NoRule
    u_NoRows_NoShares := us_NoRows_NoShares
    u_NoRows_NoTable := us_NoRows_NoTable
    u_NoRows_NoText := us_NoRows_NoText
    u_NoRows_NoVotes := us_NoRows_NoVotes
    u_NoRows_ShareError := us_NoRows_ShareError
    u_NoRows_TooMany := us_NoRows_TooMany
    u_NoRows_Unlike := us_NoRows_Unlike
    v_NoRows := uv_NoRows
    h_NoRows_ShareError := PySem.W.exm_ref ec_ShareError hh_NoRows_ShareError tc_ShareError us_NoRows_ShareError
    z_ValueError := PySem.W.mg_none_of X G z_ValueError
    z_abs := PySem.W.mg_none_of X G z_abs
    z_int := PySem.W.mg_none_of X G z_int
    z_isinstance := PySem.W.mg_none_of X G z_isinstance
    z_len := PySem.W.mg_none_of X G z_len
    z_list := PySem.W.mg_none_of X G z_list
    z_max := PySem.W.mg_none_of X G z_max
    z_range := PySem.W.mg_none_of X G z_range
    z_sum := PySem.W.mg_none_of X G z_sum
    z_tuple := PySem.W.mg_none_of X G z_tuple
    z_zip := PySem.W.mg_none_of X G z_zip
  }
  exact ⟨_, fun s v => .of_eq rfl, fun base _ _ => ok_law T⟩
end Lw
open PySem PySem.W PyProof.Rows
set_option maxHeartbeats 0 in
theorem PySem.Challenge.cw_shareparley_k31_weigh_refused_holds : PySem.Challenge.rw_shareparley_k31_weigh_refused.Holds := by
  w_on; o_law; k_head; (case hw => w_witness2)
  k_fill
  refine L2.walk_of (l := PySem.Challenge.rw_shareparley_k31_weigh_refused) (n := 63) (k := 8) (x := "_law_script") (CX := fun w => L2.CX (PySem.Challenge.rw_shareparley_k31_weigh_refused).prog w) (sp := fun w => Lw.sp_law _) rfl (by decide) rfl ⟨rfl, by decide, by decide⟩ (fun w h Y => PySem.W.kIn_of Y) ?F (fun _ _ a ns hl _ hS => ⟨a, ns, rfl, hS, hl, fun _ => rfl⟩) (fun _ _ _ _ _ h => Sp.cx_none h)
  case F =>
    intro w mg fa h KX G hmg
    refine' Lw.all_mk KX G hmg ?a_is_whole ?l_is_whole ?c_is_whole ?k_is_whole ?a_divisor ?l_divisor ?c_divisor ?k_divisor ?a_shortest ?l_shortest ?c_shortest ?k_shortest ?a_fraction ?l_fraction ?c_fraction ?k_fraction ?a_look_wholes ?l_look_wholes ?c_look_wholes ?k_look_wholes ?a_look_rows ?l_look_rows ?c_look_rows ?k_look_rows ?a_Slate___init__ ?i_Slate___init__ ?l_Slate___init__ ?c_Slate___init__ ?k_Slate___init__ ?a_Slate_turn ?i_Slate_turn ?l_Slate_turn ?c_Slate_turn ?k_Slate_turn ?a_Slate_come_in ?i_Slate_come_in ?l_Slate_come_in ?c_Slate_come_in ?k_Slate_come_in ?a_Slate_sooner ?i_Slate_sooner ?l_Slate_sooner ?c_Slate_sooner ?k_Slate_sooner ?a_Slate_go_out ?i_Slate_go_out ?l_Slate_go_out ?c_Slate_go_out ?k_Slate_go_out ?a_Slate_climb ?i_Slate_climb ?l_Slate_climb ?c_Slate_climb ?k_Slate_climb ?a_Slate_told_weights ?i_Slate_told_weights ?l_Slate_told_weights ?c_Slate_told_weights ?k_Slate_told_weights ?a_Slate_told_way ?i_Slate_told_way ?l_Slate_told_way ?c_Slate_told_way ?k_Slate_told_way ?a_Slate_told_prices ?i_Slate_told_prices ?l_Slate_told_prices ?c_Slate_told_prices ?k_Slate_told_prices ?a_Slate_enough ?i_Slate_enough ?l_Slate_enough ?c_Slate_enough ?k_Slate_enough ?a_weighed ?l_weighed ?c_weighed ?k_weighed ?a_weigh ?l_weigh ?c_weigh ?k_weigh ?a__law_cell ?l__law_cell ?c__law_cell ?k__law_cell ?a__law_number ?l__law_number ?c__law_number ?k__law_number ?a__law_lists ?l__law_lists ?c__law_lists ?k__law_lists ?a__law_odd ?l__law_odd ?c__law_odd ?k__law_odd ?a__law_longer ?l__law_longer ?c__law_longer ?k__law_longer ?a__law_amiss ?l__law_amiss ?c__law_amiss ?k__law_amiss ?a__law_own ?l__law_own ?c__law_own ?k__law_own ?a__law_refused ?l__law_refused ?c__law_refused ?k__law_refused ?a__law_taken ?l__law_taken ?c__law_taken ?k__law_taken ?a_law ?l_law ?c_law ?k_law ?ac_ShareError ?tc_ShareError ?ec_ShareError ?ac_NoNumber ?kc_NoNumber ?ec_NoNumber ?tc_NoNumber ?xc_NoNumber ?ac_NoGroup ?tc_NoGroup ?ec_NoGroup ?ac_NoRule ?tc_NoRule ?ec_NoRule ?ac_NoText ?tc_NoText ?ec_NoText ?ac_NoTable ?tc_NoTable ?ec_NoTable ?ac_Unlike ?tc_Unlike ?ec_Unlike ?ac_TooMany ?tc_TooMany ?ec_TooMany ?ac_NoOrder ?tc_NoOrder ?ec_NoOrder ?ac_NoRows ?kc_NoRows ?ec_NoRows ?tc_NoRows ?xc_NoRows ?ac_NoShares ?tc_NoShares ?ec_NoShares ?ac_NoVotes ?tc_NoVotes ?ec_NoVotes ?ac_Slate ?kc_Slate ?pg_Slate ?hd_Slate ?po_Slate ?sa_Slate ?mk_Slate ?na_Slate_wide ?na_Slate_signs ?na_Slate_rows ?na_Slate_base ?na_Slate_share ?ic_NoGroup ?sc_NoGroup ?ic_NoNumber ?sc_NoNumber ?ic_NoOrder ?sc_NoOrder ?ic_NoRows ?sc_NoRows ?ic_NoRule ?sc_NoRule ?ic_NoShares ?sc_NoShares ?ic_NoTable ?sc_NoTable ?ic_NoText ?sc_NoText ?ic_NoVotes ?sc_NoVotes ?ic_ShareError ?sc_ShareError ?ic_TooMany ?sc_TooMany ?ic_Unlike ?sc_Unlike ?xg_NoNumber ?xk_NoNumber ?xh_NoNumber ?xa_NoNumber ?xm_NoNumber ?xn ?xt ?us_NoNumber_NoGroup ?us_NoNumber_NoNumber ?us_NoNumber_NoOrder ?us_NoNumber_NoRows ?us_NoNumber_NoRule ?us_NoNumber_NoShares ?us_NoNumber_NoTable ?us_NoNumber_NoText ?us_NoNumber_NoVotes ?us_NoNumber_ShareError ?us_NoNumber_TooMany ?us_NoNumber_Unlike ?uv_NoNumber ?hh_NoNumber_ShareError ?xg_NoRows ?xk_NoRows ?xh_NoRows ?xa_NoRows ?xm_NoRows ?us_NoRows_NoGroup ?us_NoRows_NoNumber ?us_NoRows_NoOrder ?us_NoRows_NoRows ?us_NoRows_NoRule ?us_NoRows_NoShares ?us_NoRows_NoTable ?us_NoRows_NoText ?us_NoRows_NoVotes ?us_NoRows_ShareError ?us_NoRows_TooMany ?us_NoRows_Unlike ?uv_NoRows ?hh_NoRows_ShareError ?z_ValueError ?z_abs ?z_int ?z_isinstance ?z_len ?z_list ?z_max ?z_range ?z_sum ?z_tuple ?z_zip
    (case ac_ShareError => k_is)
    (case ac_NoNumber => k_is)
    (case ac_NoGroup => k_is)
    (case ac_NoRule => k_is)
    (case ac_NoText => k_is)
    (case ac_NoTable => k_is)
    (case ac_Unlike => k_is)
    (case ac_TooMany => k_is)
    (case ac_NoOrder => k_is)
    (case ac_NoRows => k_is)
    (case ac_NoShares => k_is)
    (case ac_NoVotes => k_is)
    (case ac_Slate => k_is)
    (case a_is_whole => k_is)
    (case l_is_whole => k_is)
    (case c_is_whole => k_is)
    (case k_is_whole => k_is)
    (case a_divisor => k_is)
    (case l_divisor => k_is)
    (case c_divisor => k_is)
    (case k_divisor => k_is)
    (case a_shortest => k_is)
    (case l_shortest => k_is)
    (case c_shortest => k_is)
    (case k_shortest => k_is)
    (case a_fraction => k_is)
    (case l_fraction => k_is)
    (case c_fraction => k_is)
    (case k_fraction => k_is)
    (case a_look_wholes => k_is)
    (case l_look_wholes => k_is)
    (case c_look_wholes => k_is)
    (case k_look_wholes => k_is)
    (case a_look_rows => k_is)
    (case l_look_rows => k_is)
    (case c_look_rows => k_is)
    (case k_look_rows => k_is)
    (case a_Slate___init__ => k_is)
    (case i_Slate___init__ => k_is)
    (case l_Slate___init__ => k_is)
    (case c_Slate___init__ => k_is)
    (case k_Slate___init__ => k_is)
    (case a_Slate_turn => k_is)
    (case i_Slate_turn => k_is)
    (case l_Slate_turn => k_is)
    (case c_Slate_turn => k_is)
    (case k_Slate_turn => k_is)
    (case a_Slate_come_in => k_is)
    (case i_Slate_come_in => k_is)
    (case l_Slate_come_in => k_is)
    (case c_Slate_come_in => k_is)
    (case k_Slate_come_in => k_is)
    (case a_Slate_sooner => k_is)
    (case i_Slate_sooner => k_is)
    (case l_Slate_sooner => k_is)
    (case c_Slate_sooner => k_is)
    (case k_Slate_sooner => k_is)
    (case a_Slate_go_out => k_is)
    (case i_Slate_go_out => k_is)
    (case l_Slate_go_out => k_is)
    (case c_Slate_go_out => k_is)
    (case k_Slate_go_out => k_is)
    (case a_Slate_climb => k_is)
    (case i_Slate_climb => k_is)
    (case l_Slate_climb => k_is)
    (case c_Slate_climb => k_is)
    (case k_Slate_climb => k_is)
    (case a_Slate_told_weights => k_is)
    (case i_Slate_told_weights => k_is)
    (case l_Slate_told_weights => k_is)
    (case c_Slate_told_weights => k_is)
    (case k_Slate_told_weights => k_is)
    (case a_Slate_told_way => k_is)
    (case i_Slate_told_way => k_is)
    (case l_Slate_told_way => k_is)
    (case c_Slate_told_way => k_is)
    (case k_Slate_told_way => k_is)
    (case a_Slate_told_prices => k_is)
    (case i_Slate_told_prices => k_is)
    (case l_Slate_told_prices => k_is)
    (case c_Slate_told_prices => k_is)
    (case k_Slate_told_prices => k_is)
    (case a_Slate_enough => k_is)
    (case i_Slate_enough => k_is)
    (case l_Slate_enough => k_is)
    (case c_Slate_enough => k_is)
    (case k_Slate_enough => k_is)
    (case a_weighed => k_is)
    (case l_weighed => k_is)
    (case c_weighed => k_is)
    (case k_weighed => k_is)
    (case a_weigh => k_is)
    (case l_weigh => k_is)
    (case c_weigh => k_is)
    (case k_weigh => k_is)
    (case a__law_cell => k_is)
    (case l__law_cell => k_is)
    (case c__law_cell => k_is)
    (case k__law_cell => k_is)
    (case a__law_number => k_is)
    (case l__law_number => k_is)
    (case c__law_number => k_is)
    (case k__law_number => k_is)
    (case a__law_lists => k_is)
    (case l__law_lists => k_is)
    (case c__law_lists => k_is)
    (case k__law_lists => k_is)
    (case a__law_odd => k_is)
    (case l__law_odd => k_is)
    (case c__law_odd => k_is)
    (case k__law_odd => k_is)
    (case a__law_longer => k_is)
    (case l__law_longer => k_is)
    (case c__law_longer => k_is)
    (case k__law_longer => k_is)
    (case a__law_amiss => k_is)
    (case l__law_amiss => k_is)
    (case c__law_amiss => k_is)
    (case k__law_amiss => k_is)
    (case a__law_own => k_is)
    (case l__law_own => k_is)
    (case c__law_own => k_is)
    (case k__law_own => k_is)
    (case a__law_refused => k_is)
    (case l__law_refused => k_is)
    (case c__law_refused => k_is)
    (case k__law_refused => k_is)
    (case a__law_taken => k_is)
    (case l__law_taken => k_is)
    (case c__law_taken => k_is)
    (case k__law_taken => k_is)
    (case a_law => k_is)
    (case l_law => k_is)
    (case c_law => k_is)
    (case k_law => k_is)
    (case tc_ShareError => k_is)
    (case ec_ShareError => k_is)
    (case kc_NoNumber => k_is)
    (case ec_NoNumber => k_is)
    (case tc_NoNumber => k_is)
    (case xc_NoNumber => k_exc)
    (case tc_NoGroup => k_is)
    (case ec_NoGroup => k_is)
    (case tc_NoRule => k_is)
    (case ec_NoRule => k_is)
    (case tc_NoText => k_is)
    (case ec_NoText => k_is)
    (case tc_NoTable => k_is)
    (case ec_NoTable => k_is)
    (case tc_Unlike => k_is)
    (case ec_Unlike => k_is)
    (case tc_TooMany => k_is)
    (case ec_TooMany => k_is)
    (case tc_NoOrder => k_is)
    (case ec_NoOrder => k_is)
    (case kc_NoRows => k_is)
    (case ec_NoRows => k_is)
    (case tc_NoRows => k_is)
    (case xc_NoRows => k_exc)
    (case tc_NoShares => k_is)
    (case ec_NoShares => k_is)
    (case tc_NoVotes => k_is)
    (case ec_NoVotes => k_is)
    (case kc_Slate => k_is)
    (case pg_Slate => k_is)
    (case hd_Slate => k_is)
    (case po_Slate => k_is)
    (case sa_Slate => k_is)
    (case mk_Slate => k_is)
    (case na_Slate_wide => k_is)
    (case na_Slate_signs => k_is)
    (case na_Slate_rows => k_is)
    (case na_Slate_base => k_is)
    (case na_Slate_share => k_is)
    (case ic_NoGroup => k_is)
    (case sc_NoGroup => k_is)
    (case ic_NoNumber => k_is)
    (case sc_NoNumber => k_is)
    (case ic_NoOrder => k_is)
    (case sc_NoOrder => k_is)
    (case ic_NoRows => k_is)
    (case sc_NoRows => k_is)
    (case ic_NoRule => k_is)
    (case sc_NoRule => k_is)
    (case ic_NoShares => k_is)
    (case sc_NoShares => k_is)
    (case ic_NoTable => k_is)
    (case sc_NoTable => k_is)
    (case ic_NoText => k_is)
    (case sc_NoText => k_is)
    (case ic_NoVotes => k_is)
    (case sc_NoVotes => k_is)
    (case ic_ShareError => k_is)
    (case sc_ShareError => k_is)
    (case ic_TooMany => k_is)
    (case sc_TooMany => k_is)
    (case ic_Unlike => k_is)
    (case sc_Unlike => k_is)
    (case xg_NoNumber => k_is)
    (case xk_NoNumber => k_is)
    (case xh_NoNumber => k_is)
    (case xa_NoNumber => k_is)
    (case xm_NoNumber => k_is)
    (case xn => k_is)
    (case xt => k_is)
    (case us_NoNumber_NoGroup => k_is)
    (case us_NoNumber_NoNumber => k_is)
    (case us_NoNumber_NoOrder => k_is)
    (case us_NoNumber_NoRows => k_is)
    (case us_NoNumber_NoRule => k_is)
    (case us_NoNumber_NoShares => k_is)
    (case us_NoNumber_NoTable => k_is)
    (case us_NoNumber_NoText => k_is)
    (case us_NoNumber_NoVotes => k_is)
    (case us_NoNumber_ShareError => k_is)
    (case us_NoNumber_TooMany => k_is)
    (case us_NoNumber_Unlike => k_is)
    (case uv_NoNumber => k_is)
    (case hh_NoNumber_ShareError => k_is)
    (case xg_NoRows => k_is)
    (case xk_NoRows => k_is)
    (case xh_NoRows => k_is)
    (case xa_NoRows => k_is)
    (case xm_NoRows => k_is)
    (case us_NoRows_NoGroup => k_is)
    (case us_NoRows_NoNumber => k_is)
    (case us_NoRows_NoOrder => k_is)
    (case us_NoRows_NoRows => k_is)
    (case us_NoRows_NoRule => k_is)
    (case us_NoRows_NoShares => k_is)
    (case us_NoRows_NoTable => k_is)
    (case us_NoRows_NoText => k_is)
    (case us_NoRows_NoVotes => k_is)
    (case us_NoRows_ShareError => k_is)
    (case us_NoRows_TooMany => k_is)
    (case us_NoRows_Unlike => k_is)
    (case uv_NoRows => k_is)
    (case hh_NoRows_ShareError => k_is)
    (case z_ValueError => k_is)
    (case z_abs => k_is)
    (case z_int => k_is)
    (case z_isinstance => k_is)
    (case z_len => k_is)
    (case z_list => k_is)
    (case z_max => k_is)
    (case z_range => k_is)
    (case z_sum => k_is)
    (case z_tuple => k_is)
    (case z_zip => k_is)
