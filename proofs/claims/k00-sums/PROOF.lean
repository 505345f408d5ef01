import PyProof.Rows.All
import Wide.All
import OpenK.AllK
import Wide.FinOn
import HandS.ForMost
import HandS.ForExc
import HandS.Wide
import HandS.IsInst
import HandS.More
import HandS.Evl
import HandS.ExcCtx
import HandS.HotCalls
import HandS.ExcInit
import HandS.ExcInitHot
import HandS.ExcIs
import HandS.ExcField
import KE.KExcIs
import HandS.Replace
import HandS.ReplaceLit
import HandS.ReplaceList
import HandS.Text
import HandS.Style
import KE.IntText
import PyProof.Rows.Digits
import PyProof.Rows.CountFlat
import HandS.TupAny
import HandS.CallSlots
import HandS.Defaults
import KE.IntTextLaws
import HandS.Hot
import PySem.Challenge.RW_standframes_k00_sums_in_lowest_terms
set_option Elab.async false
set_option linter.all false
set_option maxRecDepth 100000
set_option maxHeartbeats 8000000
namespace My
open PySem PySem.Spec PyProof.Rows L2
/-! ### heaps: all but the store -/
structure Sx (s : Addr) (H H' : Hp) : Prop where
  kp : ∀ b o, b ≠ s → H b = some o → H' b = some o
  ce : ∀ L xs, H s = some (.lst (.ref L :: xs)) → ∃ ys, H' s = some (.lst (.ref L :: ys))
theorem Sx.refl (s : Addr) (H : Hp) : Sx s H H := ⟨fun _ _ _ h => h, fun _ xs h => ⟨xs, h⟩⟩
theorem Sx.trans {s : Addr} {H H1 H2 : Hp} (a : Sx s H H1) (b : Sx s H1 H2) : Sx s H H2 := ⟨fun c o n h => b.kp c o n (a.kp c o n h), fun L xs h => by
  obtain ⟨ys, e⟩ := a.ce L xs h
  exact b.ce L ys e⟩
theorem Sx.of {s : Addr} {H H' : Hp} (a : Same H H') : Sx s H H' := ⟨fun c o _ h => a c o h, fun _ xs h => ⟨xs, a _ _ h⟩⟩
theorem Sx.new {s p : Addr} {H : Hp} {o : HO} (h : H p = none) : Sx s H (upd H p o) := Sx.of fun b u e => by
  rw [upd_ne (ne_of_none e h)]
  exact e
/-- a thing that was not there at first is changed -/
theorem Sx.mut {s p : Addr} {H H' : Hp} {o : HO} (x : Sx s H H') (h : H p = none) : Sx s H (upd H' p o) := ⟨fun b u n e => by
  rw [upd_ne (ne_of_none e h)]
  exact x.kp b u n e, fun L xs e => by
  rw [upd_ne (ne_of_none e h)]
  exact x.ce L xs e⟩
theorem Sx.self {s : Addr} {H H' : Hp} {xs : List V} {j : Nat} {v : V} (x : Sx s H H') (hs : H' s = some (.lst xs)) (j0 : j ≠ 0) : Sx s H (upd H' s (.lst (xs.set j v))) := ⟨fun b u n e => by
  rw [upd_ne n]
  exact x.kp b u n e, fun L zs e => by
  obtain ⟨ys, e2⟩ := x.ce L zs e
  rw [hs] at e2
  cases e2
  cases j with
  | zero => exact absurd rfl j0
  | succ j => exact ⟨ys.set j v, by rw [upd_same]; rfl⟩⟩
theorem Sx.sq {K : PySem.W.Frag} {s a : Addr} {H H' : Hp} {xs : List V} (x : Sx s H H') (n : a ≠ s) (h : SqL K H a xs) : SqL K H' a xs := by
  rcases h with (h | ⟨o, h⟩) | h
  · exact .inl (.inl (x.kp _ _ n h))
  · exact .inl (.inr ⟨o, x.kp _ _ n h⟩)
  · exact .inr h
theorem same_new {H : Hp} {p : Addr} {o : HO} (h : H p = none) : Same H (upd H p o) := fun b x e => by
  rw [upd_ne (ne_of_none e h)]
  exact e
/-! ### readings by name -/
def rIsN : R2 := fun x y H Q => y = .non ∧ Q (.bl (decide (x = .non))) H
def rNotN : R2 := fun x y H Q => y = .non ∧ Q (.bl (!decide (x = .non))) H
def rAddS : R2 := fun x y H Q => ∃ i j, x = .str i ∧ y = .str j ∧ i.length + j.length ≤ sizeLine ∧ Q (.str (i ++ j)) H
def rInt1 : List V → Hp → VK → Prop := fun xs H Q => (∃ i, xs = [.int i] ∧ Q (.int i) H) ∨ ∃ k, xs = [.bl k] ∧ Q (.int (if k then 1 else 0)) H
def rMaxQ : List V → Hp → VK → Prop := fun xs H Q => ∃ i j, xs = [.int i, .int j] ∧ Q (.int (if j > i then j else i)) H
def rMinQ : List V → Hp → VK → Prop := fun xs H Q => ∃ i j, xs = [.int i, .int j] ∧ Q (.int (if j < i then j else i)) H
def rAbsQ : List V → Hp → VK → Prop := fun xs H Q => ∃ i, xs = [.int i] ∧ Q (.int (if i < 0 then -i else i)) H
def rLenQ (K : PySem.W.Frag) : List V → Hp → VK → Prop := fun xs H Q => ∃ p ys, xs = [.ref p] ∧ (SqL K H p ys ∨ SqT K H p ys) ∧ Q (.int ys.length) H
def rLenSQ : List V → Hp → VK → Prop := fun xs H Q => ∃ z, xs = [.str z] ∧ z.length ≤ sizeLine ∧ Q (.int z.length) H
def rListQ (K : PySem.W.Frag) : List V → Hp → VK → Prop := fun xs H Q => ∃ p ys, xs = [.ref p] ∧ (SqL K H p ys ∨ SqT K H p ys) ∧ ∀ l, H l = none → Q (.ref l) (upd H l (.lst ys))
def rIsBQ : R2 := fun x y H Q => ∃ b, y = .bl b ∧ Q (.bl (decide (x = .bl b))) H
section
variable {X : Cx}
theorem o_isN : OpR X (compareOp .Is) rIsN := op_isN
theorem o_notN : OpR X (compareOp .IsNot) rNotN := op_notN
theorem o_isB : OpR X (compareOp .Is) rIsBQ := by
  intro pins s σ H x y v u Q I rx ry h
  obtain ⟨b, rfl, q⟩ := h
  cases (show u = Value.bool b from ry)
  by_cases e : x = .bl b
  · subst e
    cases (show v = Value.bool b from rx)
    exact wpAny_is_self rfl ⟨.bl true, H, I, rfl, by simpa using q⟩
  · have ne : v ≠ Value.bool b := by
      intro z
      subst z
      cases x with
      | bl a =>
        have z : Value.bool b = Value.bool a := rx
        cases z
        exact e rfl
      | non => cases (show Value.bool b = Value.none from rx)
      | ref a => cases (show Value.bool b = Value.ref a from rx)
      | ty n => cases (show Value.bool b = Value.type n from rx)
      | int i => obtain ⟨t, z⟩ := rx; cases z
      | str i => obtain ⟨t, z⟩ := rx; cases z
      | byt i => obtain ⟨t, z⟩ := rx; cases z
      | flt i => obtain ⟨t, z⟩ := rx; cases z
    refine wpAny_is_other ?_ ne ⟨.bl false, H, I, rfl, by simpa [e] using q⟩
    cases x <;> first
      | (cases rx; rfl)
      | (obtain ⟨t, rfl⟩ := rx; rfl)
theorem o_addS : OpR X (binaryOp .Add) rAddS := op_add_str
theorem c_int1 : CallR X (.type "int") rInt1 := call_int1
theorem c_max2 (hc : X.calm = true) : CallR X (.builtin "max") rMaxQ := call_max2 hc
theorem c_min2 (hc : X.calm = true) : CallR X (.builtin "min") rMinQ := call_min2 hc
theorem c_abs : CallR X (.builtin "abs") rAbsQ := call_abs
theorem c_len : CallR X (.builtin "len") (rLenQ X.K) := call_len_seq
theorem c_lenS : CallR X (.builtin "len") rLenSQ := call_len_str
theorem c_list : CallR X (.type "list") (rListQ X.K) := call_list_of
end
/-! ### steps of readings -/
section
variable {σ : L2.St} {H : Hp} {Q : VK} {D : Ends} {te ta tb : TE} {t u : TS}
theorem g_seq (h : t { D with nx := u D } σ H) : tSeq t u D σ H := h
theorem g_asg {g : TG} (h : te σ H fun x H1 => g x σ H1 D.nx) : tAsg te g D σ H := h
theorem g_name {i : Nat} {v : V} {R : L2.St → Hp → Prop} (h : R (σ.set i (some v)) H) : gName i v σ H R := h
theorem g_sub {to ti : TE} {ts : TSet} {v : V} {R : L2.St → Hp → Prop} (h : to σ H fun o H1 => ti σ H1 fun i H2 => ts o i v H2 fun H3 => R σ H3) : gSub to ti ts v σ H R := h
theorem g_ret (h : te σ H D.rt) : tRet te D σ H := h
theorem g_drop (h : te σ H fun _ H1 => D.nx σ H1) : tDrop te D σ H := h
theorem g_if {c : TT} (h : c σ H fun b H1 => if b = true then t D σ H1 else u D σ H1) : tIfS c t u D σ H := h
theorem g_next (h : D.nx σ H) : tNext D σ H := h
theorem g_var {i : Nat} {v : V} (e : σ[i]? = some (some v)) (h : Q v H) : tVar i σ H Q := ⟨v, e, h⟩
theorem g_c {v : V} (h : Q v H) : tC v σ H Q := h
theorem g_op {r : R2} (h : ta σ H fun x H1 => tb σ H1 fun y H2 => r x y H2 Q) : tOp r ta tb σ H Q := h
theorem g_un {r : V → Hp → VK → Prop} (h : ta σ H fun x H1 => r x H1 Q) : tUn r ta σ H Q := h
theorem g_I0 {g : Int → Int → V} {i j : Int} (h : Q (g i j) H) : rI0 g (.int i) (.int j) H Q := ⟨i, j, rfl, rfl, h⟩
theorem g_I {C : Int → Int → Prop} {g : Int → Int → V} {i j : Int} (c : C i j) (h : Q (g i j) H) : rI C g (.int i) (.int j) H Q := ⟨i, j, rfl, rfl, c, h⟩
theorem g_pow9 (h : Q (.int 1000000000) H) : rI CPow (fun i j => V.int (i ^ j.toNat)) (.int 10) (.int 9) H Q := ⟨10, 9, rfl, rfl, by unfold CPow; decide, h⟩
theorem g_pow18 (h : Q (.int 1000000000000000000) H) : rI CPow (fun i j => V.int (i ^ j.toNat)) (.int 10) (.int 18) H Q := ⟨10, 18, rfl, rfl, by unfold CPow; decide, h⟩
theorem g_U {g : Int → V} {i : Int} (h : Q (g i) H) : rU g (.int i) H Q := ⟨i, rfl, h⟩
theorem g_eq {x y : V} (s : scal x y = true) (h : Q (.bl (decide (x = y))) H) : rEq x y H Q := ⟨s, h⟩
theorem g_ne {x y : V} (s : scal x y = true) (h : Q (.bl (!decide (x = y))) H) : rNe x y H Q := ⟨s, h⟩
theorem g_test {R : Bool → Hp → Prop} (h : te σ H fun x H' => ∃ k, x = .bl k ∧ R k H') : tTest te σ H R := h
theorem g_tB {R : Bool → Hp → Prop} (h : te σ H fun x H' => ∃ k, x = .bl k ∧ R k H') : tB te σ H R := h
theorem g_bl {k : Bool} {R : Bool → Prop} (h : R k) : ∃ k', V.bl k = .bl k' ∧ R k' := ⟨k, rfl, h⟩
theorem g_cut {Mid : L2.St → Hp → Prop} (h : t { D with nx := Mid } σ H) (h2 : ∀ σ' H', Mid σ' H' → u D σ' H') : Evl.tCut t u D σ H := ⟨Mid, h, h2⟩
theorem g_isN {x : V} (h : Q (.bl (decide (x = .non))) H) : rIsN x .non H Q := ⟨rfl, h⟩
theorem g_notN {x : V} (h : Q (.bl (!decide (x = .non))) H) : rNotN x .non H Q := ⟨rfl, h⟩
theorem g_addS {x y : Str} (hl : x.length + y.length ≤ sizeLine) (h : Q (.str (x ++ y)) H) : rAddS (.str x) (.str y) H Q := ⟨x, y, rfl, rfl, hl, h⟩
theorem g_int1 {i : Int} (h : Q (.int i) H) : rInt1 [.int i] H Q := .inl ⟨i, rfl, h⟩
theorem g_intb {k : Bool} (h : Q (.int (if k = true then 1 else 0)) H) : rInt1 [.bl k] H Q := .inr ⟨k, rfl, h⟩
theorem g_max2 {i j : Int} (h : Q (.int (if j > i then j else i)) H) : rMaxQ [.int i, .int j] H Q := ⟨i, j, rfl, h⟩
theorem g_min2 {i j : Int} (h : Q (.int (if j < i then j else i)) H) : rMinQ [.int i, .int j] H Q := ⟨i, j, rfl, h⟩
theorem g_abs {i : Int} (h : Q (.int (if i < 0 then -i else i)) H) : rAbsQ [.int i] H Q := ⟨i, rfl, h⟩
theorem g_lenL {K : PySem.W.Frag} {p : Addr} {xs : List V} (hs : SqL K H p xs) (h : Q (.int xs.length) H) : rLenQ K [.ref p] H Q := ⟨p, xs, rfl, .inl hs, h⟩
theorem g_lenT {K : PySem.W.Frag} {p : Addr} {xs : List V} (hs : SqT K H p xs) (h : Q (.int xs.length) H) : rLenQ K [.ref p] H Q := ⟨p, xs, rfl, .inr hs, h⟩
theorem g_lenS {z : Str} (hl : z.length ≤ sizeLine) (h : Q (.int z.length) H) : rLenSQ [.str z] H Q := ⟨z, rfl, hl, h⟩
theorem g_ixT {K : PySem.W.Frag} {p : Addr} {xs : List V} {i : Int} {v : V} (hs : SqT K H p xs) (ha : atI xs i = some v) (h : Q v H) : rIxT K (.ref p) (.int i) H Q := ⟨p, xs, i, v, rfl, rfl, hs, ha, h⟩
theorem g_ixS {z : Str} {i : Int} {c : Nat} (hl : z.length ≤ sizeLine) (ha : atI z.cps.toList i = some c) (h : Q (.str ⟨#[c]⟩) H) : rIxS (.str z) (.int i) H Q := ⟨z, i, c, rfl, rfl, hl, ha, h⟩
theorem g_tup {tt : TA} (h : tt σ H fun xs H1 => xs.length ≤ sizeLine ∧ ∀ p, H1 p = none → Q (.ref p) (upd H1 p (.tup xs))) : tTup tt σ H Q := h
theorem g_lst {tt : TA} (h : tt σ H fun xs H1 => xs.length ≤ sizeLine ∧ ∀ p, H1 p = none → Q (.ref p) (upd H1 p (.lst xs))) : tLst tt σ H Q := h
theorem g_andV (h : ta σ H fun x H1 => ∃ c, x = .bl c ∧ if c = true then tb σ H1 Q else Q (.bl false) H1) : tAndV ta tb σ H Q := h
theorem g_orV (h : ta σ H fun x H1 => ∃ c, x = .bl c ∧ if c = true then Q (.bl true) H1 else tb σ H1 Q) : tOrV ta tb σ H Q := h
theorem g_notV (h : ta σ H fun x H1 => ∃ c, x = .bl c ∧ Q (.bl (!c)) H1) : tNotV ta σ H Q := h
/-- a cell of the store is set: H0 the heap at the entry -/
theorem g_st {K : PySem.W.Frag} {H0 : Hp} {s L : Addr} {xs cs : List V} {k : Int} {v : V} {j : Nat} {R : Hp → Prop} (hs : H s = some (.lst xs)) (hL : SqL K H L cs) (ne : L ≠ s) (x0 : Sx s H0 H) (hj : ixN xs.length k = some j) (j0 : j ≠ 0)
    (h : ∀ H1, H1 s = some (.lst (xs.set j v)) → SqL K H1 L cs → Sx s H0 H1 → R H1) : rSetL (.ref s) (.int k) v H R :=
  ⟨s, xs, k, j, rfl, rfl, hs, hj, h _ upd_same (Sx.sq ((Sx.refl s H).self hs j0) ne hL) (x0.self hs j0)⟩
theorem g_and {c d : TT} {R : Bool → Hp → Prop} (h : c σ H fun b H1 => if b = true then d σ H1 R else R false H1) : tAnd c d σ H R := h
theorem g_or {c d : TT} {R : Bool → Hp → Prop} (h : c σ H fun b H1 => if b = true then R true H1 else d σ H1 R) : tOr c d σ H R := h
theorem g_not {c : TT} {R : Bool → Hp → Prop} (h : c σ H fun b H1 => R (!b) H1) : tNot c σ H R := h
theorem g_nil {R : List V → Hp → Prop} (h : R [] H) : tNil σ H R := h
theorem g_cons {tr : TA} {R : List V → Hp → Prop} (h : ta σ H fun x H1 => tr σ H1 fun xs H2 => R (x :: xs) H2) : tCons ta tr σ H R := h
theorem g_callB {r : List V → Hp → VK → Prop} {tt : TA} (h : tt σ H fun vs H1 => r vs H1 Q) : tCB r tt σ H Q := h
theorem g_call {sp : Sp} {dvs : List V} {E : XK} {tt : TA} (h : tt σ H fun vs H1 => sp (vs ++ dvs) H1 Q E) : tCall sp dvs E tt σ H Q := h
theorem g_ixL {K : PySem.W.Frag} {p : Addr} {xs : List V} {i : Int} {v : V} (hs : SqL K H p xs) (ha : atI xs i = some v) (h : Q v H) : rIxL K (.ref p) (.int i) H Q := ⟨p, xs, i, v, rfl, rfl, hs, ha, h⟩
theorem g_setL {p : Addr} {xs : List V} {k : Int} {v : V} {j : Nat} {R : Hp → Prop} (hs : H p = some (.lst xs)) (hj : ixN xs.length k = some j) (h : R (upd H p (.lst (xs.set j v)))) : rSetL (.ref p) (.int k) v H R := ⟨p, xs, k, j, rfl, rfl, hs, hj, h⟩
theorem g_ite {b : Bool} {A B : Prop} (h1 : b = true → A) (h2 : b = false → B) : if b = true then A else B := by
  cases b with
  | true => exact h1 rfl
  | false => exact h2 rfl
theorem g_iteT {b : Bool} {A B : Prop} (e : b = true) (h : A) : if b = true then A else B := by
  subst e
  exact h
theorem g_iteF {b : Bool} {A B : Prop} (e : b = false) (h : B) : if b = true then A else B := by
  subst e
  exact iteF h
theorem g_isB {x : V} {b : Bool} (h : Q (.bl (decide (x = .bl b))) H) : rIsBQ x (.bl b) H Q := ⟨b, rfl, h⟩
theorem g_or3 {K : PySem.W.Frag} {p : Addr} {xs : List V} {i : Int} {v : V} (hs : SqL K H p xs ∨ SqT K H p xs) (ha : atI xs i = some v) (h : Q v H) : rIx K (.ref p) (.int i) H Q := by
  rcases hs with hs | hs
  · exact .inl ⟨p, xs, i, v, rfl, rfl, hs, ha, h⟩
  · exact .inr (.inl ⟨p, xs, i, v, rfl, rfl, hs, ha, h⟩)
theorem g_for {wi : TI} {g : TG} {tb : TS} (h : wi σ H fun J H1 => ∃ W : Nat → Nat → L2.St → Hp → Prop, (∃ m, W 0 m σ H1) ∧ ∀ i m σ H, W i m σ H →
    (J.stop i H ∧ D.nx σ H) ∨ (J.go i H ∧ ∃ N : L2.St → Hp → Prop, (∀ σ' H', N σ' H' → ∃ m', m' < m ∧ W (i + 1) m' σ' H') ∧ ∀ x H', J.yld i H x H' → g x σ H' fun σ2 H2 => tb { D with nx := N, ct := N, bk := D.nx } σ2 H2)) : tFor wi g tb D σ H := h
theorem g_rng1 {ta : TA} {R : It → Hp → Prop} (h : ta σ H fun vs H1 => ∃ j : Int, vs = [.int j] ∧ -(2 ^ 62) ≤ j ∧ j < 2 ^ 62 ∧ R (Itr 0 j.toNat) H1) : iRng1 ta σ H R := h
theorem g_rng2 {ta : TA} {R : It → Hp → Prop} (h : ta σ H fun vs H1 => ∃ i j : Int, vs = [.int i, .int j] ∧ (-(2 ^ 62) ≤ i ∧ i < 2 ^ 62 ∧ -(2 ^ 62) ≤ j ∧ j < 2 ^ 62) ∧ R (Itr i (j - i).toNat) H1) : iRng2 ta σ H R := h
theorem g_iList {K : PySem.W.Frag} {tl : TE} {R : It → Hp → Prop} (h : tl σ H fun x H1 => ∃ a, x = .ref a ∧ (∃ xs, SqL K H1 a xs) ∧ R (Itl K a) H1) : iList K tl σ H R := h
theorem g_break (h : D.bk σ H) : tBreak D σ H := h
theorem g_cont (h : D.ct σ H) : tCont D σ H := h
theorem g_retN (h : D.rt .non H) : tRetN D σ H := h
end
theorem dec_int {i j : Int} : decide (V.int i = V.int j) = decide (i = j) := by
  by_cases h : i = j
  · rw [h, decide_eq_true rfl, decide_eq_true rfl]
  · rw [decide_eq_false h, decide_eq_false fun e => h (V.int.inj e)]
theorem bt_len : bootBuiltins "len" = some (.builtin "len") := by decide +kernel
theorem bt_max : bootBuiltins "max" = some (.builtin "max") := by decide +kernel
theorem bt_min : bootBuiltins "min" = some (.builtin "min") := by decide +kernel
theorem bt_abs : bootBuiltins "abs" = some (.builtin "abs") := by decide +kernel
theorem bt_isinstance : bootBuiltins "isinstance" = some (.builtin "isinstance") := by decide +kernel
theorem bt_int : bootBuiltins "int" = some (.type "int") := by decide +kernel
theorem bt_str : bootBuiltins "str" = some (.type "str") := by decide +kernel
theorem bt_bool : bootBuiltins "bool" = some (.type "bool") := by decide +kernel
theorem bt_list : bootBuiltins "list" = some (.type "list") := by decide +kernel
theorem bt_tuple : bootBuiltins "tuple" = some (.type "tuple") := by decide +kernel
theorem bt_dict : bootBuiltins "dict" = some (.type "dict") := by decide +kernel
theorem atI_map {α : Type} (g : α → V) (xs : List α) (i : Int) (d : α) (h0 : 0 ≤ i) (h1 : i < xs.length) : atI (xs.map g) i = some (g (xs.getD i.toNat d)) := by
  obtain ⟨j, rfl⟩ : ∃ j : Nat, i = j := ⟨i.toNat, by omega⟩
  have hj : j < xs.length := by omega
  unfold atI ixN
  rw [if_pos h0, if_pos (by rw [List.length_map]; exact h1)]
  simp [hj]
theorem dint_t {i j : Int} (h : decide (V.int i = V.int j) = true) : i = j := V.int.inj (of_decide_eq_true h)
theorem dint_f {i j : Int} (h : decide (V.int i = V.int j) = false) : i ≠ j := fun e => of_decide_eq_false h (by rw [e])
/-- a def of the top -/
structure Df (K : PySem.W.Frag) (mg : Str → Option Value) (x : Str) (st : Stmt) (ps : List Str) where
  f : Addr
  fd : FuncData
  F : Fun K x x st f fd
  b : Binds K fd ps []
  g : mg x = some (.ref f)
/-! ### the store -/
def StL (L : Addr) (p a b c d : Int) : List V := [.ref L, .int p, .int a, .int b, .int c, .int d]
structure StOk (K : PySem.W.Frag) (H : Hp) (s : Addr) (L : Addr) (ns : List Int) (p a b c d : Int) : Prop where
  at_ : H s = some (.lst (StL L p a b c d))
  ne : L ≠ s
  cells : SqL K H L (ns.map V.int)
  p0 : 0 ≤ p
  a0 : 0 ≤ a
  b0 : 0 ≤ b
  c0 : 0 ≤ c
  c1 : c < 2305843009213693951
  len : ns.length ≤ 63
def Store (K : PySem.W.Frag) (H : Hp) (s : Addr) : Prop := ∃ L ns p a b c d, StOk K H s L ns p a b c d
theorem Store.there {K : PySem.W.Frag} {H : Hp} {s : Addr} (h : Store K H s) : ∃ xs, H s = some (.lst xs) := by
  obtain ⟨L, ns, p, a, b, c, d, h⟩ := h
  exact ⟨_, h.at_⟩
theorem Store.free {K : PySem.W.Frag} {s l : Addr} {H H' : Hp} (st : Store K H' s) (x : Sx s H H') (h : H' l = none) : H l = none := by
  cases e : H l with
  | none => rfl
  | some o =>
    obtain ⟨xs, hs⟩ := st.there
    have n : l ≠ s := fun z => by
      rw [z, hs] at h
      cases h
    rw [x.kp l o n e] at h
    cases h
theorem Store.ne {K : PySem.W.Frag} {s l : Addr} {H : Hp} (st : Store K H s) (h : H l = none) : l ≠ s := fun z => by
  obtain ⟨xs, hs⟩ := st.there
  rw [z, hs] at h
  cases h
theorem Store.same {K : PySem.W.Frag} {s : Addr} {H H' : Hp} (st : Store K H s) (x : Same H H') : Store K H' s := by
  obtain ⟨L, ns, p, a, b, c, d, h⟩ := st
  exact ⟨L, ns, p, a, b, c, d, ⟨x _ _ h.at_, h.ne, Sx.sq (Sx.of x) h.ne h.cells, h.p0, h.a0, h.b0, h.c0, h.c1, h.len⟩⟩
/-- what was not there at first is changed: the store stays a store -/
theorem Store.mut {K : PySem.W.Frag} {s l : Addr} {H H' : Hp} {o : HO} (st0 : Store K H s) (x : Sx s H H') (st : Store K H' s) (h : H l = none) : Store K (upd H' l o) s := by
  obtain ⟨L0, ns0, p0, a0, b0, c0, d0, h0⟩ := st0
  obtain ⟨L, ns, p, a, b, c, d, h1⟩ := st
  obtain ⟨ys, e⟩ := x.ce L0 _ h0.at_
  have e2 : L = L0 := by
    have e3 := h1.at_
    rw [e] at e3
    cases e3
    rfl
  subst e2
  have nl : s ≠ l := fun z => by
    have q := h0.at_
    rw [z, h] at q
    cases q
  have q := h0.cells
  by_cases hk : L = l
  · subst hk
    rcases q with (q | ⟨o2, q⟩) | q
    · rw [h] at q
      cases q
    · rw [h] at q
      cases q
    · exact ⟨L, ns0, p, a, b, c, d, ⟨by rw [upd_ne nl]; exact h1.at_, h1.ne, .inr q, h1.p0, h1.a0, h1.b0, h1.c0, h1.c1, h0.len⟩⟩
  · refine ⟨L, ns, p, a, b, c, d, ⟨by rw [upd_ne nl]; exact h1.at_, h1.ne, ?_, h1.p0, h1.a0, h1.b0, h1.c0, h1.c1, h1.len⟩⟩
    rcases h1.cells with (r | ⟨o2, r⟩) | r
    · exact .inl (.inl (by rw [upd_ne hk]; exact r))
    · exact .inl (.inr ⟨o2, by rw [upd_ne hk]; exact r⟩)
    · exact .inr r
/-- the widest draw -/
def BIG : Int := 2 ^ 5000
theorem big_div {i m : Int} (h0 : 0 < m) (h : m < BIG) : CDivW i m := wide_div (b := 5000) h0 (by unfold BIG at h; omega) (by decide) (by decide)
/-- a draw: below many, and nothing else has changed -/
def spTake (K : PySem.W.Frag) (B : Int) : Sp := fun vs H Q _ => ∃ (s : Addr) (many : Int), vs = [.ref s, .int many] ∧ Store K H s ∧ many ≤ B ∧ many < BIG ∧
  ∀ (r : Int) (H' : Hp), 0 ≤ r → (r = 0 ∨ r < many) → Sx s H H' → Store K H' s → Q (.int r) H'
def topS (i : Nat) : Stmt := PySem.Challenge.pw_standframes_k00_sums_in_lowest_terms.main.body.getD i (.Pass ⟨0, 0, 0, 0⟩)
end My
namespace My
open PySem PySem.Spec PyProof.Rows L2
/-! ### raising: an own class whose __init__ is a def; the context of what is raised is None -/
section
variable {X : Cx}
theorem pmkN {CXc : CXT} {nm : Str} {C fI : Addr} {lv : Nat} {fdI : FuncData} {psI : List Str} {spI : Sp} {ds : List Value} {dvs : List V} {e : Expr} {es : List Expr} {ta : TA} {p pos : Pos} (T : OexC X.K C)
    (iC : PySem.W.findIn X.K (.ref C) "__init__" = some (some (.ref fI))) (tI : PySem.W.typeIn X.K (.ref fI) = some (.type "function"))
    (FI : FnOk X.prog X.w X.K X.mg X.base CXc lv fI fdI psI spI) (room : Room (lv + 1) X.A) (bnd : Binds X.K fdI psI ds) (dfl : Vals dvs ds) (px : Passes CXc X (fun _ _ _ => False)) (gl : Gl X nm) (gm : X.mg nm = some (.ref C)) (args : PA X (e :: es) ta)
    (nd : (nm == ("__debug__" : Str)) = false := by decide) (st1 : starEach (e :: es) X.env = (false, eval e X.env) :: starEach es X.env := by rfl) (st2 : (backTo pos (starEach es X.env)).any (·.1) = false := by rfl) :
    L2N.PMk X (.Call (.Name nm p) (e :: es) [] pos) (tMkO C spI dvs ta) := by
  intro pins s σ H Q I rd
  have T' := T.cls
  obtain ⟨n0, n1, n2, n3, n4, n5, n6, n7, n8, n9, j0, j1, j2, j3, j5, lkC, rfs⟩ := T'
  refine wpAny_Call_Name_kw (ld_glob I gl gm ?_ nd)
  refine PySem.W.callWith_K (h₀ := X.base) I.ok.mod.kin T.kC (thn (args.run pos pins s σ H _ I rd) fun us s1 hh => ?_) st1 st2
  obtain ⟨vs, H1, I1, rel, sz, rd1⟩ := hh
  refine ⟨I1.kIn, ?_⟩
  show wpAny _ _ (call (.ref C) us) _ _ _
  obtain ⟨hp, gn, dr, tk, os⟩ := s1
  generalize en : hp.objs.size + 1 = nx at *
  have le : hp.objs.size ≤ nx := by omega
  have fresh : H1 nx = none := I1.hok.fresh le
  have rd2 := rd1 nx fresh
  have keep : ∀ b o, hp.get? b = some o → ((hp.push (PySem.W.kdv_tup us)).push (PySem.HandSPX.excO C hp.objs.size)).get? b = some o :=
    fun b o z => Heap.get?_push_of_some _ (Heap.get?_push_of_some _ z)
  have there : ((hp.push (PySem.W.kdv_tup us)).push (PySem.HandSPX.excO C hp.objs.size)).get? nx = some (PySem.HandSPX.excO C hp.objs.size) := by
    rw [← en]
    heap_get
  have I2 := I1.laid (t' := tk) (a := nx) (o := exo nx C none) (h' := (hp.push (PySem.W.kdv_tup us)).push (PySem.HandSPX.excO C hp.objs.size)) keep le (exo_ok there)
  have rel2 : Vals (V.ref nx :: (vs ++ dvs)) (Value.ref nx :: (us ++ ds)) := .cons rfl (rel.append dfl)
  have hlen : (Value.ref nx :: us ++ ds).length = psI.length := by
    have q := rel2.length
    rw [FI.len _ _ _ _ rd2] at q
    exact q.symm
  have few : us.length ≤ sizeLine := by
    have q := Paired.length rel
    rw [← q, sizeLine_eq]
    omega
  refine wpAny_call ?_
  refine PySem.HandSPX.call_own F.excBase_ValueError (fun Y => PySem.HandSPX.refsVE_contains Y n4 rfs) (I1.kIn _ _ lkC) (PySem.W.looks_findIn I1.kIn iC) (fun self => PySem.W.bind_fn I1.kIn self tI) few ?_
  rw [en]
  refine codeAny_mono (FI.run _ X.stack _ _ ⟨Value.ref nx :: us, []⟩ (Value.ref nx :: (us ++ ds)) _ _ (fun _ _ _ => False) (room.make C us []) (I2.env0.make C us []) (bnd _ (Value.ref nx :: us) I2.kIn hlen) rel2 rd2) fun r s' back => ?_
  cases r with
  | error er => exact px pins σ _ _ er s' I2 back
  | ok fl =>
    cases fl with
    | next => exact back.elim
    | brk => exact back.elim
    | cont => exact back.elim
    | ret u =>
      obtain ⟨v, H2, os2, bare2, un2, hok2, rv, ev, d, fs, ea, ed, hd1, q2⟩ := back
      subst ev
      obtain ⟨h2, g2, d2, t2, os'⟩ := s'
      obtain ⟨t0, G, J, kG, ge, hoe, na⟩ := mk_end0 (d2 := d2) (t2 := t2) I1 le keep un2 hok2 os2 bare2 ea ed hd1
      exact ⟨rv, nx, _, _, ⟨G, g2, d2, t2, os'⟩, _, .ref C, some d, rfl, J, kG, ge, hoe, ⟨rfl, rfl, fun ws hw => by cases hw; rfl⟩, rfl, rfl, na, rfl, bare2, raises_own T.exC T.tyC, q2⟩
/-! ### what may be asked of an exception that is pinned -/
/-- the class facts of its class at C -/
structure XC (K : PySem.W.Frag) (C : Addr) : Prop where
  e : ExcC K C
  cl : (PySem.W.clsIn K C).isSome = true
/-- e.n -/
def tXg (K : PySem.W.Frag) (a : Addr) (cls : Value) (d : Option Addr) (n : Str) (te : TE) : TE := fun σ H Q => te σ H fun x H1 => x = .ref a ∧ ∃ (C dd : Addr) (fs : List (Str × V)) (v : V),
  cls = .ref C ∧ XC K C ∧ PySem.W.findIn K (.ref C) n = some none ∧ d = some dd ∧ H1 dd = some (.xd fs) ∧ fs.lookup n = some v ∧ Q v H1
theorem pe_xg {a : Addr} {oe : Obj} {cls : Value} {d : Option Addr} {e : Expr} {te : TE} {pos : Pos} {n : Str} (hp : (a, oe) ∈ X.pn) (hz : oe.cls = cls ∧ oe.dict = d) (hf : ∃ vs, oe.data = .fields vs) (he : PE X e te)
    (hb : attributeBase e n X.env (eval e X.env) = eval e X.env := by rfl) : PE X (.Attribute e n pos) (tXg X.K a cls d n te) := by
  refine ⟨fun pins s σ H Q I rd => attr_of hb (thn (he.run pins s σ H _ I rd) fun u s1 hh => ?_)⟩
  obtain ⟨x, H1, I1, rx, ex, C, dd, fs, v, ec, T, no, ed, ea, l, q⟩ := hh
  subst ex ec ed
  cases (show u = Value.ref a from rx)
  have there := (I1.pin (a, oe) (List.mem_append_left _ hp)).1
  obtain ⟨ws, hd⟩ := hf
  obtain ⟨mA, hns, rel⟩ := (show ObjOk X.prog X.w H1 s1.heap dd (.xd fs) from I1.hok dd _ ea)
  obtain ⟨od, ho, hl⟩ := lookIn_ns hns
  obtain ⟨u', hu, ru⟩ := RelO.some_of (v := v) (o := mA n) (by rw [← l]; exact rel n)
  have J : PySem.W.InstAt s1.heap a oe C (some od) := ⟨there, hz.1, by unfold PySem.W.notCls; rw [hd] <;> rfl, by rw [hz.2]; exact ho⟩
  exact HandSPX.exc_get I1.kIn J T.e.hg T.e.hk T.e.hs (PySem.W.findObj_own T.e.hd no rfl (by rw [hl, hu])) (handed_of ru) ⟨v, H1, I1.tok _, ru, q⟩
/-- isinstance(e, c) of it -/
def rIsP (K : PySem.W.Frag) (a : Addr) (cls : Value) (d : Option Addr) : List V → Hp → VK → Prop := fun xs H Q => ∃ (C dd : Addr) (fs : List (Str × V)) (c : V) (cv : Value) (b : Bool),
  xs = [.ref a, c] ∧ cls = .ref C ∧ XC K C ∧ d = some dd ∧ H dd = some (.xd fs) ∧ ClsV c cv ∧ PySem.W.kitOne K (.ref C) cv = some b ∧ Q (.bl b) H
theorem c_isP {a : Addr} {oe : Obj} {cls : Value} {d : Option Addr} (hp : (a, oe) ∈ X.pn) (hz : oe.cls = cls ∧ oe.dict = d) (hf : ∃ vs, oe.data = .fields vs) : CallR X (.builtin "isinstance") (rIsP X.K a cls d) := by
  intro pins s σ H xs us Q I r rd
  obtain ⟨C, dd, fs, c, cv, b, ex, ec, T, ed, ea, kc, kb, q⟩ := rd
  subst ex ec ed
  obtain ⟨u1, u2, rfl, r1, r2⟩ := vals2 r
  cases (show u1 = Value.ref a from r1)
  have e2 := kc.eq r2
  subst e2
  have there := (I.pin (a, oe) (List.mem_append_left _ hp)).1
  obtain ⟨ws, hd⟩ := hf
  obtain ⟨mA, hns, rel⟩ := (show ObjOk X.prog X.w H s.heap dd (.xd fs) from I.hok dd _ ea)
  obtain ⟨od, ho, hl⟩ := lookIn_ns hns
  have J : PySem.W.InstAt s.heap a oe C (some od) := ⟨there, hz.1, by unfold PySem.W.notCls; rw [hd] <;> rfl, by rw [hz.2]; exact ho⟩
  exact PySem.W.kia_one (PySem.W.kitx_exc T.cl T.e.hg T.e.hk T.e.hs T.e.ha T.e.hn T.e.ht T.e.hm) I.kIn J kb (fun z => nomatch z) fun tk => ⟨.bl b, H, I.kept (t' := tk) fun _ _ z => z, rfl, q⟩
end
/-! ### a def that is called with the exception that is handled -/
open L2H in
/-- as L2H.FnH, the promise told of the pinned exception -/
structure FnE (P : Program) (w : World) (K : PySem.W.Frag) (mg : Str → Option Value) (base : Heap) (lv : Nat) (f : Addr) (fd : FuncData) (ps : List Str) (sp : Addr × Obj → Sp) : Prop where
  few : ∀ q vs H Q E, sp q vs H Q E → vs.length = ps.length
  go : ∀ (q : Addr × Obj) (A : Around) (outer : List Env) (s : Shared) (H : Hp) (args : Args) (us : List Value) (vs : List V) (Q : VK) (E : XK),
    RoomH lv A → Hot1 A q → PinOk outer H s q → Env0 P w K mg base A outer s H → BindsTo s fd args (ps.zip us) → Vals vs us → sp q vs H Q E → codeAny (model P w) A (.call (.ref f) args) (CR CX0 outer P w H s Q E) s
section
variable {P : Program} {w : World} {K : PySem.W.Frag} {mg : Str → Option Value} {base : Heap}
open L2H in
theorem Df.okE {x : Str} {st : Stmt} {N ps : List Str} {lv : Nat} {sp : Addr × Obj → Sp} (D : Df K mg x st ps) (S : FnScope N ps (defScope st)) (len : ∀ q vs H Q E, sp q vs H Q E → vs.length = ps.length)
    (body : ∀ (q : Addr × Obj) (cdv : Value) (A : Around) (outer : List Env) (s : Shared) (H : Hp) (vs : List V) (Q : VK) (E : XK), Hot1 A q → RoomH lv (A.deeper (envOfC x (defScope st) s.heap.objs.size D.f cdv)) → sp q vs H Q E →
      ∃ t, PSs (cxH CX0 P w K mg base N x (defScope st) D.f cdv A outer s H E q).nox (defBody st) t ∧ t { nx := fun _ H' => Q .non H', rt := Q } (L2.start N vs) H) :
    FnE P w K mg base (lv + 1) D.f D.fd ps sp := by
  obtain ⟨f, fd, F, bnd, gl⟩ := D
  obtain ⟨oc, od, kV, doc, pm, an, cdv, ct, osl, e, lk, hcd⟩ := F.ex
  have e : fd = _ := e
  subst e
  refine ⟨len, fun q A outer s H args us vs Q E room hot pin e0 hb rel rd => ?_⟩
  have hl := len _ _ _ _ _ rd
  have keep : ∀ b o, base.get? b = some o → s.heap.get? b = some o := fun b o z => (e0.bs b o z).1
  have KX : K.In s.heap := e0.mod.kin.keeps keep
  have lim : s.heap.NoLimit := e0.mod.nolimit.keeps keep
  have kinds : ∀ y ∈ ps.zip us, (defScope st).names.lookup y.1 = some .local ∨ ((defScope st).names.lookup y.1 = some .cell ∧ ((cellsFrom (s.heap.objs.size + 1) (defScope st).names []).lookup y.1).isSome = true) := by
    rintro ⟨n, v⟩ hy
    rcases S.par n (List.of_mem_zip hy).1 with z | z
    · exact .inl z
    · exact .inr ⟨z, PySem.W.cellsFrom_some _ _ _ (.inl z)⟩
  refine codeAny_call_function room.depth (KX _ _ lk) rfl S.co S.gen rfl (PySem.W.codeRec_of KX hcd) (hb _ _ _ _ ?_)
  refine wpAny_newFunctionEnv_cells S.kind kinds fun env he s1 y => ?_
  subst he
  refine ⟨lim.keeps y.toInCall.keep, codeAny_func ?_⟩
  obtain ⟨t, ht, hq⟩ := body q cdv A outer s H vs Q E hot (room.deeper _) rd
  have I := inv_startH (CX := CX0) (E := E) S pin e0 hl rel y
  refine wpAny_mono (ht.nox.run [] s1 (L2.start N vs) H _ I hq) (fun fl s' hs => ?_) fun _ _ z => z
  cases fl with
  | brk => exact (hs.choose_spec.choose_spec.2).elim
  | cont => exact (hs.choose_spec.choose_spec.2).elim
  | ret u =>
    obtain ⟨v, _, H', J, rv, z⟩ := hs
    exact ⟨v, H', J.os, J.bare, J.base, J.hok, rv, z⟩
  | next =>
    obtain ⟨_, H', J, z⟩ := hs
    exact ⟨V.non, H', J.os, J.bare, J.base, J.hok, rfl, z⟩
end
section
variable {X : Cx}
open L2H in
theorem pe_callE {lv : Nat} {f a : Addr} {oe : Obj} {fd : FuncData} {ps : List Str} {sp : Addr × Obj → Sp} {nm : Str} {p pos : Pos} {e : Expr} {es : List Expr} {t : TA} (F : FnE X.prog X.w X.K X.mg X.base lv f fd ps sp) (room : RoomH lv X.A) (hot : Hot1 X.A (a, oe)) (hp : (a, oe) ∈ X.pn)
    (gl : Gl X nm) (gm : X.mg nm = some (.ref f)) (kp : PySem.W.keepIn X.K (.ref f) = true) (bnd : Binds X.K fd ps []) (args : PA X (e :: es) t) (nd : (nm == ("__debug__" : Str)) = false := by decide)
    (st1 : starEach (e :: es) X.env = (false, eval e X.env) :: starEach es X.env := by rfl) (st2 : (backTo pos (starEach es X.env)).any (·.1) = false := by rfl) : PE X (.Call (.Name nm p) (e :: es) [] pos) (tCallS (sp (a, oe)) (fun _ => E0) t) := by
  refine ⟨fun pins s σ H Q I rd => wpAny_Call_Name_kw (ld_glob I gl gm ?_ nd)⟩
  refine PySem.W.callWith_K (h₀ := X.base) I.ok.mod.kin kp (thn (args.run pos pins s σ H _ I rd) fun us s1 hh => ?_) st1 st2
  obtain ⟨vs, H1, I1, rel, q⟩ := hh
  refine ⟨I1.kIn, ?_⟩
  have hl : us.length = ps.length := by
    rw [← rel.length]
    exact F.few _ _ _ _ _ q
  have b := bnd s1 us I1.kIn (by rw [List.append_nil]; exact hl)
  rw [List.append_nil] at b
  have P1 := I1.pin (a, oe) (List.mem_append_left _ hp)
  have pin : PinOk X.stack H1 s1 (a, oe) := ⟨P1.1, P1.2.1, fun hm => (List.mem_cons.mp (I1.stkSub a hm)).elim P1.2.2.1 P1.2.2.2.1, P1.2.2.2.2⟩
  refine wpAny_call (codeAny_mono (F.go (a, oe) X.A X.stack s1 H1 ⟨us, []⟩ us vs Q _ room hot pin I1.env0 b rel q) fun r s' back => ?_)
  cases r with
  | error z => exact back.elim
  | ok fl =>
    cases fl with
    | ret u => exact I1.after back
    | next => exact back.elim
    | brk => exact back.elim
    | cont => exact back.elim
end
/-! ### defs that raise -/
section
variable {P : Program} {w : World} {K : PySem.W.Frag} {mg : Str → Option Value} {base : Heap}
theorem Df.okN {x : Str} {st : Stmt} {N ps : List Str} {lv : Nat} {sp : Sp} (D : Df K mg x st ps) (S : FnScope N ps (defScope st)) (len : ∀ vs H Q E, sp vs H Q E → vs.length = ps.length)
    (body : ∀ (cdv : Value) (A : Around) (outer : List Env) (s : Shared) (H : Hp) (vs : List V) (Q : VK) (E : XK), Room lv (A.deeper (envOfC x (defScope st) s.heap.objs.size D.f cdv)) → sp vs H Q E →
      ∃ t, PSs (cxOf (L2N.CX P w) P w K mg base N x (defScope st) D.f cdv A outer s H E) (defBody st) t ∧ t { nx := fun _ H' => Q .non H', rt := Q } (L2.start N vs) H) :
    FnOk P w K mg base (L2N.CX P w) (lv + 1) D.f D.fd ps sp := by
  obtain ⟨f, fd, F, bnd, gl⟩ := D
  obtain ⟨oc, od, kV, doc, pm, an, cdv, ct, osl, e, lk, hcd⟩ := F.ex
  have e : fd = _ := e
  subst e
  exact fn_of lk hcd S len fun A outer s H vs Q E room rd => body cdv A outer s H vs Q E room rd
/-- around a body nothing is let out -/
theorem takesN0 {X : Cx} : L2N.Takes X (fun _ _ _ _ => False) := fun _ _ z => by
  obtain ⟨_, _, _, _, _, _, _, _, _, _, _, _, _, _, _, _, z⟩ := z
  exact z.elim
end
end My
namespace My
open PySem PySem.Spec PyProof.Rows L2
/-! ### the digits' limit -/
theorem none_of_k {K : PySem.W.Frag} {h : Heap} {a : Addr} {m : Str → Option Value} {n : Str} (X : K.In h) (G : h.Ns a m) (e : PySem.W.nsIn K a n = some none) : m n = none := by
  obtain ⟨o, es, ep, ho, hd, _, hf⟩ := G
  unfold PySem.W.nsIn at e
  split at e
  · rename_i c d es' n' sl lk
    have two := ho.symm.trans (X _ _ lk)
    cases two
    cases hd
    split at e
    · cases e
    · rename_i none_
      rw [← hf]
      unfold nsFind findBy
      rw [← Array.find?_toList, none_]
      rfl
  · cases e
def NoDig (K : PySem.W.Frag) : Prop := PySem.W.nsIn K cStatics "sys.int_max_str_digits" = some none
theorem noDigits {X : Cx} {pins : List (Addr × Obj)} {σ : L2.St} {H : Hp} {s : Shared} (nd : NoDig X.K) (I : Inv X pins σ H s) : s.heap.NoDigits := by
  obtain ⟨mc, a, b⟩ := I.nolimit
  exact ⟨mc, a, none_of_k I.kIn a nd⟩
/-! ### int of a longer text -/
theorem wp_long {M : Model} {A : Around} {E : Value → Shared → Prop} {s : Shared} {Q : Value → Shared → Prop} {v : Value} {text : List Nat} {n : Int} (nd : s.heap.NoDigits)
    (hs : ¬ (text.takeWhile (· != 0)).length ≤ 640) (hr : (int_private% "readNumeral") 4300 10 (text.takeWhile (· != 0)) = (int_private% "Numeral.value") n)
    (ha : ((text.takeWhile (· != 0)).length == text.length) = true) (h : Q (.int n s.toks) { s with toks := s.toks + 1 }) :
    wpAny M A ((int_private% "intFromText") v text 10) Q E s := by
  obtain ⟨mc, hns, hno⟩ := nd
  obtain ⟨hp, g, d, tk, os⟩ := s
  repeat (any_goals (first
    | assumption
    | (with_reducible refine wpAny_ite_false (decide_eq_false hs) ?_)
    | (with_reducible refine wpAny_ite_true (decide_eq_true ha) ?_)
    | (with_reducible refine wpAny_nsGet hns ?_; rw [hno])
    | wp_step))
  all_goals (rw [hr]; dsimp only)
  repeat (any_goals (first
    | assumption
    | (with_reducible refine wpAny_ite_true (decide_eq_true ha) ?_)
    | wp_step))
structure Hold (p : Prop) : Prop where
  out : p
theorem meets_long {x : PySem.Str} {u : Tok} {n : Int} (hz : x.length ≤ sizeLine) (hl : ¬ (PySem.numSeenOf x).length ≤ 640) (hn : PySem.intText? x = some n) :
    Meets (Builtin.«int.__new__» ⟨[.type "int", .str x u], []⟩) (fun _ R s => s.heap.NoDigits ∧ R (.ok (.ret (.int n s.toks))) { s with toks := s.toks + 1 }) :=
  .of_wp fun prog w A R s h => by
    obtain ⟨nd, h⟩ := h
    have f1 := PySem.F.conv_sub_int
    have f2 := PySem.F.madeHere_int
    have f3 := PySem.W.KIN.str_int
    have f4 := PySem.W.KIN.str_idx
    have f5 := PySem.W.KIN.str_trunc
    have f6 : typeOf (.str x u) = pure (.type "str") := rfl
    have two : (int_private% "readNumeral") 4300 10 (PySem.numSeenOf x) = (int_private% "Numeral.value") n ∧ ((PySem.numSeenOf x).length == (PySem.numTextOf x).length) = true := by
      rcases PySem.read4300 x hz with ⟨m, h1, h2, h3⟩ | ⟨h1, _⟩
      · rw [hn] at h1
        cases h1
        exact ⟨h3, h2⟩
      · rw [hn] at h1
        cases h1
    have hk := Hold.mk (And.intro nd (And.intro hl two))
    obtain ⟨hp, g, d, tk, os⟩ := s
    clear nd hl two hn
    repeat (any_goals (first
      | assumption
      | ((with_reducible show wpAny _ _ ((int_private% "intFromText") _ _ _) _ _ _); refine wp_long hk.out.1 hk.out.2.1 hk.out.2.2.1 hk.out.2.2.2 ?_)
      | wp_step))
    all_goals first | exact ⟨_, rfl, h⟩ | skip
/-- int of a text of at most 4300 digits -/
def rIntS (K : PySem.W.Frag) : List V → Hp → VK → Prop := fun xs H Q => ∃ a n, xs = [.str a] ∧ PySem.intText? a = some n ∧ a.length ≤ sizeLine ∧ (PySem.numSeenOf a).length = a.length ∧ NoDig K ∧ Q (.int n) H
theorem c_intS {X : Cx} : CallR X (.type "int") (rIntS X.K) := by
  intro pins s σ H xs us Q I rs h
  obtain ⟨a, n, rfl, hn, hl, hsn, nd, h⟩ := h
  cases rs with
  | cons r1 rs =>
    cases rs
    obtain ⟨t, rfl⟩ := r1
    have fin : ∀ t', EP X pins σ Q (.int n t') { s with toks := s.toks + 1 } := fun t' => ⟨.int n, H, I.tok _, ⟨_, rfl⟩, h⟩
    by_cases h6 : a.length ≤ 640
    · exact PySem.W.KIN.call_text hn h6 (fin _)
    · exact call_int_1 (meets_long hl (by rw [hsn]; exact h6) hn) ⟨noDigits nd I, rfl, fin _⟩
/-! ### text * int -/
def rMulS : R2 := fun x y H Q => ∃ z n, x = .str z ∧ y = .int n ∧ 0 ≤ n ∧ n ≤ 100000 ∧ z.length ≤ 100 ∧ Q (.str (PySem.Txt.mul z n)) H
theorem o_mulS {X : Cx} : OpR X (binaryOp .Mult) rMulS := by
  intro pins s σ H x y v u Q I rx ry h
  obtain ⟨z, n, rfl, rfl, h0, h1, h2, h⟩ := h
  obtain ⟨t, rfl⟩ := (show ∃ t, v = Value.str z t from rx)
  obtain ⟨t', rfl⟩ := (show ∃ t, u = Value.int n t from ry)
  refine PySem.SB.mul ⟨by simp; omega, fun a _ => ?_, fun a _ => ?_⟩ fun t2 k => ⟨.str (PySem.Txt.mul z n), H, I.tok _, ⟨t2, rfl⟩, h⟩
  · have hq : (100000 : Int) ≤ (2 ^ 63 - 1) / n := (Int.le_ediv_iff_mul_le (by omega)).mpr (by omega)
    omega
  · have e : z.length * n.toNat ≤ 100 * 100000 := Nat.mul_le_mul h2 (by omega)
    unfold Builtin.Str.tooLong
    refine decide_eq_false ?_
    rw [sizeLine_eq]
    omega
/-! ### how often a truth value stands in a list of such -/
def rCntB (K : PySem.W.Frag) : V → List V → Hp → VK → Prop := fun x xs H Q => ∃ (a : Addr) (bs : List Bool) (k : Bool), x = .ref a ∧ xs = [.bl k] ∧ SqL K H a (bs.map V.bl) ∧ Q (.int (countIn (.bool k) (bs.map PyData.bool))) H
theorem reads_bools {h : Heap} : ∀ {bs : List Bool} {vs : List Value}, Vals (bs.map V.bl) vs → ReadsAll h vs (bs.map PyData.bool) []
  | [], _, r => by cases r; exact .nil
  | b :: bs, _, r => by
    cases r with
    | cons r1 r2 =>
      cases r1
      exact .cons (as := []) (by constructor) (reads_bools r2)
theorem all_bools (bs : List Bool) : (bs.map PyData.bool).all Shape.bool.has = true := by
  rw [List.all_map, List.all_eq_true]
  intro x _
  rfl
theorem mt_cntB {X : Cx} : MtR X "list.count" (rCntB X.K) := by
  intro pins s σ H x xs v us Q I rx rs h
  obtain ⟨a, bs, k, rfl, rfl, hq, h⟩ := h
  cases (show v = Value.ref a from rx)
  cases rs with
  | cons r1 r2 =>
    cases r2
    cases r1
    obtain ⟨its, rv, pl, hz⟩ := I.list hq
    exact count_list_bools pl.isList (reads_bools (h := s.heap) rv) (all_bools bs) ⟨.int _, H, I.tok _, ⟨_, rfl⟩, h⟩
/-! ### replace: a token must be out -/
def PE1 (X : Cx) (e : Expr) (t : TE) : Prop := ∀ (pins : List (Addr × Obj)) (s : Shared) (σ : L2.St) (H : Hp) (Q : VK), Inv X pins σ H s → t σ H Q →
  wpAny (model X.prog X.w) X.A (eval e X.env) (fun u s' => 1 ≤ s'.toks ∧ EP X pins σ Q u s') X.xe s
def PA1 (X : Cx) (es : List Expr) (t : TA) : Prop := ∀ (pos : Pos) (pins : List (Addr × Obj)) (s : Shared) (σ : L2.St) (H : Hp) (Q : List V → Hp → Prop), Inv X pins σ H s → t σ H Q →
  wpAny (model X.prog X.w) X.A (spliced (backTo pos (starEach es X.env))) (fun us s' => 1 ≤ s'.toks ∧ AP X pins σ Q us s') X.xe s
section
variable {X : Cx}
theorem PE1.pe {e : Expr} {t : TE} (h : PE1 X e t) : PE X e t := ⟨fun pins s σ H Q I q => thn (h pins s σ H Q I q) fun _ _ z => z.2⟩
theorem drop_toks {α : Type} {M : Model} {A : Around} {t : Sem α} {Q : α → Shared → Prop} {E : Value → Shared → Prop} {s : Shared} {n : Nat} (hn : n ≤ s.toks) (h : wpAny M A t Q E s) :
    wpAny M A t (fun a s' => n ≤ s'.toks ∧ Q a s') E s := wpAny_mono (wpAny_toks_of hn h) (fun _ _ z => z) fun _ _ z => z.2
theorem pe1_intL {op : Operator} {r : R2} {b : Expr} {tb : TE} {i : Int} {j : Nat} {cp pos : Pos} (ho : OpR X (binaryOp op) r) (hb : PE X b tb) : PE1 X (.BinOp (.Constant (.int i) j cp) op b pos) (tOp r (tC (.int i)) tb) := by
  intro pins s σ H Q I h
  refine wpAny_BinOp (wpAny_Constant_int ?_)
  refine thn (drop_toks (n := 1) (by show 1 ≤ s.toks + 1; omega) (hb.run pins _ σ H _ (I.tok _) h)) fun u s1 hh => ?_
  obtain ⟨h1, y, H1, I1, ry, q⟩ := hh
  exact drop_toks h1 (ho pins s1 σ H1 (.int i) y _ u Q I1 ⟨_, rfl⟩ ry q)
theorem pa1_head {e : Expr} {es : List Expr} {te : TE} {t : TA} (ha : PE1 X e te) (hr : PA X es t) (hs : starEach (e :: es) X.env = (false, eval e X.env) :: starEach es X.env := by rfl) : PA1 X (e :: es) (tCons te t) := by
  intro pos pins s σ H Q I h
  rw [hs]
  refine Calls.spliced_cons (thn (ha pins s σ H _ I h) fun u s1 hh => ?_)
  obtain ⟨h1, x, H1, I1, r1, q1⟩ := hh
  exact thn (drop_toks h1 (hr.run pos pins s1 σ H1 _ I1 q1)) fun us s2 ⟨h2, xs, H2, I2, r2, q2⟩ => ⟨h2, x :: xs, H2, I2, .cons r1 r2, q2⟩
theorem pa1_tail {e : Expr} {es : List Expr} {te : TE} {t : TA} (ha : PE X e te) (hr : PA1 X es t) (hs : starEach (e :: es) X.env = (false, eval e X.env) :: starEach es X.env := by rfl) : PA1 X (e :: es) (tCons te t) := by
  intro pos pins s σ H Q I h
  rw [hs]
  refine Calls.spliced_cons (thn (ha.run pins s σ H _ I h) fun u s1 hh => ?_)
  obtain ⟨x, H1, I1, r1, q1⟩ := hh
  exact thn (hr pos pins s1 σ H1 _ I1 q1) fun us s2 ⟨h2, xs, H2, I2, r2, q2⟩ => ⟨h2, x :: xs, H2, I2, .cons r1 r2, q2⟩
theorem pe1_call {CX : CXT} {lv : Nat} {f : Addr} {fd : FuncData} {ps : List Str} {sp : Sp} {E : XK} {nm : Str} {p pos : Pos} {e : Expr} {es : List Expr} {t : TA} (F : FnOk X.prog X.w X.K X.mg X.base CX lv f fd ps sp) (hr : Room lv X.A) (hg : Gl X nm) (hm : X.mg nm = some (.ref f)) (hk : PySem.W.keepIn X.K (.ref f) = true)
    (hb : Binds X.K fd ps []) (hx : Passes CX X E) (ha : PA1 X (e :: es) t) (nd : (nm == ("__debug__" : Str)) = false := by decide) (st1 : starEach (e :: es) X.env = (false, eval e X.env) :: starEach es X.env := by rfl)
    (st2 : (backTo pos (starEach es X.env)).any (·.1) = false := by rfl) : PE1 X (.Call (.Name nm p) (e :: es) [] pos) (tCall sp [] E t) := by
  intro pins s σ H Q I h
  refine wpAny_Call_Name_kw (ld_glob I hg hm ?_ nd)
  refine PySem.W.callWith_K (h₀ := X.base) I.ok.mod.kin hk (thn (ha pos pins s σ H _ I h) fun us s1 hh => ?_) st1 st2
  obtain ⟨h1, vs, H1, I1, r, q⟩ := hh
  exact ⟨I1.kIn, drop_toks h1 (run_fn F hr hb .nil hx I1 r q)⟩
def tRepl (y z : Str) (to : TE) : TE := fun σ H Q => to σ H fun v H1 => ∃ x, v = .str x ∧ x.length + (x.length + 1) * z.length ≤ 16777216 ∧ Q (.str (PySem.Txt.replace x y z)) H1
theorem pe1_repl {o : Expr} {to : TE} {y z : Str} {j k : Nat} {c0 c1 apos pos : Pos} (ho : PE1 X o to) (hyz : (y == z) = false := by decide)
    (hst : starEach [.Constant (.str y) j c0, .Constant (.str z) k c1] X.env = [(false, eval (.Constant (.str y) j c0) X.env), (false, eval (.Constant (.str z) k c1) X.env)] := by rfl)
    (hbase : attributeBase o "replace" X.env (eval o X.env) = eval o X.env := by rfl) (hline : (apos.endLine == pos.line) = true := by rfl) :
    PE1 X (.Call (.Attribute o "replace" apos) [.Constant (.str y) j c0, .Constant (.str z) k c1] [] pos) (tRepl y z to) := by
  intro pins s σ H Q I h
  refine PySem.Call_method2 hbase hst hline (thn (ho pins s σ H _ I h) fun v s1 q => ?_)
  obtain ⟨h1, v', H1, I1, r1, x, rfl, hb, q⟩ := q
  obtain ⟨tx, rfl⟩ := (show ∃ t, v = Value.str x t from r1)
  refine ⟨"str", _, PySem.F.plainAttrs_str, PySem.F.slot_str_replace, PySem.F.type_str_replace, typeIs_str _ _ _, (fun _ e => nomatch e), Calls.callWith_builtin rfl (Calls.evalArgs_plain (Calls.spliced_cons ?_))⟩
  refine Calls.Constant_str (Calls.spliced_cons (Calls.Constant_str (Calls.spliced_nil ?_)))
  refine drop_toks (n := 1) (by show 1 ≤ s1.toks + 1 + 1; omega) ?_
  refine PySem.SC.replace ?_ ?_ ?_ hyz hb fun t' k => ⟨.str (PySem.Txt.replace x y z), H1, I1.tok k, ⟨t', rfl⟩, q⟩
  · show s1.toks ≠ 0
    omega
  · show s1.toks + 1 ≠ 0
    omega
  · show s1.toks ≠ s1.toks + 1
    omega
end
end My
namespace My
open PySem PySem.Spec PyProof.Rows L2
/-! ### data: what stands at a value, without addresses -/
inductive D where
  | non | bl (b : Bool) | int (i : Int) | str (x : Str) | tup (l : List D) | lst (l : List D) | dct (ks vs : List D) | ins (C : Addr) (fs : List Str) (vs : List D) | scr (ns : List Int) | sto | exc (a : Addr)
def kD : Key → D
  | .inl i => .int i
  | .inr x => .str x
def tD (l : List Key) : D := .tup (l.map kD)
/-- a dict at a with the keys ks, the values us -/
def DicV (H : Hp) (a : Addr) (ks : List D) (us : List V) : Prop :=
  (∃ kvs : List (Key × V), H a = some (.dK kvs) ∧ ks = kvs.map (fun p => kD p.1) ∧ us = kvs.map (·.2)) ∨
  (∃ kvs : List (List Key × V), H a = some (.dT kvs) ∧ ks = kvs.map (fun p => tD p.1) ∧ us = kvs.map (·.2))
/-- one heap within another -/
abbrev Sub (H H' : Hp) : Prop := ∀ b o, H b = some o → H' b = some o
mutual
/-- at v stands the data d -/
def Da (K : PySem.W.Frag) (so : Option Addr) (H : Hp) : D → V → Prop
  | .non, v => v = .non
  | .bl b, v => v = .bl b
  | .int i, v => v = .int i
  | .str x, v => v = .str x
  | .tup l, v => ∃ a xs, v = .ref a ∧ SqT K H a xs ∧ DaL K so H l xs
  | .lst l, v => ∃ a xs, v = .ref a ∧ H a = some (.lst xs) ∧ DaL K so H l xs
  | .dct ks vs, v => ∃ a us, v = .ref a ∧ DicV H a ks us ∧ DaL K so H vs us
  | .ins C fs vs, v => ∃ a dx us, v = .ref a ∧ H a = some (.ins C dx (fs.zip us)) ∧ H dx = some (.own a) ∧ us.length = fs.length ∧ DaL K so H vs us
  | .scr ns, v => ∃ a, v = .ref a ∧ SqL K H a (ns.map V.int)
  | .sto, v => ∃ a, v = .ref a ∧ so = some a
  | .exc a, v => v = .ref a
def DaL (K : PySem.W.Frag) (so : Option Addr) (H : Hp) : List D → List V → Prop
  | [], xs => xs = []
  | d :: l, xs => ∃ x r, xs = x :: r ∧ Da K so H d x ∧ DaL K so H l r
end
theorem Sub.sqT {K : PySem.W.Frag} {H H' : Hp} {a : Addr} {xs : List V} (x : Sub H H') (h : SqT K H a xs) : SqT K H' a xs := by
  rcases h with (h | ⟨o, h⟩) | h
  · exact .inl (.inl (x _ _ h))
  · exact .inl (.inr ⟨o, x _ _ h⟩)
  · exact .inr h
theorem Sub.sqL {K : PySem.W.Frag} {H H' : Hp} {a : Addr} {xs : List V} (x : Sub H H') (h : SqL K H a xs) : SqL K H' a xs := by
  rcases h with (h | ⟨o, h⟩) | h
  · exact .inl (.inl (x _ _ h))
  · exact .inl (.inr ⟨o, x _ _ h⟩)
  · exact .inr h
theorem Sub.dic {H H' : Hp} {a : Addr} {ks : List D} {us : List V} (x : Sub H H') (h : DicV H a ks us) : DicV H' a ks us := by
  rcases h with ⟨kvs, h, e⟩ | ⟨kvs, h, e⟩
  · exact .inl ⟨kvs, x _ _ h, e⟩
  · exact .inr ⟨kvs, x _ _ h, e⟩
mutual
theorem Da.mono {K : PySem.W.Frag} {so : Option Addr} {H H' : Hp} (x : Sub H H') : ∀ (d : D) (v : V), Da K so H d v → Da K so H' d v
  | .non, _, h => h
  | .bl _, _, h => h
  | .int _, _, h => h
  | .str _, _, h => h
  | .tup l, _, ⟨a, xs, e, h, q⟩ => ⟨a, xs, e, Sub.sqT x h, DaL.mono x l xs q⟩
  | .lst l, _, ⟨a, xs, e, h, q⟩ => ⟨a, xs, e, x _ _ h, DaL.mono x l xs q⟩
  | .dct ks vs, _, ⟨a, us, e, h, q⟩ => ⟨a, us, e, Sub.dic x h, DaL.mono x vs us q⟩
  | .ins C fs vs, _, ⟨a, dx, us, e, h, h2, l, q⟩ => ⟨a, dx, us, e, x _ _ h, x _ _ h2, l, DaL.mono x vs us q⟩
  | .scr ns, _, ⟨a, e, h⟩ => ⟨a, e, Sub.sqL x h⟩
  | .sto, _, h => h
  | .exc _, _, h => h
theorem DaL.mono {K : PySem.W.Frag} {so : Option Addr} {H H' : Hp} (x : Sub H H') : ∀ (l : List D) (xs : List V), DaL K so H l xs → DaL K so H' l xs
  | [], _, h => h
  | d :: l, _, ⟨v, r, e, h, q⟩ => ⟨v, r, e, Da.mono x d v h, DaL.mono x l r q⟩
end
section
variable {K : PySem.W.Frag} {so : Option Addr} {H : Hp}
theorem DaL.len : ∀ {l : List D} {xs : List V}, DaL K so H l xs → xs.length = l.length
  | [], _, h => by
    have e : _ = _ := h
    rw [e]
    rfl
  | d :: l, _, ⟨v, r, e, h, q⟩ => by
    rw [e, List.length_cons, List.length_cons, q.len]
theorem DaL.get : ∀ {l : List D} {xs : List V} {i : Nat} {d : D}, DaL K so H l xs → l[i]? = some d → ∃ v, xs[i]? = some v ∧ Da K so H d v
  | [], _, _, _, _, e => by simp at e
  | c :: l, _, 0, d, ⟨v, r, e1, h, q⟩, e => by
    have e2 : c = d := by simpa using e
    subst e2
    exact ⟨v, by rw [e1]; rfl, h⟩
  | c :: l, _, i + 1, d, ⟨v, r, e1, h, q⟩, e => by
    obtain ⟨z, h1, h2⟩ := q.get (i := i) (d := d) (by simpa using e)
    exact ⟨z, by rw [e1]; simpa using h1, h2⟩
theorem DaL.back : ∀ {l : List D} {xs : List V} {i : Nat} {v : V}, DaL K so H l xs → xs[i]? = some v → ∃ d, l[i]? = some d ∧ Da K so H d v := fun {l xs i v} q e => by
  have hi : i < xs.length := (List.getElem?_eq_some_iff.mp e).1
  rw [q.len] at hi
  obtain ⟨w, h1, h2⟩ := q.get (List.getElem?_eq_getElem hi)
  have e2 : v = w := Option.some.inj (e.symm.trans h1)
  subst e2
  exact ⟨_, List.getElem?_eq_getElem hi, h2⟩
theorem DaL.app : ∀ {l m : List D} {xs ys : List V}, DaL K so H l xs → DaL K so H m ys → DaL K so H (l ++ m) (xs ++ ys)
  | [], _, _, _, h, q => by
    have e : _ = _ := h
    rw [e]
    exact q
  | d :: l, m, _, ys, ⟨v, r, e, h, z⟩, q => ⟨v, r ++ ys, by rw [e]; rfl, h, z.app q⟩
theorem DaL.one {d : D} {v : V} (h : Da K so H d v) : DaL K so H [d] [v] := ⟨v, [], rfl, h, rfl⟩
theorem DaL.set : ∀ {l : List D} {xs : List V} (j : Nat) {d : D} {v : V}, DaL K so H l xs → Da K so H d v → DaL K so H (l.set j d) (xs.set j v)
  | [], _, _, _, _, h, _ => by
    have e : _ = _ := h
    rw [e]
    exact rfl
  | c :: l, _, 0, d, v, ⟨w, r, e, h, q⟩, z => ⟨v, r, by rw [e]; rfl, z, q⟩
  | c :: l, _, j + 1, d, v, ⟨w, r, e, h, q⟩, z => ⟨w, r.set j v, by rw [e]; rfl, h, q.set j z⟩
theorem DaL.drop : ∀ {l : List D} {xs : List V} (n : Nat), DaL K so H l xs → DaL K so H (l.drop n) (xs.drop n)
  | _, _, 0, h => h
  | [], _, n + 1, h => by
    have e : _ = _ := h
    rw [e]
    exact rfl
  | c :: l, _, n + 1, ⟨w, r, e, h, q⟩ => by
    rw [e]
    exact q.drop n
theorem DaL.take : ∀ {l : List D} {xs : List V} (n : Nat), DaL K so H l xs → DaL K so H (l.take n) (xs.take n)
  | _, _, 0, h => by
    rw [List.take_zero, List.take_zero]
    exact rfl
  | [], _, n + 1, h => by
    have e : _ = _ := h
    rw [e]
    exact rfl
  | c :: l, _, n + 1, ⟨w, r, e, h, q⟩ => ⟨w, r.take n, by rw [e]; rfl, h, q.take n⟩
theorem DaL.atI {l : List D} {xs : List V} {i : Int} {d : D} (q : DaL K so H l xs) (e : L2.atI l i = some d) : ∃ v, L2.atI xs i = some v ∧ Da K so H d v := by
  unfold L2.atI at e ⊢
  rw [q.len]
  cases h : ixN l.length i with
  | none =>
    rw [h] at e
    cases e
  | some j =>
    rw [h] at e
    exact q.get e
end
/-! ### the two heaps: A what is frozen, H all -/
/-- the store at s: a list of the script's copy and five ints -/
def StoOk (K : PySem.W.Frag) (A H : Hp) (s : Addr) : Prop := A s = none ∧ ∃ (L : Addr) (ns : List Int) (p a b c d : Int), H s = some (.lst (StL L p a b c d)) ∧ A L = some (.lst (ns.map V.int)) ∧ 0 ≤ p ∧ 0 ≤ a ∧ 0 ≤ b ∧ 0 ≤ c ∧ c < 2305843009213693951 ∧ ns.length ≤ 63
structure Good (K : PySem.W.Frag) (so : Option Addr) (A H : Hp) : Prop where
  sub : Sub A H
  st : ∀ s, so = some s → StoOk K A H s
/-- from (A, H) to (A', H'): what was there is kept but for the store; what is frozen now was so, or is new -/
structure Ext (K : PySem.W.Frag) (so : Option Addr) (A H A' H' : Hp) : Prop where
  good : Good K so A' H'
  mono : Sub A A'
  kept : ∀ b o, so ≠ some b → H b = some o → H' b = some o
  new : ∀ b o, A' b = some o → A b = some o ∨ H b = none
section
variable {K : PySem.W.Frag} {so : Option Addr} {A H A1 H1 A2 H2 : Hp}
theorem Ext.refl (g : Good K so A H) : Ext K so A H A H := ⟨g, fun _ _ h => h, fun _ _ _ h => h, fun _ _ h => .inl h⟩
theorem Ext.trans (x : Ext K so A H A1 H1) (y : Ext K so A1 H1 A2 H2) : Ext K so A H A2 H2 := by
  refine ⟨y.good, fun b o h => y.mono b o (x.mono b o h), fun b o n h => y.kept b o n (x.kept b o n h), fun b o h => ?_⟩
  rcases y.new b o h with z | z
  · exact x.new b o z
  · cases e : H b with
    | none => exact .inr rfl
    | some u =>
      by_cases n : so = some b
      · have := (y.good.st b n).1
        rw [h] at this
        cases this
      · rw [x.kept b u n e] at z
        cases z
theorem Ext.da (x : Ext K so A H A1 H1) {d : D} {v : V} (h : Da K so A d v) : Da K so A1 d v := Da.mono x.mono d v h
theorem Ext.daL (x : Ext K so A H A1 H1) {d : List D} {v : List V} (h : DaL K so A d v) : DaL K so A1 d v := DaL.mono x.mono d v h
theorem Good.da (g : Good K so A H) {d : D} {v : V} (h : Da K so A d v) : Da K so H d v := Da.mono g.sub d v h
theorem Good.daL (g : Good K so A H) {d : List D} {v : List V} (h : DaL K so A d v) : DaL K so H d v := DaL.mono g.sub d v h
theorem Good.ne (g : Good K so A H) {p s : Addr} (h : H p = none) (e : so = some s) : p ≠ s := fun z => by
  obtain ⟨_, L, ns, p', a, b, c, d, h2, _⟩ := g.st s e
  rw [← z, h] at h2
  cases h2
/-- a new object, frozen -/
theorem Ext.laid (g : Good K so A H) {p : Addr} {o : HO} (h : H p = none) : Ext K so A H (upd A p o) (upd H p o) := by
  have ap : A p = none := by
    cases e : A p with
    | none => rfl
    | some u =>
      rw [g.sub p u e] at h
      cases h
  refine ⟨⟨fun b u e => ?_, fun s e => ?_⟩, fun b u e => ?_, fun b u n e => ?_, fun b u e => ?_⟩
  · by_cases z : b = p
    · subst z
      rw [upd_same] at e ⊢
      exact e
    · rw [upd_ne z] at e ⊢
      exact g.sub b u e
  · obtain ⟨h1, L, ns, p', a, b, c, d, h2, h3, r⟩ := g.st s e
    have n := g.ne h e
    exact ⟨by rw [upd_ne (Ne.symm n)]; exact h1, L, ns, p', a, b, c, d, by rw [upd_ne (Ne.symm n)]; exact h2, by rw [upd_ne (ne_of_none h3 ap)]; exact h3, r⟩
  · rw [upd_ne (ne_of_none e ap)]
    exact e
  · rw [upd_ne (ne_of_none e h)]
    exact e
  · by_cases z : b = p
    · subst z
      exact .inr h
    · rw [upd_ne z] at e
      exact .inl e
/-- a new object, not frozen -/
theorem Ext.open_ (g : Good K so A H) {p : Addr} {o : HO} (h : H p = none) : Ext K so A H A (upd H p o) := by
  refine ⟨⟨fun b u e => ?_, fun s e => ?_⟩, fun b u e => e, fun b u n e => ?_, fun b u e => .inl e⟩
  · rw [upd_ne (ne_of_none (g.sub b u e) h)]
    exact g.sub b u e
  · obtain ⟨h1, L, ns, p', a, b, c, d, h2, h3, r⟩ := g.st s e
    have n := g.ne h e
    exact ⟨h1, L, ns, p', a, b, c, d, by rw [upd_ne (Ne.symm n)]; exact h2, h3, r⟩
  · rw [upd_ne (ne_of_none e h)]
    exact e
theorem Ext.fresh (x : Ext K so A H A1 H1) {p : Addr} (h : H1 p = none) : H p = none := by
  cases e : H p with
  | none => rfl
  | some u =>
    by_cases n : so = some p
    · exact absurd rfl (x.good.ne h n)
    · rw [x.kept p u n e] at h
      cases h
/-- an own object is changed (it was not there at first, it is not frozen) -/
theorem Ext.mut (x : Ext K so A H A1 H1) {a : Addr} {o : HO} (h : H a = none) (h1 : A1 a = none) (hs : so ≠ some a) : Ext K so A H A1 (upd H1 a o) := by
  refine ⟨⟨fun b u e => ?_, fun s e => ?_⟩, x.mono, fun b u n e => ?_, x.new⟩
  · rw [upd_ne (ne_of_none e h1)]
    exact x.good.sub b u e
  · obtain ⟨h2, L, ns, p', a', b, c, d, h3, h4, r⟩ := x.good.st s e
    have n : s ≠ a := fun z => hs (by rw [e, z])
    exact ⟨h2, L, ns, p', a', b, c, d, by rw [upd_ne n]; exact h3, h4, r⟩
  · rw [upd_ne (ne_of_none e h)]
    exact x.kept b u n e
/-- an own object is frozen -/
theorem Ext.frz (x : Ext K so A H A1 H1) {a : Addr} {o : HO} (h : H a = none) (h1 : A1 a = none) (h2 : H1 a = some o) (hs : so ≠ some a) : Ext K so A H (upd A1 a o) H1 := by
  refine ⟨⟨fun b u e => ?_, fun s e => ?_⟩, fun b u e => ?_, x.kept, fun b u e => ?_⟩
  · by_cases z : b = a
    · subst z
      rw [upd_same] at e
      rw [← e]
      exact h2
    · rw [upd_ne z] at e
      exact x.good.sub b u e
  · obtain ⟨h3, L, ns, p', a', b, c, d, h4, h5, r⟩ := x.good.st s e
    have n : s ≠ a := fun z => hs (by rw [e, z])
    exact ⟨by rw [upd_ne n]; exact h3, L, ns, p', a', b, c, d, h4, by rw [upd_ne (ne_of_none h5 h1)]; exact h5, r⟩
  · rw [upd_ne (ne_of_none (x.mono b u e) h1)]
    exact x.mono b u e
  · by_cases z : b = a
    · subst z
      exact .inr h
    · rw [upd_ne z] at e
      exact x.new b u e
end
/-! ### slots -/
inductive Sl where
  | no | fr (d : D) | ow (l : List D) | od (ks vs : List D)
abbrev DEnv := List Sl
/-- is it owned -/
def Sl.own : Sl → Bool
  | .ow _ => true
  | .od _ _ => true
  | _ => false
def SlOk (K : PySem.W.Frag) (so : Option Addr) (Hi A H : Hp) : Sl → Option V → Prop
  | .no, _ => True
  | .fr d, o => ∃ v, o = some v ∧ Da K so A d v
  | .ow l, o => ∃ a xs, o = some (.ref a) ∧ H a = some (.lst xs) ∧ A a = none ∧ Hi a = none ∧ so ≠ some a ∧ DaL K so A l xs
  | .od ks vs, o => ∃ a us, o = some (.ref a) ∧ DicV H a ks us ∧ A a = none ∧ Hi a = none ∧ so ≠ some a ∧ DaL K so A vs us
structure EnvOk (K : PySem.W.Frag) (so : Option Addr) (Hi A H : Hp) (σ : L2.St) (ρ : DEnv) : Prop where
  len : σ.length = ρ.length
  ok : ∀ (i : Nat) (sl : Sl), ρ[i]? = some sl → ∃ o, σ[i]? = some o ∧ SlOk K so Hi A H sl o
  dj : ∀ (i j : Nat) (sl sl' : Sl) (a : Addr), i ≠ j → ρ[i]? = some sl → ρ[j]? = some sl' → sl.own = true → sl'.own = true → σ[i]? = some (some (.ref a)) → σ[j]? = some (some (.ref a)) → False
section
variable {K : PySem.W.Frag} {so : Option Addr} {Hi A H A1 H1 : Hp} {σ : L2.St} {ρ : DEnv}
theorem DicV.there {a : Addr} {ks : List D} {us : List V} (h : DicV H a ks us) : ∃ o, H a = some o := by
  rcases h with ⟨_, h, _⟩ | ⟨_, h, _⟩ <;> exact ⟨_, h⟩
theorem DicV.ext {a : Addr} {ks : List D} {us : List V} (h : DicV H a ks us) (k : ∀ o : HO, H a = some o → H1 a = some o) : DicV H1 a ks us := by
  rcases h with ⟨kvs, h, e⟩ | ⟨kvs, h, e⟩
  · exact .inl ⟨kvs, k _ h, e⟩
  · exact .inr ⟨kvs, k _ h, e⟩
theorem Ext.unfrozen (x : Ext K so A H A1 H1) {a : Addr} {o : HO} (h : A a = none) (h2 : H a = some o) : A1 a = none := by
  cases e : A1 a with
  | none => rfl
  | some u =>
    rcases x.new a u e with z | z
    · rw [h] at z
      cases z
    · rw [h2] at z
      cases z
theorem SlOk.ext (x : Ext K so A H A1 H1) : ∀ {sl : Sl} {o : Option V}, SlOk K so Hi A H sl o → SlOk K so Hi A1 H1 sl o
  | .no, _, h => h
  | .fr d, _, ⟨v, e, h⟩ => ⟨v, e, x.da h⟩
  | .ow l, _, ⟨a, xs, e, h, na, ni, ns, q⟩ => ⟨a, xs, e, x.kept a _ ns h, x.unfrozen na h, ni, ns, x.daL q⟩
  | .od ks vs, _, ⟨a, us, e, h, na, ni, ns, q⟩ => ⟨a, us, e, h.ext (fun o z => x.kept a o ns z), (let ⟨_, z⟩ := h.there; x.unfrozen na z), ni, ns, x.daL q⟩
theorem EnvOk.ext (x : Ext K so A H A1 H1) (h : EnvOk K so Hi A H σ ρ) : EnvOk K so Hi A1 H1 σ ρ :=
  ⟨h.len, fun i sl e => let ⟨o, e2, q⟩ := h.ok i sl e; ⟨o, e2, q.ext x⟩, h.dj⟩
/-- a slot is set: to a value, to what is told of it -/
theorem EnvOk.set {i : Nat} {sl : Sl} {v : V} (h : EnvOk K so Hi A H σ ρ) (q : SlOk K so Hi A H sl (some v))
    (d : sl.own = true → ∀ (j : Nat) (sl' : Sl) (a : Addr), v = .ref a → i ≠ j → ρ[j]? = some sl' → sl'.own = true → σ[j]? = some (some (.ref a)) → False) : EnvOk K so Hi A H (σ.set i (some v)) (ρ.set i sl) := by
  refine ⟨by rw [List.length_set, List.length_set]; exact h.len, fun j sl' e => ?_, fun j k sl1 sl2 a n e1 e2 o1 o2 s1 s2 => ?_⟩
  · by_cases z : i = j
    · subst z
      by_cases hi : i < ρ.length
      · rw [List.getElem?_set_self hi] at e
        cases e
        exact ⟨_, List.getElem?_set_self (by rw [h.len]; exact hi), q⟩
      · rw [List.getElem?_eq_none (by rw [List.length_set]; omega)] at e
        cases e
    · rw [List.getElem?_set_ne z] at e
      rw [List.getElem?_set_ne z]
      exact h.ok j sl' e
  · by_cases z : i = j
    · subst z
      rw [List.getElem?_set_ne n] at e2 s2
      by_cases hi : i < ρ.length
      · rw [List.getElem?_set_self hi] at e1
        rw [List.getElem?_set_self (by rw [h.len]; exact hi)] at s1
        cases e1
        cases s1
        exact d o1 k sl2 a rfl n e2 o2 s2
      · rw [List.getElem?_eq_none (by rw [List.length_set]; omega)] at e1
        cases e1
    · by_cases z2 : i = k
      · subst z2
        rw [List.getElem?_set_ne (Ne.symm n)] at e1 s1
        by_cases hi : i < ρ.length
        · rw [List.getElem?_set_self hi] at e2
          rw [List.getElem?_set_self (by rw [h.len]; exact hi)] at s2
          cases e2
          cases s2
          exact d o2 j sl1 a rfl (Ne.symm n) e1 o1 s1
        · rw [List.getElem?_eq_none (by rw [List.length_set]; omega)] at e2
          cases e2
      · rw [List.getElem?_set_ne z] at e1 s1
        rw [List.getElem?_set_ne z2] at e2 s2
        exact h.dj j k sl1 sl2 a n e1 e2 o1 o2 s1 s2
theorem EnvOk.setFr {i : Nat} {d : D} {v : V} (h : EnvOk K so Hi A H σ ρ) (q : Da K so A d v) : EnvOk K so Hi A H (σ.set i (some v)) (ρ.set i (.fr d)) :=
  h.set ⟨v, rfl, q⟩ fun z => by cases z
theorem SlOk.there {sl : Sl} {a : Addr} (h : SlOk K so Hi A H sl (some (.ref a))) (o : sl.own = true) : ∃ u, H a = some u := by
  cases sl with
  | no => cases o
  | fr d => cases o
  | ow l =>
    obtain ⟨a', xs, e, h, _⟩ := h
    cases e
    exact ⟨_, h⟩
  | od ks vs =>
    obtain ⟨a', us, e, h, _⟩ := h
    cases e
    exact h.there
/-- a new list is owned by slot i -/
theorem EnvOk.setOw {i : Nat} {p : Addr} {l : List D} {xs : List V} {Ai : Hp} (x : Ext K so Ai Hi A H) (h : EnvOk K so Hi A H σ ρ) (hp : H p = none) (q : DaL K so A l xs) :
    EnvOk K so Hi A (upd H p (.lst xs)) (σ.set i (some (.ref p))) (ρ.set i (.ow l)) := by
  have ap : A p = none := by
    cases e : A p with
    | none => rfl
    | some u =>
      rw [x.good.sub p u e] at hp
      cases hp
  refine EnvOk.set (h.ext (Ext.open_ x.good hp)) ⟨p, xs, rfl, upd_same, ap, x.fresh hp, fun z => x.good.ne hp z rfl, q⟩ fun _ j sl' a e n e2 o2 s2 => ?_
  cases e
  obtain ⟨o, e3, z⟩ := h.ok j sl' e2
  rw [s2] at e3
  cases e3
  obtain ⟨u, z⟩ := z.there o2
  rw [hp] at z
  cases z
/-- the object of an owned slot is changed -/
theorem EnvOk.mutOw {i : Nat} {a : Addr} {sl sl' : Sl} {o : HO} (h : EnvOk K so Hi A H σ ρ) (ho : sl.own = true) (e : ρ[i]? = some sl) (es : σ[i]? = some (some (.ref a))) (q : SlOk K so Hi A (upd H a o) sl' (some (.ref a))) : EnvOk K so Hi A (upd H a o) σ (ρ.set i sl') := by
  have hi : i < ρ.length := (List.getElem?_eq_some_iff.mp e).1
  have oth : ∀ (j : Nat) (sl2 : Sl), i ≠ j → ρ[j]? = some sl2 → ∃ o', σ[j]? = some o' ∧ SlOk K so Hi A (upd H a o) sl2 o' := fun j sl2 n e2 => by
    obtain ⟨o2, e3, z⟩ := h.ok j sl2 e2
    refine ⟨o2, e3, ?_⟩
    cases sl2 with
    | no => exact z
    | fr d => exact z
    | ow l =>
      obtain ⟨a2, xs, ea, ha, r⟩ := z
      have na : a2 ≠ a := fun w => h.dj i j _ _ a n e e2 ho rfl es (by rw [e3, ea, w])
      exact ⟨a2, xs, ea, by rw [upd_ne na]; exact ha, r⟩
    | od ks vs =>
      obtain ⟨a2, xs, ea, ha, r⟩ := z
      have na : a2 ≠ a := fun w => h.dj i j _ _ a n e e2 ho rfl es (by rw [e3, ea, w])
      exact ⟨a2, xs, ea, ha.ext fun o' w => by rw [upd_ne na]; exact w, r⟩
  refine ⟨by rw [List.length_set]; exact h.len, fun j sl2 e2 => ?_, fun j k sl1 sl2 b n e1 e2 o1 o2 s1 s2 => ?_⟩
  · by_cases z : i = j
    · subst z
      rw [List.getElem?_set_self hi] at e2
      cases e2
      exact ⟨_, es, q⟩
    · rw [List.getElem?_set_ne z] at e2
      exact oth j sl2 z e2
  · have look : ∀ (m : Nat) (sl3 : Sl), (ρ.set i sl')[m]? = some sl3 → sl3.own = true → ∃ sl4, ρ[m]? = some sl4 ∧ sl4.own = true := fun m sl3 em om => by
      by_cases z : i = m
      · subst z
        exact ⟨_, e, ho⟩
      · rw [List.getElem?_set_ne z] at em
        exact ⟨_, em, om⟩
    obtain ⟨t1, f1, g1⟩ := look j sl1 e1 o1
    obtain ⟨t2, f2, g2⟩ := look k sl2 e2 o2
    exact h.dj j k t1 t2 b n f1 f2 g1 g2 s1 s2
/-- less is told -/
theorem EnvOk.weak {ρ' : DEnv} (h : EnvOk K so Hi A H σ ρ) (hl : ρ'.length = ρ.length) (w : ∀ (i : Nat) (sl : Sl), ρ'[i]? = some sl → sl = .no ∨ ρ[i]? = some sl) : EnvOk K so Hi A H σ ρ' := by
  refine ⟨h.len.trans hl.symm, fun i sl e => ?_, fun i j sl sl' a n e1 e2 o1 o2 s1 s2 => ?_⟩
  · rcases w i sl e with z | z
    · subst z
      have hi : i < ρ'.length := (List.getElem?_eq_some_iff.mp e).1
      have hs : i < σ.length := by rw [h.len, ← hl]; exact hi
      exact ⟨σ[i], List.getElem?_eq_getElem hs, trivial⟩
    · exact h.ok i sl z
  · rcases w i sl e1 with z | z
    · subst z
      cases o1
    · rcases w j sl' e2 with z2 | z2
      · subst z2
        cases o2
      · exact h.dj i j sl sl' a n z z2 o1 o2 s1 s2
end
end My
namespace My
open PySem PySem.Spec PyProof.Rows L2
/-! ### readings over data -/
structure XD where
  C : Addr
  fs : List Str
  vs : List D
structure Gx where
  so : Option Addr
  Ai : Hp
  Hi : Hp
abbrev DE := DEnv → (D → Prop) → (XD → Prop) → Prop
abbrev DT := DEnv → (Bool → Prop) → (XD → Prop) → Prop
abbrev DL := DEnv → (List D → Prop) → (XD → Prop) → Prop
abbrev EXT := L2.St → XK
structure Stt (K : PySem.W.Frag) (g : Gx) (A H : Hp) (σ : L2.St) (ρ : DEnv) : Prop where
  x : Ext K g.so g.Ai g.Hi A H
  e : EnvOk K g.so g.Hi A H σ ρ
def Cont (K : PySem.W.Frag) (so : Option Addr) (A H : Hp) (Qd : D → Prop) (Q : VK) : Prop := ∀ d v A' H', Ext K so A H A' H' → Da K so A' d v → Qd d → Q v H'
def ContT (K : PySem.W.Frag) (so : Option Addr) (A H : Hp) (Qd : Bool → Prop) (Q : Bool → Hp → Prop) : Prop := ∀ b A' H', Ext K so A H A' H' → Qd b → Q b H'
def ContA (K : PySem.W.Frag) (so : Option Addr) (A H : Hp) (Qd : List D → Prop) (Q : List V → Hp → Prop) : Prop := ∀ ds vs A' H', Ext K so A H A' H' → DaL K so A' ds vs → Qd ds → Q vs H'
def ContN (K : PySem.W.Frag) (so : Option Addr) (A H : Hp) (Qd : List D → Prop) (Q : VK) : Prop := ∀ l xs p A' H', Ext K so A H A' H' → H' p = none → DaL K so A' l xs → Qd l → Q (.ref p) (upd H' p (.lst xs))
def ContX (K : PySem.W.Frag) (so : Option Addr) (A H : Hp) (Ed : XD → Prop) (E : XK) : Prop := ∀ x dx A' H' us, Ext K so A H A' H' → H dx = none → H' dx = some (.xd (x.fs.zip us)) → us.length = x.fs.length → DaL K so A' x.vs us → Ed x → E (.ref x.C) (some dx) H'
def lE (K : PySem.W.Frag) (g : Gx) (EX : EXT) (r : DE) : TE := fun σ H Q => ∃ A ρ Qd Ed, Stt K g A H σ ρ ∧ r ρ Qd Ed ∧ Cont K g.so A H Qd Q ∧ ContX K g.so A H Ed (EX σ)
def lT (K : PySem.W.Frag) (g : Gx) (EX : EXT) (r : DT) : TT := fun σ H Q => ∃ A ρ Qd Ed, Stt K g A H σ ρ ∧ r ρ Qd Ed ∧ ContT K g.so A H Qd Q ∧ ContX K g.so A H Ed (EX σ)
def lA (K : PySem.W.Frag) (g : Gx) (EX : EXT) (r : DL) : TA := fun σ H Q => ∃ A ρ Qd Ed, Stt K g A H σ ρ ∧ r ρ Qd Ed ∧ ContA K g.so A H Qd Q ∧ ContX K g.so A H Ed (EX σ)
def lN (K : PySem.W.Frag) (g : Gx) (EX : EXT) (r : DL) : TE := fun σ H Q => ∃ A ρ Qd Ed, Stt K g A H σ ρ ∧ r ρ Qd Ed ∧ ContN K g.so A H Qd Q ∧ ContX K g.so A H Ed (EX σ)
structure PD (X : Cx) (g : Gx) (EX : EXT) (e : Expr) (r : DE) : Prop where
  pe : PE X e (lE X.K g EX r)
structure PDT (X : Cx) (g : Gx) (EX : EXT) (e : Expr) (r : DT) : Prop where
  pt : PT X e (lT X.K g EX r)
structure PDW (X : Cx) (g : Gx) (EX : EXT) (e : Expr) (r : DT) : Prop where
  pw : PW X e (lT X.K g EX r)
structure PDA (X : Cx) (g : Gx) (EX : EXT) (es : List Expr) (r : DL) : Prop where
  pa : PA X es (lA X.K g EX r)
/-- an expression whose value is a new list -/
structure PDN (X : Cx) (g : Gx) (EX : EXT) (e : Expr) (r : DL) : Prop where
  pe : PE X e (lN X.K g EX r)
theorem _root_.L2.PE.imp {X : Cx} {e : Expr} {t t' : TE} (h : PE X e t) (w : ∀ σ H Q, t' σ H Q → t σ H Q) : PE X e t' := ⟨fun pins s σ H Q I q => h.run pins s σ H Q I (w σ H Q q)⟩
theorem _root_.L2.PT.imp {X : Cx} {e : Expr} {t t' : TT} (h : PT X e t) (w : ∀ σ H Q, t' σ H Q → t σ H Q) : PT X e t' := ⟨fun pins s σ H Q I q => h.run pins s σ H Q I (w σ H Q q)⟩
theorem _root_.L2.PW.imp {X : Cx} {e : Expr} {t t' : TT} (h : PW X e t) (w : ∀ σ H Q, t' σ H Q → t σ H Q) : PW X e t' := ⟨fun wh pins s σ H Q I q => h.run wh pins s σ H Q I (w σ H Q q)⟩
theorem _root_.L2.PA.imp {X : Cx} {es : List Expr} {t t' : TA} (h : PA X es t) (w : ∀ σ H Q, t' σ H Q → t σ H Q) : PA X es t' := ⟨fun pos pins s σ H Q I q => h.run pos pins s σ H Q I (w σ H Q q)⟩
theorem Stt.good {K : PySem.W.Frag} {g : Gx} {A H : Hp} {σ : L2.St} {ρ : DEnv} (S : Stt K g A H σ ρ) : Good K g.so A H := S.x.good
theorem Stt.ext {K : PySem.W.Frag} {g : Gx} {A H A1 H1 : Hp} {σ : L2.St} {ρ : DEnv} (S : Stt K g A H σ ρ) (x : Ext K g.so A H A1 H1) : Stt K g A1 H1 σ ρ := ⟨S.x.trans x, S.e.ext x⟩
section
variable {K : PySem.W.Frag} {so : Option Addr} {A H A1 H1 : Hp}
theorem Cont.ext {Qd : D → Prop} {Q : VK} (c : Cont K so A H Qd Q) (x : Ext K so A H A1 H1) : Cont K so A1 H1 Qd Q := fun d v A' H' y => c d v A' H' (x.trans y)
theorem ContT.ext {Qd : Bool → Prop} {Q : Bool → Hp → Prop} (c : ContT K so A H Qd Q) (x : Ext K so A H A1 H1) : ContT K so A1 H1 Qd Q := fun b A' H' y => c b A' H' (x.trans y)
theorem ContA.ext {Qd : List D → Prop} {Q : List V → Hp → Prop} (c : ContA K so A H Qd Q) (x : Ext K so A H A1 H1) : ContA K so A1 H1 Qd Q := fun d v A' H' y => c d v A' H' (x.trans y)
theorem ContN.ext {Qd : List D → Prop} {Q : VK} (c : ContN K so A H Qd Q) (x : Ext K so A H A1 H1) : ContN K so A1 H1 Qd Q := fun l xs p A' H' y => c l xs p A' H' (x.trans y)
theorem ContX.ext {Ed : XD → Prop} {E : XK} (c : ContX K so A H Ed E) (x : Ext K so A H A1 H1) : ContX K so A1 H1 Ed E := fun z dx A' H' us y n => c z dx A' H' us (x.trans y) (x.fresh n)
/-- an end where nothing has changed -/
theorem Cont.now {Qd : D → Prop} {Q : VK} {d : D} {v : V} (c : Cont K so A H Qd Q) (g : Good K so A H) (h : Da K so A d v) (q : Qd d) : Q v H := c d v A H (Ext.refl g) h q
theorem Cont.nowI {Qd : D → Prop} {Q : VK} {i : Int} (c : Cont K so A H Qd Q) (g : Good K so A H) (q : Qd (.int i)) : Q (.int i) H := c.now (d := .int i) g rfl q
theorem Cont.nowB {Qd : D → Prop} {Q : VK} {i : Bool} (c : Cont K so A H Qd Q) (g : Good K so A H) (q : Qd (.bl i)) : Q (.bl i) H := c.now (d := .bl i) g rfl q
theorem Cont.nowS {Qd : D → Prop} {Q : VK} {i : Str} (c : Cont K so A H Qd Q) (g : Good K so A H) (q : Qd (.str i)) : Q (.str i) H := c.now (d := .str i) g rfl q
theorem Cont.nowN {Qd : D → Prop} {Q : VK} (c : Cont K so A H Qd Q) (g : Good K so A H) (q : Qd .non) : Q .non H := c.now (d := .non) g rfl q
theorem Cont.newL {Qd : D → Prop} {Q : VK} (c : Cont K so A H Qd Q) : ContN K so A H (fun l => Qd (.lst l)) Q := fun l xs p A' H' x hp da q => by
  have y := Ext.laid (o := .lst xs) x.good hp
  exact c (.lst l) (.ref p) _ _ (x.trans y) ⟨p, xs, rfl, upd_same, DaL.mono y.mono _ _ da⟩ q
/-- a new tuple -/
theorem Cont.tup {Qd : D → Prop} {Q : VK} {l : List D} {xs : List V} {p : Addr} (c : Cont K so A H Qd Q) (g : Good K so A H) (hp : H p = none) (da : DaL K so A l xs) (q : Qd (.tup l)) : Q (.ref p) (upd H p (.tup xs)) := by
  have y := Ext.laid (o := .tup xs) g hp
  exact c (.tup l) (.ref p) _ _ y ⟨p, xs, rfl, SqT.of upd_same, DaL.mono y.mono _ _ da⟩ q
end
theorem outT {A B : Prop} (h : if true = true then A else B) : A := by simpa using h
theorem outF {A B : Prop} (h : if false = true then A else B) : B := by simpa using h
/-! ### names, constants -/
def rdS (o : Option Sl) (Q : D → Prop) : Prop := match o with
  | some (.fr d) => Q d
  | _ => False
def dVar (i : Nat) : DE := fun ρ Q _ => rdS ρ[i]? Q
def dC (d : D) : DE := fun _ Q _ => Q d
def dNew (r : DL) : DE := fun ρ Q E => r ρ (fun l => Q (.lst l)) E
section
variable {X : Cx} {g : Gx} {EX : EXT} {e a b : Expr} {es : List Expr} {ra rb : DE} {pos : Pos}
theorem pd_var {i : Nat} (h : PE X e (tVar i)) : PD X g EX e (dVar i) := ⟨h.imp fun σ H Q q => by
  obtain ⟨A, ρ, Qd, Ed, S, q, c, cx⟩ := q
  unfold dVar rdS at q
  split at q
  · rename_i d e
    obtain ⟨o, e2, v, e3, da⟩ := S.e.ok _ _ e
    exact ⟨v, by rw [e2, e3], c.now S.good da q⟩
  · exact q.elim⟩
theorem pd_c {v : V} {d : D} (h : PE X e (tC v)) (hd : ∀ so A, Da X.K so A d v) : PD X g EX e (dC d) := ⟨h.imp fun σ H Q q => by
  obtain ⟨A, ρ, Qd, Ed, S, q, c, cx⟩ := q
  exact c.now S.good (hd _ _) q⟩
theorem pd_int {i j p} : PD X g EX (.Constant (.int i) j p) (dC (.int i)) := pd_c pe_int fun _ _ => rfl
theorem pd_bl {i j p} : PD X g EX (.Constant (.bool i) j p) (dC (.bl i)) := pd_c pe_bl fun _ _ => rfl
theorem pd_non {j p} : PD X g EX (.Constant .none j p) (dC .non) := pd_c pe_non fun _ _ => rfl
theorem pd_str {i j p} : PD X g EX (.Constant (.str i) j p) (dC (.str i)) := pd_c pe_str fun _ _ => rfl
theorem pd_new {r : DL} (h : PDN X g EX e r) : PD X g EX e (dNew r) := ⟨h.pe.imp fun σ H Q q => by
  obtain ⟨A, ρ, Qd, Ed, S, q, c, cx⟩ := q
  exact ⟨A, ρ, _, Ed, S, q, c.newL, cx⟩⟩
/-! ### operators -/
abbrev D2 := D → D → (D → Prop) → Prop
def OpL (K : PySem.W.Frag) (r2 : R2) (rr : D2) : Prop := ∀ so A H x y v u Qd Q, Good K so A H → Da K so A x v → Da K so A y u → rr x y Qd → Cont K so A H Qd Q → r2 v u H Q
def dOp (rr : D2) (ra rb : DE) : DE := fun ρ Q E => ra ρ (fun x => rb ρ (fun y => rr x y Q) E) E
theorem lE_op {r2 : R2} {rr : D2} (hl : OpL X.K r2 rr) {σ : L2.St} {H : Hp} {Q : VK} (h : lE X.K g EX (dOp rr ra rb) σ H Q) : tOp r2 (lE X.K g EX ra) (lE X.K g EX rb) σ H Q := by
  obtain ⟨A, ρ, Qd, Ed, S, h, c, cx⟩ := h
  refine ⟨A, ρ, fun x => rb ρ (fun y => rr x y Qd) Ed, Ed, S, h, fun d v A1 H1 x1 da q => ?_, cx⟩
  refine ⟨A1, ρ, fun y => rr d y Qd, Ed, S.ext x1, q, fun d2 v2 A2 H2 x2 da2 q2 => ?_, cx.ext x1⟩
  exact hl g.so A2 H2 d d2 v v2 Qd Q x2.good (x2.da da) da2 q2 ((c.ext x1).ext x2)
theorem pd_op {op : Operator} {r2 : R2} {rr : D2} (ho : OpR X (binaryOp op) r2) (hl : OpL X.K r2 rr) (ha : PD X g EX a ra) (hb : PD X g EX b rb) : PD X g EX (.BinOp a op b pos) (dOp rr ra rb) :=
  ⟨(pe_op ho ha.pe hb.pe).imp fun σ H Q h => lE_op hl h⟩
theorem pd_cmp {op : CmpOp} {r2 : R2} {rr : D2} (ho : OpR X (compareOp op) r2) (hl : OpL X.K r2 rr) (ha : PD X g EX a ra) (hb : PD X g EX b rb) (hm : behindInMarks op b = false) : PD X g EX (.Compare a [op] [b] pos) (dOp rr ra rb) :=
  ⟨(pe_cmpR ho ha.pe hb.pe hm).imp fun σ H Q h => lE_op hl h⟩
theorem pd_ix {r2 : R2} {rr : D2} (hr : IxR X r2) (hl : OpL X.K r2 rr) (ha : PD X g EX a ra) (hb : PD X g EX b rb) (hs : PlainIx b) : PD X g EX (.Subscript a b pos) (dOp rr ra rb) :=
  ⟨(pe_ix hr ha.pe hb.pe hs).imp fun σ H Q h => lE_op hl h⟩
/-- the value is a bool -/
def onB (d : D) (Q : Bool → Prop) : Prop := match d with
  | .bl k => Q k
  | _ => False
theorem onB.out {K : PySem.W.Frag} {so : Option Addr} {A : Hp} {d : D} {v : V} {Q : Bool → Prop} (h : onB d Q) (da : Da K so A d v) : ∃ k, v = .bl k ∧ Q k := by
  unfold onB at h
  split at h
  · exact ⟨_, da, h⟩
  · exact h.elim
def qB (r : DE) : DT := fun ρ Q E => r ρ (fun d => onB d Q) E
theorem lT_B {r : DE} {t : TE} {σ : L2.St} {H : Hp} {Q : Bool → Hp → Prop} (w : ∀ Q, lE X.K g EX r σ H Q → t σ H Q) (h : lT X.K g EX (qB r) σ H Q) : tTest t σ H Q := by
  obtain ⟨A, ρ, Qd, Ed, S, h, c, cx⟩ := h
  refine w _ ⟨A, ρ, _, Ed, S, h, fun d v A1 H1 x1 da q => ?_, cx⟩
  obtain ⟨k, rfl, q⟩ := q.out da
  exact ⟨k, rfl, c k A1 H1 x1 q⟩
theorem pdt_cmp {op : CmpOp} {r2 : R2} {rr : D2} (ho : OpR X (compareOp op) r2) (hl : OpL X.K r2 rr) (ha : PD X g EX a ra) (hb : PD X g EX b rb) (hm : behindInMarks op b = false) : PDT X g EX (.Compare a [op] [b] pos) (qB (dOp rr ra rb)) :=
  ⟨(pt_cmpR ho ha.pe hb.pe hm).imp fun σ H Q h => lT_B (fun Q h => lE_op hl h) h⟩
def dChain (rr rr' : D2) (ra rb rc : DE) : DE := fun ρ Q E => ra ρ (fun x => rb ρ (fun y => rr x y fun z => onB z fun k => if k = true then rc ρ (fun z => rr' y z Q) E else Q (.bl false)) E) E
theorem lE_chain {c : Expr} {rc : DE} {r2 r2' : R2} {rr rr' : D2} (hl : OpL X.K r2 rr) (hl' : OpL X.K r2' rr') {σ : L2.St} {H : Hp} {Q : VK} (h : lE X.K g EX (dChain rr rr' ra rb rc) σ H Q) : tChain r2 r2' (lE X.K g EX ra) (lE X.K g EX rb) (lE X.K g EX rc) σ H Q := by
  obtain ⟨A, ρ, Qd, Ed, S, h, c, cx⟩ := h
  refine ⟨A, ρ, _, Ed, S, h, fun d v A1 H1 x1 da q => ?_, cx⟩
  refine ⟨A1, ρ, _, Ed, S.ext x1, q, fun d2 v2 A2 H2 x2 da2 q2 => ?_, cx.ext x1⟩
  refine hl g.so A2 H2 d d2 v v2 _ _ x2.good (x2.da da) da2 q2 fun z w A3 H3 x3 da3 q3 => ?_
  obtain ⟨k, rfl, q3⟩ := q3.out da3
  refine ⟨k, rfl, ?_⟩
  cases k with
  | true =>
    refine iteT ⟨A3, ρ, _, Ed, ((S.ext x1).ext x2).ext x3, outT q3, fun d4 v4 A4 H4 x4 da4 q4 => ?_, ((cx.ext x1).ext x2).ext x3⟩
    exact hl' g.so A4 H4 d2 d4 v2 v4 _ _ x4.good (x4.da (x3.da da2)) da4 q4 (((c.ext x1).ext x2).ext x3 |>.ext x4)
  | false =>
    refine iteF ?_
    exact c (.bl false) _ A3 H3 ((x1.trans x2).trans x3) rfl (outF q3)
/-! ### tests -/
def qAnd (t u : DT) : DT := fun ρ Q E => t ρ (fun k => if k = true then u ρ Q E else Q false) E
def qOr (t u : DT) : DT := fun ρ Q E => t ρ (fun k => if k = true then Q true else u ρ Q E) E
def qNot (t : DT) : DT := fun ρ Q E => t ρ (fun k => Q (!k)) E
variable {tA tB' : DT} {rest : List Expr}
theorem PDW.t (h : PDW X g EX e tA) : PDT X g EX e tA := ⟨h.pw.pt⟩
theorem pdw_and1 (ha : PDT X g EX a tA) : PDW X g EX (.BoolOp .And [a] pos) tA := ⟨pw_and1 ha.pt⟩
theorem pdw_or1 (ha : PDT X g EX a tA) : PDW X g EX (.BoolOp .Or [a] pos) tA := ⟨pw_or1 ha.pt⟩
theorem pdw_and (ha : PDT X g EX a tA) (hb : PDW X g EX (.BoolOp .And (b :: rest) pos) tB') : PDW X g EX (.BoolOp .And (a :: b :: rest) pos) (qAnd tA tB') := ⟨(pw_and ha.pt hb.pw).imp fun σ H Q h => by
  obtain ⟨A, ρ, Qd, Ed, S, h, c, cx⟩ := h
  refine ⟨A, ρ, _, Ed, S, h, fun k A1 H1 x1 q => ?_, cx⟩
  cases k with
  | true => exact iteT ⟨A1, ρ, _, Ed, S.ext x1, outT q, c.ext x1, cx.ext x1⟩
  | false => exact iteF (c false A1 H1 x1 (outF q))⟩
theorem pdw_or (ha : PDT X g EX a tA) (hb : PDW X g EX (.BoolOp .Or (b :: rest) pos) tB') : PDW X g EX (.BoolOp .Or (a :: b :: rest) pos) (qOr tA tB') := ⟨(pw_or ha.pt hb.pw).imp fun σ H Q h => by
  obtain ⟨A, ρ, Qd, Ed, S, h, c, cx⟩ := h
  refine ⟨A, ρ, _, Ed, S, h, fun k A1 H1 x1 q => ?_, cx⟩
  cases k with
  | true => exact iteT (c true A1 H1 x1 (outT q))
  | false => exact iteF ⟨A1, ρ, _, Ed, S.ext x1, outF q, c.ext x1, cx.ext x1⟩⟩
theorem pdt_not (ha : PDT X g EX a tA) : PDT X g EX (.UnaryOp .Not a pos) (qNot tA) := ⟨(pt_not ha.pt).imp fun σ H Q h => by
  obtain ⟨A, ρ, Qd, Ed, S, h, c, cx⟩ := h
  exact ⟨A, ρ, _, Ed, S, h, fun k A1 H1 x1 q => c (!k) A1 H1 x1 q, cx⟩⟩
/-- truth -/
def truD (d : D) (Q : Bool → Prop) : Prop := match d with
  | .non => Q false
  | .bl k => Q k
  | .int i => Q (i != 0)
  | .str y => y.length ≤ sizeLine ∧ Q ((y.length : Int) != 0)
  | .tup l => Q (!l.isEmpty)
  | .lst l => Q (!l.isEmpty)
  | _ => False
def qTru (r : DE) : DT := fun ρ Q E => r ρ (fun d => truD d Q) E
theorem empty_len {α β : Type} {xs : List α} {ys : List β} (h : xs.length = ys.length) : xs.isEmpty = ys.isEmpty := by
  cases xs <;> cases ys <;> first | rfl | cases h
theorem truD.out {K : PySem.W.Frag} {so : Option Addr} {A H : Hp} {d : D} {v : V} {Q : Bool → Prop} (gd : Good K so A H) (h : truD d Q) (da : Da K so A d v) : ∃ k, TruV K v H k ∧ Q k := by
  cases d with
  | non => exact ⟨_, by cases da; exact rfl, h⟩
  | bl k => exact ⟨_, by cases da; exact rfl, h⟩
  | int i => exact ⟨_, by cases da; exact rfl, h⟩
  | str y => exact ⟨_, by cases da; exact ⟨h.1, rfl⟩, h.2⟩
  | tup l =>
    obtain ⟨p, xs, e, hs, q⟩ := da
    subst e
    exact ⟨_, .inr (.inl ⟨xs, Sub.sqT gd.sub hs, by rw [empty_len q.len]⟩), h⟩
  | lst l =>
    obtain ⟨p, xs, e, hs, q⟩ := da
    subst e
    exact ⟨_, .inl ⟨xs, SqL.of (gd.sub _ _ hs), by rw [empty_len q.len]⟩, h⟩
  | _ => exact h.elim
theorem pdt_tru (ha : PD X g EX a ra) (he : ∀ whole, isTrue a X.env whole = (do let v ← whole; standAt a.pos; holding [v] (truthy v)) := by intro _; rfl) : PDT X g EX a (qTru ra) := ⟨(pt_truth ha.pe he).imp fun σ H Q h => by
  obtain ⟨A, ρ, Qd, Ed, S, h, c, cx⟩ := h
  refine ⟨A, ρ, _, Ed, S, h, fun d v A1 H1 x1 da q => ?_, cx⟩
  obtain ⟨k, t, q⟩ := q.out x1.good da
  exact ⟨k, t, c k A1 H1 x1 q⟩⟩
def dIf (c : DT) (ra rb : DE) : DE := fun ρ Q E => c ρ (fun k => if k = true then ra ρ Q E else rb ρ Q E) E
theorem pd_if {c : Expr} (hc : PDT X g EX c tA) (ha : PD X g EX a ra) (hb : PD X g EX b rb) : PD X g EX (.IfExp c a b pos) (dIf tA ra rb) := ⟨(pe_ifExp hc.pt ha.pe hb.pe).imp fun σ H Q h => by
  obtain ⟨A, ρ, Qd, Ed, S, h, c, cx⟩ := h
  refine ⟨A, ρ, _, Ed, S, h, fun k A1 H1 x1 q => ?_, cx⟩
  cases k with
  | true => exact iteT ⟨A1, ρ, _, Ed, S.ext x1, outT q, c.ext x1, cx.ext x1⟩
  | false => exact iteF ⟨A1, ρ, _, Ed, S.ext x1, outF q, c.ext x1, cx.ext x1⟩⟩
/-- and, or, not as values of bools -/
def dAnd (ra rb : DE) : DE := fun ρ Q E => ra ρ (fun x => onB x fun k => if k = true then rb ρ Q E else Q (.bl false)) E
def dOr (ra rb : DE) : DE := fun ρ Q E => ra ρ (fun x => onB x fun k => if k = true then Q (.bl true) else rb ρ Q E) E
def dNot (ra : DE) : DE := fun ρ Q E => ra ρ (fun x => onB x fun k => Q (.bl (!k))) E
theorem pd_one {op} (h : PD X g EX a ra) : PD X g EX (.BoolOp op [a] pos) ra := ⟨pe_one h.pe⟩
theorem pd_and (ha : PD X g EX a ra) (hb : PD X g EX (.BoolOp .And (b :: rest) pos) rb) : PD X g EX (.BoolOp .And (a :: b :: rest) pos) (dAnd ra rb) := ⟨(pe_and ha.pe hb.pe).imp fun σ H Q h => by
  obtain ⟨A, ρ, Qd, Ed, S, h, c, cx⟩ := h
  refine ⟨A, ρ, _, Ed, S, h, fun d v A1 H1 x1 da q => ?_, cx⟩
  obtain ⟨k, rfl, q⟩ := q.out da
  refine ⟨k, rfl, ?_⟩
  cases k with
  | true => exact iteT ⟨A1, ρ, _, Ed, S.ext x1, outT q, c.ext x1, cx.ext x1⟩
  | false => exact iteF (c (.bl false) _ A1 H1 x1 rfl (outF q))⟩
theorem pd_or (ha : PD X g EX a ra) (hb : PD X g EX (.BoolOp .Or (b :: rest) pos) rb) : PD X g EX (.BoolOp .Or (a :: b :: rest) pos) (dOr ra rb) := ⟨(pe_or ha.pe hb.pe).imp fun σ H Q h => by
  obtain ⟨A, ρ, Qd, Ed, S, h, c, cx⟩ := h
  refine ⟨A, ρ, _, Ed, S, h, fun d v A1 H1 x1 da q => ?_, cx⟩
  obtain ⟨k, rfl, q⟩ := q.out da
  refine ⟨k, rfl, ?_⟩
  cases k with
  | true => exact iteT (c (.bl true) _ A1 H1 x1 rfl (outT q))
  | false => exact iteF ⟨A1, ρ, _, Ed, S.ext x1, outF q, c.ext x1, cx.ext x1⟩⟩
theorem pd_not (ha : PD X g EX a ra) : PD X g EX (.UnaryOp .Not a pos) (dNot ra) := ⟨(pe_not ha.pe).imp fun σ H Q h => by
  obtain ⟨A, ρ, Qd, Ed, S, h, c, cx⟩ := h
  refine ⟨A, ρ, _, Ed, S, h, fun d v A1 H1 x1 da q => ?_, cx⟩
  obtain ⟨k, rfl, q⟩ := q.out da
  exact ⟨k, rfl, c (.bl (!k)) _ A1 H1 x1 rfl q⟩⟩
def dUn (f : D → (D → Prop) → Prop) (ra : DE) : DE := fun ρ Q E => ra ρ (fun x => f x Q) E
def ddNeg (d : D) (Q : D → Prop) : Prop := match d with
  | .int i => Q (.int (-i))
  | _ => False
theorem pd_neg (ha : PD X g EX a ra) : PD X g EX (.UnaryOp .USub a pos) (dUn ddNeg ra) := ⟨(pe_un un_neg ha.pe).imp fun σ H Q h => by
  obtain ⟨A, ρ, Qd, Ed, S, h, c, cx⟩ := h
  refine ⟨A, ρ, _, Ed, S, h, fun d v A1 H1 x1 da q => ?_, cx⟩
  have q : ddNeg d Qd := q
  unfold ddNeg at q
  split at q
  · exact ⟨_, da, c (.int _) _ A1 H1 x1 rfl q⟩
  · exact q.elim⟩
/-! ### lists of arguments, displays -/
def lNil : DL := fun _ Q _ => Q []
def lCons (r : DE) (t : DL) : DL := fun ρ Q E => r ρ (fun d => t ρ (fun l => Q (d :: l)) E) E
variable {r : DE} {t : DL}
theorem pda_nil : PDA X g EX [] lNil := ⟨pa_nil.imp fun σ H Q h => by
  obtain ⟨A, ρ, Qd, Ed, S, h, c, cx⟩ := h
  exact c [] [] A H (Ext.refl S.good) rfl h⟩
theorem pda_cons (ha : PD X g EX e r) (hr : PDA X g EX es t) (hs : starEach (e :: es) X.env = (false, eval e X.env) :: starEach es X.env := by rfl) : PDA X g EX (e :: es) (lCons r t) := ⟨(pa_cons ha.pe hr.pa hs).imp fun σ H Q h => by
  obtain ⟨A, ρ, Qd, Ed, S, h, c, cx⟩ := h
  refine ⟨A, ρ, _, Ed, S, h, fun d v A1 H1 x1 da q => ?_, cx⟩
  refine ⟨A1, ρ, _, Ed, S.ext x1, q, fun ds vs A2 H2 x2 das q2 => ?_, cx.ext x1⟩
  exact c (d :: ds) (v :: vs) A2 H2 (x1.trans x2) ⟨v, vs, rfl, x2.da da, das⟩ q2⟩
def dTup (t : DL) : DE := fun ρ Q E => t ρ (fun l => l.length ≤ sizeLine ∧ Q (.tup l)) E
def nLst (t : DL) : DL := fun ρ Q E => t ρ (fun l => l.length ≤ sizeLine ∧ Q l) E
theorem pd_tup {x1} (h : PDA X g EX es t) : PD X g EX (.Tuple es x1 pos) (dTup t) := ⟨(pe_tup h.pa).imp fun σ H Q h => by
  obtain ⟨A, ρ, Qd, Ed, S, h, c, cx⟩ := h
  refine ⟨A, ρ, _, Ed, S, h, fun ds vs A1 H1 x1 das q => ?_, cx⟩
  exact ⟨by rw [das.len]; exact q.1, fun p hp => (c.ext x1).tup x1.good hp das q.2⟩⟩
theorem pdn_lst (h : PDA X g EX es t) : PDN X g EX (.List es pos) (nLst t) := ⟨(pe_lst h.pa).imp fun σ H Q h => by
  obtain ⟨A, ρ, Qd, Ed, S, h, c, cx⟩ := h
  refine ⟨A, ρ, _, Ed, S, h, fun ds vs A1 H1 x1 das q => ?_, cx⟩
  exact ⟨by rw [das.len]; exact q.1, fun p hp => c ds vs p A1 H1 x1 hp das q.2⟩⟩
end
end My
namespace My
open PySem PySem.Spec PyProof.Rows L2
/-! ### operators over data -/
def CDivZ (_ j : Int) : Prop := j ≠ 0 ∧ j.natAbs.log2 < 9000
theorem op_fdivZ {X : Cx} : OpR X (binaryOp .FloorDiv) (rI CDivZ fun i j => .int (i.fdiv j)) := opI fun _ _ _ _ _ _ _ hc q => floordiv_int hc.1 q (.inl (PyProof.noPylong_of_log2 hc.2))
def ddI (C : Int → Int → Prop) (f : Int → Int → D) : D2 := fun x y Q => match x, y with
  | .int i, .int j => C i j ∧ Q (f i j)
  | _, _ => False
theorem ol_I {K : PySem.W.Frag} {C : Int → Int → Prop} {f : Int → Int → D} {h : Int → Int → V} (hf : ∀ i j so A, Da K so A (f i j) (h i j)) : OpL K (rI C h) (ddI C f) := by
  intro so A H x y v u Qd Q gd dx dy q c
  unfold ddI at q
  split at q
  · exact ⟨_, _, dx, dy, q.1, c.now gd (hf _ _ _ _) q.2⟩
  · exact q.elim
def ddI0 (f : Int → Int → D) : D2 := fun x y Q => match x, y with
  | .int i, .int j => Q (f i j)
  | _, _ => False
theorem ol_I0 {K : PySem.W.Frag} {f : Int → Int → D} {h : Int → Int → V} (hf : ∀ i j so A, Da K so A (f i j) (h i j)) : OpL K (rI0 h) (ddI0 f) := by
  intro so A H x y v u Qd Q gd dx dy q c
  unfold ddI0 at q
  split at q
  · exact ⟨_, _, dx, dy, c.now gd (hf _ _ _ _) q⟩
  · exact q.elim
/-- x + y -/
def ddAdd : D2 := fun x y Q => match x, y with
  | .int i, .int j => Q (.int (i + j))
  | .str i, .str j => i.length + j.length ≤ sizeLine ∧ Q (.str (i ++ j))
  | .tup l, .tup m => l ≠ [] ∧ l.length + m.length ≤ sizeLine ∧ Q (.tup (l ++ m))
  | .lst l, .lst m => l.length + m.length ≤ sizeLine ∧ Q (.lst (l ++ m))
  | _, _ => False
def rAdd4 (K : PySem.W.Frag) : R2 := fun x y H Q => rI0 (fun i j => .int (i + j)) x y H Q ∨ rAddS x y H Q ∨ rCatT K x y H Q ∨ rCat x y H Q
theorem oo_add {X : Cx} : OpR X (binaryOp .Add) (rAdd4 X.K) := op_add.or (o_addS.or (op_catT.or op_cat))
theorem ol_add {K : PySem.W.Frag} : OpL K (rAdd4 K) ddAdd := by
  intro so A H x y v u Qd Q gd dx dy q c
  unfold ddAdd at q
  split at q
  · exact .inl ⟨_, _, dx, dy, c.nowI gd q⟩
  · exact .inr (.inl ⟨_, _, dx, dy, q.1, c.nowS gd q.2⟩)
  · obtain ⟨a, xs, rfl, hs, qa⟩ := dx
    obtain ⟨b, ys, rfl, ht, qb⟩ := dy
    refine .inr (.inr (.inl ⟨a, b, xs, ys, rfl, rfl, Sub.sqT gd.sub hs, Sub.sqT gd.sub ht, fun e => q.1 ?_, by rw [qa.len, qb.len]; exact q.2.1, fun e => ?_, fun e p hp => c.tup gd hp (qa.app qb) q.2.2⟩))
    · have z := qa.len
      rw [e] at z
      exact List.eq_nil_of_length_eq_zero z.symm
    · have z := qb.len
      rw [e] at z
      have z := List.eq_nil_of_length_eq_zero z.symm
      subst z
      have q := q.2.2
      rw [List.append_nil] at q
      exact c.now (d := .tup _) gd ⟨a, xs, rfl, hs, qa⟩ q
  · obtain ⟨a, xs, rfl, hs, qa⟩ := dx
    obtain ⟨b, ys, rfl, ht, qb⟩ := dy
    exact .inr (.inr (.inr ⟨a, b, xs, ys, rfl, rfl, gd.sub _ _ hs, gd.sub _ _ ht, by rw [qa.len, qb.len]; exact q.1, fun p hp => c.newL _ _ p A H (Ext.refl gd) hp (qa.app qb) q.2⟩))
  · exact q.elim
theorem ol_sub {K : PySem.W.Frag} : OpL K (rI0 fun i j => .int (i - j)) (ddI0 fun i j => .int (i - j)) := ol_I0 fun _ _ _ _ => rfl
theorem ol_mul {K : PySem.W.Frag} : OpL K (rI CMulW fun i j => .int (i * j)) (ddI CMulW fun i j => .int (i * j)) := ol_I fun _ _ _ _ => rfl
theorem ol_fdiv {K : PySem.W.Frag} : OpL K (rI CDivZ fun i j => .int (i.fdiv j)) (ddI CDivZ fun i j => .int (i.fdiv j)) := ol_I fun _ _ _ _ => rfl
theorem ol_mod {K : PySem.W.Frag} : OpL K (rI (fun _ j => j ≠ 0) fun i j => .int (i.fmod j)) (ddI (fun _ j => j ≠ 0) fun i j => .int (i.fmod j)) := ol_I fun _ _ _ _ => rfl
theorem ol_pow {K : PySem.W.Frag} : OpL K (rI CPow fun i j => .int (i ^ j.toNat)) (ddI CPow fun i j => .int (i ^ j.toNat)) := ol_I fun _ _ _ _ => rfl
theorem ol_lt {K : PySem.W.Frag} : OpL K (rI0 fun i j => .bl (decide (i < j))) (ddI0 fun i j => .bl (decide (i < j))) := ol_I0 fun _ _ _ _ => rfl
theorem ol_le {K : PySem.W.Frag} : OpL K (rI0 fun i j => .bl (decide (i ≤ j))) (ddI0 fun i j => .bl (decide (i ≤ j))) := ol_I0 fun _ _ _ _ => rfl
theorem ol_gt {K : PySem.W.Frag} : OpL K (rI0 fun i j => .bl (decide (j < i))) (ddI0 fun i j => .bl (decide (j < i))) := ol_I0 fun _ _ _ _ => rfl
theorem ol_ge {K : PySem.W.Frag} : OpL K (rI0 fun i j => .bl (decide (j ≤ i))) (ddI0 fun i j => .bl (decide (j ≤ i))) := ol_I0 fun _ _ _ _ => rfl
/-- is None, is True: y is the constant -/
def isNonD : D → Bool
  | .non => true
  | _ => false
def isBlD (b : Bool) : D → Bool
  | .bl c => c == b
  | _ => false
theorem Da.isN {K : PySem.W.Frag} {so : Option Addr} {A : Hp} {d : D} {v : V} (h : Da K so A d v) : decide (v = .non) = isNonD d := by
  cases d with
  | non => cases h; rfl
  | bl _ => cases h; rfl
  | int _ => cases h; rfl
  | str _ => cases h; rfl
  | tup _ => obtain ⟨_, _, rfl, _⟩ := h; rfl
  | lst _ => obtain ⟨_, _, rfl, _⟩ := h; rfl
  | dct _ _ => obtain ⟨_, _, rfl, _⟩ := h; rfl
  | ins _ _ _ => obtain ⟨_, _, _, rfl, _⟩ := h; rfl
  | scr _ => obtain ⟨_, rfl, _⟩ := h; rfl
  | sto => obtain ⟨_, rfl, _⟩ := h; rfl
  | exc _ => cases h; rfl
theorem Da.isB {K : PySem.W.Frag} {so : Option Addr} {A : Hp} {d : D} {v : V} {b : Bool} (h : Da K so A d v) : decide (v = .bl b) = isBlD b d := by
  cases d with
  | bl c =>
    cases h
    show decide (V.bl c = V.bl b) = (c == b)
    exact dec_bl
  | non => cases h; rfl
  | int _ => cases h; rfl
  | str _ => cases h; rfl
  | tup _ => obtain ⟨_, _, rfl, _⟩ := h; rfl
  | lst _ => obtain ⟨_, _, rfl, _⟩ := h; rfl
  | dct _ _ => obtain ⟨_, _, rfl, _⟩ := h; rfl
  | ins _ _ _ => obtain ⟨_, _, _, rfl, _⟩ := h; rfl
  | scr _ => obtain ⟨_, rfl, _⟩ := h; rfl
  | sto => obtain ⟨_, rfl, _⟩ := h; rfl
  | exc _ => cases h; rfl
def ddIsN (neg : Bool) : D2 := fun x y Q => match y with
  | .non => Q (.bl (neg != isNonD x))
  | _ => False
theorem ol_isN {K : PySem.W.Frag} : OpL K rIsN (ddIsN false) := by
  intro so A H x y v u Qd Q gd dx dy q c
  unfold ddIsN at q
  split at q
  · refine ⟨dy, ?_⟩
    rw [dx.isN]
    exact c.nowB gd (by simpa using q)
  · exact q.elim
theorem ol_notN {K : PySem.W.Frag} : OpL K rNotN (ddIsN true) := by
  intro so A H x y v u Qd Q gd dx dy q c
  unfold ddIsN at q
  split at q
  · refine ⟨dy, ?_⟩
    rw [dx.isN]
    exact c.nowB gd (by simpa using q)
  · exact q.elim
def ddIsB : D2 := fun x y Q => match y with
  | .bl b => Q (.bl (isBlD b x))
  | _ => False
theorem ol_isB {K : PySem.W.Frag} : OpL K rIsBQ ddIsB := by
  intro so A H x y v u Qd Q gd dx dy q c
  unfold ddIsB at q
  split at q
  · refine ⟨_, dy, ?_⟩
    rw [dx.isB]
    exact c.nowB gd q
  · exact q.elim
/-! ### == -/
mutual
def pyD : D → Option PyData
  | .non => some .none
  | .bl b => some (.bool b)
  | .int i => some (.int i)
  | .str x => some (.str x)
  | .tup l => (pyL l).map .tuple
  | .lst l => (pyL l).map .list
  | _ => none
def pyL : List D → Option (List PyData)
  | [] => some []
  | d :: l => (pyD d).bind fun x => (pyL l).map fun r => x :: r
end
mutual
theorem Da.py {K : PySem.W.Frag} {so : Option Addr} {A : Hp} : ∀ (d : D) (v : V) (z : PyData), Da K so A d v → pyD d = some z → Dp K A v z
  | .non, _, _, h, e => by cases h; cases e; exact .non
  | .bl b, _, _, h, e => by cases h; cases e; exact .bl _
  | .int b, _, _, h, e => by cases h; cases e; exact .int _
  | .str b, _, _, h, e => by cases h; cases e; exact .str _
  | .tup l, _, _, ⟨a, xs, e1, hs, q⟩, e => by
    subst e1
    unfold pyD at e
    cases h : pyL l with
    | none =>
      rw [h] at e
      cases e
    | some r =>
      rw [h] at e
      cases e
      exact .tup hs (DaL.py l xs r q h)
  | .lst l, _, _, ⟨a, xs, e1, hs, q⟩, e => by
    subst e1
    unfold pyD at e
    cases h : pyL l with
    | none =>
      rw [h] at e
      cases e
    | some r =>
      rw [h] at e
      cases e
      exact .lst (SqL.of hs) (DaL.py l xs r q h)
  | .dct _ _, _, _, _, e => by cases e
  | .ins _ _ _, _, _, _, e => by cases e
  | .scr _, _, _, _, e => by cases e
  | .sto, _, _, _, e => by cases e
  | .exc _, _, _, _, e => by cases e
theorem DaL.py {K : PySem.W.Frag} {so : Option Addr} {A : Hp} : ∀ (l : List D) (vs : List V) (zs : List PyData), DaL K so A l vs → pyL l = some zs → DpAll K A vs zs
  | [], _, _, h, e => by
    have h : _ = _ := h
    subst h
    cases e
    exact .nil
  | d :: l, _, _, ⟨x, r, e1, h, q⟩, e => by
    subst e1
    unfold pyL at e
    cases h1 : pyD d with
    | none =>
      rw [h1] at e
      cases e
    | some z =>
      rw [h1] at e
      cases h2 : pyL l with
      | none =>
        rw [h2] at e
        cases e
      | some zs =>
        rw [h2] at e
        cases e
        exact .cons (Da.py d x z h h1) (DaL.py l r zs q h2)
end
def ddEqP (neg : Bool) : D2 := fun x y Q => ∃ a b, pyD x = some a ∧ pyD y = some b ∧ SeqAt.shaped a = true ∧ SeqAt.shaped b = true ∧ Q (.bl (neg != PyData.eqv a b))
def ddEq (neg : Bool) : D2 := fun x y Q => match x, y with
  | .int i, .int j => Q (.bl (neg != decide (i = j)))
  | .str i, .str j => Q (.bl (neg != decide (i = j)))
  | .bl i, .bl j => Q (.bl (neg != decide (i = j)))
  | .non, .non => Q (.bl (!neg))
  | x, y => ddEqP neg x y Q
def rEq2 (K : PySem.W.Frag) : R2 := fun x y H Q => rEq x y H Q ∨ rEqD K x y H Q
def rNe2 (K : PySem.W.Frag) : R2 := fun x y H Q => rNe x y H Q ∨ rNeD K x y H Q
theorem oo_eq {X : Cx} (hu : X.A.units + 64 < cLine) : OpR X (compareOp .Eq) (rEq2 X.K) := op_eq.or (op_eqD hu)
theorem oo_ne {X : Cx} (hu : X.A.units + 64 < cLine) : OpR X (compareOp .NotEq) (rNe2 X.K) := op_ne.or (op_neD hu)
theorem ol_eq {K : PySem.W.Frag} : OpL K (rEq2 K) (ddEq false) := by
  intro so A H x y v u Qd Q gd dx dy q c
  unfold ddEq at q
  split at q
  · have dx : v = _ := dx
    have dy : u = _ := dy
    subst dx dy
    refine .inl ⟨rfl, c.nowB gd ?_⟩
    rw [L2.dec_int, Bool.beq_eq_decide_eq]
    simpa using q
  · have dx : v = _ := dx
    have dy : u = _ := dy
    subst dx dy
    refine .inl ⟨rfl, c.nowB gd ?_⟩
    rw [dec_str, Bool.beq_eq_decide_eq]
    simpa using q
  · have dx : v = _ := dx
    have dy : u = _ := dy
    subst dx dy
    refine .inl ⟨rfl, c.nowB gd ?_⟩
    rw [dec_bl, Bool.beq_eq_decide_eq]
    simpa using q
  · have dx : v = _ := dx
    have dy : u = _ := dy
    subst dx dy
    exact .inl ⟨rfl, c.nowB gd q⟩
  · obtain ⟨a, b, h1, h2, s1, s2, q⟩ := q
    exact .inr ⟨a, b, (gd.da dx).py _ _ _ h1, (gd.da dy).py _ _ _ h2, s1, s2, c.nowB gd (by simpa using q)⟩
theorem ol_ne {K : PySem.W.Frag} : OpL K (rNe2 K) (ddEq true) := by
  intro so A H x y v u Qd Q gd dx dy q c
  unfold ddEq at q
  split at q
  · have dx : v = _ := dx
    have dy : u = _ := dy
    subst dx dy
    refine .inl ⟨rfl, c.nowB gd ?_⟩
    rw [L2.dec_int, Bool.beq_eq_decide_eq]
    simpa using q
  · have dx : v = _ := dx
    have dy : u = _ := dy
    subst dx dy
    refine .inl ⟨rfl, c.nowB gd ?_⟩
    rw [dec_str, Bool.beq_eq_decide_eq]
    simpa using q
  · have dx : v = _ := dx
    have dy : u = _ := dy
    subst dx dy
    refine .inl ⟨rfl, c.nowB gd ?_⟩
    rw [dec_bl, Bool.beq_eq_decide_eq]
    simpa using q
  · have dx : v = _ := dx
    have dy : u = _ := dy
    subst dx dy
    exact .inl ⟨rfl, c.nowB gd q⟩
  · obtain ⟨a, b, h1, h2, s1, s2, q⟩ := q
    exact .inr ⟨a, b, (gd.da dx).py _ _ _ h1, (gd.da dy).py _ _ _ h2, s1, s2, c.nowB gd (by simpa using q)⟩
/-! ### items -/
def ddIx : D2 := fun x y Q => match x, y with
  | .tup l, .int i => ∃ d, atI l i = some d ∧ Q d
  | .lst l, .int i => ∃ d, atI l i = some d ∧ Q d
  | .str z, .int i => z.length ≤ sizeLine ∧ ∃ c, atI z.cps.toList i = some c ∧ Q (.str ⟨#[c]⟩)
  | _, _ => False
theorem ol_ix {K : PySem.W.Frag} : OpL K (rIx K) ddIx := by
  intro so A H x y v u Qd Q gd dx dy q c
  unfold ddIx at q
  split at q
  · obtain ⟨a, xs, rfl, hs, qa⟩ := dx
    obtain ⟨d, e, q⟩ := q
    obtain ⟨w, e2, dw⟩ := qa.atI e
    exact .inr (.inl ⟨a, xs, _, w, rfl, dy, Sub.sqT gd.sub hs, e2, c.now gd dw q⟩)
  · obtain ⟨a, xs, rfl, hs, qa⟩ := dx
    obtain ⟨d, e, q⟩ := q
    obtain ⟨w, e2, dw⟩ := qa.atI e
    exact .inl ⟨a, xs, _, w, rfl, dy, SqL.of (gd.sub _ _ hs), e2, c.now gd dw q⟩
  · obtain ⟨hz, cc, e, q⟩ := q
    exact .inr (.inr ⟨_, _, cc, dx, dy, hz, e, c.nowS gd q⟩)
  · exact q.elim
/-! ### calls of built-ins -/
abbrev DCall := List D → (D → Prop) → Prop
def CallL (K : PySem.W.Frag) (r : List V → Hp → VK → Prop) (rr : DCall) : Prop := ∀ so A H ds vs Qd Q, Good K so A H → DaL K so A ds vs → rr ds Qd → Cont K so A H Qd Q → r vs H Q
def dCB (rr : DCall) (t : DL) : DE := fun ρ Q E => t ρ (fun ds => rr ds Q) E
section
variable {X : Cx} {g : Gx} {EX : EXT} {e a b : Expr} {es : List Expr} {ra rb : DE} {pos p : Pos} {t : DL} {id T : String} {x : Str}
theorem pd_callB {r : List V → Hp → VK → Prop} {rr : DCall} (hc : CallR X (.builtin id) r) (hl : CallL X.K r rr) (hg : Gl X x) (hm : X.mg x = none) (hv : bootBuiltins x = some (.builtin id)) (ha : PDA X g EX (e :: es) t) (hn : x ≠ "__name__" := by decide) (hdb : (x == ("__debug__" : Str)) = false := by decide)
    (he : starEach (e :: es) X.env = (false, eval e X.env) :: starEach es X.env := by rfl) (hpl : (backTo pos (starEach es X.env)).any (·.1) = false := by rfl) : PD X g EX (.Call (.Name x p) (e :: es) [] pos) (dCB rr t) :=
  ⟨(pe_callB hc hg hm hv ha.pa hn hdb he hpl).imp fun σ H Q h => by
  obtain ⟨A, ρ, Qd, Ed, S, h, c, cx⟩ := h
  refine ⟨A, ρ, _, Ed, S, h, fun ds vs A1 H1 x1 das q => ?_, cx⟩
  exact hl g.so A1 H1 ds vs Qd Q x1.good das q (c.ext x1)⟩
theorem pd_callTy {r : List V → Hp → VK → Prop} {rr : DCall} (hc : CallR X (.type T) r) (hl : CallL X.K r rr) (hg : Gl X x) (hm : X.mg x = none) (hv : bootBuiltins x = some (.type T)) (ha : PDA X g EX (e :: es) t) (hn : x ≠ "__name__" := by decide) (hdb : (x == ("__debug__" : Str)) = false := by decide)
    (he : starEach (e :: es) X.env = (false, eval e X.env) :: starEach es X.env := by rfl) (hpl : (backTo pos (starEach es X.env)).any (·.1) = false := by rfl) : PD X g EX (.Call (.Name x p) (e :: es) [] pos) (dCB rr t) :=
  ⟨(pe_callTy hc hg hm hv ha.pa hn hdb he hpl).imp fun σ H Q h => by
  obtain ⟨A, ρ, Qd, Ed, S, h, c, cx⟩ := h
  refine ⟨A, ρ, _, Ed, S, h, fun ds vs A1 H1 x1 das q => ?_, cx⟩
  exact hl g.so A1 H1 ds vs Qd Q x1.good das q (c.ext x1)⟩
end
/-- len -/
def ddLen : DCall := fun ds Q => match ds with
  | [.tup l] => Q (.int l.length)
  | [.lst l] => Q (.int l.length)
  | [.str z] => z.length ≤ sizeLine ∧ Q (.int z.length)
  | _ => False
theorem DaL.one' {K : PySem.W.Frag} {so : Option Addr} {A : Hp} {d : D} {vs : List V} (h : DaL K so A [d] vs) : ∃ v, vs = [v] ∧ Da K so A d v := by
  obtain ⟨v, r, e, dv, e2⟩ := h
  have e2 : r = [] := e2
  subst e2
  exact ⟨v, e, dv⟩
theorem DaL.two' {K : PySem.W.Frag} {so : Option Addr} {A : Hp} {d d2 : D} {vs : List V} (h : DaL K so A [d, d2] vs) : ∃ v w, vs = [v, w] ∧ Da K so A d v ∧ Da K so A d2 w := by
  obtain ⟨v, r, e, dv, h2⟩ := h
  obtain ⟨w, rfl, dw⟩ := DaL.one' h2
  exact ⟨v, w, e, dv, dw⟩
def rLen2 (K : PySem.W.Frag) : List V → Hp → VK → Prop := fun xs H Q => rLenQ K xs H Q ∨ rLenSQ xs H Q
theorem oo_len {X : Cx} : CallR X (.builtin "len") (rLen2 X.K) := c_len.or c_lenS
theorem cl_len {K : PySem.W.Frag} : CallL K (rLen2 K) ddLen := by
  intro so A H ds vs Qd Q gd da q c
  unfold ddLen at q
  split at q
  · obtain ⟨v, rfl, a, xs, rfl, hs, qa⟩ := da.one'
    exact .inl ⟨a, xs, rfl, .inr (Sub.sqT gd.sub hs), by rw [qa.len]; exact c.nowI gd q⟩
  · obtain ⟨v, rfl, a, xs, rfl, hs, qa⟩ := da.one'
    exact .inl ⟨a, xs, rfl, .inl (SqL.of (gd.sub _ _ hs)), by rw [qa.len]; exact c.nowI gd q⟩
  · obtain ⟨v, rfl, dv⟩ := da.one'
    have dv : v = _ := dv
    subst dv
    exact .inr ⟨_, rfl, q.1, c.nowI gd q.2⟩
  · exact q.elim
/-- int, abs, max, min of ints -/
def ddInt1 : DCall := fun ds Q => match ds with
  | [.int i] => Q (.int i)
  | [.bl k] => Q (.int (if k = true then 1 else 0))
  | _ => False
theorem cl_int1 {K : PySem.W.Frag} : CallL K rInt1 ddInt1 := by
  intro so A H ds vs Qd Q gd da q c
  unfold ddInt1 at q
  split at q
  · obtain ⟨v, rfl, dv⟩ := da.one'
    have dv : v = _ := dv
    subst dv
    exact .inl ⟨_, rfl, c.nowI gd q⟩
  · obtain ⟨v, rfl, dv⟩ := da.one'
    have dv : v = _ := dv
    subst dv
    exact .inr ⟨_, rfl, c.nowI gd q⟩
  · exact q.elim
def ddAbs : DCall := fun ds Q => match ds with
  | [.int i] => Q (.int (if i < 0 then -i else i))
  | _ => False
theorem cl_abs {K : PySem.W.Frag} : CallL K rAbsQ ddAbs := by
  intro so A H ds vs Qd Q gd da q c
  unfold ddAbs at q
  split at q
  · obtain ⟨v, rfl, dv⟩ := da.one'
    have dv : v = _ := dv
    subst dv
    exact ⟨_, rfl, c.nowI gd q⟩
  · exact q.elim
def ddMM (f : Int → Int → Int) : DCall := fun ds Q => match ds with
  | [.int i, .int j] => Q (.int (f i j))
  | _ => False
theorem cl_max2 {K : PySem.W.Frag} : CallL K rMaxQ (ddMM fun i j => if j > i then j else i) := by
  intro so A H ds vs Qd Q gd da q c
  unfold ddMM at q
  split at q
  · obtain ⟨v, w, rfl, dv, dw⟩ := da.two'
    have dv : v = _ := dv
    have dw : w = _ := dw
    subst dv dw
    exact ⟨_, _, rfl, c.nowI gd q⟩
  · exact q.elim
theorem cl_min2 {K : PySem.W.Frag} : CallL K rMinQ (ddMM fun i j => if j < i then j else i) := by
  intro so A H ds vs Qd Q gd da q c
  unfold ddMM at q
  split at q
  · obtain ⟨v, w, rfl, dv, dw⟩ := da.two'
    have dv : v = _ := dv
    have dw : w = _ := dw
    subst dv dw
    exact ⟨_, _, rfl, c.nowI gd q⟩
  · exact q.elim
/-- tuple(x) -/
def ddTuple : DCall := fun ds Q => match ds with
  | [.tup l] => Q (.tup l)
  | [.lst l] => Q (.tup l)
  | _ => False
def rTupleQ (K : PySem.W.Frag) : List V → Hp → VK → Prop := fun xs H Q => ∃ p ys, xs = [.ref p] ∧ ((SqL K H p ys ∧ ∀ l, H l = none → Q (.ref l) (upd H l (.tup ys))) ∨ (SqT K H p ys ∧ Q (.ref p) H))
theorem oo_tuple {X : Cx} : CallR X (.type "tuple") (rTupleQ X.K) := call_tuple_of
theorem cl_tuple {K : PySem.W.Frag} : CallL K (rTupleQ K) ddTuple := by
  intro so A H ds vs Qd Q gd da q c
  unfold ddTuple at q
  split at q
  · obtain ⟨v, rfl, a, xs, rfl, hs, qa⟩ := da.one'
    exact ⟨a, xs, rfl, .inr ⟨Sub.sqT gd.sub hs, c.now (d := .tup _) gd ⟨a, xs, rfl, hs, qa⟩ q⟩⟩
  · obtain ⟨v, rfl, a, xs, rfl, hs, qa⟩ := da.one'
    exact ⟨a, xs, rfl, .inl ⟨SqL.of (gd.sub _ _ hs), fun p hp => c.tup gd hp qa q⟩⟩
  · exact q.elim
/-- list(x): a new list -/
def nCB (rr : List D → (List D → Prop) → Prop) (t : DL) : DL := fun ρ Q E => t ρ (fun ds => rr ds Q) E
def nnList : List D → (List D → Prop) → Prop := fun ds Q => match ds with
  | [.tup l] => Q l
  | [.lst l] => Q l
  | [.scr ns] => Q (ns.map D.int)
  | _ => False
theorem daL_ints {K : PySem.W.Frag} {so : Option Addr} {A : Hp} : ∀ ns : List Int, DaL K so A (ns.map D.int) (ns.map V.int)
  | [] => rfl
  | n :: ns => ⟨.int n, ns.map V.int, rfl, rfl, daL_ints ns⟩
section
variable {X : Cx} {g : Gx} {EX : EXT} {e a b : Expr} {es : List Expr} {ra rb : DE} {pos p : Pos} {t : DL}
theorem pdn_list (hg : Gl X "list") (hm : X.mg "list" = none) (ha : PDA X g EX (e :: es) t)
    (he : starEach (e :: es) X.env = (false, eval e X.env) :: starEach es X.env := by rfl) (hpl : (backTo pos (starEach es X.env)).any (·.1) = false := by rfl) : PDN X g EX (.Call (.Name "list" p) (e :: es) [] pos) (nCB nnList t) :=
  ⟨(pe_callTy c_list hg hm bt_list ha.pa (by decide) (by decide) he hpl).imp fun σ H Q h => by
  obtain ⟨A, ρ, Qd, Ed, S, h, c, cx⟩ := h
  refine ⟨A, ρ, _, Ed, S, h, fun ds vs A1 H1 x1 das q => ?_, cx⟩
  have q : nnList ds Qd := q
  unfold nnList at q
  split at q
  · obtain ⟨v, rfl, a, xs, rfl, hs, qa⟩ := das.one'
    exact ⟨a, xs, rfl, .inr (Sub.sqT x1.good.sub hs), fun l hl => c _ xs l A1 H1 x1 hl qa q⟩
  · obtain ⟨v, rfl, a, xs, rfl, hs, qa⟩ := das.one'
    exact ⟨a, xs, rfl, .inl (SqL.of (x1.good.sub _ _ hs)), fun l hl => c _ xs l A1 H1 x1 hl qa q⟩
  · obtain ⟨v, rfl, a, rfl, hs⟩ := das.one'
    exact ⟨a, _, rfl, .inl (Sub.sqL x1.good.sub hs), fun l hl => c _ _ l A1 H1 x1 hl (daL_ints _) q⟩
  · exact q.elim⟩
end
end My
namespace My
open PySem PySem.Spec PyProof.Rows L2
/-! ### isinstance of built-in types -/
def isIn (d : D) (T : String) : Bool := match d with
  | .bl _ => T == "bool" || T == "int"
  | .int _ => T == "int"
  | .str _ => T == "str"
  | .tup _ => T == "tuple"
  | .lst _ => T == "list"
  | .dct _ _ => T == "dict"
  | _ => false
/-- plain data -/
def plainD : D → Bool
  | .ins _ _ _ => false
  | .scr _ => false
  | .sto => false
  | .exc _ => false
  | _ => true
def tyN : D → String
  | .non => "NoneType"
  | .bl _ => "bool"
  | .int _ => "int"
  | .str _ => "str"
  | .dct _ _ => "dict"
  | .tup _ => "tuple"
  | _ => "list"
theorem sqT_ty {K : PySem.W.Frag} {H : Hp} {a : Addr} {xs : List V} (h : SqT K H a xs) : TyX K H (.ref a) (.type "tuple") := by
  rcases h with (h | ⟨o, h⟩) | ⟨o, its, n, hk, hc, _⟩
  · exact .base (.tup h)
  · exact .fTuple h
  · exact .kTuple hk hc
theorem Da.ty {K : PySem.W.Frag} {so : Option Addr} {A H : Hp} {d : D} {v : V} (gd : Good K so A H) (da : Da K so A d v) (p : plainD d = true) : TyX K H v (.type (tyN d)) := by
  cases d with
  | non =>
    have da : v = _ := da
    subst da
    exact .base .non
  | bl b =>
    have da : v = _ := da
    subst da
    exact .base (.bl b)
  | int b =>
    have da : v = _ := da
    subst da
    exact .base (.int b)
  | str b =>
    have da : v = _ := da
    subst da
    exact .base (.str b)
  | dct ks vs =>
    obtain ⟨a, us, e, h, _⟩ := da
    subst e
    rcases h with ⟨kvs, h, _⟩ | ⟨kvs, h, _⟩
    · exact .base (.dK (gd.sub _ _ h))
    · exact .base (.dT (gd.sub _ _ h))
  | tup l =>
    obtain ⟨a, xs, e, h, _⟩ := da
    subst e
    exact sqT_ty (Sub.sqT gd.sub h)
  | lst l =>
    obtain ⟨a, xs, e, h, _⟩ := da
    subst e
    exact .base (.lst (gd.sub _ _ h))
  | ins _ _ _ => cases p
  | scr _ => cases p
  | sto => cases p
  | exc _ => cases p
theorem k_NoneType_int : kitB "NoneType" "int" = some false := by decide +kernel
theorem k_NoneType_str : kitB "NoneType" "str" = some false := by decide +kernel
theorem k_NoneType_bool : kitB "NoneType" "bool" = some false := by decide +kernel
theorem k_NoneType_list : kitB "NoneType" "list" = some false := by decide +kernel
theorem k_NoneType_tuple : kitB "NoneType" "tuple" = some false := by decide +kernel
theorem k_NoneType_dict : kitB "NoneType" "dict" = some false := by decide +kernel
theorem k_bool_int : kitB "bool" "int" = some true := by decide +kernel
theorem k_bool_str : kitB "bool" "str" = some false := by decide +kernel
theorem k_bool_bool : kitB "bool" "bool" = some true := by decide +kernel
theorem k_bool_list : kitB "bool" "list" = some false := by decide +kernel
theorem k_bool_tuple : kitB "bool" "tuple" = some false := by decide +kernel
theorem k_bool_dict : kitB "bool" "dict" = some false := by decide +kernel
theorem k_int_int : kitB "int" "int" = some true := by decide +kernel
theorem k_int_str : kitB "int" "str" = some false := by decide +kernel
theorem k_int_bool : kitB "int" "bool" = some false := by decide +kernel
theorem k_int_list : kitB "int" "list" = some false := by decide +kernel
theorem k_int_tuple : kitB "int" "tuple" = some false := by decide +kernel
theorem k_int_dict : kitB "int" "dict" = some false := by decide +kernel
theorem k_str_int : kitB "str" "int" = some false := by decide +kernel
theorem k_str_str : kitB "str" "str" = some true := by decide +kernel
theorem k_str_bool : kitB "str" "bool" = some false := by decide +kernel
theorem k_str_list : kitB "str" "list" = some false := by decide +kernel
theorem k_str_tuple : kitB "str" "tuple" = some false := by decide +kernel
theorem k_str_dict : kitB "str" "dict" = some false := by decide +kernel
theorem k_dict_int : kitB "dict" "int" = some false := by decide +kernel
theorem k_dict_str : kitB "dict" "str" = some false := by decide +kernel
theorem k_dict_bool : kitB "dict" "bool" = some false := by decide +kernel
theorem k_dict_list : kitB "dict" "list" = some false := by decide +kernel
theorem k_dict_tuple : kitB "dict" "tuple" = some false := by decide +kernel
theorem k_dict_dict : kitB "dict" "dict" = some true := by decide +kernel
theorem k_tuple_int : kitB "tuple" "int" = some false := by decide +kernel
theorem k_tuple_str : kitB "tuple" "str" = some false := by decide +kernel
theorem k_tuple_bool : kitB "tuple" "bool" = some false := by decide +kernel
theorem k_tuple_list : kitB "tuple" "list" = some false := by decide +kernel
theorem k_tuple_tuple : kitB "tuple" "tuple" = some true := by decide +kernel
theorem k_tuple_dict : kitB "tuple" "dict" = some false := by decide +kernel
theorem k_list_int : kitB "list" "int" = some false := by decide +kernel
theorem k_list_str : kitB "list" "str" = some false := by decide +kernel
theorem k_list_bool : kitB "list" "bool" = some false := by decide +kernel
theorem k_list_list : kitB "list" "list" = some true := by decide +kernel
theorem k_list_tuple : kitB "list" "tuple" = some false := by decide +kernel
theorem k_list_dict : kitB "list" "dict" = some false := by decide +kernel
/-- what is asked of a type's name -/
structure TyQ (T : String) : Prop where
  h : ∀ d : D, plainD d = true → kitB (tyN d) T = some (isIn d T)
theorem tq_int : TyQ "int" := ⟨fun d p => match d, p with
  | .non, _ => k_NoneType_int
  | .bl _, _ => k_bool_int
  | .int _, _ => k_int_int
  | .str _, _ => k_str_int
  | .dct _ _, _ => k_dict_int
  | .tup _, _ => k_tuple_int
  | .lst _, _ => k_list_int⟩
theorem tq_str : TyQ "str" := ⟨fun d p => match d, p with
  | .non, _ => k_NoneType_str
  | .bl _, _ => k_bool_str
  | .int _, _ => k_int_str
  | .str _, _ => k_str_str
  | .dct _ _, _ => k_dict_str
  | .tup _, _ => k_tuple_str
  | .lst _, _ => k_list_str⟩
theorem tq_bool : TyQ "bool" := ⟨fun d p => match d, p with
  | .non, _ => k_NoneType_bool
  | .bl _, _ => k_bool_bool
  | .int _, _ => k_int_bool
  | .str _, _ => k_str_bool
  | .dct _ _, _ => k_dict_bool
  | .tup _, _ => k_tuple_bool
  | .lst _, _ => k_list_bool⟩
theorem tq_list : TyQ "list" := ⟨fun d p => match d, p with
  | .non, _ => k_NoneType_list
  | .bl _, _ => k_bool_list
  | .int _, _ => k_int_list
  | .str _, _ => k_str_list
  | .dct _ _, _ => k_dict_list
  | .tup _, _ => k_tuple_list
  | .lst _, _ => k_list_list⟩
theorem tq_tuple : TyQ "tuple" := ⟨fun d p => match d, p with
  | .non, _ => k_NoneType_tuple
  | .bl _, _ => k_bool_tuple
  | .int _, _ => k_int_tuple
  | .str _, _ => k_str_tuple
  | .dct _ _, _ => k_dict_tuple
  | .tup _, _ => k_tuple_tuple
  | .lst _, _ => k_list_tuple⟩
theorem tq_dict : TyQ "dict" := ⟨fun d p => match d, p with
  | .non, _ => k_NoneType_dict
  | .bl _, _ => k_bool_dict
  | .int _, _ => k_int_dict
  | .str _, _ => k_str_dict
  | .dct _ _, _ => k_dict_dict
  | .tup _, _ => k_tuple_dict
  | .lst _, _ => k_list_dict⟩
def ddIsi (T : String) (d : D) (Q : D → Prop) : Prop := plainD d = true ∧ Q (.bl (isIn d T))
section
variable {X : Cx} {g : Gx} {EX : EXT} {e a b : Expr} {es : List Expr} {ra rb : DE} {pos p : Pos} {t : DL} {T : String}
theorem pd_isi (hg : Gl X "isinstance") (hm : X.mg "isinstance" = none) (ha : PD X g EX a ra) (hb : PE X b (tC (.ty T))) (hT : TyQ T)
    (he : starEach [a, b] X.env = (false, eval a X.env) :: starEach [b] X.env := by rfl) (hs : starEach [b] X.env = (false, eval b X.env) :: starEach [] X.env := by rfl) (hpl : (backTo pos (starEach [b] X.env)).any (·.1) = false := by rfl) :
    PD X g EX (.Call (.Name "isinstance" p) [a, b] [] pos) (dUn (ddIsi T) ra) :=
  ⟨(pe_callB call_isi hg hm bt_isinstance (pa_cons ha.pe (pa_cons hb pa_nil hs) he) (by decide) (by decide) he hpl).imp fun σ H Q h => by
  obtain ⟨A, ρ, Qd, Ed, S, h, c, cx⟩ := h
  refine ⟨A, ρ, _, Ed, S, h, fun d v A1 H1 x1 da q => ?_, cx⟩
  have q : ddIsi T d Qd := q
  exact ⟨v, .ty T, _, _, _, rfl, .ty T, da.ty x1.good q.1, kit_ty (hT.h d q.1), (c.ext x1).nowB x1.good q.2⟩⟩
end
/-! ### what a def promises, over data -/
abbrev DF := List D → (D → Prop) → (XD → Prop) → Prop
def spD (K : PySem.W.Frag) (n : Nat) (m : DF) : Sp := fun vs H Q E => ∃ so A ds Qd Ed, Good K so A H ∧ ds.length = n ∧ DaL K so A ds vs ∧ m ds Qd Ed ∧ Cont K so A H Qd Q ∧ ContX K so A H Ed E
theorem spD_len {K : PySem.W.Frag} {n : Nat} {m : DF} : ∀ vs H Q E, spD K n m vs H Q E → vs.length = n := fun vs H Q E ⟨_, _, _, _, _, _, h, da, _⟩ => by rw [da.len, h]
def dCall (n : Nat) (m : DF) (dd : List D) (t : DL) : DE := fun ρ Q E => t ρ (fun ds => (ds ++ dd).length = n ∧ m (ds ++ dd) Q E) E
section
variable {X : Cx} {g : Gx} {EX : EXT} {e a b : Expr} {es : List Expr} {ra rb : DE} {pos p : Pos} {t : DL} {lv : Nat} {f : Addr} {fd : FuncData} {ps : List Str} {m : DF} {x : Str} {CX : CXT}
theorem pd_call (F : FnOk X.prog X.w X.K X.mg X.base CX lv f fd ps (spD X.K ps.length m)) (hr : Room lv X.A) (hg : Gl X x) (hm : X.mg x = some (.ref f)) (hk : PySem.W.keepIn X.K (.ref f) = true) (hb : Binds X.K fd ps []) (hx : ∀ σ, PassesAt CX X σ (EX σ))
    (ha : PDA X g EX (e :: es) t) (hdb : (x == ("__debug__" : Str)) = false := by decide) (he : starEach (e :: es) X.env = (false, eval e X.env) :: starEach es X.env := by rfl) (hpl : (backTo pos (starEach es X.env)).any (·.1) = false := by rfl) :
    PD X g EX (.Call (.Name x p) (e :: es) [] pos) (dCall ps.length m [] t) := ⟨(pe_callS F hr hg hm hk hb hx ha.pa hdb he hpl).imp fun σ H Q h => by
  obtain ⟨A, ρ, Qd, Ed, S, h, c, cx⟩ := h
  refine ⟨A, ρ, _, Ed, S, h, fun ds vs A1 H1 x1 das q => ?_, cx⟩
  obtain ⟨hl, q⟩ := q
  rw [List.append_nil] at hl q
  exact ⟨g.so, A1, ds, Qd, Ed, x1.good, hl, das, q, c.ext x1, cx.ext x1⟩⟩
/-- with default arguments -/
theorem pd_callD {dds : List D} {dvs : List V} {dus : List Value} (F : FnOk X.prog X.w X.K X.mg X.base CX lv f fd ps (spD X.K ps.length m)) (hr : Room lv X.A) (hg : Gl X x) (hm : X.mg x = some (.ref f)) (hk : PySem.W.keepIn X.K (.ref f) = true) (hb : Binds X.K fd ps dus) (hv : Vals dvs dus)
    (hd : ∀ so A, DaL X.K so A dds dvs) (hx : ∀ σ, PassesAt CX X σ (EX σ))
    (ha : PDA X g EX (e :: es) t) (hdb : (x == ("__debug__" : Str)) = false := by decide) (he : starEach (e :: es) X.env = (false, eval e X.env) :: starEach es X.env := by rfl) (hpl : (backTo pos (starEach es X.env)).any (·.1) = false := by rfl) :
    PD X g EX (.Call (.Name x p) (e :: es) [] pos) (dCall ps.length m dds t) := ⟨(pe_callSD F hr hg hm hk hb hv hx ha.pa hdb he hpl).imp fun σ H Q h => by
  obtain ⟨A, ρ, Qd, Ed, S, h, c, cx⟩ := h
  refine ⟨A, ρ, _, Ed, S, h, fun ds vs A1 H1 x1 das q => ?_, cx⟩
  obtain ⟨hl, q⟩ := q
  exact ⟨g.so, A1, ds ++ dds, Qd, Ed, x1.good, hl, das.app (hd _ _), q, c.ext x1, cx.ext x1⟩⟩
end
theorem passN0 {X : Cx} {P : Program} {w : World} (σ : L2.St) : PassesAt (L2N.CX P w) X σ (fun _ _ _ => False) := fun _ _ _ _ _ _ c => by
  obtain ⟨_, _, _, _, _, _, _, _, _, _, _, _, z⟩ := c
  exact z.elim
theorem pass00 {X : Cx} (E : EXT) (σ : L2.St) : PassesAt CX0 X σ (E σ) := fun _ _ _ _ _ _ c => c.elim
/-! ### statements -/
structure DEnds where
  nx : DEnv → Prop
  rt : D → Prop
  bk : DEnv → Prop
  ct : DEnv → Prop
  ex : XD → Prop
  fr : Prop := False
abbrev DS := DEnds → DEnv → Prop
structure EndsOk (K : PySem.W.Frag) (g : Gx) (EX : EXT) (n : Nat) (B : Hp) (DD : DEnds) (De : Ends) : Prop where
  nx : ∀ A H σ ρ, Stt K g A H σ ρ → ρ.length = n → Sub B A → DD.nx ρ → De.nx σ H
  rt : ∀ A H d v, Ext K g.so g.Ai g.Hi A H → Da K g.so A d v → DD.rt d → De.rt v H
  bk : ∀ A H σ ρ, Stt K g A H σ ρ → ρ.length = n → Sub B A → DD.bk ρ → De.bk σ H
  ct : ∀ A H σ ρ, Stt K g A H σ ρ → ρ.length = n → Sub B A → DD.ct ρ → De.ct σ H
  ex : ∀ σ, σ.length = n → ContX K g.so g.Ai g.Hi DD.ex (EX σ)
  fr : DD.fr → ∀ H, De.rt (.bl true) H
def lS (K : PySem.W.Frag) (g : Gx) (EX : EXT) (r : DS) : TS := fun De σ H => ∃ A ρ DD, Stt K g A H σ ρ ∧ r DD ρ ∧ EndsOk K g EX ρ.length A DD De
structure PDS (X : Cx) (g : Gx) (EX : EXT) (st : Stmt) (r : DS) : Prop where
  ps : PS X st (lS X.K g EX r)
structure PDSs (X : Cx) (g : Gx) (EX : EXT) (st : List Stmt) (r : DS) : Prop where
  pss : PSs X st (lS X.K g EX r)
theorem _root_.L2.PS.imp {X : Cx} {st : Stmt} {t t' : TS} (h : PS X st t) (w : ∀ De σ H, t' De σ H → t De σ H) : PS X st t' := ⟨fun pins s σ H D I q => h.run pins s σ H D I (w D σ H q)⟩
theorem _root_.L2.PSs.imp {X : Cx} {st : List Stmt} {t t' : TS} (h : PSs X st t) (w : ∀ De σ H, t' De σ H → t De σ H) : PSs X st t' := ⟨fun pins s σ H D I q => h.run pins s σ H D I (w D σ H q)⟩
theorem Sub.rfl' {A : Hp} : Sub A A := fun _ _ h => h
theorem Sub.trans {A B C : Hp} (x : Sub A B) (y : Sub B C) : Sub A C := fun b o h => y b o (x b o h)
theorem EndsOk.up {K : PySem.W.Frag} {g : Gx} {EX : EXT} {n : Nat} {B B' : Hp} {DD : DEnds} {De : Ends} (k : EndsOk K g EX n B DD De) (x : Sub B B') : EndsOk K g EX n B' DD De :=
  ⟨fun A H σ ρ S l sb => k.nx A H σ ρ S l (x.trans sb), k.rt, fun A H σ ρ S l sb => k.bk A H σ ρ S l (x.trans sb), fun A H σ ρ S l sb => k.ct A H σ ρ S l (x.trans sb), k.ex, k.fr⟩
theorem EndsOk.cx {K : PySem.W.Frag} {g : Gx} {EX : EXT} {B : Hp} {DD : DEnds} {De : Ends} {A H : Hp} {σ : L2.St} {ρ : DEnv} (k : EndsOk K g EX ρ.length B DD De) (S : Stt K g A H σ ρ) : ContX K g.so A H DD.ex (EX σ) := (k.ex σ S.e.len).ext S.x
theorem Stt.setFr {K : PySem.W.Frag} {g : Gx} {A H : Hp} {σ : L2.St} {ρ : DEnv} {i : Nat} {d : D} {v : V} (S : Stt K g A H σ ρ) (q : Da K g.so A d v) : Stt K g A H (σ.set i (some v)) (ρ.set i (.fr d)) := ⟨S.x, S.e.setFr q⟩
theorem Stt.setOw {K : PySem.W.Frag} {g : Gx} {A H : Hp} {σ : L2.St} {ρ : DEnv} {i : Nat} {p : Addr} {l : List D} {xs : List V} (S : Stt K g A H σ ρ) (hp : H p = none) (q : DaL K g.so A l xs) : Stt K g A (upd H p (.lst xs)) (σ.set i (some (.ref p))) (ρ.set i (.ow l)) :=
  ⟨S.x.trans (Ext.open_ S.good hp), S.e.setOw S.x hp q⟩
section
variable {X : Cx} {g : Gx} {EX : EXT} {e a b : Expr} {es : List Expr} {r ra rb : DE} {pos p : Pos} {t : DL} {st : Stmt} {rest : List Stmt} {rs rs' : DS}
def sSkip : DS := fun DD ρ => DD.nx ρ
def sSeq (r u : DS) : DS := fun DD ρ => r { DD with nx := u DD } ρ
theorem pds_nil : PDSs X g EX [] sSkip := ⟨pss_nil.imp fun De σ H h => by
  obtain ⟨A, ρ, DD, S, h, k⟩ := h
  exact k.nx A H σ ρ S rfl Sub.rfl' h⟩
theorem pds_cons (h1 : PDS X g EX st rs) (h2 : PDSs X g EX rest rs') : PDSs X g EX (st :: rest) (sSeq rs rs') := ⟨(pss_cons h1.ps h2.pss).imp fun De σ H h => by
  obtain ⟨A, ρ, DD, S, h, k⟩ := h
  refine ⟨A, ρ, { DD with nx := rs' DD }, S, h, ⟨fun A1 H1 σ1 ρ1 S1 l sb q => ⟨A1, ρ1, DD, S1, q, by rw [l]; exact k.up sb⟩, k.rt, k.bk, k.ct, k.ex, k.fr⟩⟩⟩
theorem pds_one (h1 : PDS X g EX st rs) : PDSs X g EX [st] rs := ⟨pss_one h1.ps⟩
theorem pds_pass : PDS X g EX (.Pass pos) sSkip := ⟨ps_pass.imp fun De σ H h => by
  obtain ⟨A, ρ, DD, S, h, k⟩ := h
  exact k.nx A H σ ρ S rfl Sub.rfl' h⟩
def sBreak : DS := fun DD ρ => DD.bk ρ
def sCont : DS := fun DD ρ => DD.ct ρ
theorem pds_break : PDS X g EX (.Break pos) sBreak := ⟨ps_break.imp fun De σ H h => by
  obtain ⟨A, ρ, DD, S, h, k⟩ := h
  exact k.bk A H σ ρ S rfl Sub.rfl' h⟩
theorem pds_cont : PDS X g EX (.Continue pos) sCont := ⟨ps_continue.imp fun De σ H h => by
  obtain ⟨A, ρ, DD, S, h, k⟩ := h
  exact k.ct A H σ ρ S rfl Sub.rfl' h⟩
theorem pds_doc {x j pos'} : PDS X g EX (.Expr (.Constant (.str x) j pos') pos) sSkip := ⟨ps_doc.imp fun De σ H h => by
  obtain ⟨A, ρ, DD, S, h, k⟩ := h
  exact k.nx A H σ ρ S rfl Sub.rfl' h⟩
def sExpr (r : DE) : DS := fun DD ρ => r ρ (fun _ => DD.nx ρ) DD.ex
theorem pds_expr (he : PD X g EX e r) (hs : swapsWith e none pos.line X.env = pure false := by rfl) : PDS X g EX (.Expr e pos) (sExpr r) := ⟨(ps_expr he.pe hs).imp fun De σ H h => by
  obtain ⟨A, ρ, DD, S, h, k⟩ := h
  exact ⟨A, ρ, _, _, S, h, fun d v A1 H1 x1 da q => k.nx A1 H1 σ ρ (S.ext x1) rfl x1.mono q, k.cx S⟩⟩
def sRet (r : DE) : DS := fun DD ρ => r ρ DD.rt DD.ex
theorem pds_ret (he : PD X g EX e r) : PDS X g EX (.Return (some e) pos) (sRet r) := ⟨(ps_ret he.pe).imp fun De σ H h => by
  obtain ⟨A, ρ, DD, S, h, k⟩ := h
  exact ⟨A, ρ, _, _, S, h, fun d v A1 H1 x1 da q => k.rt A1 H1 d v (S.x.trans x1) da q, k.cx S⟩⟩
def sRetN : DS := fun DD _ => DD.rt .non
theorem pds_retN : PDS X g EX (.Return none pos) sRetN := ⟨ps_retN.imp fun De σ H h => by
  obtain ⟨A, ρ, DD, S, h, k⟩ := h
  exact k.rt A H .non .non S.x rfl h⟩
def sIf (c : DT) (r u : DS) : DS := fun DD ρ => c ρ (fun b => if b = true then r DD ρ else u DD ρ) DD.ex
theorem pds_if {c : Expr} {x y : List Stmt} {tc : DT} (hc : PDT X g EX c tc) (ha : PDSs X g EX x rs) (hb : PDSs X g EX y rs') : PDS X g EX (.If c x y pos) (sIf tc rs rs') := ⟨(ps_if hc.pt ha.pss hb.pss).imp fun De σ H h => by
  obtain ⟨A, ρ, DD, S, h, k⟩ := h
  refine ⟨A, ρ, _, _, S, h, fun b A1 H1 x1 q => ?_, k.cx S⟩
  cases b with
  | true => exact iteT ⟨A1, ρ, DD, S.ext x1, outT q, k.up x1.mono⟩
  | false => exact iteF ⟨A1, ρ, DD, S.ext x1, outF q, k.up x1.mono⟩⟩
def sNever : DS := fun _ _ => False
theorem pds_never : PDSs X g EX rest sNever := ⟨pss_never.imp fun De σ H h => by
  obtain ⟨A, ρ, DD, S, h, k⟩ := h
  exact h⟩
/-! ### targets -/
abbrev DG := D → DEnv → (DEnv → Prop) → Prop
abbrev DGs := List D → DEnv → (DEnv → Prop) → Prop
def lG (K : PySem.W.Frag) (g : Gx) (r : DG) : TG := fun v σ H R => ∃ A ρ d Rd, Stt K g A H σ ρ ∧ Da K g.so A d v ∧ r d ρ Rd ∧ ∀ σ' ρ', Stt K g A H σ' ρ' → ρ'.length = ρ.length → Rd ρ' → R σ' H
def lGs (K : PySem.W.Frag) (g : Gx) (r : DGs) : TGs := fun vs σ H R => ∃ A ρ ds Rd, Stt K g A H σ ρ ∧ DaL K g.so A ds vs ∧ r ds ρ Rd ∧ ∀ σ' ρ', Stt K g A H σ' ρ' → ρ'.length = ρ.length → Rd ρ' → R σ' H
structure PDG (X : Cx) (g : Gx) (e : Expr) (r : DG) : Prop where
  pg : PG X e (lG X.K g r)
structure PDGs (X : Cx) (g : Gx) (es : List Expr) (r : DGs) : Prop where
  pgs : PGs X es (lGs X.K g r)
theorem _root_.L2.PG.imp {X : Cx} {e : Expr} {t t' : TG} (h : PG X e t) (w : ∀ v σ H R, t' v σ H R → t v σ H R) : PG X e t' := ⟨fun pins s σ H v u Q I r q => h.run pins s σ H v u Q I r (w v σ H Q q)⟩
theorem _root_.L2.PGs.imp {X : Cx} {e : List Expr} {t t' : TGs} (h : PGs X e t) (w : ∀ v σ H R, t' v σ H R → t v σ H R) : PGs X e t' := ⟨fun pins s σ H v u Q I r q => h.run pins s σ H v u Q I r (w v σ H Q q)⟩
def gdName (i : Nat) : DG := fun d ρ R => R (ρ.set i (.fr d))
theorem pdg_name {i : Nat} (h : PG X e (gName i)) : PDG X g e (gdName i) := ⟨h.imp fun v σ H R q => by
  obtain ⟨A, ρ, d, Rd, S, da, q, k⟩ := q
  exact k _ _ (S.setFr da) (List.length_set ..) q⟩
def gdNil : DGs := fun ds ρ R => ds = [] ∧ R ρ
def gdCons (t : DG) (u : DGs) : DGs := fun ds ρ R => match ds with
  | d :: r => t d ρ fun ρ' => u r ρ' R
  | [] => False
theorem pdgs_nil : PDGs X g [] gdNil := ⟨pgs_nil.imp fun v σ H R q => by
  obtain ⟨A, ρ, ds, Rd, S, da, q, k⟩ := q
  obtain ⟨rfl, q⟩ := q
  exact ⟨da, k _ _ S rfl q⟩⟩
theorem pdgs_cons {gr : DG} {gu : DGs} (h1 : PDG X g e gr) (h2 : PDGs X g es gu) (hs : (assignEach (e :: es) X.env).map (·.2) = assign e X.env :: (assignEach es X.env).map (·.2) := by rfl) : PDGs X g (e :: es) (gdCons gr gu) := ⟨(pgs_cons h1.pg h2.pgs hs).imp fun v σ H R q => by
  obtain ⟨A, ρ, ds, Rd, S, da, q, k⟩ := q
  cases ds with
  | nil => exact q.elim
  | cons d dr =>
    obtain ⟨x, xr, e1, d1, d2⟩ := da
    subst e1
    refine ⟨x, xr, rfl, A, ρ, d, _, S, d1, q, fun σ1 ρ1 S1 l q1 => ?_⟩
    exact ⟨A, ρ1, dr, Rd, S1, d2, q1, fun σ2 ρ2 S2 l2 q2 => k σ2 ρ2 S2 (l2.trans l) q2⟩⟩
def gdTup (n : Nat) (u : DGs) : DG := fun d ρ R => match d with
  | .tup l => l.length = n ∧ u l ρ R
  | _ => False
theorem pdg_tup {gu : DGs} {n k : Nat} (hc : X.calm = true) (h : PDGs X g es gu) (hn : (assignEach es X.env).length = n := by rfl) (hst : (assignEach es X.env).findIdx? (·.1) = none := by rfl) : PDG X g (.Tuple es k pos) (gdTup n gu) := ⟨(pg_tup hc h.pgs hn hst).imp fun v σ H R q => by
  obtain ⟨A, ρ, d, Rd, S, da, q, k⟩ := q
  unfold gdTup at q
  split at q
  · obtain ⟨a, xs, rfl, hs, qa⟩ := da
    exact ⟨a, xs, rfl, Sub.sqT S.good.sub hs, by rw [qa.len]; exact q.1, A, ρ, _, Rd, S, qa, q.2, k⟩
  · exact q.elim⟩
def sAsg (r : DE) (gr : DG) : DS := fun DD ρ => r ρ (fun d => gr d ρ DD.nx) DD.ex
theorem pds_asg {tg : Expr} {gr : DG} (he : PD X g EX e r) (hg : PDG X g tg gr) (hs : swapsWithSole [tg] e pos.line X.env = pure false := by rfl) (hw : swappedStores [tg] e X.env = pure none := by rfl)
    (h1 : (assignEach [tg] X.env).map (·.2) = [assign tg X.env] := by rfl) : PDS X g EX (.Assign [tg] e pos) (sAsg r gr) := ⟨(ps_asg he.pe hg.pg hs hw h1).imp fun De σ H h => by
  obtain ⟨A, ρ, DD, S, h, k⟩ := h
  refine ⟨A, ρ, _, _, S, h, fun d v A1 H1 x1 da q => ?_, k.cx S⟩
  exact ⟨A1, ρ, d, _, S.ext x1, da, q, fun σ' ρ' S' l q' => k.nx A1 H1 σ' ρ' S' l x1.mono q'⟩⟩
theorem pds_set {i : Nat} {x : Str} {p' : Pos} (hN : X.N.Nodup) (hi : X.N[i]? = some x) (hx : Loc X.env.scope x) (he : PD X g EX e r) (hs : swapsWith e (some (.Name x p')) pos.line X.env = pure false := by rfl) (hf : X.fn x = true ∨ X.env.scope.names.lookup x = some .local := by first | exact .inl rfl | exact .inr rfl | assumption) :
    PDS X g EX (.Assign [.Name x p'] e pos) (sAsg r (gdName i)) := ⟨(ps_set hN hi hx he.pe hs hf).imp fun De σ H h => by
  obtain ⟨A, ρ, DD, S, h, k⟩ := h
  refine ⟨A, ρ, _, _, S, h, fun d v A1 H1 x1 da q => ?_, k.cx S⟩
  exact k.nx A1 H1 _ _ ((S.ext x1).setFr da) (List.length_set ..) x1.mono q⟩
/-- name = a new list, owned -/
def sSetN (i : Nat) (r : DL) : DS := fun DD ρ => r ρ (fun l => DD.nx (ρ.set i (.ow l))) DD.ex
theorem pds_setN {i : Nat} {x : Str} {p' : Pos} {rn : DL} (hN : X.N.Nodup) (hi : X.N[i]? = some x) (hx : Loc X.env.scope x) (he : PDN X g EX e rn) (hs : swapsWith e (some (.Name x p')) pos.line X.env = pure false := by rfl) (hf : X.fn x = true ∨ X.env.scope.names.lookup x = some .local := by first | exact .inl rfl | exact .inr rfl | assumption) :
    PDS X g EX (.Assign [.Name x p'] e pos) (sSetN i rn) := ⟨(ps_set hN hi hx he.pe hs hf).imp fun De σ H h => by
  obtain ⟨A, ρ, DD, S, h, k⟩ := h
  refine ⟨A, ρ, _, _, S, h, fun l xs p A1 H1 x1 hp da q => ?_, k.cx S⟩
  exact k.nx _ _ _ _ ((S.ext x1).setOw hp da) (List.length_set ..) x1.mono q⟩
def sPar (i j : Nat) (t : DL) : DS := fun DD ρ => t ρ (fun ds => match ds with
  | [a, b] => DD.nx ((ρ.set i (.fr a)).set j (.fr b))
  | _ => False) DD.ex
theorem pds_par {i j : Nat} {x y : Str} {px py pt : Pos} {kt k2 pt2} (hc : X.calm = true) (hN : X.N.Nodup) (hi : X.N[i]? = some x) (hj : X.N[j]? = some y) (hij : i ≠ j)
    (hx : X.env.scope.names.lookup x = some .local) (hy : X.env.scope.names.lookup y = some .local) (ha : PDA X g EX [a, b] t)
    (hw : swappedStores [.Tuple [.Name x px, .Name y py] kt pt] (.Tuple [a, b] k2 pt2) X.env = pure (some [x, y]))
    (hs : swapsWithSole [.Tuple [.Name x px, .Name y py] kt pt] (.Tuple [a, b] k2 pt2) pos.line X.env = pure false := by rfl) :
    PDS X g EX (.Assign [.Tuple [.Name x px, .Name y py] kt pt] (.Tuple [a, b] k2 pt2) pos) (sPar i j t) := ⟨(ps_par hc hN hi hj hij hx hy ha.pa hw hs).imp fun De σ H h => by
  obtain ⟨A, ρ, DD, S, h, k⟩ := h
  refine ⟨A, ρ, _, _, S, h, fun ds vs A1 H1 x1 das q => ?_, k.cx S⟩
  dsimp only at q
  split at q
  · obtain ⟨v, w, rfl, dv, dw⟩ := das.two'
    exact ⟨v, w, rfl, k.nx A1 H1 _ _ (((S.ext x1).setFr dv).setFr dw) (by rw [List.length_set, List.length_set]) x1.mono q⟩
  · exact q.elim⟩
end
end My
namespace My
open PySem PySem.Spec PyProof.Rows L2
/-! ### a def -/
def startD (N : List Str) (ds : List D) : DEnv := ds.map Sl.fr ++ List.replicate (N.length - ds.length) .no
theorem startOk {K : PySem.W.Frag} {so : Option Addr} {A H : Hp} {N : List Str} : ∀ {ds : List D} {vs : List V}, Good K so A H → DaL K so A ds vs → EnvOk K so H A H (L2.start N vs) (startD N ds) := by
  intro ds vs gd da
  have hl := da.len
  refine ⟨?_, fun i sl e => ?_, fun i j sl sl' a n e1 e2 o1 o2 s1 s2 => ?_⟩
  · unfold L2.start startD
    rw [List.length_append, List.length_append, List.length_map, List.length_map, List.length_replicate, List.length_replicate, hl]
  · unfold startD at e
    by_cases hi : i < ds.length
    · rw [List.getElem?_append_left (by rw [List.length_map]; exact hi), List.getElem?_map, List.getElem?_eq_getElem hi] at e
      cases e
      obtain ⟨v, e3, dv⟩ := da.get (List.getElem?_eq_getElem hi)
      refine ⟨some v, ?_, v, rfl, dv⟩
      unfold L2.start
      rw [List.getElem?_append_left (by rw [List.length_map, hl]; exact hi), List.getElem?_map, e3]
      rfl
    · rw [List.getElem?_append_right (by rw [List.length_map]; omega), List.length_map] at e
      have hz : sl = .no := by
        have := List.getElem?_eq_some_iff.mp e
        obtain ⟨h1, h2⟩ := this
        rw [List.getElem_replicate] at h2
        exact h2.symm
      subst hz
      have hn : i - ds.length < N.length - ds.length := by
        have := (List.getElem?_eq_some_iff.mp e).1
        rw [List.length_replicate] at this
        exact this
      refine ⟨none, ?_, trivial⟩
      unfold L2.start
      rw [List.getElem?_append_right (by rw [List.length_map, hl]; omega), List.length_map, hl, List.getElem?_replicate, if_pos hn]
  · have noOwn : ∀ (k : Nat) (sl : Sl), (startD N ds)[k]? = some sl → sl.own = false := fun k sl e => by
      unfold startD at e
      by_cases hi : k < ds.length
      · rw [List.getElem?_append_left (by rw [List.length_map]; exact hi), List.getElem?_map, List.getElem?_eq_getElem hi] at e
        cases e
        rfl
      · rw [List.getElem?_append_right (by rw [List.length_map]; omega)] at e
        obtain ⟨h1, h2⟩ := List.getElem?_eq_some_iff.mp e
        rw [List.getElem_replicate] at h2
        rw [← h2]
        rfl
    rw [noOwn i sl e1] at o1
    cases o1
section
variable {P : Program} {w : World} {K : PySem.W.Frag} {mg : Str → Option Value} {base : Heap}
theorem Df.okD {x : Str} {st : Stmt} {N ps : List Str} {lv : Nat} {m : DF} (D : Df K mg x st ps) (S : FnScope N ps (defScope st))
    (body : ∀ (cdv : Value) (A : Around) (outer : List PySem.Env) (s : Shared) (H : Hp) (E : XK) (so : Option Addr) (A0 : Hp), Room lv (A.deeper (envOfC x (defScope st) s.heap.objs.size D.f cdv)) →
      L2N.Takes (cxOf (L2N.CX P w) P w K mg base N x (defScope st) D.f cdv A outer s H E) (fun c d _ H => E c d H) →
      PassesOwn (model P w) (A.deeper (envOfC x (defScope st) s.heap.objs.size D.f cdv)) (envOfC x (defScope st) s.heap.objs.size D.f cdv) (cxOf (L2N.CX P w) P w K mg base N x (defScope st) D.f cdv A outer s H E).xe →
      ∃ r, PDSs (cxOf (L2N.CX P w) P w K mg base N x (defScope st) D.f cdv A outer s H E) ⟨so, A0, H⟩ (fun _ => E) (defBody st) r ∧
        ∀ ds Qd Ed, ds.length = ps.length → m ds Qd Ed → r ⟨fun _ => Qd .non, Qd, fun _ => False, fun _ => False, Ed, False⟩ (startD N ds)) :
    FnOk P w K mg base (L2N.CX P w) (lv + 1) D.f D.fd ps (spD K ps.length m) := by
  refine D.okN S spD_len fun cdv A outer s H vs Q E room rd => ?_
  obtain ⟨so, A0, ds, Qd, Ed, gd, hl, da, h, c, cx⟩ := rd
  obtain ⟨r, hr, k⟩ := body cdv A outer s H E so A0 room (L2N.takes_of rfl rfl rfl rfl) PassesOwn.leaving
  refine ⟨_, hr.pss, A0, startD N ds, ⟨fun _ => Qd .non, Qd, fun _ => False, fun _ => False, Ed, False⟩, ⟨Ext.refl gd, startOk gd da⟩, k ds Qd Ed hl h, ⟨fun A1 H1 σ ρ S1 _ _ q => ?_, fun A1 H1 d v x1 d1 q => c d v A1 H1 x1 d1 q, fun _ _ _ _ _ _ _ q => q.elim, fun _ _ _ _ _ _ _ q => q.elim, fun σ _ => cx, fun z => z.elim⟩⟩
  exact c .non .non A1 H1 S1.x rfl q
end
/-! ### loops -/
/-- the turns of J go over ds -/
structure Turns (K : PySem.W.Frag) (so : Option Addr) (A : Hp) (J : It) (ds : List D) : Prop where
  go : ∀ (A' H' : Hp), Sub A A' → Good K so A' H' → ∀ i d, ds[i]? = some d → J.go i H' ∧ ∀ x H2, J.yld i H' x H2 → ∃ A2, Ext K so A' H' A2 H2 ∧ Da K so A2 d x
  stop : ∀ (A' H' : Hp), Sub A A' → Good K so A' H' → J.stop ds.length H'
def lI (K : PySem.W.Frag) (g : Gx) (EX : EXT) (r : DL) : TI := fun σ H R => ∃ A ρ Qd Ed, Stt K g A H σ ρ ∧ r ρ Qd Ed ∧ ContX K g.so A H Ed (EX σ) ∧ ∀ ds J A' H', Ext K g.so A H A' H' → Turns K g.so A' J ds → Qd ds → R J H'
structure PDI (X : Cx) (g : Gx) (EX : EXT) (tg iter : Expr) (r : DL) : Prop where
  pi : PI X tg iter (lI X.K g EX r)
theorem _root_.L2.PI.imp {X : Cx} {tg it : Expr} {t t' : TI} (h : PI X tg it t) (w : ∀ σ H R, t' σ H R → t σ H R) : PI X tg it t' := ⟨fun pins s σ H R I q => h.run pins s σ H R I (w σ H R q)⟩
theorem turns_list {K : PySem.W.Frag} {so : Option Addr} {A : Hp} {a : Addr} {xs : List V} {ds : List D} (h : SqL K A a xs) (q : DaL K so A ds xs) : Turns K so A (Itl K a) ds := by
  refine ⟨fun A' H' sb gd i d e => ?_, fun A' H' sb gd => ⟨xs, Sub.sqL gd.sub (Sub.sqL sb h), by rw [q.len]; exact Nat.le_refl _⟩⟩
  obtain ⟨v, e2, dv⟩ := q.get e
  have hs := Sub.sqL gd.sub (Sub.sqL sb h)
  refine ⟨⟨xs, v, hs, e2⟩, fun x H2 y => ?_⟩
  obtain ⟨e3, y⟩ := y
  subst e3
  have z := y xs hs
  rw [e2] at z
  cases z
  exact ⟨A', Ext.refl gd, Da.mono sb _ _ dv⟩
theorem turns_tup {K : PySem.W.Frag} {so : Option Addr} {A : Hp} {a : Addr} {xs : List V} {ds : List D} (h : SqT K A a xs) (q : DaL K so A ds xs) : Turns K so A (Itt K a) ds := by
  refine ⟨fun A' H' sb gd i d e => ?_, fun A' H' sb gd => ⟨xs, Sub.sqT gd.sub (Sub.sqT sb h), by rw [q.len]; exact Nat.le_refl _⟩⟩
  obtain ⟨v, e2, dv⟩ := q.get e
  have hs := Sub.sqT gd.sub (Sub.sqT sb h)
  refine ⟨⟨xs, v, hs, e2⟩, fun x H2 y => ?_⟩
  obtain ⟨e3, y⟩ := y
  subst e3
  have z := y xs hs
  rw [e2] at z
  cases z
  exact ⟨A', Ext.refl gd, Da.mono sb _ _ dv⟩
def rangeD (lo : Int) (n : Nat) : List D := (List.range n).map fun i => .int (lo + (i : Nat))
theorem turns_range {K : PySem.W.Frag} {so : Option Addr} {A : Hp} {lo : Int} {n : Nat} : Turns K so A (Itr lo n) (rangeD lo n) := by
  refine ⟨fun A' H' sb gd i d e => ?_, fun A' H' sb gd => ?_⟩
  · unfold rangeD at e
    rw [List.getElem?_map] at e
    have hi : i < n := by
      cases h : (List.range n)[i]? with
      | none =>
        rw [h] at e
        cases e
      | some j =>
        have := (List.getElem?_eq_some_iff.mp h).1
        rw [List.length_range] at this
        exact this
    rw [List.getElem?_range hi] at e
    cases e
    refine ⟨hi, fun x H2 y => ?_⟩
    obtain ⟨rfl, rfl⟩ := y
    exact ⟨A', Ext.refl gd, rfl⟩
  · unfold rangeD
    rw [List.length_map, List.length_range]
    exact Nat.le_refl _
/-- enumerate of a list -/
def enumD : Nat → List D → List D
  | _, [] => []
  | k, d :: l => .tup [.int (k : Nat), d] :: enumD (k + 1) l
theorem enumD_len : ∀ (l : List D) (k : Nat), (enumD k l).length = l.length
  | [], _ => rfl
  | d :: l, k => by
    show (enumD (k + 1) l).length + 1 = l.length + 1
    rw [enumD_len l]
theorem enumD_get : ∀ (l : List D) (k i : Nat), (enumD k l)[i]? = l[i]?.map fun d => .tup [.int ((k + i : Nat) : Int), d]
  | [], _, _ => rfl
  | d :: l, k, 0 => rfl
  | d :: l, k, i + 1 => by
    show (enumD (k + 1) l)[i]? = _
    rw [enumD_get l (k + 1) i]
    show _ = l[i]?.map _
    have e : k + 1 + i = k + (i + 1) := by omega
    rw [e]
theorem turns_enum {K : PySem.W.Frag} {so : Option Addr} {A : Hp} {a : Addr} {xs : List V} {ds : List D} (h : SqL K A a xs) (q : DaL K so A ds xs) : Turns K so A (Ite K a) (enumD 0 ds) := by
  refine ⟨fun A' H' sb gd i d e => ?_, fun A' H' sb gd => ⟨xs, Sub.sqL gd.sub (Sub.sqL sb h), by rw [q.len, enumD_len]; exact Nat.le_refl _⟩⟩
  rw [enumD_get, Nat.zero_add] at e
  cases hd : ds[i]? with
  | none =>
    rw [hd] at e
    cases e
  | some c =>
    rw [hd] at e
    cases e
    obtain ⟨v, e2, dv⟩ := q.get hd
    have hs := Sub.sqL gd.sub (Sub.sqL sb h)
    refine ⟨⟨xs, v, hs, e2⟩, fun x H2 y => ?_⟩
    obtain ⟨T, x', rfl, hT, rfl, y⟩ := y
    have z := y xs hs
    rw [e2] at z
    cases z
    have x1 := Ext.laid (o := .tup [.int (i : Nat), v]) gd hT
    exact ⟨_, x1, T, _, rfl, SqT.of upd_same, .int (i : Nat), [v], rfl, rfl, v, [], rfl, x1.da (Da.mono sb _ _ dv), rfl⟩
def zipD : List D → List D → List D
  | d :: l, c :: m => .tup [d, c] :: zipD l m
  | _, _ => []
theorem zipD_get : ∀ (l m : List D) (i : Nat) (d : D), (zipD l m)[i]? = some d → ∃ x y, l[i]? = some x ∧ m[i]? = some y ∧ d = .tup [x, y]
  | [], _, _, _, e => by simp [zipD] at e
  | _ :: _, [], _, _, e => by simp [zipD] at e
  | x :: l, y :: m, 0, d, e => by
    simp [zipD] at e
    exact ⟨x, y, rfl, rfl, e.symm⟩
  | x :: l, y :: m, i + 1, d, e => by
    obtain ⟨a, b, h1, h2, h3⟩ := zipD_get l m i d (by simpa [zipD] using e)
    exact ⟨a, b, by simpa using h1, by simpa using h2, h3⟩
theorem zipD_len : ∀ (l m : List D), l.length ≤ (zipD l m).length ∨ m.length ≤ (zipD l m).length
  | [], _ => .inl (Nat.zero_le _)
  | _ :: _, [] => .inr (Nat.zero_le _)
  | x :: l, y :: m => by
    rcases zipD_len l m with h | h
    · exact .inl (Nat.succ_le_succ h)
    · exact .inr (Nat.succ_le_succ h)
theorem turns_zip {K : PySem.W.Frag} {so : Option Addr} {A : Hp} {a b : Addr} {xs ys : List V} {ds es : List D} (h : SqL K A a xs) (h2 : SqL K A b ys) (q : DaL K so A ds xs) (q2 : DaL K so A es ys) : Turns K so A (Itz K a b) (zipD ds es) := by
  refine ⟨fun A' H' sb gd i d e => ?_, fun A' H' sb gd => ⟨xs, ys, Sub.sqL gd.sub (Sub.sqL sb h), Sub.sqL gd.sub (Sub.sqL sb h2), by rw [q.len, q2.len]; exact zipD_len _ _⟩⟩
  obtain ⟨c1, c2, g1, g2, rfl⟩ := zipD_get _ _ _ _ e
  obtain ⟨v, e2, dv⟩ := q.get g1
  obtain ⟨u, e3, du⟩ := q2.get g2
  have hs := Sub.sqL gd.sub (Sub.sqL sb h)
  have hs2 := Sub.sqL gd.sub (Sub.sqL sb h2)
  refine ⟨⟨xs, ys, v, u, hs, hs2, e2, e3⟩, fun x H2 y => ?_⟩
  obtain ⟨T, x', y', rfl, hT, rfl, z1, z2⟩ := y
  have w1 := z1 xs hs
  rw [e2] at w1
  cases w1
  have w2 := z2 ys hs2
  rw [e3] at w2
  cases w2
  have x1 := Ext.laid (o := .tup [v, u]) gd hT
  exact ⟨_, x1, T, _, rfl, SqT.of upd_same, v, [u], rfl, x1.da (Da.mono sb _ _ dv), u, [], rfl, x1.da (Da.mono sb _ _ du), rfl⟩
/-- what a value is walked as -/
def onL (d : D) (Q : List D → Prop) : Prop := match d with
  | .lst l => Q l
  | _ => False
def onT (d : D) (Q : List D → Prop) : Prop := match d with
  | .tup l => Q l
  | _ => False
def iL (r : DE) : DL := fun ρ Q E => r ρ (fun d => onL d Q) E
def iT (r : DE) : DL := fun ρ Q E => r ρ (fun d => onT d Q) E
def iR1 (t : DL) : DL := fun ρ Q E => t ρ (fun ds => match ds with
  | [.int j] => j < 2 ^ 62 ∧ -(2 ^ 62) ≤ j ∧ Q (rangeD 0 j.toNat)
  | _ => False) E
def iR2 (t : DL) : DL := fun ρ Q E => t ρ (fun ds => match ds with
  | [.int i, .int j] => (-(2 ^ 62) ≤ i ∧ i < 2 ^ 62 ∧ -(2 ^ 62) ≤ j ∧ j < 2 ^ 62) ∧ Q (rangeD i (j - i).toNat)
  | _ => False) E
def iEn (t : DL) : DL := fun ρ Q E => t ρ (fun ds => match ds with
  | [.lst l] => Q (enumD 0 l)
  | _ => False) E
def iZp (t : DL) : DL := fun ρ Q E => t ρ (fun ds => match ds with
  | [.lst l, .lst m] => Q (zipD l m)
  | _ => False) E
section
variable {X : Cx} {g : Gx} {EX : EXT} {e a b tg iter : Expr} {es : List Expr} {r ra rb : DE} {pos p : Pos} {t ri : DL} {st : Stmt} {body : List Stmt} {rs rs' : DS} {gr : DG}
theorem pdi_list (h : PD X g EX e r) : PDI X g EX tg e (iL r) := ⟨(pi_list h.pe).imp fun σ H R q => by
  obtain ⟨A, ρ, Qd, Ed, S, q, cx, k⟩ := q
  refine ⟨A, ρ, _, Ed, S, q, fun d v A1 H1 x1 da q => ?_, cx⟩
  have q : onL d Qd := q
  unfold onL at q
  split at q
  · obtain ⟨p, xs, rfl, hs, qa⟩ := da
    exact ⟨p, rfl, ⟨xs, SqL.of (x1.good.sub _ _ hs)⟩, k _ _ A1 H1 x1 (turns_list (SqL.of hs) qa) q⟩
  · exact q.elim⟩
theorem pdi_tup (h : PD X g EX e r) : PDI X g EX tg e (iT r) := ⟨(pi_tup h.pe).imp fun σ H R q => by
  obtain ⟨A, ρ, Qd, Ed, S, q, cx, k⟩ := q
  refine ⟨A, ρ, _, Ed, S, q, fun d v A1 H1 x1 da q => ?_, cx⟩
  have q : onT d Qd := q
  unfold onT at q
  split at q
  · obtain ⟨p, xs, rfl, hs, qa⟩ := da
    exact ⟨p, rfl, ⟨xs, Sub.sqT x1.good.sub hs⟩, k _ _ A1 H1 x1 (turns_tup hs qa) q⟩
  · exact q.elim⟩
theorem pdi_range1 (hg : Gl X "range") (hm : X.mg "range" = none) (ha : PDA X g EX [a] t) (hs : starEach [a] X.env = [(false, eval a X.env)] := by rfl) : PDI X g EX tg (.Call (.Name "range" p) [a] [] pos) (iR1 t) := ⟨(pi_range1 hg hm ha.pa hs).imp fun σ H R q => by
  obtain ⟨A, ρ, Qd, Ed, S, q, cx, k⟩ := q
  refine ⟨A, ρ, _, Ed, S, q, fun ds vs A1 H1 x1 das q => ?_, cx⟩
  dsimp only at q
  split at q
  · obtain ⟨v, rfl, dv⟩ := das.one'
    have dv : v = _ := dv
    subst dv
    exact ⟨_, rfl, q.2.1, q.1, k _ _ A1 H1 x1 turns_range q.2.2⟩
  · exact q.elim⟩
theorem pdi_range2 (hg : Gl X "range") (hm : X.mg "range" = none) (ha : PDA X g EX [a, b] t) (hs : starEach [a, b] X.env = [(false, eval a X.env), (false, eval b X.env)] := by rfl) (hs2 : starEach [b] X.env = [(false, eval b X.env)] := by rfl) : PDI X g EX tg (.Call (.Name "range" p) [a, b] [] pos) (iR2 t) := ⟨(pi_range2 hg hm ha.pa hs hs2).imp fun σ H R q => by
  obtain ⟨A, ρ, Qd, Ed, S, q, cx, k⟩ := q
  refine ⟨A, ρ, _, Ed, S, q, fun ds vs A1 H1 x1 das q => ?_, cx⟩
  dsimp only at q
  split at q
  · obtain ⟨v, w, rfl, dv, dw⟩ := das.two'
    have dv : v = _ := dv
    have dw : w = _ := dw
    subst dv dw
    exact ⟨_, _, rfl, q.1, k _ _ A1 H1 x1 turns_range q.2⟩
  · exact q.elim⟩
theorem pdi_enum {elts : List Expr} {kk : Nat} {tpos : Pos} (hg : Gl X "enumerate") (hm : X.mg "enumerate" = none) (ha : PDA X g EX [e] t) (hs : starEach [e] X.env = [(false, eval e X.env)] := by rfl) : PDI X g EX (.Tuple elts kk tpos) (.Call (.Name "enumerate" p) [e] [] pos) (iEn t) := ⟨(pi_enum hg hm ha.pa hs).imp fun σ H R q => by
  obtain ⟨A, ρ, Qd, Ed, S, q, cx, k⟩ := q
  refine ⟨A, ρ, _, Ed, S, q, fun ds vs A1 H1 x1 das q => ?_, cx⟩
  dsimp only at q
  split at q
  · obtain ⟨v, rfl, a', xs, rfl, hs', qa⟩ := das.one'
    exact ⟨a', xs, rfl, SqL.of (x1.good.sub _ _ hs'), k _ _ A1 H1 x1 (turns_enum (SqL.of hs') qa) q⟩
  · exact q.elim⟩
theorem pdi_zip {elts : List Expr} {kk : Nat} {tpos : Pos} (hg : Gl X "zip") (hm : X.mg "zip" = none) (ha : PDA X g EX [a, b] t)
    (hs : starEach [a, b] X.env = (false, eval a X.env) :: starEach [b] X.env := by rfl) (hpl : (backTo pos (starEach [b] X.env)).any (·.1) = false := by rfl) : PDI X g EX (.Tuple elts kk tpos) (.Call (.Name "zip" p) [a, b] [] pos) (iZp t) := ⟨(pi_zip hg hm ha.pa hs hpl).imp fun σ H R q => by
  obtain ⟨A, ρ, Qd, Ed, S, q, cx, k⟩ := q
  refine ⟨A, ρ, _, Ed, S, q, fun ds vs A1 H1 x1 das q => ?_, cx⟩
  dsimp only at q
  split at q
  · obtain ⟨v, r1, e1, ⟨a', xs, e2, ha', qa⟩, r2⟩ := das
    obtain ⟨u, e3, ⟨b', ys, e4, hb', qb⟩⟩ := DaL.one' r2
    subst e1 e2 e3 e4
    exact ⟨a', b', xs, ys, rfl, SqL.of (x1.good.sub _ _ ha'), SqL.of (x1.good.sub _ _ hb'), k _ _ A1 H1 x1 (turns_zip (SqL.of ha') (SqL.of hb') qa qb) q⟩
  · exact q.elim⟩
/-- for: over the data, one after another -/
def forL (gr : DG) (body : DS) (DD : DEnds) : List D → DEnv → Prop
  | [], ρ => DD.nx ρ
  | d :: ds, ρ => gr d ρ fun ρ1 => body { DD with nx := forL gr body DD ds, ct := forL gr body DD ds, bk := DD.nx } ρ1
def sFor (ri : DL) (gr : DG) (body : DS) : DS := fun DD ρ => ri ρ (fun ds => forL gr body DD ds ρ) DD.ex
theorem pds_for (hp : PassesOwn (model X.prog X.w) X.A X.env X.xe) (hc : X.calm = true) (hi : PDI X g EX tg iter ri) (hg : PDG X g tg gr) (hb : PDSs X g EX body rs)
    (hs : ∀ x, foldedSetIterable iter X.env x = pure x := by intro _; rfl) : PDS X g EX (.For tg iter body [] pos) (sFor ri gr rs) := ⟨(ps_for hp hc hi.pi hg.pg hb.pss hs).imp fun De σ H h => by
  obtain ⟨A, ρ, DD, S, h, k⟩ := h
  refine ⟨A, ρ, _, _, S, h, k.cx S, fun ds J A1 H1 x1 T q => ?_⟩
  refine ⟨fun i m σ' H' => ∃ A' ρ', Stt X.K g A' H' σ' ρ' ∧ Sub A1 A' ∧ ρ'.length = ρ.length ∧ m + i = ds.length ∧ forL gr rs DD (ds.drop i) ρ', ⟨ds.length, A1, ρ, S.ext x1, fun _ _ z => z, rfl, rfl, q⟩, ?_⟩
  rintro i m σ2 H2 ⟨A2, ρ2, S2, sb, l2, hm, q2⟩
  cases hd : ds[i]? with
  | none =>
    have hi : ds.length ≤ i := List.getElem?_eq_none_iff.mp hd
    have e : i = ds.length := by omega
    subst e
    rw [List.drop_length] at q2
    exact .inl ⟨T.stop A2 H2 sb S2.good, k.nx A2 H2 σ2 ρ2 S2 l2 (x1.mono.trans sb) q2⟩
  | some d =>
    have hi : i < ds.length := (List.getElem?_eq_some_iff.mp hd).1
    have ed : ds.drop i = d :: ds.drop (i + 1) := by
      rw [List.drop_eq_getElem_cons hi]
      rw [List.getElem?_eq_getElem hi] at hd
      cases hd
      rfl
    rw [ed] at q2
    obtain ⟨go, yl⟩ := T.go A2 H2 sb S2.good i d hd
    refine .inr ⟨go, fun σ' H' => ∃ A' ρ', Stt X.K g A' H' σ' ρ' ∧ Sub A1 A' ∧ ρ'.length = ρ.length ∧ forL gr rs DD (ds.drop (i + 1)) ρ', fun σ' H' ⟨A', ρ', S', sb', l', q'⟩ => ⟨m - 1, by omega, A', ρ', S', sb', l', by omega, q'⟩, fun x H3 y => ?_⟩
    obtain ⟨A3, x3, da⟩ := yl x H3 y
    refine ⟨A3, ρ2, d, _, S2.ext x3, da, q2, fun σ4 ρ4 S4 l4 q4 => ?_⟩
    have sb3 := sb.trans x3.mono
    refine ⟨A3, ρ4, _, S4, q4, ⟨fun A5 H5 σ5 ρ5 S5 l5 sb5 q5 => ⟨A5, ρ5, S5, sb3.trans sb5, (l5.trans l4).trans l2, q5⟩, k.rt, fun A5 H5 σ5 ρ5 S5 l5 sb5 q5 => k.nx A5 H5 σ5 ρ5 S5 ((l5.trans l4).trans l2) (x1.mono.trans (sb3.trans sb5)) q5,
      fun A5 H5 σ5 ρ5 S5 l5 sb5 q5 => ⟨A5, ρ5, S5, sb3.trans sb5, (l5.trans l4).trans l2, q5⟩, fun σ5 h5 => k.ex σ5 (h5.trans (l4.trans l2)), k.fr⟩⟩⟩
/-- while -/
def sWhile (c : DT) (body : DS) : DS := fun DD ρ => ∃ W : Nat → DEnv → Prop, (∃ m, W m ρ) ∧ ∀ m ρ, W m ρ → c ρ (fun b => if b = true then ∃ N : DEnv → Prop, (∀ ρ', N ρ' → ∃ m', m' < m ∧ W m' ρ') ∧ body { DD with nx := N, ct := N, bk := DD.nx } ρ else DD.nx ρ) DD.ex
theorem pds_while {c : Expr} {tc : DT} (hp : PassesOwn (model X.prog X.w) X.A X.env X.xe) (hc : PDT X g EX c tc) (hb : PDSs X g EX body rs) : PDS X g EX (.While c body [] pos) (sWhile tc rs) := ⟨(ps_while hp hc.pt hb.pss).imp fun De σ H h => by
  obtain ⟨A, ρ, DD, S, ⟨W, ⟨m0, w0⟩, turn⟩, k⟩ := h
  refine ⟨fun m σ' H' => ∃ A' ρ', Stt X.K g A' H' σ' ρ' ∧ Sub A A' ∧ ρ'.length = ρ.length ∧ W m ρ', ⟨m0, A, ρ, S, Sub.rfl', rfl, w0⟩, ?_⟩
  rintro m σ1 H1 ⟨A1, ρ1, S1, sb1, l1, w1⟩
  refine ⟨A1, ρ1, _, _, S1, turn m ρ1 w1, fun b A2 H2 x2 q => ?_, (k.ex σ1 (S1.e.len.trans l1)).ext S1.x⟩
  have S2 := S1.ext x2
  have sb2 := sb1.trans x2.mono
  cases b with
  | true =>
    obtain ⟨N, hN, q⟩ := outT q
    refine iteT ⟨fun σ' H' => ∃ A' ρ', Stt X.K g A' H' σ' ρ' ∧ Sub A A' ∧ ρ'.length = ρ.length ∧ N ρ', fun σ' H' ⟨A', ρ', S', sb', l', n'⟩ => ?_, A2, ρ1, _, S2, q, ?_⟩
    · obtain ⟨m', lt, w'⟩ := hN ρ' n'
      exact ⟨m', lt, A', ρ', S', sb', l', w'⟩
    · exact ⟨fun A5 H5 σ5 ρ5 S5 l5 sb5 q5 => ⟨A5, ρ5, S5, sb2.trans sb5, l5.trans l1, q5⟩, k.rt, fun A5 H5 σ5 ρ5 S5 l5 sb5 q5 => k.nx A5 H5 σ5 ρ5 S5 (l5.trans l1) (sb2.trans sb5) q5,
        fun A5 H5 σ5 ρ5 S5 l5 sb5 q5 => ⟨A5, ρ5, S5, sb2.trans sb5, l5.trans l1, q5⟩, fun σ5 h5 => k.ex σ5 (h5.trans l1), k.fr⟩
  | false => exact iteF (k.nx A2 H2 σ1 ρ1 S2 l1 sb2 (outF q))⟩
end
end My
namespace My
open PySem PySem.Spec PyProof.Rows L2
/-! ### owned lists: read, changed, frozen -/
def owS (o : Option Sl) (Q : List D → Prop) : Prop := match o with
  | some (.ow l) => Q l
  | _ => False
theorem owS.out {o : Option Sl} {Q : List D → Prop} (h : owS o Q) : ∃ l, o = some (.ow l) ∧ Q l := by
  unfold owS at h
  split at h
  · exact ⟨_, rfl, h⟩
  · exact h.elim
theorem EnvOk.ow {K : PySem.W.Frag} {so : Option Addr} {Hi A H : Hp} {σ : L2.St} {ρ : DEnv} {i : Nat} {l : List D} (h : EnvOk K so Hi A H σ ρ) (e : ρ[i]? = some (.ow l)) :
    ∃ a xs, σ[i]? = some (some (.ref a)) ∧ H a = some (.lst xs) ∧ A a = none ∧ Hi a = none ∧ so ≠ some a ∧ DaL K so A l xs := by
  obtain ⟨o, e2, a, xs, e3, r⟩ := h.ok i _ e
  exact ⟨a, xs, by rw [e2, e3], r⟩
/-- slot i's list is another one now -/
theorem Stt.mutOw {K : PySem.W.Frag} {g : Gx} {A H : Hp} {σ : L2.St} {ρ : DEnv} {i : Nat} {a : Addr} {l m : List D} {ys : List V} (S : Stt K g A H σ ρ) (e : ρ[i]? = some (.ow l)) (es : σ[i]? = some (some (.ref a)))
    (ha : A a = none) (hi : g.Hi a = none) (hs : g.so ≠ some a) (q : DaL K g.so A m ys) : Stt K g A (upd H a (.lst ys)) σ (ρ.set i (.ow m)) :=
  ⟨S.x.mut hi ha hs, S.e.mutOw (sl := .ow l) rfl e es ⟨a, ys, rfl, upd_same, ha, hi, hs, q⟩⟩
theorem Stt.frz {K : PySem.W.Frag} {g : Gx} {A H : Hp} {σ : L2.St} {ρ : DEnv} {i : Nat} {l : List D} (S : Stt K g A H σ ρ) (e : ρ[i]? = some (.ow l)) : ∃ A', Sub A A' ∧ Stt K g A' H σ (ρ.set i (.fr (.lst l))) := by
  obtain ⟨a, xs, es, ha, na, ni, ns, q⟩ := S.e.ow e
  have x1 := S.x.frz ni na ha ns
  have sb : Sub A (upd A a (.lst xs)) := fun b o h => by
    rw [upd_ne (ne_of_none h na)]
    exact h
  refine ⟨_, sb, x1, ⟨by rw [List.length_set]; exact S.e.len, fun j sl ej => ?_, fun j k sl1 sl2 b n e1 e2 o1 o2 s1 s2 => ?_⟩⟩
  · by_cases z : i = j
    · subst z
      have hi : i < ρ.length := (List.getElem?_eq_some_iff.mp e).1
      rw [List.getElem?_set_self hi] at ej
      cases ej
      exact ⟨_, es, .ref a, rfl, a, xs, rfl, upd_same, DaL.mono sb _ _ q⟩
    · rw [List.getElem?_set_ne z] at ej
      obtain ⟨o, e2, ok⟩ := S.e.ok j sl ej
      refine ⟨o, e2, ?_⟩
      cases sl with
      | no => exact trivial
      | fr d =>
        obtain ⟨v, e3, dv⟩ := ok
        exact ⟨v, e3, Da.mono sb _ _ dv⟩
      | ow m =>
        obtain ⟨a2, ys, e3, h2, n2, i2, s2, q2⟩ := ok
        have na2 : a2 ≠ a := fun w => S.e.dj i j _ _ a z e ej rfl rfl es (by rw [e2, e3, w])
        exact ⟨a2, ys, e3, h2, by rw [upd_ne na2]; exact n2, i2, s2, DaL.mono sb _ _ q2⟩
      | od ks vs =>
        obtain ⟨a2, ys, e3, h2, n2, i2, s2, q2⟩ := ok
        have na2 : a2 ≠ a := fun w => S.e.dj i j _ _ a z e ej rfl rfl es (by rw [e2, e3, w])
        exact ⟨a2, ys, e3, h2, by rw [upd_ne na2]; exact n2, i2, s2, DaL.mono sb _ _ q2⟩
  · have look : ∀ (m : Nat) (sl3 : Sl), (ρ.set i (.fr (.lst l)))[m]? = some sl3 → sl3.own = true → ρ[m]? = some sl3 := fun m sl3 em om => by
      by_cases z : i = m
      · subst z
        have hi : i < ρ.length := (List.getElem?_eq_some_iff.mp e).1
        rw [List.getElem?_set_self hi] at em
        cases em
        cases om
      · rw [List.getElem?_set_ne z] at em
        exact em
    exact S.e.dj j k sl1 sl2 b n (look _ _ e1 o1) (look _ _ e2 o2) o1 o2 s1 s2
section
variable {X : Cx} {g : Gx} {EX : EXT} {e a b tg iter : Expr} {es : List Expr} {r ra rb : DE} {pos p apos : Pos} {t ri : DL} {st : Stmt} {body rest : List Stmt} {rs rs' : DS} {gr : DG}
/-- a step that is no statement: slot i is frozen -/
def sFrz (i : Nat) (r : DS) : DS := fun DD ρ => owS ρ[i]? fun l => r DD (ρ.set i (.fr (.lst l)))
theorem pds_frz (i : Nat) (h : PDSs X g EX rest rs) : PDSs X g EX rest (sFrz i rs) := ⟨h.pss.imp fun De σ H q => by
  obtain ⟨A, ρ, DD, S, q, k⟩ := q
  obtain ⟨l, e, q⟩ := q.out
  obtain ⟨A1, sb, S1⟩ := S.frz e
  exact ⟨A1, _, DD, S1, q, by rw [List.length_set]; exact k.up sb⟩⟩
/-- x.append(e), x owned -/
def sApp (i : Nat) (r : DE) : DS := fun DD ρ => owS ρ[i]? fun l => r ρ (fun d => l.length < sizeLine ∧ DD.nx (ρ.set i (.ow (l ++ [d])))) DD.ex
theorem pds_app {i : Nat} {o : Expr} (ho : PE X o (tVar i)) (he : PD X g EX e r)
    (hbase : attributeBase o "append" X.env (eval o X.env) = eval o X.env) (hline : (apos.endLine == pos.line) = true)
    (hfew : ((backTo pos (starEach [e] X.env)).all (fun x => !x.1) && (backToKw pos (keywordEach [] X.env)).all (fun x => x.1.isSome)
      && decide ([e].length + ([] : List Keyword).length + (if ([] : List Keyword).isEmpty then 0 else 1) < 30)) = true)
    (hs : starEach [e] X.env = (false, eval e X.env) :: starEach [] X.env) (hpl : (backTo pos (starEach [] X.env)).any (·.1) = false) {pos' : Pos} (hw : swapsWith (.Call (.Attribute o "append" apos) [e] [] pos) none pos'.line X.env = pure false) :
    PDS X g EX (.Expr (.Call (.Attribute o "append" apos) [e] [] pos) pos') (sApp i r) := ⟨(ps_expr (pe_bm PySem.F.plainAttrs_list PySem.F.slot_list_append PySem.F.type_list_append mt_append ho (pa_cons he.pe pa_nil hs) hbase hfew hline hs hpl) hw).imp fun De σ H q => by
  obtain ⟨A, ρ, DD, S, q, k⟩ := q
  obtain ⟨l, el, q⟩ := q.out
  obtain ⟨a, xs, es, ha, na, ni, ns, qa⟩ := S.e.ow el
  refine ⟨.ref a, es, .inl ⟨rfl, xs, SqL.of ha⟩, A, ρ, _, _, S, q, fun d v A1 H1 x1 da q => ?_, k.cx S⟩
  have S1 := S.ext x1
  refine ⟨a, xs, v, rfl, rfl, x1.kept a _ ns ha, by rw [qa.len]; exact q.1, ?_⟩
  exact k.nx A1 _ σ _ (S1.mutOw el es (x1.unfrozen na ha) ni ns ((x1.daL qa).app (DaL.one da))) (List.length_set ..) x1.mono q.2⟩
/-- x.insert(i, e), x owned -/
def sIns (i : Nat) (t : DL) : DS := fun DD ρ => owS ρ[i]? fun l => t ρ (fun ds => match ds with
  | [.int j, d] => 0 ≤ j ∧ j < 2 ^ 63 ∧ l.length < sizeLine ∧ DD.nx (ρ.set i (.ow (l.take j.toNat ++ [d] ++ l.drop j.toNat)))
  | _ => False) DD.ex
theorem pds_ins {i : Nat} {o : Expr} (ho : PE X o (tVar i)) (he : PDA X g EX [a, b] t)
    (hbase : attributeBase o "insert" X.env (eval o X.env) = eval o X.env) (hline : (apos.endLine == pos.line) = true)
    (hs : starEach [a, b] X.env = (false, eval a X.env) :: starEach [b] X.env) (hpl : (backTo pos (starEach [b] X.env)).any (·.1) = false)
    (hfew : ((backTo pos (starEach [a, b] X.env)).all (fun x => !x.1) && (backToKw pos (keywordEach [] X.env)).all (fun x => x.1.isSome)
      && decide ([a, b].length + ([] : List Keyword).length + (if ([] : List Keyword).isEmpty then 0 else 1) < 30)) = true) {pos' : Pos}
    (hw : swapsWith (.Call (.Attribute o "insert" apos) [a, b] [] pos) none pos'.line X.env = pure false) :
    PDS X g EX (.Expr (.Call (.Attribute o "insert" apos) [a, b] [] pos) pos') (sIns i t) := ⟨(ps_expr (pe_bm PySem.F.plainAttrs_list PySem.F.slot_list_insert PySem.F.type_list_insert mt_insert ho he.pa hbase hfew hline hs hpl) hw).imp fun De σ H q => by
  obtain ⟨A, ρ, DD, S, q, k⟩ := q
  obtain ⟨l, el, q⟩ := q.out
  obtain ⟨a, xs, es, ha, na, ni, ns, qa⟩ := S.e.ow el
  refine ⟨.ref a, es, .inl ⟨rfl, xs, SqL.of ha⟩, A, ρ, _, _, S, q, fun ds vs A1 H1 x1 das q => ?_, k.cx S⟩
  have S1 := S.ext x1
  dsimp only at q
  split at q
  · obtain ⟨v, w, rfl, dv, dw⟩ := das.two'
    have dv : v = _ := dv
    subst dv
    refine ⟨a, xs, _, w, rfl, rfl, x1.kept a _ ns ha, by rw [qa.len]; exact q.2.2.1, q.1, q.2.1, ?_⟩
    exact k.nx A1 _ σ _ (S1.mutOw el es (x1.unfrozen na ha) ni ns ((((x1.daL qa).take _).app (DaL.one dw)).app ((x1.daL qa).drop _))) (List.length_set ..) x1.mono q.2.2.2
  · exact q.elim⟩
/-- x[k] = e, x owned -/
def sSetI (i : Nat) (r rk : DE) : DS := fun DD ρ => owS ρ[i]? fun l => r ρ (fun d => rk ρ (fun k => match k with
  | .int j => ∃ n, ixN l.length j = some n ∧ DD.nx (ρ.set i (.ow (l.set n d)))
  | _ => False) DD.ex) DD.ex
theorem pds_setI {i : Nat} {o k : Expr} {rk : DE} (ho : PE X o (tVar i)) (he : PD X g EX e r) (hk : PD X g EX k rk)
    (ha : ∀ v, assign (.Subscript o k p) X.env v = (do
      let ov ← holding [v] (eval o X.env)
      let iv ← holding [v, ov] (eval k X.env)
      standAt p
      holding [v, ov, iv] (setItem ov iv v)
      release [v, ov, iv] []) := by intro _; rfl)
    (hs : swapsWithSole [.Subscript o k p] e pos.line X.env = pure false := by rfl) (hw : swappedStores [.Subscript o k p] e X.env = pure none := by rfl)
    (h1 : (assignEach [.Subscript o k p] X.env).map (·.2) = [assign (.Subscript o k p) X.env] := by rfl) :
    PDS X g EX (.Assign [.Subscript o k p] e pos) (sSetI i r rk) := ⟨(ps_asg he.pe (pg_sub ho hk.pe set_list ha) hs hw h1).imp fun De σ H q => by
  obtain ⟨A, ρ, DD, S, q, kk⟩ := q
  obtain ⟨l, el, q⟩ := q.out
  obtain ⟨a, xs, es, ha, na, ni, ns, qa⟩ := S.e.ow el
  refine ⟨A, ρ, _, _, S, q, fun d v A1 H1 x1 da q => ?_, kk.cx S⟩
  have S1 := S.ext x1
  refine ⟨.ref a, es, A1, ρ, _, _, S1, q, fun dk vk A2 H2 x2 dak q2 => ?_, kk.cx S |>.ext x1⟩
  have S2 := S1.ext x2
  dsimp only at q2
  split at q2
  · obtain ⟨n, en, q2⟩ := q2
    have dak : vk = _ := dak
    subst dak
    have x12 := x1.trans x2
    refine ⟨a, xs, _, n, rfl, rfl, x12.kept a _ ns ha, by rw [qa.len]; exact en, ?_⟩
    exact kk.nx A2 _ σ _ (S2.mutOw el es (x12.unfrozen na ha) ni ns ((x12.daL qa).set n (x2.da da))) (List.length_set ..) x12.mono q2
  · exact q2.elim⟩
/-- len of an owned list, an item of an owned list -/
def dLenO (i : Nat) : DE := fun ρ Q _ => owS ρ[i]? fun l => Q (.int l.length)
theorem pd_lenO {i : Nat} {o : Expr} (hg : Gl X "len") (hm : X.mg "len" = none) (ho : PE X o (tVar i)) (he : starEach [o] X.env = (false, eval o X.env) :: starEach [] X.env := by rfl) (hpl : (backTo pos (starEach [] X.env)).any (·.1) = false := by rfl) :
    PD X g EX (.Call (.Name "len" p) [o] [] pos) (dLenO i) := ⟨(pe_callB c_len hg hm bt_len (pa_cons ho pa_nil he) (by decide) (by decide) he hpl).imp fun σ H Q q => by
  obtain ⟨A, ρ, Qd, Ed, S, q, c, cx⟩ := q
  obtain ⟨l, el, q⟩ := q.out
  obtain ⟨a, xs, es, ha, na, ni, ns, qa⟩ := S.e.ow el
  exact ⟨.ref a, es, a, xs, rfl, .inl (SqL.of ha), by rw [qa.len]; exact c.nowI S.good q⟩⟩
def dIxO (i : Nat) (rk : DE) : DE := fun ρ Q E => owS ρ[i]? fun l => rk ρ (fun k => match k with
  | .int j => ∃ d, atI l j = some d ∧ Q d
  | _ => False) E
theorem pd_ixO {i : Nat} {o k : Expr} {rk : DE} (ho : PE X o (tVar i)) (hk : PD X g EX k rk) (hs : PlainIx k) : PD X g EX (.Subscript o k pos) (dIxO i rk) := ⟨(pe_ix ix_list ho hk.pe hs).imp fun σ H Q q => by
  obtain ⟨A, ρ, Qd, Ed, S, q, c, cx⟩ := q
  obtain ⟨l, el, q⟩ := q.out
  obtain ⟨a, xs, es, ha, na, ni, ns, qa⟩ := S.e.ow el
  refine ⟨.ref a, es, A, ρ, _, _, S, q, fun dk vk A1 H1 x1 dak q => ?_, cx⟩
  dsimp only at q
  split at q
  · obtain ⟨d, ed, q⟩ := q
    have dak : vk = _ := dak
    subst dak
    obtain ⟨v, ev, dv⟩ := (x1.daL qa).atI ed
    exact ⟨a, xs, _, v, rfl, rfl, SqL.of (x1.kept a _ ns ha), ev, (c.ext x1).now x1.good dv q⟩
  · exact q.elim⟩
/-! ### comprehensions -/
def wipeD (ρ : DEnv) : List Nat → DEnv
  | [] => ρ
  | v :: vs => (wipeD ρ vs).set v .no
def EXF : EXT := fun _ _ _ _ => False
def compL (gr : DG) (tt : DT) (te : DE) (ρ : DEnv) (Q : List D → Prop) : List D → List D → Prop
  | [], acc => Q acc
  | d :: ds, acc => gr d ρ fun ρ2 => tt ρ2 (fun b => if b = true then te ρ2 (fun y => acc.length < sizeLine ∧ compL gr tt te ρ Q ds (acc ++ [y])) (fun _ => False) else compL gr tt te ρ Q ds acc) (fun _ => False)
def nComp (ri : DL) (gr : DG) (tt : DT) (te : DE) (vs : List Nat) : DL := fun ρ Q E => ri ρ (fun ds => compL gr tt te (wipeD ρ vs) Q ds []) E
def qYes : DT := fun _ Q _ => Q true
theorem wipe_len (σ : L2.St) : ∀ vs : List Nat, (wipe σ vs).length = σ.length := wipe_length σ
theorem wipeD_len (ρ : DEnv) : ∀ vs : List Nat, (wipeD ρ vs).length = ρ.length
  | [] => rfl
  | v :: vs => by
    show ((wipeD ρ vs).set v .no).length = _
    rw [List.length_set, wipeD_len ρ vs]
theorem wipeD_get (ρ : DEnv) : ∀ (vs : List Nat) (i : Nat) (sl : Sl), (wipeD ρ vs)[i]? = some sl → (i ∈ vs ∧ sl = .no) ∨ (i ∉ vs ∧ ρ[i]? = some sl)
  | [], i, sl, e => .inr ⟨by simp, e⟩
  | v :: vs, i, sl, e => by
    have e : ((wipeD ρ vs).set v .no)[i]? = some sl := e
    by_cases z : v = i
    · subst z
      have hi : v < (wipeD ρ vs).length := by
        have := (List.getElem?_eq_some_iff.mp e).1
        rw [List.length_set] at this
        exact this
      rw [List.getElem?_set_self hi] at e
      cases e
      exact .inl ⟨by simp, rfl⟩
    · rw [List.getElem?_set_ne z] at e
      rcases wipeD_get ρ vs i sl e with ⟨h1, h2⟩ | ⟨h1, h2⟩
      · exact .inl ⟨by simp [h1], h2⟩
      · refine .inr ⟨fun m => ?_, h2⟩
        rcases List.mem_cons.mp m with w | w
        · exact z w.symm
        · exact h1 w
theorem wipe_out (σ : L2.St) : ∀ (vs : List Nat) (i : Nat), i ∉ vs → (wipe σ vs)[i]? = σ[i]?
  | [], _, _ => rfl
  | v :: vs, i, n => by
    show ((wipe σ vs).set v none)[i]? = _
    rw [List.getElem?_set_ne (fun z => n (by simp [z])), wipe_out σ vs i (fun z => n (by simp [z]))]
theorem wipe_in (σ : L2.St) : ∀ (vs : List Nat) (i : Nat), i ∈ vs → i < σ.length → (wipe σ vs)[i]? = some none
  | [], _, m, _ => by simp at m
  | v :: vs, i, m, h => by
    show ((wipe σ vs).set v none)[i]? = _
    by_cases z : v = i
    · subst z
      rw [List.getElem?_set_self (by rw [wipe_len]; exact h)]
    · rw [List.getElem?_set_ne z]
      rcases List.mem_cons.mp m with w | w
      · exact absurd w.symm z
      · exact wipe_in σ vs i w h
theorem wipe_ext {σ τ : L2.St} {vs : List Nat} (hl : σ.length = τ.length) (h : ∀ i, i ∉ vs → σ[i]? = τ[i]?) : wipe σ vs = wipe τ vs := by
  refine List.ext_getElem? fun i => ?_
  by_cases m : i ∈ vs
  · by_cases hi : i < σ.length
    · rw [wipe_in σ vs i m hi, wipe_in τ vs i m (by rw [← hl]; exact hi)]
    · rw [List.getElem?_eq_none (by rw [wipe_len]; omega), List.getElem?_eq_none (by rw [wipe_len]; omega)]
  · rw [wipe_out σ vs i m, wipe_out τ vs i m, h i m]
theorem Stt.wipe {K : PySem.W.Frag} {g : Gx} {A H : Hp} {σ : L2.St} {ρ : DEnv} (S : Stt K g A H σ ρ) (vs : List Nat) : Stt K g A H (L2.wipe σ vs) (wipeD ρ vs) := by
  refine ⟨S.x, ⟨by rw [wipe_len, wipeD_len]; exact S.e.len, fun i sl e => ?_, fun i j sl sl' a n e1 e2 o1 o2 s1 s2 => ?_⟩⟩
  · rcases wipeD_get ρ vs i sl e with ⟨h1, rfl⟩ | ⟨h1, h2⟩
    · have hi : i < σ.length := by
        have := (List.getElem?_eq_some_iff.mp e).1
        rw [wipeD_len, ← S.e.len] at this
        exact this
      exact ⟨none, wipe_in σ vs i h1 hi, trivial⟩
    · rw [wipe_out σ vs i h1]
      exact S.e.ok i sl h2
  · rcases wipeD_get ρ vs i sl e1 with ⟨h1, rfl⟩ | ⟨h1, h2⟩
    · cases o1
    · rcases wipeD_get ρ vs j sl' e2 with ⟨h3, rfl⟩ | ⟨h3, h4⟩
      · cases o2
      · rw [wipe_out σ vs i h1] at s1
        rw [wipe_out σ vs j h3] at s2
        exact S.e.dj i j sl sl' a n h2 h4 o1 o2 s1 s2
end
/-- a target whose slots are the comprehension's own -/
def lGw (K : PySem.W.Frag) (g : Gx) (vs : List Nat) (r : DG) : TG := fun v σ H R => ∃ A ρ d Rd, Stt K g A H σ ρ ∧ Da K g.so A d v ∧ r d ρ Rd ∧ ∀ σ' ρ', Stt K g A H σ' ρ' → ρ'.length = ρ.length → L2.wipe σ' vs = L2.wipe σ vs → Rd ρ' → R σ' H
def lGsw (K : PySem.W.Frag) (g : Gx) (vs : List Nat) (r : DGs) : TGs := fun us σ H R => ∃ A ρ ds Rd, Stt K g A H σ ρ ∧ DaL K g.so A ds us ∧ r ds ρ Rd ∧ ∀ σ' ρ', Stt K g A H σ' ρ' → ρ'.length = ρ.length → L2.wipe σ' vs = L2.wipe σ vs → Rd ρ' → R σ' H
structure PDGw (X : Cx) (g : Gx) (vs : List Nat) (e : Expr) (r : DG) : Prop where
  pg : PG X e (lGw X.K g vs r)
structure PDGsw (X : Cx) (g : Gx) (vs : List Nat) (es : List Expr) (r : DGs) : Prop where
  pgs : PGs X es (lGsw X.K g vs r)
section
variable {X : Cx} {g : Gx} {EX : EXT} {e a b tg iter : Expr} {es : List Expr} {r ra rb : DE} {pos p apos : Pos} {t ri : DL} {gr : DG} {tt : DT} {te : DE} {vs : List Nat}
theorem pdgw_name {i : Nat} (h : PG X e (gName i)) (hi : i ∈ vs := by simp) : PDGw X g vs e (gdName i) := ⟨h.imp fun v σ H R q => by
  obtain ⟨A, ρ, d, Rd, S, da, q, k⟩ := q
  refine k _ _ (S.setFr da) (List.length_set ..) (wipe_ext (List.length_set ..) fun j n => ?_) q
  rw [List.getElem?_set_ne fun z => n (by rw [← z]; exact hi)]⟩
theorem pdgsw_nil : PDGsw X g vs [] gdNil := ⟨pgs_nil.imp fun v σ H R q => by
  obtain ⟨A, ρ, ds, Rd, S, da, q, k⟩ := q
  obtain ⟨rfl, q⟩ := q
  exact ⟨da, k _ _ S rfl rfl q⟩⟩
theorem pdgsw_cons {gr : DG} {gu : DGs} (h1 : PDGw X g vs e gr) (h2 : PDGsw X g vs es gu) (hs : (assignEach (e :: es) X.env).map (·.2) = assign e X.env :: (assignEach es X.env).map (·.2) := by rfl) : PDGsw X g vs (e :: es) (gdCons gr gu) := ⟨(pgs_cons h1.pg h2.pgs hs).imp fun v σ H R q => by
  obtain ⟨A, ρ, ds, Rd, S, da, q, k⟩ := q
  cases ds with
  | nil => exact q.elim
  | cons d dr =>
    obtain ⟨x, xr, e1, d1, d2⟩ := da
    subst e1
    refine ⟨x, xr, rfl, A, ρ, d, _, S, d1, q, fun σ1 ρ1 S1 l w1 q1 => ?_⟩
    exact ⟨A, ρ1, dr, Rd, S1, d2, q1, fun σ2 ρ2 S2 l2 w2 q2 => k σ2 ρ2 S2 (l2.trans l) (w2.trans w1) q2⟩⟩
theorem pdgw_tup {gu : DGs} {n k : Nat} (hc : X.calm = true) (h : PDGsw X g vs es gu) (hn : (assignEach es X.env).length = n := by rfl) (hst : (assignEach es X.env).findIdx? (·.1) = none := by rfl) : PDGw X g vs (.Tuple es k pos) (gdTup n gu) := ⟨(pg_tup hc h.pgs hn hst).imp fun v σ H R q => by
  obtain ⟨A, ρ, d, Rd, S, da, q, k⟩ := q
  unfold gdTup at q
  split at q
  · obtain ⟨a, xs, rfl, hs, qa⟩ := da
    exact ⟨a, xs, rfl, Sub.sqT S.good.sub hs, by rw [qa.len]; exact q.1, A, ρ, _, Rd, S, qa, q.2, k⟩
  · exact q.elim⟩
/-- a clause's tests -/
structure PDTs (X : Cx) (g : Gx) (EX : EXT) (ifs : List Expr) (r : DT) : Prop where
  pt : PTs X ifs (lT X.K g EX r)
theorem pdts_nil : PDTs X g EX [] qYes := ⟨⟨fun pins s σ H Q I h => by
  obtain ⟨A, ρ, Qd, Ed, S, h, c, cx⟩ := h
  exact pts_nil.run pins s σ H Q I (c true A H (Ext.refl S.good) h)⟩⟩
theorem pdts_one {c : Expr} (h : PDT X g EX c tt) : PDTs X g EX [c] tt := ⟨pts_one h.pt⟩
theorem del_ext {K : PySem.W.Frag} {so : Option Addr} {A H A' H' : Hp} {D : Addr} {o : HO} (x : Ext K so A H A' H') (h : H D = none) (h1 : A' D = none) (hd : H' D = some o) (hs : so ≠ some D) : ∃ H1, Ext K so A H A' H1 ∧ H1 D = none ∧ H' = upd H1 D o := by
  refine ⟨fun b => if b = D then none else H' b, ⟨⟨fun b u e => ?_, fun s e => ?_⟩, x.mono, fun b u n e => ?_, x.new⟩, if_pos rfl, ?_⟩
  · show (if b = D then none else H' b) = some u
    rw [if_neg (ne_of_none e h1)]
    exact x.good.sub b u e
  · obtain ⟨h3, L, ns, p', a', b, c, d, h4, h5, r⟩ := x.good.st s e
    have n : s ≠ D := fun z => hs (by rw [e, z])
    exact ⟨h3, L, ns, p', a', b, c, d, by show (if s = D then none else H' s) = _; rw [if_neg n]; exact h4, h5, r⟩
  · show (if b = D then none else H' b) = some u
    rw [if_neg (ne_of_none e h)]
    exact x.kept b u n e
  · funext b
    unfold upd
    by_cases z : b = D
    · rw [if_pos z, z, hd]
    · rw [if_neg z]
      show H' b = if b = D then none else H' b
      rw [if_neg z]
theorem lcD {σ : L2.St} {H : Hp} {Q : VK} (h : lN X.K g EX (nComp ri gr tt te vs) σ H Q) : tLc (lI X.K g EX ri) (lGw X.K g vs gr) (lT X.K g EXF tt) (lE X.K g EXF te) vs σ H Q := by
  obtain ⟨A, ρ, Qd, Ed, S, h, c, cx⟩ := h
  refine ⟨A, ρ, _, Ed, S, h, cx, fun ds J A1 H1 x1 T q D hD => ?_⟩
  have S1 := S.ext x1
  have nD : g.so ≠ some D := fun z => S1.good.ne hD z rfl
  have fl : ∀ {A' Hm : Hp}, Good X.K g.so A' Hm → Hm D = none → A' D = none := fun {A' Hm} gd hm => by
    cases e : A' D with
    | none => rfl
    | some u =>
      rw [gd.sub D u e] at hm
      cases hm
  refine ⟨fun i m H' => ∃ A' acc xs Hm, Ext X.K g.so A1 H1 A' Hm ∧ Hm D = none ∧ H' = upd Hm D (.lst xs) ∧ DaL X.K g.so A' acc xs ∧ m + i = ds.length ∧ compL gr tt te (wipeD ρ vs) Qd (ds.drop i) acc, ⟨ds.length, A1, [], [], H1, Ext.refl x1.good, hD, rfl, rfl, rfl, q⟩, ?_⟩
  rintro i m H2 ⟨A2, acc, xs, Hm, x2, hm, rfl, da, hl, q2⟩
  have x3 : Ext X.K g.so A1 H1 A2 (upd Hm D (.lst xs)) := x2.trans (Ext.open_ x2.good hm)
  cases hd : ds[i]? with
  | none =>
    have hi : ds.length ≤ i := List.getElem?_eq_none_iff.mp hd
    have e : i = ds.length := by omega
    subst e
    rw [List.drop_length] at q2
    exact .inl ⟨T.stop A2 _ x2.mono x3.good, c acc xs D A2 Hm (x1.trans x2) hm da q2⟩
  | some d =>
    have hi : i < ds.length := (List.getElem?_eq_some_iff.mp hd).1
    have ed : ds.drop i = d :: ds.drop (i + 1) := by
      rw [List.drop_eq_getElem_cons hi]
      rw [List.getElem?_eq_getElem hi] at hd
      cases hd
      rfl
    rw [ed] at q2
    obtain ⟨go, yl⟩ := T.go A2 _ x2.mono x3.good i d hd
    refine .inr ⟨go, fun H' => ∃ A' acc xs Hm, Ext X.K g.so A1 H1 A' Hm ∧ Hm D = none ∧ H' = upd Hm D (.lst xs) ∧ DaL X.K g.so A' acc xs ∧ compL gr tt te (wipeD ρ vs) Qd (ds.drop (i + 1)) acc,
      fun H' ⟨A', acc', xs', Hm', y1, y2, y3, y4, y5⟩ => ⟨m - 1, by omega, A', acc', xs', Hm', y1, y2, y3, y4, by omega, y5⟩, fun x H3 y => ?_⟩
    obtain ⟨A3, x4, dx⟩ := yl x H3 y
    have x5 := x3.trans x4
    have keepD : ∀ {A5 H5 : Hp}, Ext X.K g.so A2 (upd Hm D (.lst xs)) A5 H5 → H5 D = some (.lst xs) ∧ A5 D = none := fun {A5 H5} z => ⟨z.kept D _ nD upd_same, z.unfrozen (fl x2.good hm) upd_same⟩
    have back : ∀ {A5 H5 : Hp} (ys : List V), Ext X.K g.so A2 (upd Hm D (.lst xs)) A5 H5 → ∃ Hn, Ext X.K g.so A1 H1 A5 Hn ∧ Hn D = none ∧ upd H5 D (.lst ys) = upd Hn D (.lst ys) ∧ H5 = upd Hn D (.lst xs) := fun {A5 H5} ys z => by
      obtain ⟨z1, z2⟩ := keepD z
      obtain ⟨Hn, w1, w2, w3⟩ := del_ext (x3.trans z) hD z2 z1 nD
      refine ⟨Hn, w1, w2, ?_, w3⟩
      rw [w3, upd_upd]
    have SW : Stt X.K g A3 H3 (wipe σ vs) (wipeD ρ vs) := (S1.ext x5).wipe vs
    refine ⟨A3, wipeD ρ vs, d, _, SW, dx, q2, fun σ4 ρ4 S4 l4 w4 q4 => ⟨?_, ?_⟩⟩
    · rw [w4]
      refine wipe_ext (by rw [wipe_len]) fun j n => ?_
      rw [wipe_out σ vs j n]
    refine ⟨A3, ρ4, _, _, S4, q4, fun b A5 H5 x6 q5 => ?_, fun x dx A' H' us _ _ _ _ _ z => z.elim⟩
    cases b with
    | false =>
      refine iteF ?_
      obtain ⟨Hn, w1, w2, w3, w5⟩ := back [] (x4.trans x6)
      exact ⟨A5, acc, xs, Hn, w1, w2, w5, DaL.mono (x4.trans x6).mono _ _ da, outF q5⟩
    | true =>
      refine iteT ⟨A5, ρ4, _, _, S4.ext x6, outT q5, fun d7 v7 A7 H7 x7 da7 q7 => ?_, fun x dx A' H' us _ _ _ _ _ z => z.elim⟩
      have x8 := (x4.trans x6).trans x7
      obtain ⟨z1, z2⟩ := keepD x8
      obtain ⟨Hn, w1, w2, w3, w5⟩ := back (xs ++ [v7]) x8
      refine ⟨xs, z1, by rw [da.len]; exact q7.1, A7, acc ++ [d7], xs ++ [v7], Hn, w1, w2, w3, (DaL.mono x8.mono _ _ da).app (DaL.one da7), q7.2⟩
theorem pdn_lc {elt : Expr} {ifs : List Expr} {scope : Scope} {own : List (Str × Nat)} (hc : X.calm = true) (hN : X.N.Nodup) (hi : PDI X g EX tg iter ri) (ok : BlkOk X.N X.env.scope scope own)
    (hg : ∀ (s : Shared) (H : Hp) (C : Addr) (cl : List (Str × Addr)) (fp : List Addr), PDGw (X.blk s H scope (compEnvC scope cl C X.env) fp) g (own.map (·.2)) tg gr) (ht : ∀ (s : Shared) (H : Hp) (C : Addr) (cl : List (Str × Addr)) (fp : List Addr), PDTs (X.blk s H scope (compEnvC scope cl C X.env) fp) g EXF ifs tt)
    (he : ∀ (s : Shared) (H : Hp) (C : Addr) (cl : List (Str × Addr)) (fp : List Addr), PD (X.blk s H scope (compEnvC scope cl C X.env) fp) g EXF elt te) (hs : ∀ x, foldedSetIterable iter X.env x = pure x := by intro _; rfl) :
    PDN X g EX (.ListComp elt [⟨tg, iter, ifs, 0⟩] scope pos) (nComp ri gr tt te (own.map (·.2))) :=
  ⟨(pe_lc hc hN hi.pi ok (fun s H C cl fp => (hg s H C cl fp).pg) (fun s H C cl fp => (ht s H C cl fp).pt) (fun s H C cl fp => (he s H C cl fp).pe) hs).imp fun σ H Q h => lcD h⟩
/-- name = [..], owned -/
theorem pds_setLc {i : Nat} {y : Str} {py spos : Pos} {elt : Expr} {ifs : List Expr} {scope : Scope} {own : List (Str × Nat)} (hc : X.calm = true) (hN : X.N.Nodup) (hy : X.N[i]? = some y) (hyl : X.env.scope.names.lookup y = some .local)
    (hsw : swapsWith (.ListComp elt [⟨tg, iter, ifs, 0⟩] scope pos) (some (.Name y py)) spos.line X.env = pure true) (hi : PDI X g EX tg iter ri) (ok : BlkOk X.N X.env.scope scope own)
    (hg : ∀ (s : Shared) (H : Hp) (C : Addr) (cl : List (Str × Addr)) (fp : List Addr), PDGw (X.blk s H scope (compEnvC scope cl C X.env) fp) g (own.map (·.2)) tg gr) (ht : ∀ (s : Shared) (H : Hp) (C : Addr) (cl : List (Str × Addr)) (fp : List Addr), PDTs (X.blk s H scope (compEnvC scope cl C X.env) fp) g EXF ifs tt)
    (he : ∀ (s : Shared) (H : Hp) (C : Addr) (cl : List (Str × Addr)) (fp : List Addr), PD (X.blk s H scope (compEnvC scope cl C X.env) fp) g EXF elt te) (hs : ∀ x, foldedSetIterable iter X.env x = pure x := by intro _; rfl) :
    PDS X g EX (.Assign [.Name y py] (.ListComp elt [⟨tg, iter, ifs, 0⟩] scope pos) spos) (sSetN i (nComp ri gr tt te (own.map (·.2)))) :=
  ⟨(ps_setLc (i := i) hc hN hy hyl hsw hi.pi ok (fun s H C cl fp => (hg s H C cl fp).pg) (fun s H C cl fp => (ht s H C cl fp).pt) (fun s H C cl fp => (he s H C cl fp).pe) hs).imp fun De σ H h => by
  obtain ⟨A, ρ, DD, S, h, k⟩ := h
  have h2 : lN X.K g EX (nComp ri gr tt te (own.map (·.2))) σ H (fun x H1 => gName i x σ H1 De.nx) := ⟨A, ρ, _, _, S, h, fun l xs p A1 H1 x1 hp da q => k.nx _ _ _ _ ((S.ext x1).setOw hp da) (List.length_set ..) x1.mono q, k.cx S⟩
  exact lcD h2⟩
end
end My
namespace My
open PySem PySem.Spec PyProof.Rows L2
/-! ### raising -/
theorem Ext.same {K : PySem.W.Frag} {so : Option Addr} {A H H' : Hp} (gd : Good K so A H) (x : Sub H H') : Ext K so A H A H' :=
  ⟨⟨fun b o e => x b o (gd.sub b o e), fun s e => let ⟨h1, L, ns, p, a, b, c, d, h2, h3, r⟩ := gd.st s e; ⟨h1, L, ns, p, a, b, c, d, x _ _ h2, h3, r⟩⟩, fun _ _ h => h, fun b o _ h => x b o h, fun _ _ h => .inl h⟩
theorem FnOk_cx {P : Program} {w : World} {K : PySem.W.Frag} {mg : Str → Option Value} {base : Heap} {CX : CXT} {lv : Nat} {f : Addr} {fd : FuncData} {ps : List Str} {sp sp' : Sp} (F : FnOk P w K mg base CX0 lv f fd ps sp) (h : ∀ vs H Q E, sp' vs H Q E → sp vs H Q E) : FnOk P w K mg base CX lv f fd ps sp' :=
  ⟨fun vs H Q E q => F.len vs H Q E (h _ _ _ _ q), fun A outer s H args us vs Q E hr he hb hv hs => codeAny_mono (F.run A outer s H args us vs Q E hr he hb hv (h _ _ _ _ hs)) fun r s' z => by
    cases r with
    | error e => exact z.elim
    | ok fl => cases fl <;> exact z⟩
def IniEnd (a C : Addr) (fs : List (Str × V)) (H : Hp) (Q : VK) : Prop := ∀ (dx : Addr) (H' : Hp), H dx = none → dx ≠ a → H' a = some (exo a C (some dx)) → H' dx = some (exd dx fs) → (∀ b o, b ≠ a → H b = some o → H' b = some o) → Q .non H'
/-- an __init__ of n values that leaves the fields mk of them -/
def spIni (K : PySem.W.Frag) (C : Addr) (fs : List Str) (n : Nat) (mk : List V → List (Str × V)) : Sp := fun vs H Q _ => ∃ (a : Addr) (xs : List V), vs = .ref a :: xs ∧ xs.length = n ∧ OexC K C ∧ (∀ f ∈ fs, PySem.W.findIn K (.ref C) f = some none) ∧ H a = some (exo a C none) ∧ IniEnd a C (mk xs) H Q
theorem g_ost {σ : L2.St} {H : Hp} {D : Ends} {K : PySem.W.Frag} {f : Str} {to te : TE} (h : te σ H fun y H1 => to σ H1 fun x H2 => ∃ a C : Addr, x = .ref a ∧ OexC K C ∧ PySem.W.findIn K (.ref C) f = some none ∧
  ((H2 a = some (exo a C none) ∧ ∀ dx, H2 dx = none → dx ≠ a → D.nx σ (upd (upd H2 dx (exd dx [(f, y)])) a (exo a C (some dx)))) ∨
    ∃ (dx : Addr) (fs : List (Str × V)), H2 a = some (exo a C (some dx)) ∧ H2 dx = some (exd dx fs) ∧ fs.length ≤ 900 ∧ D.nx σ (upd H2 dx (exd dx ((f, y) :: fs))))) : tOst K f to te D σ H := h
theorem raiseN {K : PySem.W.Frag} {C : Addr} {fs : List Str} {n : Nat} {mk : List V → List (Str × V)} {xs ys : List V} {H : Hp} {Q : XK} (o : OexC K C) (hn : ∀ f ∈ fs, PySem.W.findIn K (.ref C) f = some none) (hl : (xs ++ ys).length = n) (hl2 : xs.length ≤ 1000) (q : ∀ d H', Same H H' → H d = none → H' d = some (.xd (mk (xs ++ ys))) → Q (.ref C) (some d) H') :
    xs.length ≤ 1000 ∧ ∀ a, H a = none → spIni K C fs n mk (.ref a :: (xs ++ ys)) (upd H a (exo a C none)) (fun v H2 => v = .non ∧ ∃ (d : Addr) (fs : List (Str × V)), H2 a = some (exo a C (some d)) ∧ H2 d = some (exd d fs) ∧ H d = none ∧ Q (.ref C) (some d) (upd (del H2 a) d (.xd fs))) (fun _ _ _ => False) := by
  refine ⟨hl2, fun a ha => ⟨a, xs ++ ys, rfl, hl, o, hn, upd_same, fun dx H' h1 h2 h3 h4 h5 => ⟨rfl, dx, _, h3, h4, ?_, q dx _ (fun b u hb => ?_) ?_ upd_same⟩⟩⟩
  · rw [upd_ne h2] at h1
    exact h1
  · rw [upd_ne h2] at h1
    rw [upd_ne (ne_of_none hb h1), del_ne (ne_of_none hb ha)]
    exact h5 b u (ne_of_none hb ha) (by rw [upd_ne (ne_of_none hb ha)]; exact hb)
  · rw [upd_ne h2] at h1
    exact h1
/-- what an own exception class of the program must have, for raising -/
structure Rz (K : PySem.W.Frag) (C : Addr) (fs : List Str) (n : Nat) (mk : List V → List (Str × V)) (mkD : List D → List D) : Prop where
  nf : ∀ f ∈ fs, PySem.W.findIn K (.ref C) f = some none
  o : OexC K C
  da : ∀ so A ds xs, ds.length = n → DaL K so A ds xs → ∃ us, mk xs = fs.zip us ∧ us.length = fs.length ∧ DaL K so A (mkD ds) us
def sRaise (C : Addr) (fs : List Str) (n : Nat) (mkD : List D → List D) (dd : List D) (t : DL) : DS := fun DD ρ => t ρ (fun ds => ds.length ≤ 1000 ∧ (ds ++ dd).length = n ∧ DD.ex ⟨C, fs, mkD (ds ++ dd)⟩) DD.ex
section
variable {X : Cx} {g : Gx} {EX : EXT} {e a b : Expr} {es : List Expr} {pos p pos' : Pos} {t : DL}
theorem pmkN0 {CXc : CXT} {nm : Str} {C fI : Addr} {lv : Nat} {fdI : FuncData} {psI : List Str} {spI : Sp} {ds : List Value} {dvs : List V} (T : OexC X.K C)
    (iC : PySem.W.findIn X.K (.ref C) "__init__" = some (some (.ref fI))) (tI : PySem.W.typeIn X.K (.ref fI) = some (.type "function"))
    (FI : FnOk X.prog X.w X.K X.mg X.base CXc lv fI fdI psI spI) (room : Room (lv + 1) X.A) (bnd : Binds X.K fdI psI ds) (dfl : Vals dvs ds) (px : Passes CXc X (fun _ _ _ => False)) (gl : Gl X nm) (gm : X.mg nm = some (.ref C))
    (nd : (nm == ("__debug__" : Str)) = false := by decide) :
    L2N.PMk X (.Call (.Name nm p) [] [] pos) (tMkO C spI dvs tNil) := by
  intro pins s σ H Q I rd
  have T' := T.cls
  obtain ⟨n0, n1, n2, n3, n4, n5, n6, n7, n8, n9, j0, j1, j2, j3, j5, lkC, rfs⟩ := T'
  refine wpAny_Call_Name_kw (ld_glob I gl gm ?_ nd)
  refine PySem.W.callWith_K0 I.kIn T.kC ?_
  show wpAny _ _ (call (.ref C) []) _ _ _
  obtain ⟨hp, gn, dr, tk, os⟩ := s
  have I1 := I
  generalize en : hp.objs.size + 1 = nx at *
  have le : hp.objs.size ≤ nx := by omega
  have fresh : H nx = none := I1.hok.fresh le
  have rd2 := rd.2 nx fresh
  have keep : ∀ b o, hp.get? b = some o → ((hp.push (PySem.W.kdv_tup [])).push (PySem.HandSPX.excO C hp.objs.size)).get? b = some o :=
    fun b o z => Heap.get?_push_of_some _ (Heap.get?_push_of_some _ z)
  have there : ((hp.push (PySem.W.kdv_tup [])).push (PySem.HandSPX.excO C hp.objs.size)).get? nx = some (PySem.HandSPX.excO C hp.objs.size) := by
    rw [← en]
    heap_get
  have I2 := I1.laid (t' := tk) (a := nx) (o := exo nx C none) (h' := (hp.push (PySem.W.kdv_tup [])).push (PySem.HandSPX.excO C hp.objs.size)) keep le (exo_ok there)
  have rel2 : Vals (V.ref nx :: dvs) (Value.ref nx :: ds) := .cons rfl dfl
  have rd2 : spI (V.ref nx :: dvs) _ _ _ := rd2
  have hlen : ([Value.ref nx] ++ ds).length = psI.length := by
    have q := rel2.length
    rw [FI.len _ _ _ _ rd2] at q
    exact q.symm
  have few : ([] : List Value).length ≤ sizeLine := by
    rw [sizeLine_eq]
    exact Nat.zero_le _
  refine wpAny_call ?_
  refine PySem.HandSPX.call_own F.excBase_ValueError (fun Y => PySem.HandSPX.refsVE_contains Y n4 rfs) (I1.kIn _ _ lkC) (PySem.W.looks_findIn I1.kIn iC) (fun self => PySem.W.bind_fn I1.kIn self tI) few ?_
  rw [en]
  refine codeAny_mono (FI.run _ X.stack _ _ ⟨[Value.ref nx], []⟩ (Value.ref nx :: ds) _ _ (fun _ _ _ => False) (room.make C [] []) (I2.env0.make C [] []) (bnd _ [Value.ref nx] I2.kIn hlen) rel2 rd2) fun r s' back => ?_
  cases r with
  | error er => exact px pins σ _ _ er s' I2 back
  | ok fl =>
    cases fl with
    | next => exact back.elim
    | brk => exact back.elim
    | cont => exact back.elim
    | ret u =>
      obtain ⟨v, H2, os2, bare2, un2, hok2, rv, ev, d, fs, ea, ed, hd1, q2⟩ := back
      subst ev
      obtain ⟨h2, g2, d2, t2, os'⟩ := s'
      obtain ⟨t0, G, J, kG, ge, hoe, na⟩ := mk_end0 (d2 := d2) (t2 := t2) I1 le keep un2 hok2 os2 bare2 ea ed hd1
      exact ⟨rv, nx, _, _, ⟨G, g2, d2, t2, os'⟩, _, .ref C, some d, rfl, J, kG, ge, hoe, ⟨rfl, rfl, fun ws hw => by cases hw; rfl⟩, rfl, rfl, na, rfl, bare2, raises_own T.exC T.tyC, q2⟩
variable {nm : Str} {C fI : Addr} {lv n : Nat} {fdI : FuncData} {psI fs : List Str} {mk : List V → List (Str × V)} {mkD : List D → List D} {dus : List Value} {dvs : List V} {dd : List D}
theorem pds_raise (R : Rz X.K C fs n mk mkD) (hc : X.calm = true) (tk : L2N.Takes X (fun c d σ H => EX σ c d H))
    (iC : PySem.W.findIn X.K (.ref C) "__init__" = some (some (.ref fI))) (tI : PySem.W.typeIn X.K (.ref fI) = some (.type "function"))
    (FI : FnOk X.prog X.w X.K X.mg X.base CX0 lv fI fdI psI (spIni X.K C fs n mk)) (room : Room (lv + 1) X.A) (bnd : Binds X.K fdI psI dus) (dfl : Vals dvs dus) (hd : ∀ so A, DaL X.K so A dd dvs) (gl : Gl X nm) (gm : X.mg nm = some (.ref C)) (args : PDA X g EX (e :: es) t)
    (nd : (nm == ("__debug__" : Str)) = false := by decide) (st1 : starEach (e :: es) X.env = (false, eval e X.env) :: starEach es X.env := by rfl) (st2 : (backTo pos (starEach es X.env)).any (·.1) = false := by rfl) :
    PDS X g EX (.Raise (some (.Call (.Name nm p) (e :: es) [] pos)) none pos') (sRaise C fs n mkD dd t) := ⟨(L2N.ps_raise hc tk (pmkN R.o iC tI FI room bnd dfl pass0 gl gm args.pa nd st1 st2)).imp fun De σ H h => by
  obtain ⟨A, ρ, DD, S, h, k⟩ := h
  refine ⟨A, ρ, _, _, S, h, fun ds vs A1 H1 x1 das q => ?_, k.cx S⟩
  obtain ⟨q0, q1, q2⟩ := q
  have da := das.app (hd _ _)
  obtain ⟨us, e1, e2, d2⟩ := R.da g.so A1 _ _ q1 da
  refine raiseN R.o R.nf (by rw [da.len]; exact q1) (by rw [das.len]; exact q0) fun d H' sm hn hx => ?_
  rw [e1] at hx
  have x2 := Ext.same x1.good sm
  exact k.ex σ S.e.len ⟨C, fs, _⟩ d A1 H' us ((S.x.trans x1).trans x2) ((S.x.trans x1).fresh hn) hx e2 d2 q2⟩
theorem pds_raise0 (R : Rz X.K C fs n mk mkD) (hc : X.calm = true) (tk : L2N.Takes X (fun c d σ H => EX σ c d H))
    (iC : PySem.W.findIn X.K (.ref C) "__init__" = some (some (.ref fI))) (tI : PySem.W.typeIn X.K (.ref fI) = some (.type "function"))
    (FI : FnOk X.prog X.w X.K X.mg X.base CX0 lv fI fdI psI (spIni X.K C fs n mk)) (room : Room (lv + 1) X.A) (bnd : Binds X.K fdI psI dus) (dfl : Vals dvs dus) (hd : ∀ so A, DaL X.K so A dd dvs) (gl : Gl X nm) (gm : X.mg nm = some (.ref C))
    (nd : (nm == ("__debug__" : Str)) = false := by decide) :
    PDS X g EX (.Raise (some (.Call (.Name nm p) [] [] pos)) none pos') (sRaise C fs n mkD dd lNil) := ⟨(L2N.ps_raise hc tk (pmkN0 R.o iC tI FI room bnd dfl pass0 gl gm nd)).imp fun De σ H h => by
  obtain ⟨A, ρ, DD, S, h, k⟩ := h
  obtain ⟨q0, q1, q2⟩ := h
  have da := hd g.so A
  obtain ⟨us, e1, e2, d2⟩ := R.da g.so A _ _ q1 da
  refine raiseN (xs := []) R.o R.nf (by rw [List.nil_append, da.len]; exact q1) (Nat.zero_le _) fun d H' sm hn hx => ?_
  rw [List.nil_append, e1] at hx
  have x2 := Ext.same S.good sm
  exact k.ex σ S.e.len ⟨C, fs, _⟩ d A H' us (S.x.trans x2) (S.x.fresh hn) hx e2 d2 q2⟩
end
/-! ### try .. except FrameError as e: return g(e) -/
def spXD (K : PySem.W.Frag) (m : XD → (D → Prop) → Prop) (a : Addr) (cls : Value) (d : Option Addr) : Sp := fun vs H Q _ => ∃ so A x dx us Qd, vs = [.ref a] ∧ cls = .ref x.C ∧ d = some dx ∧ Good K so A H ∧ A dx = some (.xd (x.fs.zip us)) ∧ us.length = x.fs.length ∧ DaL K so A x.vs us ∧ m x Qd ∧ Cont K so A H Qd Q
def sTry (i : Nat) (rb : DS) (okC : Addr → Prop) (mX : XD → (D → Prop) → Prop) : DS := fun DD ρ => i < ρ.length ∧ rb { DD with ex := fun x => okC x.C ∧ mX x DD.rt } ρ
section
variable {X : Cx} {g : Gx} {EX : EXT} {pos np p1 p2 p3 p4 pos' : Pos} {x n gn : Str} {i lv : Nat} {CF f : Addr} {fd : FuncData} {ps : List Str} {body : List Stmt} {rb : DS} {mX : XD → (D → Prop) → Prop}
theorem pds_tryE (hs : X.stack = X.env :: X.outer) (hf : X.env.frame = some X.env.locals) (hN : X.N.Nodup) (hi : X.N[i]? = some n) (hln : X.env.kindOf n = some .local) (hc : Names X x (.ref CF))
    (hb : ∀ (W : WX) (pn : List (Addr × Obj)) (xe : Value → Shared → Prop), L2N.Takes (X.tr pn xe) (fun c d σ H => (fun σ c d H => W c d σ H : EXT) σ c d H) → PassesOwn (model X.prog X.w) X.A X.env xe → PDSs (X.tr pn xe) g (fun σ c d H => W c d σ H) body rb)
    (G : FnE X.prog X.w X.K X.mg X.base lv f fd ps (fun q => spXD X.K mX q.1 q.2.cls q.2.dict)) (room : Room lv X.A) (gl : Gl X gn) (gm : X.mg gn = some (.ref f)) (kp : PySem.W.keepIn X.K (.ref f) = true) (bnd : Binds X.K fd ps [])
    (hv : ∀ (a : Addr) (pn : List (Addr × Obj)), PE (X.suite a pn) (.Name n p2) (tVar i))
    (nd : (gn == ("__debug__" : Str)) = false := by decide) (st1 : ∀ (a : Addr) (pn : List (Addr × Obj)), starEach [.Name n p2] (X.suite a pn).env = (false, eval (.Name n p2) (X.suite a pn).env) :: starEach [] (X.suite a pn).env := by intro _ _; rfl) :
    PDS X g EX (.Try body [.ExceptHandler (some (.Name x np)) (some n) [.Return (some (.Call (.Name gn p1) [.Name n p2] [] p3)) p4] pos'] [] [] pos) (sTry i rb (fun C => PySem.W.exmOne X.K (.ref C) (.ref CF) = some true) mX) := by
  have main := L2N.ps_try_as (pos := pos) (pos' := pos') (np := np) (i := i) (tb := fun W => lS X.K g (fun σ c d H => W c d σ H) rb) (ts := fun a cls d => tRet (tCallS (spXD X.K mX a cls d) (fun _ => E0) (tCons (tVar i) tNil))) hs hf hN hi hln hc takesN0
    (fun W pn xe tk po => (hb W pn xe tk po).pss) (fun a oe cls d pn hz hfl => by
      obtain ⟨h1, h2, h3⟩ := hz
      subst h1 h2
      exact pss_one (ps_ret (pos := p4) (pe_callE (X := X.suite a ((a, oe) :: pn)) (p := p1) (pos := p3) G (L2H.roomH_mark room _) ⟨rfl, hfl.elim fun vs e => ⟨vs, e, h3 vs e⟩⟩ (List.mem_cons_self ..) gl gm kp bnd (pa_cons (hv a _) pa_nil (st1 a _)) nd (st1 a _) rfl)))
  refine ⟨main.imp fun De σ H h => ?_⟩
  obtain ⟨A, ρ, DD, S, ⟨hi2, h⟩, k⟩ := h
  refine ⟨A, ρ, _, S, h, ⟨k.nx, k.rt, k.bk, k.ct, fun σ1 l1 z dx A1 H1 us x1 hn hx hl da q => ?_, k.fr⟩⟩
  refine ⟨true, q.1, fun _ a0 na => ?_, fun e => by cases e⟩
  have nso : g.so ≠ some dx := fun w => by
    obtain ⟨_, _, _, _, _, _, _, _, h5, _⟩ := x1.good.st dx w
    rw [hx] at h5
    cases h5
  obtain ⟨A2, y, sb, hA⟩ : ∃ A2, Ext X.K g.so g.Ai g.Hi A2 H1 ∧ Sub A1 A2 ∧ A2 dx = some (.xd (z.fs.zip us)) := by
    cases e : A1 dx with
    | none => exact ⟨_, x1.frz hn e hx nso, fun b o w => by rw [upd_ne (ne_of_none w e)]; exact w, upd_same⟩
    | some o =>
      have w := x1.good.sub dx o e
      rw [hx] at w
      cases w
      exact ⟨A1, x1, fun _ _ w => w, e⟩
  refine ⟨.ref a0, List.getElem?_set_self (by rw [l1]; exact hi2), g.so, A2, z, dx, us, DD.rt, rfl, rfl, rfl, y.good, hA, hl, DaL.mono sb _ _ da, q.2, fun d v A3 H3 x2 d2 q2 => ?_⟩
  exact k.rt A3 H3 d v (y.trans x2) d2 q2
end
/-! ### fields -/
def mk1 (f : Str) : List V → List (Str × V)
  | [x] => [(f, x)]
  | _ => []
theorem mk1_da {f : Str} {K : PySem.W.Frag} (so : Option Addr) (A : Hp) (ds : List D) (xs : List V) (hl : ds.length = 1) (h : DaL K so A ds xs) : ∃ us, mk1 f xs = [f].zip us ∧ us.length = [f].length ∧ DaL K so A (id ds) us := by
  match ds, hl with
  | [d], _ =>
    obtain ⟨v, rfl, dv⟩ := h.one'
    exact ⟨[v], rfl, rfl, DaL.one dv⟩
def mk3 (f1 f2 f3 : Str) : List V → List (Str × V)
  | [x, y, z] => [(f3, z), (f2, y), (f1, x)]
  | _ => []
def rev3 : List D → List D
  | [x, y, z] => [z, y, x]
  | l => l
theorem mk3_da {f1 f2 f3 : Str} {K : PySem.W.Frag} (so : Option Addr) (A : Hp) (ds : List D) (xs : List V) (hl : ds.length = 3) (h : DaL K so A ds xs) : ∃ us, mk3 f1 f2 f3 xs = [f3, f2, f1].zip us ∧ us.length = [f3, f2, f1].length ∧ DaL K so A (rev3 ds) us := by
  match ds, hl with
  | [d1, d2, d3], _ =>
    obtain ⟨v, r, rfl, dv, h2⟩ := h
    obtain ⟨u, w, rfl, du, dw⟩ := h2.two'
    exact ⟨[w, u, v], rfl, rfl, w, [u, v], rfl, dw, u, [v], rfl, du, DaL.one dv⟩
/-! ### the store -/
theorem StoOk.store {K : PySem.W.Frag} {so : Option Addr} {A H : Hp} {s : Addr} (gd : Good K so A H) (e : so = some s) : Store K H s := by
  obtain ⟨h1, L, ns, p, a, b, c, d, h2, h3, q1, q2, q3, q4, q5, q6⟩ := gd.st s e
  refine ⟨L, ns, p, a, b, c, d, ⟨h2, fun z => ?_, .inl (.inl (gd.sub _ _ h3)), q1, q2, q3, q4, q5, q6⟩⟩
  rw [z, h1] at h3
  cases h3
theorem Ext.store {K : PySem.W.Frag} {so : Option Addr} {A H H' : Hp} {s : Addr} (gd : Good K so A H) (e : so = some s) (x : Sx s H H') (st : Store K H' s) : Ext K so A H A H' := by
  refine ⟨⟨fun b o h => ?_, fun s' e' => ?_⟩, fun _ _ h => h, fun b o n h => ?_, fun _ _ h => .inl h⟩
  · have n : b ≠ s := fun z => by
      rw [z, (gd.st s e).1] at h
      cases h
    exact x.kp b o n (gd.sub b o h)
  · rw [e] at e'
    cases e'
    obtain ⟨h1, L, ns, p, a, b, c, d, h2, h3, q⟩ := gd.st s e
    obtain ⟨ys, h4⟩ := x.ce L _ h2
    obtain ⟨L', ns', p', a', b', c', d', z⟩ := st
    have z1 := z.at_
    rw [h4] at z1
    cases z1
    exact ⟨h1, L, ns, p', a', b', c', d', h4, h3, z.p0, z.a0, z.b0, z.c0, z.c1, q.2.2.2.2.2⟩
  · exact x.kp b o (fun z => n (by rw [e, z])) h
/-- a draw -/
def mTake : DF := fun ds Q _ => match ds with
  | [.sto, .int many] => many < BIG ∧ ∀ r : Int, 0 ≤ r → (r = 0 ∨ r < many) → Q (.int r)
  | _ => False
end My
namespace My
open PySem PySem.Spec PyProof.Rows L2
/-- an own exception class of the top -/
structure Xc (K : PySem.W.Frag) (mg : Str → Option Value) (x : Str) where
  C : Addr
  g : mg x = some (.ref C)
  o : OexC K C
  x : XC K C
structure Xg (mg : Str → Option Value) (x : Str) where
  C : Addr
  g : mg x = some (.ref C)
/-- the __init__ of the class at C; dvs its defaults -/
structure Mi (K : PySem.W.Frag) (C : Addr) (q : Str) (st : Stmt) (ps : List Str) (dvs : List V) where
  f : Addr
  fd : FuncData
  F : FunD K "__init__" q (defArgs st) (defBody st) (defScope st) dvs [] f fd
  b : Binds K fd ps []
  dus : List Value
  vd : Vals dvs dus
  bd : Binds K fd ps dus
  i : PySem.W.findIn K (.ref C) "__init__" = some (some (.ref f))
  t : PySem.W.typeIn K (.ref f) = some (.type "function")
/-- a def of the top with defaults -/
structure Dd (K : PySem.W.Frag) (mg : Str → Option Value) (x : Str) (st : Stmt) (ps : List Str) (dvs : List V) where
  f : Addr
  fd : FuncData
  F : FunD K x x (defArgs st) (defBody st) (defScope st) dvs [] f fd
  b : Binds K fd ps []
  dus : List Value
  vd : Vals dvs dus
  bd : Binds K fd ps dus
  g : mg x = some (.ref f)
section
variable {P : Program} {w : World} {K : PySem.W.Frag} {mg : Str → Option Value} {base : Heap}
theorem Dd.okD {x : Str} {st : Stmt} {N ps : List Str} {lv : Nat} {m : DF} {dvs : List V} (D : Dd K mg x st ps dvs) (S : FnScope N ps (defScope st))
    (body : ∀ (cdv : Value) (A : Around) (outer : List PySem.Env) (s : Shared) (H : Hp) (E : XK) (so : Option Addr) (A0 : Hp), Room lv (A.deeper (envOfC x (defScope st) s.heap.objs.size D.f cdv)) →
      L2N.Takes (cxOf (L2N.CX P w) P w K mg base N x (defScope st) D.f cdv A outer s H E) (fun c d _ H => E c d H) →
      PassesOwn (model P w) (A.deeper (envOfC x (defScope st) s.heap.objs.size D.f cdv)) (envOfC x (defScope st) s.heap.objs.size D.f cdv) (cxOf (L2N.CX P w) P w K mg base N x (defScope st) D.f cdv A outer s H E).xe →
      ∃ r, PDSs (cxOf (L2N.CX P w) P w K mg base N x (defScope st) D.f cdv A outer s H E) ⟨so, A0, H⟩ (fun _ => E) (defBody st) r ∧
        ∀ ds Qd Ed, ds.length = ps.length → m ds Qd Ed → r ⟨fun _ => Qd .non, Qd, fun _ => False, fun _ => False, Ed, False⟩ (startD N ds)) :
    FnOk P w K mg base (L2N.CX P w) (lv + 1) D.f D.fd ps (spD K ps.length m) := by
  refine D.F.ok S spD_len fun cdv A outer s H vs Q E room rd => ?_
  obtain ⟨so, A0, ds, Qd, Ed, gd, hl, da, h, c, cx⟩ := rd
  obtain ⟨r, hr, k⟩ := body cdv A outer s H E so A0 room (L2N.takes_of rfl rfl rfl rfl) PassesOwn.leaving
  refine ⟨_, hr.pss, A0, startD N ds, ⟨fun _ => Qd .non, Qd, fun _ => False, fun _ => False, Ed, False⟩, ⟨Ext.refl gd, startOk gd da⟩, k ds Qd Ed hl h, ⟨fun A1 H1 σ ρ S1 _ _ q => ?_, fun A1 H1 d v x1 d1 q => c d v A1 H1 x1 d1 q, fun _ _ _ _ _ _ _ q => q.elim, fun _ _ _ _ _ _ _ q => q.elim, fun σ _ => cx, fun z => z.elim⟩⟩
  exact c .non .non A1 H1 S1.x rfl q
/-- an __init__ that keeps its one value -/
theorem Mi.ok1 {q : Str} {st : Stmt} {C : Addr} {dvs : List V} {f : Str} (I : Mi K C q st ["self", f] dvs) (S : FnScope ["self", f] ["self", f] (defScope st))
    (body : ∀ (cdv : Value) (A : Around) (outer : List PySem.Env) (s : Shared) (H : Hp) (E : XK), PSs (cxOf CX0 P w K mg base ["self", f] q (defScope st) I.f cdv A outer s H E) (defBody st) (tOst K f (tVar 0) (tVar 1))) :
    FnOk P w K mg base CX0 1 I.f I.fd ["self", f] (spIni K C [f] 1 (mk1 f)) := by
  refine I.F.ok S (fun vs H Q E h => ?_) fun cdv A outer s H vs Q E room h => ?_
  · obtain ⟨a, xs, rfl, hl, _⟩ := h
    show xs.length + 1 = 2
    rw [hl]
  · obtain ⟨a, xs, rfl, hl, o, n, ea, k⟩ := h
    match xs, hl with
    | [x], _ =>
      refine ⟨_, body cdv A outer s H E, g_ost ?_⟩
      refine ⟨x, rfl, .ref a, rfl, a, C, rfl, o, n f (by simp), .inl ⟨ea, fun dx n1 n2 => ?_⟩⟩
      exact k dx _ n1 n2 upd_same (by rw [upd_ne n2, upd_same]; rfl) fun b u nb hb => by rw [upd_ne nb, upd_ne (ne_of_none hb n1)]; exact hb
end
structure Txt (K : PySem.W.Frag) (mg : Str → Option Value) where
  dis_whole : Df K mg "is_whole" (topS 29) ["value"]
  ddivisor : Df K mg "divisor" (topS 30) ["one", "other"]
  dlowest : Df K mg "lowest" (topS 31) ["top", "bottom"]
  dsign_of : Df K mg "sign_of" (topS 32) ["number"]
  dis_ratio_list : Df K mg "is_ratio_list" (topS 33) ["value"]
  dneed_ratio : Df K mg "need_ratio" (topS 34) ["value", "argument"]
  dneed_two : Df K mg "need_two" (topS 35) ["one", "other"]
  dis_ratio : Df K mg "is_ratio" (topS 36) ["value"]
  dratio : Dd K mg "ratio" (topS 37) ["numerator", "denominator"] [.int 1]
  dadd : Df K mg "add" (topS 38) ["one", "other"]
  dsubtract : Df K mg "subtract" (topS 39) ["one", "other"]
  dmultiply : Df K mg "multiply" (topS 40) ["one", "other"]
  ddivide : Df K mg "divide" (topS 41) ["one", "other"]
  dnegate : Df K mg "negate" (topS 42) ["one"]
  dsign : Df K mg "sign" (topS 43) ["one"]
  dcompare : Df K mg "compare" (topS 44) ["one", "other"]
  dtotal : Df K mg "total" (topS 45) ["values"]
  dstore : Df K mg "_law_store" (topS 47) ["script"]
  dtake : Df K mg "_law_take" (topS 48) ["store", "many"]
  dedge : Df K mg "_law_edge" (topS 49) ["store", "many"]
  dbetween : Df K mg "_law_between" (topS 50) ["store", "low", "high"]
  dtens : Df K mg "_law_tens" (topS 51) ["figures"]
  dinteger : Df K mg "_law_integer" (topS 52) ["store", "figures"]
  dlow : Df K mg "_law_low" (topS 53) ["up", "down"]
  dsgn : Df K mg "_law_sgn" (topS 54) ["one"]
  dsmall : Df K mg "_law_small" (topS 55) ["store"]
  dlratio : Df K mg "_law_ratio" (topS 56) ["store", "figures"]
  dnot_ratio : Df K mg "_law_not_ratio" (topS 57) ["store", "none_too"]
  dnot_integer : Df K mg "_law_not_integer" (topS 58) ["store"]
  dsame : Df K mg "_law_same" (topS 59) ["got", "due"]
  dis_int : Df K mg "_law_is_int" (topS 60) ["thing"]
  dlis_ratio : Df K mg "_law_is_ratio" (topS 61) ["thing"]
  dis_ratios : Df K mg "_law_is_ratios" (topS 62) ["thing", "many"]
  drefused : Df K mg "_law_refused" (topS 63) ["e"]
  dunfit : Df K mg "_law_unfit" (topS 64) ["e"]
  dcall : Df K mg "_law_call" (topS 65) ["way", "one", "two"]
  dfault : Df K mg "_law_fault" (topS 66) ["way", "one", "two"]
  dfraction : Df K mg "_law_fraction" (topS 67) ["way", "one", "two"]
  dright : Df K mg "_law_right" (topS 68) ["way", "one", "two", "told"]
  das_due : Df K mg "_law_as_due" (topS 69) ["ask", "told"]
  dsecond : Df K mg "_law_second" (topS 70) ["store", "one", "figures"]
  dwhole_pair : Df K mg "_law_whole_pair" (topS 71) ["store", "figures"]
  dvalues : Df K mg "_law_values" (topS 72) ["store", "one", "figures"]
  dbad_ask : Df K mg "_law_bad_ask" (topS 73) ["store", "way", "ask"]
  dundone : Df K mg "_law_undone" (topS 74) ["one", "two"]
  dlaw : Df K mg "law" (topS 75) ["script"]
  m_len : mg "len" = none
  m_max : mg "max" = none
  m_min : mg "min" = none
  m_abs : mg "abs" = none
  m_int : mg "int" = none
  m_str : mg "str" = none
  m_bool : mg "bool" = none
  m_list : mg "list" = none
  m_tuple : mg "tuple" = none
  m_dict : mg "dict" = none
  m_isinstance : mg "isinstance" = none
  m_range : mg "range" = none
  m_all : mg "all" = none
  m_ValueError : mg "ValueError" = none
  dig : NoDig K
  aNOUGHT : Addr
  kNOUGHT : mg "NOUGHT" = some (.ref aNOUGHT)
  vNOUGHT : ∀ so A, Da K so A (.tup [.int 0, .int 1]) (.ref aNOUGHT)
  cFrameError : Xg mg "FrameError"
  cWrongKind : Xc K mg "WrongKind"
  cOutOfBounds : Xg mg "OutOfBounds"
  cRepeatedName : Xg mg "RepeatedName"
  cUnknownName : Xg mg "UnknownName"
  cUnfitError : Xg mg "UnfitError"
  cZeroDivisor : Xc K mg "ZeroDivisor"
  cNegativeRoot : Xg mg "NegativeRoot"
  cZeroBar : Xg mg "ZeroBar"
  cFlatMap : Xg mg "FlatMap"
  cBadSteps : Xg mg "BadSteps"
  cNotOneWay : Xg mg "NotOneWay"
  cNotHeld : Xg mg "NotHeld"
  cNotFlat : Xg mg "NotFlat"
  cNotCover : Xg mg "NotCover"
  cNotOwnStress : Xg mg "NotOwnStress"
  cNotPicture : Xg mg "NotPicture"
  cNotLift : Xg mg "NotLift"
  cNoReciprocal : Xg mg "NoReciprocal"
  cNotMotion : Xg mg "NotMotion"
  cNotAlike : Xg mg "NotAlike"
  cNotCrank : Xg mg "NotCrank"
  cNothingToUndo : Xg mg "NothingToUndo"
  cNothingToRedo : Xg mg "NothingToRedo"
  cUnsafe : Xg mg "Unsafe"
  cBadText : Xg mg "BadText"
  iWrongKind : Mi K cWrongKind.C "WrongKind.__init__" (inClass (topS 2) 0) ["self", "argument"] []
  zWrongKind : Rz K cWrongKind.C ["argument"] 1 (mk1 "argument") id
  kWrongKind_WrongKind : PySem.W.kitOne K (.ref cWrongKind.C) (.ref cWrongKind.C) = some true
  kWrongKind_OutOfBounds : PySem.W.kitOne K (.ref cWrongKind.C) (.ref cOutOfBounds.C) = some false
  kWrongKind_RepeatedName : PySem.W.kitOne K (.ref cWrongKind.C) (.ref cRepeatedName.C) = some false
  kWrongKind_UnknownName : PySem.W.kitOne K (.ref cWrongKind.C) (.ref cUnknownName.C) = some false
  kWrongKind_Unsafe : PySem.W.kitOne K (.ref cWrongKind.C) (.ref cUnsafe.C) = some false
  kWrongKind_BadText : PySem.W.kitOne K (.ref cWrongKind.C) (.ref cBadText.C) = some false
  kWrongKind_UnfitError : PySem.W.kitOne K (.ref cWrongKind.C) (.ref cUnfitError.C) = some false
  kWrongKind_ZeroDivisor : PySem.W.kitOne K (.ref cWrongKind.C) (.ref cZeroDivisor.C) = some false
  kWrongKind_NegativeRoot : PySem.W.kitOne K (.ref cWrongKind.C) (.ref cNegativeRoot.C) = some false
  kWrongKind_ZeroBar : PySem.W.kitOne K (.ref cWrongKind.C) (.ref cZeroBar.C) = some false
  kWrongKind_FlatMap : PySem.W.kitOne K (.ref cWrongKind.C) (.ref cFlatMap.C) = some false
  kWrongKind_BadSteps : PySem.W.kitOne K (.ref cWrongKind.C) (.ref cBadSteps.C) = some false
  kWrongKind_NotOneWay : PySem.W.kitOne K (.ref cWrongKind.C) (.ref cNotOneWay.C) = some false
  kWrongKind_NotHeld : PySem.W.kitOne K (.ref cWrongKind.C) (.ref cNotHeld.C) = some false
  kWrongKind_NotFlat : PySem.W.kitOne K (.ref cWrongKind.C) (.ref cNotFlat.C) = some false
  kWrongKind_NotCover : PySem.W.kitOne K (.ref cWrongKind.C) (.ref cNotCover.C) = some false
  kWrongKind_NotOwnStress : PySem.W.kitOne K (.ref cWrongKind.C) (.ref cNotOwnStress.C) = some false
  kWrongKind_NotPicture : PySem.W.kitOne K (.ref cWrongKind.C) (.ref cNotPicture.C) = some false
  kWrongKind_NotLift : PySem.W.kitOne K (.ref cWrongKind.C) (.ref cNotLift.C) = some false
  kWrongKind_NoReciprocal : PySem.W.kitOne K (.ref cWrongKind.C) (.ref cNoReciprocal.C) = some false
  kWrongKind_NotMotion : PySem.W.kitOne K (.ref cWrongKind.C) (.ref cNotMotion.C) = some false
  kWrongKind_NotAlike : PySem.W.kitOne K (.ref cWrongKind.C) (.ref cNotAlike.C) = some false
  kWrongKind_NotCrank : PySem.W.kitOne K (.ref cWrongKind.C) (.ref cNotCrank.C) = some false
  kWrongKind_NothingToUndo : PySem.W.kitOne K (.ref cWrongKind.C) (.ref cNothingToUndo.C) = some false
  kWrongKind_NothingToRedo : PySem.W.kitOne K (.ref cWrongKind.C) (.ref cNothingToRedo.C) = some false
  kWrongKind_FrameError : PySem.W.kitOne K (.ref cWrongKind.C) (.ref cFrameError.C) = some true
  kWrongKind_ValueError : PySem.W.kitOne K (.ref cWrongKind.C) (.type "ValueError") = some true
  xWrongKind : PySem.W.exmOne K (.ref cWrongKind.C) (.ref cFrameError.C) = some true
  iZeroDivisor : Mi K cZeroDivisor.C "UnfitError.__init__" (inClass (topS 6) 0) ["self", "subject"] [.non]
  zZeroDivisor : Rz K cZeroDivisor.C ["subject"] 1 (mk1 "subject") id
  kZeroDivisor_WrongKind : PySem.W.kitOne K (.ref cZeroDivisor.C) (.ref cWrongKind.C) = some false
  kZeroDivisor_OutOfBounds : PySem.W.kitOne K (.ref cZeroDivisor.C) (.ref cOutOfBounds.C) = some false
  kZeroDivisor_RepeatedName : PySem.W.kitOne K (.ref cZeroDivisor.C) (.ref cRepeatedName.C) = some false
  kZeroDivisor_UnknownName : PySem.W.kitOne K (.ref cZeroDivisor.C) (.ref cUnknownName.C) = some false
  kZeroDivisor_Unsafe : PySem.W.kitOne K (.ref cZeroDivisor.C) (.ref cUnsafe.C) = some false
  kZeroDivisor_BadText : PySem.W.kitOne K (.ref cZeroDivisor.C) (.ref cBadText.C) = some false
  kZeroDivisor_UnfitError : PySem.W.kitOne K (.ref cZeroDivisor.C) (.ref cUnfitError.C) = some true
  kZeroDivisor_ZeroDivisor : PySem.W.kitOne K (.ref cZeroDivisor.C) (.ref cZeroDivisor.C) = some true
  kZeroDivisor_NegativeRoot : PySem.W.kitOne K (.ref cZeroDivisor.C) (.ref cNegativeRoot.C) = some false
  kZeroDivisor_ZeroBar : PySem.W.kitOne K (.ref cZeroDivisor.C) (.ref cZeroBar.C) = some false
  kZeroDivisor_FlatMap : PySem.W.kitOne K (.ref cZeroDivisor.C) (.ref cFlatMap.C) = some false
  kZeroDivisor_BadSteps : PySem.W.kitOne K (.ref cZeroDivisor.C) (.ref cBadSteps.C) = some false
  kZeroDivisor_NotOneWay : PySem.W.kitOne K (.ref cZeroDivisor.C) (.ref cNotOneWay.C) = some false
  kZeroDivisor_NotHeld : PySem.W.kitOne K (.ref cZeroDivisor.C) (.ref cNotHeld.C) = some false
  kZeroDivisor_NotFlat : PySem.W.kitOne K (.ref cZeroDivisor.C) (.ref cNotFlat.C) = some false
  kZeroDivisor_NotCover : PySem.W.kitOne K (.ref cZeroDivisor.C) (.ref cNotCover.C) = some false
  kZeroDivisor_NotOwnStress : PySem.W.kitOne K (.ref cZeroDivisor.C) (.ref cNotOwnStress.C) = some false
  kZeroDivisor_NotPicture : PySem.W.kitOne K (.ref cZeroDivisor.C) (.ref cNotPicture.C) = some false
  kZeroDivisor_NotLift : PySem.W.kitOne K (.ref cZeroDivisor.C) (.ref cNotLift.C) = some false
  kZeroDivisor_NoReciprocal : PySem.W.kitOne K (.ref cZeroDivisor.C) (.ref cNoReciprocal.C) = some false
  kZeroDivisor_NotMotion : PySem.W.kitOne K (.ref cZeroDivisor.C) (.ref cNotMotion.C) = some false
  kZeroDivisor_NotAlike : PySem.W.kitOne K (.ref cZeroDivisor.C) (.ref cNotAlike.C) = some false
  kZeroDivisor_NotCrank : PySem.W.kitOne K (.ref cZeroDivisor.C) (.ref cNotCrank.C) = some false
  kZeroDivisor_NothingToUndo : PySem.W.kitOne K (.ref cZeroDivisor.C) (.ref cNothingToUndo.C) = some false
  kZeroDivisor_NothingToRedo : PySem.W.kitOne K (.ref cZeroDivisor.C) (.ref cNothingToRedo.C) = some false
  kZeroDivisor_FrameError : PySem.W.kitOne K (.ref cZeroDivisor.C) (.ref cFrameError.C) = some true
  kZeroDivisor_ValueError : PySem.W.kitOne K (.ref cZeroDivisor.C) (.type "ValueError") = some true
  xZeroDivisor : PySem.W.exmOne K (.ref cZeroDivisor.C) (.ref cFrameError.C) = some true

end My
namespace My
open PySem PySem.Spec PyProof.Rows L2
local macro_rules | `(tactic| walk_at "arith") => `(tactic| first
  | (with_reducible show _ ≠ _; omega)
  | (unfold CMul; omega)
  | (unfold CPow; omega)
  | (unfold CPow; decide)
  | exact wide_div (b := 100) (by decide) (by decide) (by decide) (by decide))
local macro_rules | `(tactic| walk_at "go") => `(tactic| repeat (first
  | with_reducible refine g_seq ?_
  | with_reducible refine g_asg ?_
  | with_reducible refine g_name ?_
  | with_reducible refine g_sub ?_
  | with_reducible refine g_ret ?_
  | with_reducible refine g_drop ?_
  | ((with_reducible refine g_next ?_); dsimp only)
  | with_reducible refine g_if ?_
  | with_reducible refine g_var rfl ?_
  | with_reducible refine g_c ?_
  | with_reducible refine g_op ?_
  | with_reducible refine g_un ?_
  | with_reducible refine g_I0 ?_
  | with_reducible refine g_U ?_
  | with_reducible refine g_eq rfl ?_
  | with_reducible refine g_test ?_
  | with_reducible refine g_bl ?_
  | with_reducible refine iteF ?_
  | with_reducible refine iteT ?_
  | ((with_reducible apply g_iteT); (case e => rfl))
  | ((with_reducible apply g_iteF); (case e => rfl))
  | with_reducible refine g_int1 ?_
  | with_reducible refine g_max2 ?_
  | with_reducible refine g_min2 ?_
  | with_reducible refine g_isN ?_
  | with_reducible refine g_notN ?_
  | ((with_reducible apply g_lenL); (case hs => assumption))
  | ((with_reducible apply g_ixL); (case hs => exact SqL.of (by assumption)); (case ha => rfl))
  | with_reducible refine g_pow9 ?_
  | with_reducible refine g_pow18 ?_
  | ((with_reducible apply g_I); (case c => walk_at "arith"))
  | ((with_reducible apply g_st); (case hs => assumption); (case hL => assumption); (case ne => assumption); (case x0 => assumption); (case hj => rfl); (case j0 => decide); intro _ _ _ _)
  | with_reducible refine g_and ?_
  | with_reducible refine g_or ?_
  | with_reducible refine g_not ?_
  | with_reducible refine g_nil ?_
  | with_reducible refine g_cons ?_
  | with_reducible refine g_callB ?_
  | with_reducible refine g_call ?_
  | with_reducible refine g_tup ?_
  | with_reducible refine g_lst ?_
  | with_reducible refine g_andV ?_
  | with_reducible refine g_orV ?_
  | with_reducible refine g_notV ?_
  | with_reducible refine g_tB ?_
  | with_reducible refine g_ne rfl ?_
  | with_reducible refine g_abs ?_
  | with_reducible refine g_isB ?_
  | with_reducible refine g_for ?_
  | with_reducible refine g_rng1 ?_
  | with_reducible refine g_rng2 ?_
  | with_reducible refine g_iList ?_
  | ((with_reducible refine g_break ?_); dsimp only)
  | ((with_reducible refine g_cont ?_); dsimp only)
  | with_reducible refine g_retN ?_
  | ((with_reducible apply isi_go (T := "int")); (case h => assumption); (case hb => exact k_int_ _))
  | ((with_reducible apply isi_go (T := "str")); (case h => assumption); (case hb => exact k_str_ _))
  | ((with_reducible apply isi_go (T := "bool")); (case h => assumption); (case hb => exact k_bool_ _))
  | ((with_reducible apply isi_go (T := "list")); (case h => assumption); (case hb => exact k_list_ _))
  | ((with_reducible apply isi_go (T := "tuple")); (case h => assumption); (case hb => exact k_tuple_ _))
  | ((with_reducible apply isi_go (T := "dict")); (case h => assumption); (case hb => exact k_dict_ _))
  | with_reducible refine g_intb ?_))

abbrev s_take : Stmt := topS 48
abbrev N_take : List Str := ["store", "many", "cell", "got", "once", "twice"]
abbrev P_take : List Str := ["store", "many"]
theorem sc_take : FnScope N_take P_take (defScope s_take) := ⟨rfl, rfl, rfl, by decide +kernel, rfl, by decide +kernel, by decide +kernel⟩

def BN : Nat → Int
  | 0 => 1000000000
  | n + 1 => 1000000000 * (BN n - 1)
def spTakeN (K : PySem.W.Frag) : Nat → Sp
  | 0 => fun _ _ _ _ => False
  | n + 1 => spTake K (BN n)
theorem fmod0 {x m : Int} (h : 0 < m) : 0 ≤ x.fmod m := by
  rw [Int.fmod_eq_emod_of_nonneg _ (by omega)]
  exact Int.emod_nonneg _ (by omega)
theorem fmod1 {x m : Int} (h : 0 < m) : x.fmod m < m := by
  rw [Int.fmod_eq_emod_of_nonneg _ (by omega)]
  exact Int.emod_lt_of_pos _ h
theorem fmod_lt {x m : Int} {n : Nat} (h : 0 < m) (hm : m ≤ 2 ^ n) : (x.fmod m).natAbs < 2 ^ n := by
  have h0 := fmod0 (x := x) h
  have h1 := fmod1 (x := x) h
  have : ((x.fmod m).natAbs : Int) < (2 : Int) ^ n := by omega
  exact_mod_cast this
theorem BN_ge (n : Nat) : 1000000000 ≤ BN n := by
  induction n with
  | zero => exact Int.le_refl _
  | succ n ih =>
    have e : BN (n + 1) = 1000000000 * (BN n - 1) := rfl
    omega
section
variable {P : Program} {w : World} {K : PySem.W.Frag} {mg : Str → Option Value} {base : Heap}
theorem ok_take (T : Txt K mg) (n : Nat) : FnOk P w K mg base CX0 n T.dtake.f T.dtake.fd P_take (spTakeN K n) := by
  induction n with
  | zero => exact ⟨fun _ _ _ _ h => h.elim, fun _ _ _ _ _ _ _ _ _ _ _ _ _ h => h.elim⟩
  | succ n G_take =>
    refine T.dtake.F.ok sc_take (fun vs H Q E h => ?_) (fun cdv A outer s H vs Q E hr h => ?_)
    · obtain ⟨s, many, rfl, _⟩ := h
      rfl
    · obtain ⟨s, many, rfl, hst, hB, hW, k⟩ := h
      refine ⟨_, (pss_cons (ps_if (pt_cmpR op_lt (pv 1) pe_int (nomark _))
        (pss_one (ps_ret pe_int))
        pss_nil)
      (pss_cons (ps_asg (pe_op op_add (pe_ix ix_list (pv 0) pe_int (fun _ _ => rfl)) pe_int) (pg_sub (pv 0) pe_int set_list))
      (Evl.pss_cut (ps_if (PW.pt (pw_and (pt_cmpR op_eq (pe_ix ix_list (pv 0) pe_int (fun _ _ => rfl)) pe_int (nomark _)) (pw_and (pt_cmpR op_eq (pe_ix ix_list (pv 0) pe_int (fun _ _ => rfl)) pe_int (nomark _)) (pw_and1 (pt_cmpR op_lt (pe_ix ix_list (pv 0) pe_int (fun _ _ => rfl)) (pe_callB c_len (by rfl) T.m_len bt_len (pa_cons (pe_ix ix_list (pv 0) pe_int (fun _ _ => rfl)) pa_nil)) (nomark _))))))
        (pss_cons (ps_set (i := 2) sc_take.nd rfl (by first | exact .inl rfl | exact .inr rfl) (pe_callTy c_int1 (by rfl) T.m_int bt_int (pa_cons (pe_ix ix_list (pe_ix ix_list (pv 0) pe_int (fun _ _ => rfl)) (pe_ix ix_list (pv 0) pe_int (fun _ _ => rfl)) (fun _ _ => rfl)) pa_nil)))
        (pss_cons (ps_asg (pe_op op_add (pe_ix ix_list (pv 0) pe_int (fun _ _ => rfl)) pe_int) (pg_sub (pv 0) pe_int set_list))
        (pss_cons (ps_asg (pe_op op_modN (pe_callTy c_int1 (by rfl) T.m_int bt_int (pa_cons (pe_op op_add (pe_op op_add (pe_op op_mul (pe_ix ix_list (pv 0) pe_int (fun _ _ => rfl)) pe_int) (pv 2)) pe_int) pa_nil)) pe_int) (pg_sub (pv 0) pe_int set_list))
        (pss_one (ps_if (pt_cmpR op_ge (pe_callB (c_max2 rfl) (by rfl) T.m_max bt_max (pa_cons (pv 2) (pa_cons (pe_un un_neg (pv 2)) pa_nil))) (pe_op op_pow pe_int pe_int) (nomark _))
          (pss_one (ps_asg (pe_callB (c_max2 rfl) (by rfl) T.m_max bt_max (pa_cons (pv 2) (pa_cons (pe_un un_neg (pv 2)) pa_nil))) (pg_sub (pv 0) pe_int set_list)))
          (pss_one (ps_asg pe_int (pg_sub (pv 0) pe_int set_list))))))))
        pss_nil)
      (pss_cons (ps_if (pt_cmpR op_gt (pe_ix ix_list (pv 0) pe_int (fun _ _ => rfl)) pe_int (nomark _))
        (pss_cons (ps_set (i := 3) sc_take.nd rfl (by first | exact .inl rfl | exact .inr rfl) (pe_op op_modN (pe_callTy c_int1 (by rfl) T.m_int bt_int (pa_cons (pe_ix ix_list (pv 0) pe_int (fun _ _ => rfl)) pa_nil)) (pv 1)))
        (pss_cons (ps_asg (pe_op op_fdivW (pe_ix ix_list (pv 0) pe_int (fun _ _ => rfl)) (pv 1)) (pg_sub (pv 0) pe_int set_list))
        (pss_one (ps_ret (pv 3)))))
        pss_nil)
      (pss_cons (ps_if (pt_cmpR op_gt (pv 1) (pe_op op_pow pe_int pe_int) (nomark _))
        (pss_cons (ps_set (i := 3) sc_take.nd rfl (by first | exact .inl rfl | exact .inr rfl) (pe_call G_take (hr.mono (by omega)) rfl T.dtake.g T.dtake.F.kp T.dtake.b .nil pass0 (pa_cons (pv 0) (pa_cons (pe_op op_pow pe_int pe_int) pa_nil))))
        (pss_one (ps_ret (pe_op op_modN (pe_callTy c_int1 (by rfl) T.m_int bt_int (pa_cons (pe_op op_add (pv 3) (pe_op op_mul (pe_op op_pow pe_int pe_int) (pe_call G_take (hr.mono (by omega)) rfl T.dtake.g T.dtake.F.kp T.dtake.b .nil pass0 (pa_cons (pv 0) (pa_cons (pe_op op_add (pe_op op_fdivW (pv 1) (pe_op op_pow pe_int pe_int)) pe_int) pa_nil))))) pa_nil)) (pv 1)))))
        pss_nil)
      (pss_cons (ps_asg (pe_callB (c_max2 rfl) (by rfl) T.m_max bt_max (pa_cons pe_int (pa_cons (pe_op op_sub (pe_ix ix_list (pv 0) pe_int (fun _ _ => rfl)) pe_int) pa_nil))) (pg_sub (pv 0) pe_int set_list))
      (pss_cons (ps_set (i := 4) sc_take.nd rfl (by first | exact .inl rfl | exact .inr rfl) (pe_op op_add (pe_op op_add (pe_op op_mul (pe_ix ix_list (pv 0) pe_int (fun _ _ => rfl)) pe_int) (pe_op op_mul (pe_ix ix_list (pv 0) pe_int (fun _ _ => rfl)) pe_int)) pe_int))
      (pss_cons (ps_set (i := 4) sc_take.nd rfl (by first | exact .inl rfl | exact .inr rfl) (pe_op op_modN (pe_callTy c_int1 (by rfl) T.m_int bt_int (pa_cons (pv 4) pa_nil)) pe_int))
      (pss_cons (ps_asg (pv 4) (pg_sub (pv 0) pe_int set_list))
      (pss_cons (ps_set (i := 5) sc_take.nd rfl (by first | exact .inl rfl | exact .inr rfl) (pe_op op_modN (pe_callTy c_int1 (by rfl) T.m_int bt_int (pa_cons (pe_op op_add (pe_op op_add (pe_op op_mulW (pv 4) (pv 4)) (pe_op op_fdivW (pv 4) pe_int)) (pe_ix ix_list (pv 0) pe_int (fun _ _ => rfl))) pa_nil)) pe_int))
      (pss_one (ps_ret (pe_op op_modN (pe_callTy c_int1 (by rfl) T.m_int bt_int (pa_cons (pe_op op_fdivW (pv 5) pe_int) pa_nil)) (pv 1)))))))))))))), ?_⟩
      obtain ⟨L, ns, p, a, b, c, d, hs, ne, hL, p0, a0, b0, c0, c1, len⟩ := hst
      have x0 := Sx.refl s H
      dsimp only [cxOf, Cx.nox, Cx.wish]
      walk_at "go"
      refine g_ite (fun h => ?_) (fun h => ?_)
      · walk_at "go"
        exact k 0 H (Int.le_refl _) (.inl rfl) x0 ⟨L, ns, p, a, b, c, d, hs, ne, hL, p0, a0, b0, c0, c1, len⟩
      have hm : 2 ≤ many := by
        have := of_decide_eq_false h
        omega
      walk_at "go"
      refine g_cut (Mid := fun σ' H' => ∃ v p a b c d, σ' = [some (.ref s), some (.int many), v, none, none, none] ∧ StOk K H' s L ns p a b c d ∧ Sx s H H') ?_ ?_
      · walk_at "go"
        refine g_ite (fun h1 => ?_) (fun h1 => ?_)
        · walk_at "go"
          refine g_ite (fun h2 => ?_) (fun h2 => ?_)
          · walk_at "go"
            refine g_ite (fun h3 => ?_) (fun h3 => ?_)
            · walk_at "go"
              have hp : p < ns.length := by
                have := of_decide_eq_true h3
                rw [List.length_map] at this
                exact this
              refine g_ixL (by assumption) (atI_map V.int ns p 0 p0 hp) ?_
              walk_at "go"
              refine g_ite (fun h4 => ?_) (fun h4 => ?_)
              · walk_at "go"
                exact ⟨_, p + 1, _, b, _, _, rfl, ⟨by assumption, ne, by assumption, by omega, by have := of_decide_eq_true h4; omega, b0, by exact fmod0 (by decide), by exact fmod1 (by decide), len⟩, by assumption⟩
              · walk_at "go"
                exact ⟨_, p + 1, a, _, _, _, rfl, ⟨by assumption, ne, by assumption, by omega, a0, by decide, by exact fmod0 (by decide), by exact fmod1 (by decide), len⟩, by assumption⟩
            · walk_at "go"
              exact ⟨_, p, a, b, c, _, rfl, ⟨by assumption, ne, by assumption, p0, a0, b0, c0, c1, len⟩, by assumption⟩
          · walk_at "go"
            exact ⟨_, p, a, b, c, _, rfl, ⟨by assumption, ne, by assumption, p0, a0, b0, c0, c1, len⟩, by assumption⟩
        · walk_at "go"
          exact ⟨_, p, a, b, c, _, rfl, ⟨by assumption, ne, by assumption, p0, a0, b0, c0, c1, len⟩, by assumption⟩
      · rintro σ' H' ⟨v, p, a, b, c, d, rfl, ⟨hs, ne, hL, p0, a0, b0, c0, c1, len⟩, x0⟩
        walk_at "go"
        refine g_ite (fun h5 => ?_) (fun h5 => ?_)
        · walk_at "go"
          refine g_I (big_div (by omega) hW) ?_
          walk_at "go"
          refine k _ _ (fmod0 (by omega)) (.inr (fmod1 (by omega))) (by assumption) ⟨L, ns, p, _, b, c, d, ⟨by assumption, ne, by assumption, p0, ?_, b0, c0, c1, len⟩⟩
          exact Int.ediv_nonneg (by have := of_decide_eq_true h5; omega) (by omega)
        walk_at "go"
        refine g_ite (fun h6 => ?_) (fun h6 => ?_)
        · have hbig := of_decide_eq_true h6
          cases n with
          | zero =>
            exfalso
            have : BN 0 = 1000000000 := rfl
            omega
          | succ m =>
            have eB : BN (m + 1) = 1000000000 * (BN m - 1) := rfl
            have eG := BN_ge m
            walk_at "go"
            refine ⟨s, _, rfl, ⟨L, ns, p, a, b, c, d, hs, ne, hL, p0, a0, b0, c0, c1, len⟩, by omega, by unfold BIG; omega, fun r H1 r0 r1 x1 st1 => ?_⟩
            walk_at "go"
            refine ⟨s, _, rfl, st1, by omega, by omega, fun r2 H2 r20 r21 x2 st2 => ?_⟩
            walk_at "go"
            exact k _ _ (fmod0 (by omega)) (.inr (fmod1 (by omega))) ((x0.trans x1).trans x2) st2
        walk_at "go"
        refine g_I (wide_mul (a := 61) (b := 61) (fmod_lt (by decide) (by decide)) (fmod_lt (by decide) (by decide)) (by decide) (by decide) (by decide)) ?_
        walk_at "go"
        refine k _ _ (fmod0 (by omega)) (.inr (fmod1 (by omega))) (by assumption) ⟨L, ns, p, a, _, _, d, ⟨by assumption, ne, by assumption, p0, a0, ?_, by exact fmod0 (by decide), by exact fmod1 (by decide), len⟩⟩
        split <;> omega
end
end My
namespace My
open PySem PySem.Spec PyProof.Rows L2
local macro_rules | `(tactic| walk_at "arith") => `(tactic| first
  | (with_reducible show _ ≠ _; omega)
  | (unfold CMul; omega)
  | (unfold CPow; omega)
  | (unfold CPow; decide)
  | exact wide_div (b := 100) (by decide) (by decide) (by decide) (by decide))
local macro_rules | `(tactic| walk_at "go") => `(tactic| repeat (first
  | with_reducible refine g_seq ?_
  | with_reducible refine g_asg ?_
  | with_reducible refine g_name ?_
  | with_reducible refine g_sub ?_
  | with_reducible refine g_ret ?_
  | with_reducible refine g_drop ?_
  | ((with_reducible refine g_next ?_); dsimp only)
  | with_reducible refine g_if ?_
  | with_reducible refine g_var rfl ?_
  | with_reducible refine g_c ?_
  | with_reducible refine g_op ?_
  | with_reducible refine g_un ?_
  | with_reducible refine g_I0 ?_
  | with_reducible refine g_U ?_
  | with_reducible refine g_eq rfl ?_
  | with_reducible refine g_test ?_
  | with_reducible refine g_bl ?_
  | with_reducible refine iteF ?_
  | with_reducible refine iteT ?_
  | ((with_reducible apply g_iteT); (case e => rfl))
  | ((with_reducible apply g_iteF); (case e => rfl))
  | with_reducible refine g_int1 ?_
  | with_reducible refine g_max2 ?_
  | with_reducible refine g_min2 ?_
  | with_reducible refine g_isN ?_
  | with_reducible refine g_notN ?_
  | ((with_reducible apply g_lenL); (case hs => assumption))
  | ((with_reducible apply g_ixL); (case hs => exact SqL.of (by assumption)); (case ha => rfl))
  | with_reducible refine g_pow9 ?_
  | with_reducible refine g_pow18 ?_
  | ((with_reducible apply g_I); (case c => walk_at "arith"))
  | ((with_reducible apply g_st); (case hs => assumption); (case hL => assumption); (case ne => assumption); (case x0 => assumption); (case hj => rfl); (case j0 => decide); intro _ _ _ _)
  | with_reducible refine g_and ?_
  | with_reducible refine g_or ?_
  | with_reducible refine g_not ?_
  | with_reducible refine g_nil ?_
  | with_reducible refine g_cons ?_
  | with_reducible refine g_callB ?_
  | with_reducible refine g_call ?_
  | with_reducible refine g_tup ?_
  | with_reducible refine g_lst ?_
  | with_reducible refine g_andV ?_
  | with_reducible refine g_orV ?_
  | with_reducible refine g_notV ?_
  | with_reducible refine g_tB ?_
  | with_reducible refine g_ne rfl ?_
  | with_reducible refine g_abs ?_
  | with_reducible refine g_isB ?_
  | with_reducible refine g_for ?_
  | with_reducible refine g_rng1 ?_
  | with_reducible refine g_rng2 ?_
  | with_reducible refine g_iList ?_
  | ((with_reducible refine g_break ?_); dsimp only)
  | ((with_reducible refine g_cont ?_); dsimp only)
  | with_reducible refine g_retN ?_
  | ((with_reducible apply isi_go (T := "int")); (case h => assumption); (case hb => exact k_int_ _))
  | ((with_reducible apply isi_go (T := "str")); (case h => assumption); (case hb => exact k_str_ _))
  | ((with_reducible apply isi_go (T := "bool")); (case h => assumption); (case hb => exact k_bool_ _))
  | ((with_reducible apply isi_go (T := "list")); (case h => assumption); (case hb => exact k_list_ _))
  | ((with_reducible apply isi_go (T := "tuple")); (case h => assumption); (case hb => exact k_tuple_ _))
  | ((with_reducible apply isi_go (T := "dict")); (case h => assumption); (case hb => exact k_dict_ _))
  | with_reducible refine g_intb ?_))

theorem fn_weak {P : Program} {w : World} {K : PySem.W.Frag} {mg : Str → Option Value} {base : Heap} {CX : CXT} {k : Nat} {f : Addr} {fd : FuncData} {ps : List Str} {sp sp' : Sp} (F : FnOk P w K mg base CX k f fd ps sp) (h : ∀ vs H Q E, sp' vs H Q E → sp vs H Q E) : FnOk P w K mg base CX k f fd ps sp' :=
  ⟨fun vs H Q E z => F.len vs H Q E (h vs H Q E z), fun A outer s H args us vs Q E a b c d e => F.run A outer s H args us vs Q E a b c d (h vs H Q E e)⟩
theorem big_of {m : Int} (h : m ≤ 1000000000) : m < BIG := by
  have : (1000000000 : Int) < BIG := by decide +kernel
  omega
theorem BN_big : BIG ≤ BN 170 := by decide +kernel
def spTakeB (K : PySem.W.Frag) : Sp := fun vs H Q _ => ∃ (s : Addr) (many : Int), vs = [.ref s, .int many] ∧ Store K H s ∧ many < BIG ∧
  ∀ (r : Int) (H' : Hp), 0 ≤ r → (r = 0 ∨ r < many) → Sx s H H' → Store K H' s → Q (.int r) H'
theorem take_go {K : PySem.W.Frag} {H : Hp} {s : Addr} {many : Int} {Q : VK} {E : XK} (st : Store K H s) (hm : many < BIG)
    (k : ∀ (r : Int) (H' : Hp), 0 ≤ r → (r = 0 ∨ r < many) → Sx s H H' → Store K H' s → Q (.int r) H') : spTakeB K [.ref s, .int many] H Q E := ⟨s, many, rfl, st, hm, k⟩
def spBetween (K : PySem.W.Frag) : Sp := fun vs H Q _ => ∃ (s : Addr) (low high : Int), vs = [.ref s, .int low, .int high] ∧ Store K H s ∧ low ≤ high ∧ high - low < 1000000000 ∧
  ∀ (r : Int) (H' : Hp), low ≤ r → r ≤ high → Sx s H H' → Store K H' s → Q (.int r) H'
def spTens : Sp := fun vs H Q _ => ∃ (n : Nat), vs = [.int n] ∧ n ≤ 1000 ∧ Q (.int (10 ^ n)) H
def spInteger (K : PySem.W.Frag) : Sp := fun vs H Q _ => ∃ (s : Addr) (figures : Int), vs = [.ref s, .int figures] ∧ Store K H s ∧ 0 ≤ figures ∧ figures ≤ 1000 ∧
  ∀ (r : Int) (H' : Hp), -(10 ^ 1000) < r → r < 10 ^ 1000 → Sx s H H' → Store K H' s → Q (.int r) H'
def spStore (K : PySem.W.Frag) : Sp := fun vs H Q _ => ∃ (a : Addr) (ns : List Int), vs = [.ref a] ∧ SqL K H a (ns.map V.int) ∧ ns.length ≤ 63 ∧
  ∀ (s : Addr) (H' : Hp), H s = none → Same H H' → Store K H' s → Q (.ref s) H'
abbrev s_store : Stmt := topS 47
abbrev N_store : List Str := ["script"]
abbrev P_store : List Str := ["script"]
theorem sc_store : FnScope N_store P_store (defScope s_store) := ⟨rfl, rfl, rfl, by decide +kernel, rfl, by decide +kernel, by decide +kernel⟩

abbrev s_edge : Stmt := topS 49
abbrev N_edge : List Str := ["store", "many"]
abbrev P_edge : List Str := ["store", "many"]
theorem sc_edge : FnScope N_edge P_edge (defScope s_edge) := ⟨rfl, rfl, rfl, by decide +kernel, rfl, by decide +kernel, by decide +kernel⟩

abbrev s_between : Stmt := topS 50
abbrev N_between : List Str := ["store", "low", "high"]
abbrev P_between : List Str := ["store", "low", "high"]
theorem sc_between : FnScope N_between P_between (defScope s_between) := ⟨rfl, rfl, rfl, by decide +kernel, rfl, by decide +kernel, by decide +kernel⟩

abbrev s_tens : Stmt := topS 51
abbrev N_tens : List Str := ["figures"]
abbrev P_tens : List Str := ["figures"]
theorem sc_tens : FnScope N_tens P_tens (defScope s_tens) := ⟨rfl, rfl, rfl, by decide +kernel, rfl, by decide +kernel, by decide +kernel⟩

abbrev s_integer : Stmt := topS 52
abbrev N_integer : List Str := ["store", "figures", "size", "way", "got"]
abbrev P_integer : List Str := ["store", "figures"]
theorem sc_integer : FnScope N_integer P_integer (defScope s_integer) := ⟨rfl, rfl, rfl, by decide +kernel, rfl, by decide +kernel, by decide +kernel⟩

/-! ### "1" and zeros -/
theorem foldl_rep {α : Type} (xs : Array α) (n : Nat) : ((List.replicate n xs).foldl (· ++ ·) (#[] : Array α)).toList = (List.replicate n xs.toList).flatten := by
  have h : ∀ (n : Nat) (acc : Array α), ((List.replicate n xs).foldl (· ++ ·) acc).toList = acc.toList ++ (List.replicate n xs.toList).flatten := by
    intro n
    induction n with
    | zero => intro acc; simp
    | succ n ih =>
      intro acc
      rw [List.replicate_succ, List.foldl_cons, ih, Array.toList_append, List.replicate_succ, List.flatten_cons, List.append_assoc]
  rw [h n #[]]
  rfl
theorem mul_list (z : Str) (n : Nat) : (PySem.Txt.mul z n).cps.toList = (List.replicate n z.cps.toList).flatten := by
  unfold PySem.Txt.mul
  by_cases h : (n : Int) < 1
  · have e : n = 0 := by omega
    subst e
    rfl
  · rw [if_neg h]
    by_cases h2 : ((n : Int) == 1 || z.length == 0) = true
    · rw [if_pos h2]
      rcases Bool.or_eq_true_iff.mp h2 with h3 | h3
      · have e : n = 1 := by
          have := beq_iff_eq.mp h3
          omega
        subst e
        simp
      · have e : z.cps.toList = [] := by
          have h4 : z.cps.size = 0 := beq_iff_eq.mp h3
          exact List.eq_nil_of_length_eq_zero (by rw [Array.length_toList]; exact h4)
        rw [e]
        simp
    · rw [if_neg h2]
      rw [show ((n : Int)).toNat = n from rfl]
      exact foldl_rep z.cps n
theorem rep_one (c n : Nat) : (List.replicate n [c]).flatten = List.replicate n c := by
  induction n with
  | zero => rfl
  | succ n ih => rw [List.replicate_succ, List.flatten_cons, ih]; rfl
theorem str_app (x y : Str) : (x ++ y).cps.toList = x.cps.toList ++ y.cps.toList := Array.toList_append
theorem one_zeros (n : Nat) : (("1" : Str) ++ PySem.Txt.mul "0" n).cps.toList = 49 :: List.replicate n 48 := by
  rw [str_app, mul_list]
  have e1 : ("1" : Str).cps.toList = [49] := by decide +kernel
  have e0 : ("0" : Str).cps.toList = [48] := by decide +kernel
  rw [e1, e0, rep_one]
  rfl
theorem val_zeros (n a : Nat) : (List.replicate n 48).foldl (fun acc c => acc * 10 + (c - 48)) a = a * 10 ^ n := by
  induction n generalizing a with
  | zero => simp
  | succ n ih =>
    rw [List.replicate_succ, List.foldl_cons, ih, Nat.pow_succ]
    show (a * 10 + 0) * 10 ^ n = a * (10 ^ n * 10)
    rw [Nat.add_zero, Nat.mul_assoc, Nat.mul_comm 10]
theorem digs_zeros (n : Nat) : PySem.NumText.AllDigits (49 :: List.replicate n 48) := by
  intro c hc
  rcases List.mem_cons.mp hc with e | h
  · subst e
    decide
  · have e := (List.mem_replicate.mp h).2
    subst e
    decide
theorem str_len (x : Str) : x.length = x.cps.toList.length := by rw [Array.length_toList]; rfl
theorem tens_read (n : Nat) (h : n ≤ 1000) : PySem.intText? (("1" : Str) ++ PySem.Txt.mul "0" n) = some ((10 ^ n : Nat) : Int) := by
  have e := one_zeros n
  have l : (("1" : Str) ++ PySem.Txt.mul "0" n).length ≤ 4300 := by
    rw [str_len, e]
    simp
    omega
  rw [PySem.intText_digits (by rw [e]; exact digs_zeros n) (by rw [e]; exact List.cons_ne_nil _ _) l, e]
  have v : PySem.NumText.digitsVal (49 :: List.replicate n 48) = 10 ^ n := by
    show (List.replicate n 48).foldl (fun acc c => acc * 10 + (c - 48)) 1 = 10 ^ n
    rw [val_zeros, Nat.one_mul]
  rw [v]
theorem seen_digits (x : Str) (h : PySem.NumText.AllDigits x.cps.toList) : (PySem.numSeenOf x).length = x.length := by
  have ha : x.cps.all (· < 128) = true := by
    rw [← Array.all_toList, List.all_eq_true]
    intro c hc
    have := h c hc
    exact decide_eq_true (by omega)
  have e : PySem.numTextOf x = x.cps.toList := if_pos ha
  have t : ∀ l : List Nat, PySem.NumText.AllDigits l → l.takeWhile (· != 0) = l := by
    intro l
    induction l with
    | nil => intro _; rfl
    | cons c r ih =>
      intro hl
      have hc := hl.head
      rw [List.takeWhile_cons, if_pos (by simp; omega), ih hl.tail]
  show ((PySem.numTextOf x).takeWhile (· != 0)).length = x.length
  rw [e, t _ h, str_len]
theorem ten_le {n m : Nat} (h : n ≤ m) : (10 : Int) ^ n ≤ 10 ^ m := by
  have := Nat.pow_le_pow_right (show 0 < 10 by decide) h
  exact_mod_cast this
theorem ten_lt {n m : Nat} (h : n < m) : (10 : Int) ^ n < 10 ^ m := by
  have := Nat.pow_lt_pow_right (show 1 < 10 by decide) h
  exact_mod_cast this
theorem ten_pos (n : Nat) : (1 : Int) ≤ 10 ^ n := by
  have := Nat.pow_pos (n := n) (show 0 < 10 by decide)
  have h : (1 : Nat) ≤ 10 ^ n := this
  exact_mod_cast h
theorem ten_big : (10 : Int) ^ 1000 < BIG := by decide +kernel
section
variable {P : Program} {w : World} {K : PySem.W.Frag} {mg : Str → Option Value} {base : Heap}
theorem ok_takeB (T : Txt K mg) : FnOk P w K mg base CX0 171 T.dtake.f T.dtake.fd P_take (spTakeB K) :=
  fn_weak (ok_take (P := P) (w := w) (base := base) T 171) fun vs H Q E h => by
    obtain ⟨s, many, e, st, hm, k⟩ := h
    exact ⟨s, many, e, st, Int.le_of_lt (Int.lt_of_lt_of_le hm BN_big), hm, k⟩
theorem ok_store (T : Txt K mg) : FnOk P w K mg base CX0 1 T.dstore.f T.dstore.fd P_store (spStore K) := by
  refine T.dstore.F.ok sc_store (fun vs H Q E h => ?_) (fun cdv A outer s H vs Q E hr h => ?_)
  · obtain ⟨a, ns, rfl, _⟩ := h
    rfl
  · obtain ⟨a, ns, rfl, hq, hl, k⟩ := h
    refine ⟨_, (pss_one (ps_ret (pe_lst (pa_cons (pe_callTy c_list (by rfl) T.m_list bt_list (pa_cons (pv 0) pa_nil)) (pa_cons pe_int (pa_cons pe_int (pa_cons pe_int (pa_cons pe_int (pa_cons pe_int pa_nil))))))))), ?_⟩
    try dsimp only [cxOf, Cx.nox, Cx.wish]
    walk_at "go"
    refine ⟨a, _, rfl, .inl hq, fun L hL => ?_⟩
    walk_at "go"
    refine ⟨by show 6 ≤ sizeLine; decide, fun p hp => ?_⟩
    have nLp : L ≠ p := fun e => by
      rw [← e, upd_same] at hp
      cases hp
    have sL : Same H (upd H L (.lst (ns.map V.int))) := same_new hL
    refine k p _ (sL.free hp) (sL.trans (same_new hp)) ⟨L, ns, 0, 0, 0, 0, 0, ⟨upd_same, nLp, ?_, by decide, by decide, by decide, by decide, by decide, hl⟩⟩
    exact .inl (.inl (by rw [upd_ne nLp, upd_same]))
theorem ok_edge (T : Txt K mg) : FnOk P w K mg base CX0 172 T.dedge.f T.dedge.fd P_edge (spTakeB K) := by
  have G_take : FnOk P w K mg base CX0 171 T.dtake.f T.dtake.fd P_take (spTakeB K) := ok_takeB T
  refine T.dedge.F.ok sc_edge (fun vs H Q E h => ?_) (fun cdv A outer s_ H vs Q E hr h => ?_)
  · obtain ⟨s, many, rfl, _⟩ := h
    rfl
  · obtain ⟨s, many, rfl, st, hm, k⟩ := h
    refine ⟨_, (pss_cons (ps_if (pt_cmpR op_lt (pv 1) pe_int (nomark _))
        (pss_one (ps_ret pe_int))
        pss_nil)
      (pss_cons (ps_if (pt_cmpR op_eq (pe_call G_take (hr.mono (by omega)) rfl T.dtake.g T.dtake.F.kp T.dtake.b .nil pass0 (pa_cons (pv 0) (pa_cons pe_int pa_nil))) pe_int (nomark _))
        (pss_one (ps_ret (pe_op op_mulW (pe_op op_sub (pv 1) pe_int) (pe_call G_take (hr.mono (by omega)) rfl T.dtake.g T.dtake.F.kp T.dtake.b .nil pass0 (pa_cons (pv 0) (pa_cons pe_int pa_nil))))))
        pss_nil)
      (pss_one (ps_ret (pe_call G_take (hr.mono (by omega)) rfl T.dtake.g T.dtake.F.kp T.dtake.b .nil pass0 (pa_cons (pv 0) (pa_cons (pv 1) pa_nil))))))), ?_⟩
    try dsimp only [cxOf, Cx.nox, Cx.wish]
    walk_at "go"
    refine g_ite (fun h => ?_) (fun h => ?_)
    · walk_at "go"
      exact k 0 H (Int.le_refl _) (.inl rfl) (Sx.refl s H) st
    have h2 := of_decide_eq_false h
    walk_at "go"
    refine take_go st (big_of (by decide)) fun r H1 r0 r1 x1 st1 => ?_
    walk_at "go"
    refine g_ite (fun h3 => ?_) (fun h3 => ?_)
    · walk_at "go"
      refine take_go st1 (big_of (by decide)) fun r2 H2 r20 r21 x2 st2 => ?_
      have e : r2 = 0 ∨ r2 = 1 := by omega
      have c : CMulW (many - 1) r2 := by
        unfold CMulW
        have b : (many - 1).natAbs.log2 < 5000 := by
          have b1 : (many - 1).natAbs < 2 ^ 5000 := by
            unfold BIG at hm
            omega
          exact PySem.Flt.log2_lt_of (by decide) b1
        have b2 : r2.natAbs.log2 = 0 := by
          rcases e with e | e <;> subst e <;> decide
        omega
      refine g_I c ?_
      walk_at "go"
      refine k _ H2 ?_ ?_ (x1.trans x2) st2
      · rcases e with e | e <;> subst e <;> omega
      · rcases e with e | e <;> subst e <;> omega
    · walk_at "go"
      exact take_go st1 hm fun r2 H2 r20 r21 x2 st2 => k r2 H2 r20 r21 (x1.trans x2) st2
theorem ok_between (T : Txt K mg) : FnOk P w K mg base CX0 173 T.dbetween.f T.dbetween.fd P_between (spBetween K) := by
  have G_edge : FnOk P w K mg base CX0 172 T.dedge.f T.dedge.fd P_edge (spTakeB K) := ok_edge T
  refine T.dbetween.F.ok sc_between (fun vs H Q E h => ?_) (fun cdv A outer s_ H vs Q E hr h => ?_)
  · obtain ⟨s, low, high, rfl, _⟩ := h
    rfl
  · obtain ⟨s, low, high, rfl, st, h1, h2, k⟩ := h
    refine ⟨_, (pss_one (ps_ret (pe_op op_add (pv 1) (pe_call G_edge (hr.mono (by omega)) rfl T.dedge.g T.dedge.F.kp T.dedge.b .nil pass0 (pa_cons (pv 0) (pa_cons (pe_op op_add (pe_op op_sub (pv 2) (pv 1)) pe_int) pa_nil)))))), ?_⟩
    try dsimp only [cxOf, Cx.nox, Cx.wish]
    walk_at "go"
    refine take_go st (big_of (by omega)) fun r H1 r0 r1 x1 st1 => ?_
    walk_at "go"
    exact k _ H1 (by omega) (by omega) x1 st1
theorem ok_tens (T : Txt K mg) : FnOk P w K mg base CX0 1 T.dtens.f T.dtens.fd P_tens spTens := by
  refine T.dtens.F.ok sc_tens (fun vs H Q E h => ?_) (fun cdv A outer s_ H vs Q E hr h => ?_)
  · obtain ⟨n, rfl, _⟩ := h
    rfl
  · obtain ⟨n, rfl, h1, k⟩ := h
    refine ⟨_, (pss_one (ps_ret (pe_callTy c_intS (by rfl) T.m_int bt_int (pa_cons (pe_op o_addS pe_str (pe_op o_mulS pe_str (pv 0))) pa_nil)))), ?_⟩
    try dsimp only [cxOf, Cx.nox, Cx.wish]
    walk_at "go"
    refine ⟨_, _, rfl, rfl, by omega, by omega, by decide, ?_⟩
    have e := one_zeros n
    have l : (("1" : Str) ++ PySem.Txt.mul "0" n).length = n + 1 := by
      rw [str_len, e]
      simp
    have l2 : ("1" : Str).length + (PySem.Txt.mul "0" n).length = n + 1 := by
      rw [← l, str_len, str_len, str_len, str_app, List.length_append]
    refine g_addS (by rw [l2, sizeLine_eq]; omega) ?_
    walk_at "go"
    refine ⟨_, _, rfl, tens_read n h1, by rw [l, sizeLine_eq]; omega, seen_digits _ (by rw [e]; exact digs_zeros n), T.dig, ?_⟩
    have v : (((10 ^ n : Nat)) : Int) = (10 : Int) ^ n := by exact_mod_cast rfl
    rw [v]
    exact k
theorem ok_integer (T : Txt K mg) : FnOk P w K mg base CX0 174 T.dinteger.f T.dinteger.fd P_integer (spInteger K) := by
  have G_take : FnOk P w K mg base CX0 171 T.dtake.f T.dtake.fd P_take (spTakeB K) := ok_takeB T
  have G_edge : FnOk P w K mg base CX0 172 T.dedge.f T.dedge.fd P_edge (spTakeB K) := ok_edge T
  have G_between : FnOk P w K mg base CX0 173 T.dbetween.f T.dbetween.fd P_between (spBetween K) := ok_between T
  have G_tens : FnOk P w K mg base CX0 1 T.dtens.f T.dtens.fd P_tens spTens := ok_tens T
  refine T.dinteger.F.ok sc_integer (fun vs H Q E h => ?_) (fun cdv A outer s_ H vs Q E hr h => ?_)
  · obtain ⟨s, figures, rfl, _⟩ := h
    rfl
  · obtain ⟨s, figures, rfl, st, f0, f1, k⟩ := h
    refine ⟨_, (pss_cons (ps_if (pt_cmpR op_eq (pe_call G_take (hr.mono (by omega)) rfl T.dtake.g T.dtake.F.kp T.dtake.b .nil pass0 (pa_cons (pv 0) (pa_cons pe_int pa_nil))) pe_int (nomark _))
        (pss_one (ps_ret (pe_call G_between (hr.mono (by omega)) rfl T.dbetween.g T.dbetween.F.kp T.dbetween.b .nil pass0 (pa_cons (pv 0) (pa_cons (pe_un un_neg pe_int) (pa_cons pe_int pa_nil))))))
        pss_nil)
      (pss_cons (ps_set (i := 2) sc_integer.nd rfl (by first | exact .inl rfl | exact .inr rfl) (pe_op op_add pe_int (pe_call G_edge (hr.mono (by omega)) rfl T.dedge.g T.dedge.F.kp T.dedge.b .nil pass0 (pa_cons (pv 0) (pa_cons (pv 1) pa_nil)))))
      (pss_cons (ps_set (i := 3) sc_integer.nd rfl (by first | exact .inl rfl | exact .inr rfl) (pe_call G_take (hr.mono (by omega)) rfl T.dtake.g T.dtake.F.kp T.dtake.b .nil pass0 (pa_cons (pv 0) (pa_cons pe_int pa_nil))))
      (Evl.pss_cut (ps_if (pt_cmpR op_eq (pv 3) pe_int (nomark _))
        (pss_one (ps_set (i := 4) sc_integer.nd rfl (by first | exact .inl rfl | exact .inr rfl) (pe_op op_sub (pe_call G_tens (hr.mono (by omega)) rfl T.dtens.g T.dtens.F.kp T.dtens.b .nil pass0 (pa_cons (pv 2) pa_nil)) pe_int)))
        (pss_one (ps_if (pt_cmpR op_eq (pv 3) pe_int (nomark _))
          (pss_one (ps_set (i := 4) sc_integer.nd rfl (by first | exact .inl rfl | exact .inr rfl) (pe_call G_tens (hr.mono (by omega)) rfl T.dtens.g T.dtens.F.kp T.dtens.b .nil pass0 (pa_cons (pe_op op_sub (pv 2) pe_int) pa_nil))))
          (pss_one (ps_set (i := 4) sc_integer.nd rfl (by first | exact .inl rfl | exact .inr rfl) (pe_call G_take (hr.mono (by omega)) rfl T.dtake.g T.dtake.F.kp T.dtake.b .nil pass0 (pa_cons (pv 0) (pa_cons (pe_call G_tens (hr.mono (by omega)) rfl T.dtens.g T.dtens.F.kp T.dtens.b .nil pass0 (pa_cons (pv 2) pa_nil)) pa_nil))))))))
      (pss_cons (ps_if (pt_cmpR op_eq (pe_call G_take (hr.mono (by omega)) rfl T.dtake.g T.dtake.F.kp T.dtake.b .nil pass0 (pa_cons (pv 0) (pa_cons pe_int pa_nil))) pe_int (nomark _))
        (pss_one (ps_ret (pe_un un_neg (pv 4))))
        pss_nil)
      (pss_one (ps_ret (pv 4)))))))), ?_⟩
    try dsimp only [cxOf, Cx.nox, Cx.wish]
    walk_at "go"
    refine take_go st (big_of (by decide)) fun r H1 r0 r1 x1 st1 => ?_
    walk_at "go"
    refine g_ite (fun h3 => ?_) (fun h3 => ?_)
    · walk_at "go"
      refine ⟨s, _, _, rfl, st1, by decide, by decide, fun r2 H2 a b x2 st2 => ?_⟩
      exact k r2 H2 (Int.lt_of_lt_of_le (by decide +kernel) a) (Int.lt_of_le_of_lt b (by decide +kernel)) (x1.trans x2) st2
    walk_at "go"
    refine take_go st1 (big_of (by omega)) fun z H2 z0 z1 x2 st2 => ?_
    walk_at "go"
    refine take_go st2 (big_of (by decide)) fun way H3 w0 w1 x3 st3 => ?_
    obtain ⟨n, en⟩ : ∃ n : Nat, 1 + z = (n : Int) := ⟨(1 + z).toNat, by omega⟩
    have hn1 : 1 ≤ n := by omega
    have hn : n ≤ 1000 := by omega
    have p1 := ten_le hn
    have p0 := ten_pos n
    have x03 := (x1.trans x2).trans x3
    walk_at "go"
    refine g_cut (Mid := fun σ' H' => ∃ g : Int, σ' = [some (.ref s), some (.int figures), some (.int (n : Int)), some (.int way), some (.int g)] ∧ -(10 ^ 1000) < g ∧ g < 10 ^ 1000 ∧ Sx s H H' ∧ Store K H' s) ?_ ?_
    · walk_at "go"
      refine g_ite (fun h4 => ?_) (fun h4 => ?_)
      · walk_at "go"
        refine ⟨n, by rw [← en]; rfl, hn, ?_⟩
        walk_at "go"
        refine ⟨10 ^ n - 1, by rw [← en]; rfl, ?_, ?_, x03, st3⟩
        · generalize (10 : Int) ^ n = u at *
          generalize (10 : Int) ^ 1000 = v at *
          omega
        · generalize (10 : Int) ^ n = u at *
          generalize (10 : Int) ^ 1000 = v at *
          omega
      walk_at "go"
      refine g_ite (fun h5 => ?_) (fun h5 => ?_)
      · walk_at "go"
        have en1 : (1 + z) - 1 = ((n - 1 : Nat) : Int) := by omega
        refine ⟨n - 1, by rw [← en1]; rfl, by omega, ?_⟩
        have p2 := ten_lt (show n - 1 < 1000 by omega)
        have p3 := ten_pos (n - 1)
        walk_at "go"
        refine ⟨10 ^ (n - 1), by rw [← en]; rfl, ?_, ?_, x03, st3⟩
        · generalize (10 : Int) ^ (n - 1) = u at *
          generalize (10 : Int) ^ 1000 = v at *
          omega
        · generalize (10 : Int) ^ (n - 1) = u at *
          generalize (10 : Int) ^ 1000 = v at *
          omega
      · walk_at "go"
        refine ⟨n, by rw [← en]; rfl, hn, ?_⟩
        walk_at "go"
        refine take_go st3 (Int.lt_of_le_of_lt p1 ten_big) fun q H4 q0 q1 x4 st4 => ?_
        refine ⟨q, by rw [← en]; rfl, ?_, ?_, x03.trans x4, st4⟩
        · generalize (10 : Int) ^ n = u at *
          generalize (10 : Int) ^ 1000 = v at *
          omega
        · generalize (10 : Int) ^ n = u at *
          generalize (10 : Int) ^ 1000 = v at *
          omega
    · rintro σ' H' ⟨g, rfl, g0, g1, x4, st4⟩
      walk_at "go"
      refine take_go st4 (big_of (by decide)) fun r H5 r0 r1 x5 st5 => ?_
      walk_at "go"
      refine g_ite (fun h6 => ?_) (fun h6 => ?_)
      · walk_at "go"
        refine k _ H5 ?_ ?_ (x4.trans x5) st5
        · generalize (10 : Int) ^ 1000 = v at *
          omega
        · generalize (10 : Int) ^ 1000 = v at *
          omega
      · walk_at "go"
        exact k _ H5 g0 g1 (x4.trans x5) st5
end
end My
namespace My
open PySem PySem.Spec PyProof.Rows L2
/-! ### equations for the walk -/
theorem atI_0 {α : Type} (a : α) (l : List α) : atI (a :: l) 0 = some a := atI_nat (j := 0) rfl
theorem atI_1 {α : Type} (a b : α) (l : List α) : atI (a :: b :: l) 1 = some b := atI_nat (j := 1) rfl
theorem atI_2 {α : Type} (a b c : α) (l : List α) : atI (a :: b :: c :: l) 2 = some c := atI_nat (j := 2) rfl
theorem ddIx_t0 (a : D) (l : List D) (Q : D → Prop) : ddIx (.tup (a :: l)) (.int 0) Q = Q a := by
  show (∃ d, atI (a :: l) 0 = some d ∧ Q d) = Q a
  rw [atI_0]
  simp
theorem ddIx_t1 (a b : D) (l : List D) (Q : D → Prop) : ddIx (.tup (a :: b :: l)) (.int 1) Q = Q b := by
  show (∃ d, atI (a :: b :: l) 1 = some d ∧ Q d) = Q b
  rw [atI_1]
  simp
theorem ddIx_t2 (a b c : D) (l : List D) (Q : D → Prop) : ddIx (.tup (a :: b :: c :: l)) (.int 2) Q = Q c := by
  show (∃ d, atI (a :: b :: c :: l) 2 = some d ∧ Q d) = Q c
  rw [atI_2]
  simp
theorem ddIx_l0 (a : D) (l : List D) (Q : D → Prop) : ddIx (.lst (a :: l)) (.int 0) Q = Q a := by
  show (∃ d, atI (a :: l) 0 = some d ∧ Q d) = Q a
  rw [atI_0]
  simp
theorem ddIx_l1 (a b : D) (l : List D) (Q : D → Prop) : ddIx (.lst (a :: b :: l)) (.int 1) Q = Q b := by
  show (∃ d, atI (a :: b :: l) 1 = some d ∧ Q d) = Q b
  rw [atI_1]
  simp
theorem atI_3 {α : Type} (a b c d : α) (l : List α) : atI (a :: b :: c :: d :: l) 3 = some d := atI_nat (j := 3) rfl
theorem ddIx_l2 (a b c : D) (l : List D) (Q : D → Prop) : ddIx (.lst (a :: b :: c :: l)) (.int 2) Q = Q c := by
  show (∃ d, atI (a :: b :: c :: l) 2 = some d ∧ Q d) = Q c
  rw [atI_2]
  simp
theorem ddIx_t3 (a b c d : D) (l : List D) (Q : D → Prop) : ddIx (.tup (a :: b :: c :: d :: l)) (.int 3) Q = Q d := by
  show (∃ e, atI (a :: b :: c :: d :: l) 3 = some e ∧ Q e) = Q d
  rw [atI_3]
  simp
theorem ddEq_ii (n : Bool) (i j : Int) (Q : D → Prop) : ddEq n (.int i) (.int j) Q = Q (.bl (n != decide (i = j))) := rfl
theorem ddEq_ss (n : Bool) (i j : Str) (Q : D → Prop) : ddEq n (.str i) (.str j) Q = Q (.bl (n != decide (i = j))) := rfl
theorem ddEq_bb (n : Bool) (i j : Bool) (Q : D → Prop) : ddEq n (.bl i) (.bl j) Q = Q (.bl (n != decide (i = j))) := rfl
/-! ### comprehensions, all, any -/
theorem compL_map {gr : DG} {te : DE} {ρ : DEnv} {Q : List D → Prop} (f : D → D) : ∀ (ds acc : List D), (∀ d ∈ ds, ∀ R : D → Prop, R (f d) → gr d ρ fun ρ2 => te ρ2 R (fun _ => False)) → acc.length + ds.length ≤ sizeLine → Q (acc ++ ds.map f) → compL gr qYes te ρ Q ds acc
  | [], acc, _, _, q => by
    rw [List.map_nil, List.append_nil] at q
    exact q
  | d :: ds, acc, h, hl, q => by
    have h1 := h d (List.mem_cons_self ..)
    rw [List.length_cons] at hl
    have key := h1 (fun y => acc.length < sizeLine ∧ compL gr qYes te ρ Q ds (acc ++ [y])) ⟨by omega, compL_map f ds (acc ++ [f d]) (fun c hc => h c (List.mem_cons_of_mem _ hc)) (by rw [List.length_append, List.length_cons, List.length_nil]; omega) (by rw [List.append_assoc]; exact q)⟩
    show gr d ρ fun ρ2 => qYes ρ2 (fun b => if b = true then _ else _) (fun _ => False)
    unfold qYes
    simp only [if_true]
    exact key
/-- each element is one of P -/
theorem compL_any {gr : DG} {te : DE} {ρ : DEnv} {Q : List D → Prop} (P : D → Prop) : ∀ (ds acc : List D), (∀ d ∈ ds, ∀ R : D → Prop, (∀ x, P x → R x) → gr d ρ fun ρ2 => te ρ2 R (fun _ => False)) → acc.length + ds.length ≤ sizeLine → (∀ l : List D, l.length = ds.length → (∀ x ∈ l, P x) → Q (acc ++ l)) → compL gr qYes te ρ Q ds acc
  | [], acc, _, _, q => by
    have := q [] rfl (fun x hx => by cases hx)
    rw [List.append_nil] at this
    exact this
  | d :: ds, acc, h, hl, q => by
    have h1 := h d (List.mem_cons_self ..)
    rw [List.length_cons] at hl
    have key := h1 (fun y => acc.length < sizeLine ∧ compL gr qYes te ρ Q ds (acc ++ [y])) fun x hx => ⟨by omega, compL_any P ds (acc ++ [x]) (fun c hc => h c (List.mem_cons_of_mem _ hc)) (by rw [List.length_append, List.length_cons, List.length_nil]; omega) (fun l e pl => by
      rw [List.append_assoc]
      exact q (x :: l) (by rw [List.length_cons, List.length_cons, e]) (fun z hz => by
        rcases List.mem_cons.mp hz with rfl | hz
        · exact hx
        · exact pl z hz))⟩
    show gr d ρ fun ρ2 => qYes ρ2 (fun b => if b = true then _ else _) (fun _ => False)
    unfold qYes
    simp only [if_true]
    exact key
theorem rangeD_len (lo : Int) (n : Nat) : (rangeD lo n).length = n := by
  unfold rangeD
  rw [List.length_map, List.length_range]
def ddAll : DCall := fun ds Q => match ds with
  | [.lst l] => ∃ bs : List Bool, l = bs.map D.bl ∧ Q (.bl (bs.all id))
  | _ => False
def ddAny : DCall := fun ds Q => match ds with
  | [.lst l] => ∃ bs : List Bool, l = bs.map D.bl ∧ Q (.bl (bs.any id))
  | _ => False
theorem daL_bls {K : PySem.W.Frag} {so : Option Addr} {A : Hp} : ∀ (bs : List Bool) (vs : List V), DaL K so A (bs.map D.bl) vs → vs = bs.map V.bl
  | [], _, h => h
  | b :: bs, _, ⟨x, r, e, h, q⟩ => by
    have h : x = _ := h
    rw [e, h, daL_bls bs r q]
    rfl
theorem cl_all {K : PySem.W.Frag} : CallL K (rAll K) ddAll := by
  intro so A H ds vs Qd Q gd da q c
  unfold ddAll at q
  split at q
  · obtain ⟨bs, rfl, q⟩ := q
    obtain ⟨v, rfl, a, xs, rfl, hs, qa⟩ := da.one'
    exact ⟨a, bs, rfl, SqL.of (by rw [← daL_bls _ _ qa]; exact gd.sub _ _ hs), c.nowB gd q⟩
  · exact q.elim
theorem cl_any {K : PySem.W.Frag} : CallL K (rAny K) ddAny := by
  intro so A H ds vs Qd Q gd da q c
  unfold ddAny at q
  split at q
  · obtain ⟨bs, rfl, q⟩ := q
    obtain ⟨v, rfl, a, xs, rfl, hs, qa⟩ := da.one'
    exact ⟨a, bs, rfl, SqL.of (by rw [← daL_bls _ _ qa]; exact gd.sub _ _ hs), c.nowB gd q⟩
  · exact q.elim
theorem bt_all : bootBuiltins "all" = some (.builtin "all") := by decide +kernel
theorem bt_any : bootBuiltins "any" = some (.builtin "any") := by decide +kernel
theorem bt_ValueError : bootBuiltins "ValueError" = some (.type "ValueError") := by decide +kernel
end My
namespace My
open PySem PySem.Spec PyProof.Rows L2
local macro_rules | `(tactic| walk_at "dl") => `(tactic| simp only [startD, List.map_cons, List.map_nil, List.length_cons, List.length_nil, List.cons_append, List.nil_append, List.replicate_succ, List.replicate_zero, List.getElem?_cons_zero, List.getElem?_cons_succ, List.set_cons_zero, List.set_cons_succ,
  dVar, rdS, dC, dNew, dOp, onB, qB, dChain, qAnd, qOr, qNot, qTru, truD, dIf, dAnd, dOr, dNot, dUn, ddNeg, lNil, lCons, dTup, nLst, ddI, ddI0, ddAdd, isNonD, isBlD, ddIsN, ddIsB, ddIx_t0, ddIx_t1, ddIx_t2, ddIx_t3, ddIx_l0, ddIx_l1, ddIx_l2, dCB, ddLen, ddInt1, ddAbs, ddMM, ddTuple, nCB, nnList, ddIsi, dCall,
  sSkip, sSeq, sBreak, sCont, sExpr, sRet, sRetN, sIf, sNever, gdName, gdNil, gdCons, gdTup, sAsg, sSetN, sPar, sRaise, sFrz, owS, sApp, sIns, dLenO, dIxO, sTry, sFor, iL, iT, onL, onT, iR1, iR2, nComp, qYes,
  ddEq_ii, ddEq_ss, ddEq_bb, Bool.false_bne, Bool.true_bne, List.append_nil, true_and, and_true, if_true, if_false, Bool.not_true, Bool.not_false, Bool.true_eq_false, Bool.false_eq_true, ite_true, ite_false, id_eq])

/-! ### the greatest common divisor -/
theorem fmod_nat (m n : Nat) (h : 0 < n) : (m : Int).fmod (n : Int) = ((m % n : Nat) : Int) := by
  rw [Int.fmod_eq_emod_of_nonneg _ (by omega)]
  exact (Int.natCast_emod m n).symm
theorem gcd_step (m n : Nat) : Nat.gcd n (m % n) = Nat.gcd m n := by
  rw [Nat.gcd_comm m n, Nat.gcd_rec n m, Nat.gcd_comm]
theorem abs_nat (i : Int) : (if i < 0 then -i else i) = (i.natAbs : Int) := by
  split <;> omega
theorem max_nat (i : Int) : (if -i > i then -i else i) = (i.natAbs : Int) := by
  split <;> omega
def G2 (a b : Int) : Nat := Nat.gcd a.natAbs b.natAbs
theorem log2_mono {a b : Nat} (h : a ≤ b) : a.log2 ≤ b.log2 := by
  by_cases ha : a = 0
  · subst ha
    exact Nat.zero_le _
  · have hb : b ≠ 0 := by omega
    exact (Nat.le_log2 hb).mpr (Nat.le_trans (Nat.log2_self_le ha) h)
/-- the lowest terms of a / b -/
def lowP (a b : Int) : Int := (if b < 0 then -a else a) / (G2 a b : Int)
def lowQ (a b : Int) : Int := (b.natAbs : Int) / (G2 a b : Int)
theorem low_div (a b : Int) (hb : b ≠ 0) : a.fdiv (if b < 0 then -(G2 a b : Int) else G2 a b) = lowP a b ∧ b.fdiv (if b < 0 then -(G2 a b : Int) else G2 a b) = lowQ a b := by
  have hG : 0 < G2 a b := Nat.gcd_pos_of_pos_right _ (by omega)
  obtain ⟨c, hc⟩ : (G2 a b : Int) ∣ a := Int.ofNat_dvd_left.mpr (Nat.gcd_dvd_left _ _)
  obtain ⟨d, hd⟩ : (G2 a b : Int) ∣ b := Int.ofNat_dvd_left.mpr (Nat.gcd_dvd_right _ _)
  unfold lowP lowQ
  generalize G2 a b = g at *
  have gz : (g : Int) ≠ 0 := by omega
  by_cases h : b < 0
  · rw [if_pos h, if_pos h]
    have e1 : a = (-(g : Int)) * (-c) := by rw [hc, Int.neg_mul_neg]
    have e2 : b = (-(g : Int)) * (-d) := by rw [hd, Int.neg_mul_neg]
    have e3 : -a = (g : Int) * (-c) := by rw [hc, Int.mul_neg]
    have e4 : (b.natAbs : Int) = (g : Int) * (-d) := by
      have z : (b.natAbs : Int) = -b := by omega
      rw [z, hd, Int.mul_neg]
    have f1 : a.fdiv (-(g : Int)) = -c := by
      conv => lhs; arg 1; rw [e1]
      exact Int.mul_fdiv_cancel_left _ (by omega)
    have f2 : b.fdiv (-(g : Int)) = -d := by
      conv => lhs; arg 1; rw [e2]
      exact Int.mul_fdiv_cancel_left _ (by omega)
    have f3 : -a / (g : Int) = -c := by
      rw [e3]
      exact Int.mul_ediv_cancel_left _ gz
    have f4 : (b.natAbs : Int) / (g : Int) = -d := by
      rw [e4]
      exact Int.mul_ediv_cancel_left _ gz
    rw [f1, f2, f3, f4]
    exact ⟨rfl, rfl⟩
  · rw [if_neg h, if_neg h]
    have f1 : a.fdiv (g : Int) = c := by
      conv => lhs; arg 1; rw [hc]
      exact Int.mul_fdiv_cancel_left _ gz
    have f2 : b.fdiv (g : Int) = d := by
      conv => lhs; arg 1; rw [hd]
      exact Int.mul_fdiv_cancel_left _ gz
    have f3 : a / (g : Int) = c := by
      conv => lhs; arg 1; rw [hc]
      exact Int.mul_ediv_cancel_left _ gz
    have e4 : (b.natAbs : Int) = b := by omega
    have f4 : (b.natAbs : Int) / (g : Int) = d := by
      rw [e4]
      conv => lhs; arg 1; rw [hd]
      exact Int.mul_ediv_cancel_left _ gz
    rw [f1, f2, f3, f4]
    exact ⟨rfl, rfl⟩
theorem gcd_bits {a b : Int} (hb : b ≠ 0) (hz : b.natAbs.log2 < 9000) (i j : Int) : CDivZ i (if b < 0 then -(G2 a b : Int) else G2 a b) ∧ CDivZ j (if b < 0 then -(G2 a b : Int) else G2 a b) := by
  have hG : 0 < G2 a b := Nat.gcd_pos_of_pos_right _ (by omega)
  have hl : G2 a b ≤ b.natAbs := Nat.gcd_le_right _ (by omega)
  have hz2 : (G2 a b).log2 < 9000 := Nat.lt_of_le_of_lt (log2_mono hl) hz
  have : (if b < 0 then -(G2 a b : Int) else G2 a b) ≠ 0 ∧ (if b < 0 then -(G2 a b : Int) else G2 a b).natAbs = G2 a b := by split <;> omega
  exact ⟨⟨this.1, by rw [this.2]; exact hz2⟩, ⟨this.1, by rw [this.2]; exact hz2⟩⟩
/-! ### what the defs do -/
def isW : D → Bool
  | .int _ => true
  | _ => false
def ratD (a b : Int) : D := .tup [.int a, .int b]
def isRat : D → Bool
  | .tup [.int a, .int b] => decide (1 ≤ b) && decide (G2 a b = 1)
  | _ => false
def sgn (n : Int) : Int := if n > 0 then 1 else if n < 0 then -1 else 0
def m_is_whole : DF := fun ds Q _ => match ds with
  | [d] => plainD d = true ∧ Q (.bl (isW d))
  | _ => False
def m_sign_of : DF := fun ds Q _ => match ds with
  | [.int n] => Q (.int (sgn n))
  | _ => False
def m_divisor : DF := fun ds Q _ => match ds with
  | [.int a, .int b] => Q (.int (G2 a b))
  | _ => False
def m_lowest : DF := fun ds Q _ => match ds with
  | [.int a, .int b] => b ≠ 0 ∧ b.natAbs.log2 < 9000 ∧ Q (ratD (lowP a b) (lowQ a b))
  | _ => False
def m_is_ratio : DF := fun ds Q _ => match ds with
  | [d] => (plainD d = true ∧ ∀ l, d = .tup l → ∀ e ∈ l, plainD e = true) ∧ Q (.bl (isRat d))
  | _ => False
theorem isW_eq (d : D) : (isIn d "int" && !isIn d "bool") = isW d := by
  cases d with
  | bl b => show (("bool" == "int" || "int" == "int") && !("bool" == "bool" || "bool" == "int")) = false; decide +kernel
  | int i => show ("int" == "int" && !("bool" == "int")) = true; decide +kernel
  | str i => show ("int" == "str" && !("bool" == "str")) = false; decide +kernel
  | tup i => show ("int" == "tuple" && !("bool" == "tuple")) = false; decide +kernel
  | lst i => show ("int" == "list" && !("bool" == "list")) = false; decide +kernel
  | dct i _ => show ("int" == "dict" && !("bool" == "dict")) = false; decide +kernel
  | _ => rfl
theorem tup_cases : ∀ d : D, (isIn d "tuple" = false ∧ isRat d = false) ∨ ∃ l, d = .tup l ∧ isIn (.tup l) "tuple" = true
  | .tup l => .inr ⟨l, rfl, by show ("tuple" == "tuple") = true; decide +kernel⟩
  | .non => .inl ⟨rfl, rfl⟩
  | .bl _ => .inl ⟨by show ("tuple" == "bool" || "tuple" == "int") = false; decide +kernel, rfl⟩
  | .int _ => .inl ⟨by show ("tuple" == "int") = false; decide +kernel, rfl⟩
  | .str _ => .inl ⟨by show ("tuple" == "str") = false; decide +kernel, rfl⟩
  | .dct _ _ => .inl ⟨by show ("tuple" == "dict") = false; decide +kernel, rfl⟩
  | .lst _ => .inl ⟨by show ("tuple" == "list") = false; decide +kernel, rfl⟩
  | .ins _ _ _ => .inl ⟨rfl, rfl⟩
  | .scr _ => .inl ⟨rfl, rfl⟩
  | .sto => .inl ⟨rfl, rfl⟩
  | .exc _ => .inl ⟨rfl, rfl⟩
theorem rat_no {l : List D} (h : ¬ l.length = 2) : isRat (.tup l) = false := by
  match l, h with
  | [], _ => rfl
  | [d1], _ => cases d1 <;> rfl
  | [d1, d2], h => exact absurd rfl h
  | d1 :: d2 :: d3 :: r, _ =>
    cases d1 <;> first | rfl | (cases d2 <;> rfl)
theorem isW_int {d : D} (h : isW d = true) : ∃ i, d = .int i := by
  cases d <;> first | exact ⟨_, rfl⟩ | cases h
theorem rat_no1 {d1 d2 : D} (h : isW d1 = false) : isRat (.tup [d1, d2]) = false := by
  cases d1 <;> first | rfl | cases h
theorem rat_no2 {d1 d2 : D} (h : isW d2 = false) : isRat (.tup [d1, d2]) = false := by
  cases d1 <;> cases d2 <;> first | rfl | cases h
abbrev s_is_whole : Stmt := topS 29
abbrev N_is_whole : List Str := ["value"]
abbrev P_is_whole : List Str := ["value"]
theorem sc_is_whole : FnScope N_is_whole P_is_whole (defScope s_is_whole) := ⟨rfl, rfl, rfl, by decide +kernel, rfl, by decide +kernel, by decide +kernel⟩

abbrev s_sign_of : Stmt := topS 32
abbrev N_sign_of : List Str := ["number"]
abbrev P_sign_of : List Str := ["number"]
theorem sc_sign_of : FnScope N_sign_of P_sign_of (defScope s_sign_of) := ⟨rfl, rfl, rfl, by decide +kernel, rfl, by decide +kernel, by decide +kernel⟩

abbrev s_divisor : Stmt := topS 30
abbrev N_divisor : List Str := ["one", "other", "first", "second"]
abbrev P_divisor : List Str := ["one", "other"]
theorem sc_divisor : FnScope N_divisor P_divisor (defScope s_divisor) := ⟨rfl, rfl, rfl, by decide +kernel, rfl, by decide +kernel, by decide +kernel⟩

abbrev s_lowest : Stmt := topS 31
abbrev N_lowest : List Str := ["top", "bottom", "common"]
abbrev P_lowest : List Str := ["top", "bottom"]
theorem sc_lowest : FnScope N_lowest P_lowest (defScope s_lowest) := ⟨rfl, rfl, rfl, by decide +kernel, rfl, by decide +kernel, by decide +kernel⟩

abbrev s_is_ratio : Stmt := topS 36
abbrev N_is_ratio : List Str := ["value", "top", "bottom"]
abbrev P_is_ratio : List Str := ["value"]
theorem sc_is_ratio : FnScope N_is_ratio P_is_ratio (defScope s_is_ratio) := ⟨rfl, rfl, rfl, by decide +kernel, rfl, by decide +kernel, by decide +kernel⟩

section
variable {P : Program} {w : World} {K : PySem.W.Frag} {mg : Str → Option Value} {base : Heap}
theorem ok_is_whole (T : Txt K mg) : FnOk P w K mg base (L2N.CX P w) 1 T.dis_whole.f T.dis_whole.fd P_is_whole (spD K 1 m_is_whole) := by
  refine T.dis_whole.okD sc_is_whole fun cdv A outer s H E so A0 hr tk hp => ⟨_, (pds_one (pds_ret (pd_and (pd_isi (by rfl) T.m_isinstance (pd_var (pv 0)) (pe_bltn (v := .ty "int") (by rfl) T.m_int bt_int rfl) tq_int) (pd_one (pd_not (pd_isi (by rfl) T.m_isinstance (pd_var (pv 0)) (pe_bltn (v := .ty "bool") (by rfl) T.m_bool bt_bool rfl) tq_bool)))))), fun ds Q E hl h => ?_⟩
  match ds, hl with
  | [d], _ =>
    obtain ⟨p, h⟩ := h
    walk_at "dl"
    refine ⟨p, ?_⟩
    rw [← isW_eq] at h
    split
    · rename_i e
      rw [e] at h
      exact ⟨p, h⟩
    · rename_i e
      rw [Bool.not_eq_true] at e
      rw [e] at h
      exact h
theorem ok_sign_of (T : Txt K mg) : FnOk P w K mg base (L2N.CX P w) 1 T.dsign_of.f T.dsign_of.fd P_sign_of (spD K 1 m_sign_of) := by
  refine T.dsign_of.okD sc_sign_of fun cdv A outer s H E so A0 hr tk hp => ⟨_, (pds_cons (pds_if (pdt_cmp op_gt ol_gt (pd_var (pv 0)) pd_int (nomark _))
        (pds_one (pds_ret pd_int))
        pds_nil)
      (pds_cons (pds_if (pdt_cmp op_lt ol_lt (pd_var (pv 0)) pd_int (nomark _))
        (pds_one (pds_ret (pd_neg pd_int)))
        pds_nil)
      (pds_one (pds_ret pd_int)))), fun ds Q E hl h => ?_⟩
  unfold m_sign_of at h
  split at h
  · rename_i n
    unfold sgn at h
    walk_at "dl"
    split
    · rename_i c
      simpa [of_decide_eq_true c] using h
    · rename_i c
      have c : ¬ (0 < n) := by simpa using c
      split
      · rename_i c2
        have c2 : n < 0 := by simpa using c2
        simpa [c, c2] using h
      · rename_i c2
        have c2 : ¬ n < 0 := by simpa using c2
        simpa [c, c2] using h
  · exact h.elim
theorem ok_divisor (T : Txt K mg) : FnOk P w K mg base (L2N.CX P w) 1 T.ddivisor.f T.ddivisor.fd P_divisor (spD K 2 m_divisor) := by
  refine T.ddivisor.okD sc_divisor fun cdv A outer s H E so A0 hr tk hp => ⟨_, (pds_cons (pds_par (i := 2) (j := 3) (by rfl) sc_divisor.nd rfl rfl (by decide) rfl rfl (pda_cons (pd_callB c_abs cl_abs (by rfl) T.m_abs bt_abs (pda_cons (pd_var (pv 0)) pda_nil)) (pda_cons (pd_callB c_abs cl_abs (by rfl) T.m_abs bt_abs (pda_cons (pd_var (pv 1)) pda_nil)) pda_nil)) (by rfl))
      (pds_cons (pds_while hp (pdt_cmp (oo_ne hr.units) ol_ne (pd_var (pv 3)) pd_int (nomark _))
        (pds_one (pds_par (i := 2) (j := 3) (by rfl) sc_divisor.nd rfl rfl (by decide) rfl rfl (pda_cons (pd_var (pv 3)) (pda_cons (pd_op op_modN ol_mod (pd_var (pv 2)) (pd_var (pv 3))) pda_nil)) (by rfl))))
      (pds_one (pds_ret (pd_var (pv 2)))))), fun ds Q E hl h => ?_⟩
  unfold m_divisor at h
  split at h
  · rename_i a b
    walk_at "dl"
    rw [abs_nat, abs_nat]
    refine ⟨fun m ρ => ∃ x : Nat, ρ = [.fr (.int a), .fr (.int b), .fr (.int (x : Int)), .fr (.int (m : Int))] ∧ Nat.gcd x m = G2 a b, ⟨b.natAbs, a.natAbs, rfl, rfl⟩, ?_⟩
    rintro m ρ ⟨x, rfl, hg⟩
    walk_at "dl"
    split
    · rename_i c
      have hm : 0 < m := by
        have : ¬ ((m : Int) = 0) := by simpa using c
        omega
      refine ⟨fun ρ' => ∃ x : Nat, ρ' = [.fr (.int a), .fr (.int b), .fr (.int (m : Int)), .fr (.int (x : Int))] ∧ Nat.gcd m x = G2 a b ∧ x < m, ?_, ?_⟩
      · rintro ρ' ⟨y, e1, e2, e3⟩
        exact ⟨y, e3, m, e1, e2⟩
      · refine ⟨by omega, ?_⟩
        rw [fmod_nat x m hm]
        exact ⟨x % m, rfl, by rw [gcd_step]; exact hg, Nat.mod_lt x hm⟩
    · rename_i c
      have hm : m = 0 := by
        have : ((m : Int) = 0) := by simpa using c
        omega
      subst hm
      rw [Nat.gcd_zero_right] at hg
      rw [hg]
      exact h
  · exact h.elim
theorem ok_lowest (T : Txt K mg) : FnOk P w K mg base (L2N.CX P w) 2 T.dlowest.f T.dlowest.fd P_lowest (spD K 2 m_lowest) := by
  have G_divisor : FnOk P w K mg base (L2N.CX P w) 1 T.ddivisor.f T.ddivisor.fd P_divisor (spD K 2 m_divisor) := ok_divisor T
  refine T.dlowest.okD sc_lowest fun cdv A outer s H E so A0 hr tk hp => ⟨_, (pds_cons (pds_set (i := 2) sc_lowest.nd rfl (by first | exact .inl rfl | exact .inr rfl) (pd_call G_divisor (hr.mono (by omega)) (by rfl) T.ddivisor.g T.ddivisor.F.kp T.ddivisor.b (fun σ => L2N.passAt tk σ) (pda_cons (pd_var (pv 0)) (pda_cons (pd_var (pv 1)) pda_nil))))
      (pds_cons (pds_if (pdt_cmp op_lt ol_lt (pd_var (pv 1)) pd_int (nomark _))
        (pds_one (pds_set (i := 2) sc_lowest.nd rfl (by first | exact .inl rfl | exact .inr rfl) (pd_neg (pd_var (pv 2)))))
        pds_nil)
      (pds_one (pds_ret (pd_tup (pda_cons (pd_op op_fdivZ ol_fdiv (pd_var (pv 0)) (pd_var (pv 2))) (pda_cons (pd_op op_fdivZ ol_fdiv (pd_var (pv 1)) (pd_var (pv 2))) pda_nil))))))), fun ds Q E hl h => ?_⟩
  unfold m_lowest at h
  split at h
  · rename_i a b
    obtain ⟨hb, hz, h⟩ := h
    obtain ⟨f1, f2⟩ := low_div a b hb
    obtain ⟨c1, c2⟩ := gcd_bits (a := a) hb hz a b
    walk_at "dl"
    simp only [m_divisor]
    split
    · rename_i c
      have c : b < 0 := by simpa using c
      rw [if_pos c] at c1 c2 f1 f2
      refine ⟨c1, c2, (by show 2 ≤ sizeLine; decide), ?_⟩
      rw [f1, f2]
      exact h
    · rename_i c
      have c : ¬ b < 0 := by simpa using c
      rw [if_neg c] at c1 c2 f1 f2
      refine ⟨c1, c2, (by show 2 ≤ sizeLine; decide), ?_⟩
      rw [f1, f2]
      exact h
  · exact h.elim
theorem ok_is_ratio (T : Txt K mg) : FnOk P w K mg base (L2N.CX P w) 2 T.dis_ratio.f T.dis_ratio.fd P_is_ratio (spD K 1 m_is_ratio) := by
  have G_is_whole : FnOk P w K mg base (L2N.CX P w) 1 T.dis_whole.f T.dis_whole.fd P_is_whole (spD K 1 m_is_whole) := ok_is_whole T
  have G_divisor : FnOk P w K mg base (L2N.CX P w) 1 T.ddivisor.f T.ddivisor.fd P_divisor (spD K 2 m_divisor) := ok_divisor T
  refine T.dis_ratio.okD sc_is_ratio fun cdv A outer s H E so A0 hr tk hp => ⟨_, (pds_cons (pds_if (PDW.t (pdw_or (pdt_not (pdt_tru (pd_isi (by rfl) T.m_isinstance (pd_var (pv 0)) (pe_bltn (v := .ty "tuple") (by rfl) T.m_tuple bt_tuple rfl) tq_tuple))) (pdw_or1 (pdt_cmp (oo_ne hr.units) ol_ne (pd_callB oo_len cl_len (by rfl) T.m_len bt_len (pda_cons (pd_var (pv 0)) pda_nil)) pd_int (nomark _)))))
        (pds_one (pds_ret pd_bl))
        pds_nil)
      (pds_cons (pds_asg (pd_var (pv 0)) (pdg_tup (n := 2) rfl (pdgs_cons (pdg_name (pg_name (i := 1) sc_is_ratio.nd rfl (by first | exact .inl rfl | exact .inr rfl))) (pdgs_cons (pdg_name (pg_name (i := 2) sc_is_ratio.nd rfl (by first | exact .inl rfl | exact .inr rfl))) pdgs_nil))))
      (pds_cons (pds_if (PDW.t (pdw_or (pdt_not (pdt_tru (pd_call G_is_whole (hr.mono (by omega)) (by rfl) T.dis_whole.g T.dis_whole.F.kp T.dis_whole.b (fun σ => L2N.passAt tk σ) (pda_cons (pd_var (pv 1)) pda_nil)))) (pdw_or1 (pdt_not (pdt_tru (pd_call G_is_whole (hr.mono (by omega)) (by rfl) T.dis_whole.g T.dis_whole.F.kp T.dis_whole.b (fun σ => L2N.passAt tk σ) (pda_cons (pd_var (pv 2)) pda_nil)))))))
        (pds_one (pds_ret pd_bl))
        pds_nil)
      (pds_one (pds_ret (pd_and (pd_cmp op_ge ol_ge (pd_var (pv 2)) pd_int (nomark _)) (pd_one (pd_cmp (oo_eq hr.units) ol_eq (pd_call G_divisor (hr.mono (by omega)) (by rfl) T.ddivisor.g T.ddivisor.F.kp T.ddivisor.b (fun σ => L2N.passAt tk σ) (pda_cons (pd_var (pv 1)) (pda_cons (pd_var (pv 2)) pda_nil))) pd_int (nomark _))))))))), fun ds Q E hl h => ?_⟩
  match ds, hl with
  | [d], _ =>
    obtain ⟨⟨p, pl⟩, h⟩ := h
    walk_at "dl"
    refine ⟨p, ?_⟩
    rcases tup_cases d with ⟨hd, hn⟩ | ⟨l, rfl, ht⟩
    · rw [hd]
      walk_at "dl"
      rw [hn] at h
      exact h
    rw [ht]
    walk_at "dl"
    by_cases h2 : l.length = 2
    · obtain ⟨d1, d2, rfl⟩ : ∃ d1 d2, l = [d1, d2] := by
        match l, h2 with
        | [d1, d2], _ => exact ⟨d1, d2, rfl⟩
      have p1 := pl _ rfl d1 (by simp)
      have p2 := pl _ rfl d2 (by simp)
      walk_at "dl"
      simp only [m_is_whole, p1, p2, true_and]
      cases w1 : isW d1 with
      | false =>
        rw [rat_no1 w1] at h
        simpa using h
      | true =>
        cases w2 : isW d2 with
        | false =>
          rw [rat_no2 w2] at h
          simpa using h
        | true =>
          obtain ⟨a, rfl⟩ := isW_int w1
          obtain ⟨b, rfl⟩ := isW_int w2
          have h : Q (.bl (decide (1 ≤ b) && decide (G2 a b = 1))) := h
          by_cases hb : 1 ≤ b
          · rw [decide_eq_true hb, Bool.true_and] at h
            have e : decide ((G2 a b : Int) = 1) = decide (G2 a b = 1) := decide_eq_decide.mpr (by omega)
            simp [hb, m_divisor, ddEq_ii, e]
            exact h
          · rw [decide_eq_false hb, Bool.false_and] at h
            simp [hb]
            exact h
    · rw [rat_no h2] at h
      have e : ¬ ((l.length : Int) = 2) := by omega
      simp only [decide_eq_false e, Bool.not_false, if_true]
      exact h
end
end My
namespace My
open PySem PySem.Spec PyProof.Rows L2
local macro_rules | `(tactic| walk_at "dl") => `(tactic| simp only [startD, List.map_cons, List.map_nil, List.length_cons, List.length_nil, List.cons_append, List.nil_append, List.replicate_succ, List.replicate_zero, List.getElem?_cons_zero, List.getElem?_cons_succ, List.set_cons_zero, List.set_cons_succ,
  dVar, rdS, dC, dNew, dOp, onB, qB, dChain, qAnd, qOr, qNot, qTru, truD, dIf, dAnd, dOr, dNot, dUn, ddNeg, lNil, lCons, dTup, nLst, ddI, ddI0, ddAdd, isNonD, isBlD, ddIsN, ddIsB, ddIx_t0, ddIx_t1, ddIx_t2, ddIx_t3, ddIx_l0, ddIx_l1, ddIx_l2, dCB, ddLen, ddInt1, ddAbs, ddMM, ddTuple, nCB, nnList, ddIsi, dCall,
  sSkip, sSeq, sBreak, sCont, sExpr, sRet, sRetN, sIf, sNever, gdName, gdNil, gdCons, gdTup, sAsg, sSetN, sPar, sRaise, sFrz, owS, sApp, sIns, dLenO, dIxO, sTry, sFor, iL, iT, onL, onT, iR1, iR2, nComp, qYes,
  ddEq_ii, ddEq_ss, ddEq_bb, Bool.false_bne, Bool.true_bne, List.append_nil, true_and, and_true, if_true, if_false, Bool.not_true, Bool.not_false, Bool.true_eq_false, Bool.false_eq_true, ite_true, ite_false, id_eq])

/-- data that is_ratio may be asked -/
def Pl (d : D) : Prop := plainD d = true ∧ ∀ l, d = .tup l → ∀ e ∈ l, plainD e = true
theorem rat_shape {d : D} (h : isRat d = true) : ∃ a b, d = ratD a b ∧ 1 ≤ b ∧ G2 a b = 1 := by
  match d, h with
  | .tup [.int a, .int b], h =>
    have h : (decide (1 ≤ b) && decide (G2 a b = 1)) = true := h
    rw [Bool.and_eq_true] at h
    exact ⟨a, b, rfl, of_decide_eq_true h.1, of_decide_eq_true h.2⟩
theorem rat_pl {d : D} (h : isRat d = true) : Pl d := by
  obtain ⟨a, b, rfl, _⟩ := rat_shape h
  refine ⟨rfl, fun l e x hx => ?_⟩
  cases e
  simp at hx
  rcases hx with rfl | rfl <;> rfl
/-- small enough to be multiplied and divided -/
def Sm (x : Int) : Prop := x.natAbs < 2 ^ 4000
theorem Sm.mul {x y : Int} (hx : Sm x) (hy : Sm y) : CMulW x y := wide_mul hx hy (by decide) (by decide) (by decide)
theorem Sm.prod {x y : Int} (hx : Sm x) (hy : Sm y) : (x * y).natAbs.log2 < 9000 := by
  have h : (x * y).natAbs < 2 ^ (4000 + 4000) := by
    rw [Int.natAbs_mul, Nat.pow_add]
    exact Nat.mul_lt_mul'' hx hy
  exact Nat.lt_of_lt_of_le (PySem.Flt.log2_lt_of (by decide) h) (by decide)
section
variable {K : PySem.W.Frag} {mg : Str → Option Value} (T : Txt K mg)
def wkX (x : Str) : XD := ⟨T.cWrongKind.C, ["argument"], [.str x]⟩
def zdX : XD := ⟨T.cZeroDivisor.C, ["subject"], [.non]⟩
def m_need_ratio : DF := fun ds Q E => match ds with
  | [d, .str x] => Pl d ∧ (isRat d = false → E (wkX T x)) ∧ (isRat d = true → Q .non)
  | _ => False
def Two (d1 d2 : D) (E : XD → Prop) (k : Int → Int → Int → Int → Prop) : Prop := Pl d1 ∧ Pl d2 ∧ (isRat d1 = false → E (wkX T "one")) ∧ (isRat d1 = true → isRat d2 = false → E (wkX T "other")) ∧
  (∀ a b c d, d1 = ratD a b → d2 = ratD c d → isRat d1 = true → isRat d2 = true → k a b c d)
def m_need_two : DF := fun ds Q E => match ds with
  | [d1, d2] => Two T d1 d2 E fun _ _ _ _ => Q .non
  | _ => False
/-- the ratio in lowest terms -/
def lowD (p : Int × Int) : D := ratD (lowP p.1 p.2) (lowQ p.1 p.2)
def m_op (f : Int → Int → Int → Int → Int × Int) : DF := fun ds Q E => match ds with
  | [d1, d2] => Two T d1 d2 E fun a b c d => (Sm a ∧ Sm b ∧ Sm c ∧ Sm d) ∧ Q (lowD (f a b c d))
  | _ => False
def m_divide : DF := fun ds Q E => match ds with
  | [d1, d2] => Two T d1 d2 E fun a b c d => (Sm a ∧ Sm b ∧ Sm c ∧ Sm d) ∧ (c = 0 → E (zdX T)) ∧ (c ≠ 0 → Q (lowD (a * d, b * c)))
  | _ => False
def m_compare : DF := fun ds Q E => match ds with
  | [d1, d2] => Two T d1 d2 E fun a b c d => (Sm a ∧ Sm b ∧ Sm c ∧ Sm d) ∧ Q (.int (sgn (a * d - c * b)))
  | _ => False
def m_negate : DF := fun ds Q E => match ds with
  | [d1] => Pl d1 ∧ (isRat d1 = false → E (wkX T "one")) ∧ ∀ a b, d1 = ratD a b → isRat d1 = true → Q (ratD (-a) b)
  | _ => False
def m_sign : DF := fun ds Q E => match ds with
  | [d1] => Pl d1 ∧ (isRat d1 = false → E (wkX T "one")) ∧ ∀ a b, d1 = ratD a b → isRat d1 = true → Q (.int (sgn a))
  | _ => False
def m_ratio : DF := fun ds Q E => match ds with
  | [d1, d2] => plainD d1 = true ∧ plainD d2 = true ∧ (isW d1 = false → E (wkX T "numerator")) ∧ (isW d1 = true → isW d2 = false → E (wkX T "denominator")) ∧
    ∀ a b, d1 = .int a → d2 = .int b → (b = 0 → E (zdX T)) ∧ (b ≠ 0 → b.natAbs.log2 < 9000 ∧ Q (lowD (a, b)))
  | _ => False
end
def isRL : D → Bool
  | .lst l => l.all isRat
  | _ => false
def m_is_ratio_list : DF := fun ds Q _ => match ds with
  | [d] => plainD d = true ∧ (∀ l, d = .lst l → l.length ≤ 1000000 ∧ ∀ e ∈ l, Pl e) ∧ Q (.bl (isRL d))
  | _ => False
theorem lst_cases : ∀ d : D, (isIn d "list" = false ∧ isRL d = false) ∨ ∃ l, d = .lst l ∧ isIn (.lst l) "list" = true
  | .lst l => .inr ⟨l, rfl, by show ("list" == "list") = true; decide +kernel⟩
  | .non => .inl ⟨rfl, rfl⟩
  | .bl _ => .inl ⟨by show ("list" == "bool" || "list" == "int") = false; decide +kernel, rfl⟩
  | .int _ => .inl ⟨by show ("list" == "int") = false; decide +kernel, rfl⟩
  | .str _ => .inl ⟨by show ("list" == "str") = false; decide +kernel, rfl⟩
  | .dct _ _ => .inl ⟨by show ("list" == "dict") = false; decide +kernel, rfl⟩
  | .tup _ => .inl ⟨by show ("list" == "tuple") = false; decide +kernel, rfl⟩
  | .ins _ _ _ => .inl ⟨rfl, rfl⟩
  | .scr _ => .inl ⟨rfl, rfl⟩
  | .sto => .inl ⟨rfl, rfl⟩
  | .exc _ => .inl ⟨rfl, rfl⟩
abbrev s_WrongKind_init : Stmt := inClass (topS 2) 0
abbrev N_WrongKind_init : List Str := ["self", "argument"]
abbrev P_WrongKind_init : List Str := ["self", "argument"]
theorem sc_WrongKind_init : FnScope N_WrongKind_init P_WrongKind_init (defScope s_WrongKind_init) := ⟨rfl, rfl, rfl, by decide +kernel, rfl, by decide +kernel, by decide +kernel⟩

abbrev s_UnfitError_init : Stmt := inClass (topS 6) 0
abbrev N_UnfitError_init : List Str := ["self", "subject"]
abbrev P_UnfitError_init : List Str := ["self", "subject"]
theorem sc_UnfitError_init : FnScope N_UnfitError_init P_UnfitError_init (defScope s_UnfitError_init) := ⟨rfl, rfl, rfl, by decide +kernel, rfl, by decide +kernel, by decide +kernel⟩

abbrev s_need_ratio : Stmt := topS 34
abbrev N_need_ratio : List Str := ["value", "argument"]
abbrev P_need_ratio : List Str := ["value", "argument"]
theorem sc_need_ratio : FnScope N_need_ratio P_need_ratio (defScope s_need_ratio) := ⟨rfl, rfl, rfl, by decide +kernel, rfl, by decide +kernel, by decide +kernel⟩

abbrev s_need_two : Stmt := topS 35
abbrev N_need_two : List Str := ["one", "other"]
abbrev P_need_two : List Str := ["one", "other"]
theorem sc_need_two : FnScope N_need_two P_need_two (defScope s_need_two) := ⟨rfl, rfl, rfl, by decide +kernel, rfl, by decide +kernel, by decide +kernel⟩

abbrev s_add : Stmt := topS 38
abbrev N_add : List Str := ["one", "other"]
abbrev P_add : List Str := ["one", "other"]
theorem sc_add : FnScope N_add P_add (defScope s_add) := ⟨rfl, rfl, rfl, by decide +kernel, rfl, by decide +kernel, by decide +kernel⟩

abbrev s_subtract : Stmt := topS 39
abbrev N_subtract : List Str := ["one", "other"]
abbrev P_subtract : List Str := ["one", "other"]
theorem sc_subtract : FnScope N_subtract P_subtract (defScope s_subtract) := ⟨rfl, rfl, rfl, by decide +kernel, rfl, by decide +kernel, by decide +kernel⟩

abbrev s_multiply : Stmt := topS 40
abbrev N_multiply : List Str := ["one", "other"]
abbrev P_multiply : List Str := ["one", "other"]
theorem sc_multiply : FnScope N_multiply P_multiply (defScope s_multiply) := ⟨rfl, rfl, rfl, by decide +kernel, rfl, by decide +kernel, by decide +kernel⟩

abbrev s_divide : Stmt := topS 41
abbrev N_divide : List Str := ["one", "other"]
abbrev P_divide : List Str := ["one", "other"]
theorem sc_divide : FnScope N_divide P_divide (defScope s_divide) := ⟨rfl, rfl, rfl, by decide +kernel, rfl, by decide +kernel, by decide +kernel⟩

abbrev s_negate : Stmt := topS 42
abbrev N_negate : List Str := ["one"]
abbrev P_negate : List Str := ["one"]
theorem sc_negate : FnScope N_negate P_negate (defScope s_negate) := ⟨rfl, rfl, rfl, by decide +kernel, rfl, by decide +kernel, by decide +kernel⟩

abbrev s_sign : Stmt := topS 43
abbrev N_sign : List Str := ["one"]
abbrev P_sign : List Str := ["one"]
theorem sc_sign : FnScope N_sign P_sign (defScope s_sign) := ⟨rfl, rfl, rfl, by decide +kernel, rfl, by decide +kernel, by decide +kernel⟩

abbrev s_compare : Stmt := topS 44
abbrev N_compare : List Str := ["one", "other"]
abbrev P_compare : List Str := ["one", "other"]
theorem sc_compare : FnScope N_compare P_compare (defScope s_compare) := ⟨rfl, rfl, rfl, by decide +kernel, rfl, by decide +kernel, by decide +kernel⟩

abbrev s_ratio : Stmt := topS 37
abbrev N_ratio : List Str := ["numerator", "denominator"]
abbrev P_ratio : List Str := ["numerator", "denominator"]
theorem sc_ratio : FnScope N_ratio P_ratio (defScope s_ratio) := ⟨rfl, rfl, rfl, by decide +kernel, rfl, by decide +kernel, by decide +kernel⟩

abbrev s_is_ratio_list : Stmt := topS 33
abbrev N_is_ratio_list : List Str := ["value", "item"]
abbrev P_is_ratio_list : List Str := ["value"]
theorem sc_is_ratio_list : FnScope N_is_ratio_list P_is_ratio_list (defScope s_is_ratio_list) := ⟨rfl, rfl, rfl, by decide +kernel, rfl, by decide +kernel, by decide +kernel⟩

theorem pl_no : ∀ d : D, isRat d = false ∨ isRat d = true := fun d => by cases isRat d <;> simp
section
variable {P : Program} {w : World} {K : PySem.W.Frag} {mg : Str → Option Value} {base : Heap}
theorem ok_iWrongKind (T : Txt K mg) : FnOk P w K mg base CX0 1 T.iWrongKind.f T.iWrongKind.fd P_WrongKind_init (spIni K T.cWrongKind.C ["argument"] 1 (mk1 "argument")) :=
  T.iWrongKind.ok1 sc_WrongKind_init fun cdv A outer s H E => pss_one (ps_ost (pv 0) (pv 1))
theorem ok_iZeroDivisor (T : Txt K mg) : FnOk P w K mg base CX0 1 T.iZeroDivisor.f T.iZeroDivisor.fd P_UnfitError_init (spIni K T.cZeroDivisor.C ["subject"] 1 (mk1 "subject")) :=
  T.iZeroDivisor.ok1 sc_UnfitError_init fun cdv A outer s H E => pss_one (ps_ost (pv 0) (pv 1))
theorem ok_need_ratio (T : Txt K mg) : FnOk P w K mg base (L2N.CX P w) 4 T.dneed_ratio.f T.dneed_ratio.fd P_need_ratio (spD K 2 (m_need_ratio T)) := by
  have I_WrongKind := ok_iWrongKind (P := P) (w := w) (base := base) T
  have G_is_ratio : FnOk P w K mg base (L2N.CX P w) 2 T.dis_ratio.f T.dis_ratio.fd P_is_ratio (spD K 1 m_is_ratio) := ok_is_ratio T
  refine T.dneed_ratio.okD sc_need_ratio fun cdv A outer s H E so A0 hr tk hp => ⟨_, (pds_one (pds_if (pdt_not (pdt_tru (pd_call G_is_ratio (hr.mono (by omega)) (by rfl) T.dis_ratio.g T.dis_ratio.F.kp T.dis_ratio.b (fun σ => L2N.passAt tk σ) (pda_cons (pd_var (pv 0)) pda_nil))))
        (pds_one (pds_raise T.zWrongKind rfl tk T.iWrongKind.i T.iWrongKind.t I_WrongKind (hr.mono (by omega)) T.iWrongKind.b .nil (dd := []) (fun _ _ => rfl) rfl T.cWrongKind.g (pda_cons (pd_var (pv 1)) pda_nil)))
        pds_nil)), fun ds Q E hl h => ?_⟩
  unfold m_need_ratio at h
  split at h
  · rename_i d x
    obtain ⟨pl, h0, h1⟩ := h
    walk_at "dl"
    refine ⟨pl, ?_⟩
    cases hR : isRat d with
    | false =>
      walk_at "dl"
      exact ⟨by decide, h0 hR⟩
    | true =>
      walk_at "dl"
      exact h1 hR
  · exact h.elim
theorem ok_need_two (T : Txt K mg) : FnOk P w K mg base (L2N.CX P w) 5 T.dneed_two.f T.dneed_two.fd P_need_two (spD K 2 (m_need_two T)) := by
  have G_need_ratio : FnOk P w K mg base (L2N.CX P w) 4 T.dneed_ratio.f T.dneed_ratio.fd P_need_ratio (spD K 2 (m_need_ratio T)) := ok_need_ratio T
  refine T.dneed_two.okD sc_need_two fun cdv A outer s H E so A0 hr tk hp => ⟨_, (pds_cons (pds_expr (pd_call G_need_ratio (hr.mono (by omega)) (by rfl) T.dneed_ratio.g T.dneed_ratio.F.kp T.dneed_ratio.b (fun σ => L2N.passAt tk σ) (pda_cons (pd_var (pv 0)) (pda_cons pd_str pda_nil))))
      (pds_one (pds_expr (pd_call G_need_ratio (hr.mono (by omega)) (by rfl) T.dneed_ratio.g T.dneed_ratio.F.kp T.dneed_ratio.b (fun σ => L2N.passAt tk σ) (pda_cons (pd_var (pv 1)) (pda_cons pd_str pda_nil)))))), fun ds Q E hl h => ?_⟩
  match ds, hl with
  | [d1, d2], _ =>
    obtain ⟨p1, p2, h1, h2, h3⟩ := h
    walk_at "dl"
    refine ⟨p1, h1, fun r1 => ⟨p2, h2 r1, fun r2 => ?_⟩⟩
    obtain ⟨a, b, rfl, _⟩ := rat_shape r1
    obtain ⟨c, d, rfl, _⟩ := rat_shape r2
    exact h3 a b c d rfl rfl r1 r2
theorem ok_add (T : Txt K mg) : FnOk P w K mg base (L2N.CX P w) 6 T.dadd.f T.dadd.fd P_add (spD K 2 (m_op T fun a b c d => (a * d + c * b, b * d))) := by
  have G_need_two : FnOk P w K mg base (L2N.CX P w) 5 T.dneed_two.f T.dneed_two.fd P_need_two (spD K 2 (m_need_two T)) := ok_need_two T
  have G_lowest : FnOk P w K mg base (L2N.CX P w) 2 T.dlowest.f T.dlowest.fd P_lowest (spD K 2 m_lowest) := ok_lowest T
  refine T.dadd.okD sc_add fun cdv A outer s H E so A0 hr tk hp => ⟨_, (pds_cons (pds_expr (pd_call G_need_two (hr.mono (by omega)) (by rfl) T.dneed_two.g T.dneed_two.F.kp T.dneed_two.b (fun σ => L2N.passAt tk σ) (pda_cons (pd_var (pv 0)) (pda_cons (pd_var (pv 1)) pda_nil))))
      (pds_one (pds_ret (pd_call G_lowest (hr.mono (by omega)) (by rfl) T.dlowest.g T.dlowest.F.kp T.dlowest.b (fun σ => L2N.passAt tk σ) (pda_cons (pd_op oo_add ol_add (pd_op op_mulW ol_mul (pd_ix ix_seq ol_ix (pd_var (pv 0)) pd_int (fun _ _ => rfl)) (pd_ix ix_seq ol_ix (pd_var (pv 1)) pd_int (fun _ _ => rfl))) (pd_op op_mulW ol_mul (pd_ix ix_seq ol_ix (pd_var (pv 1)) pd_int (fun _ _ => rfl)) (pd_ix ix_seq ol_ix (pd_var (pv 0)) pd_int (fun _ _ => rfl)))) (pda_cons (pd_op op_mulW ol_mul (pd_ix ix_seq ol_ix (pd_var (pv 0)) pd_int (fun _ _ => rfl)) (pd_ix ix_seq ol_ix (pd_var (pv 1)) pd_int (fun _ _ => rfl))) pda_nil)))))), fun ds Q E hl h => ?_⟩
  match ds, hl with
  | [d1, d2], _ =>
    obtain ⟨p1, p2, h1, h2, h3⟩ := h
    walk_at "dl"
    refine ⟨p1, p2, h1, h2, fun a b c d e1 e2 r1 r2 => ?_⟩
    obtain ⟨⟨sa, sb, sc, sd⟩, k3⟩ := h3 a b c d e1 e2 r1 r2
    subst e1 e2
    obtain ⟨_, _, e, hb, _⟩ := rat_shape r1
    cases e
    obtain ⟨_, _, e, hd, _⟩ := rat_shape r2
    cases e
    have bd : b * d ≠ 0 := Int.mul_ne_zero (by omega) (by omega)
    simp only [ratD]
    walk_at "dl"
    exact ⟨sa.mul sd, sc.mul sb, sb.mul sd, bd, sb.prod sd, k3⟩
theorem ok_subtract (T : Txt K mg) : FnOk P w K mg base (L2N.CX P w) 6 T.dsubtract.f T.dsubtract.fd P_subtract (spD K 2 (m_op T fun a b c d => (a * d - c * b, b * d))) := by
  have G_need_two : FnOk P w K mg base (L2N.CX P w) 5 T.dneed_two.f T.dneed_two.fd P_need_two (spD K 2 (m_need_two T)) := ok_need_two T
  have G_lowest : FnOk P w K mg base (L2N.CX P w) 2 T.dlowest.f T.dlowest.fd P_lowest (spD K 2 m_lowest) := ok_lowest T
  refine T.dsubtract.okD sc_subtract fun cdv A outer s H E so A0 hr tk hp => ⟨_, (pds_cons (pds_expr (pd_call G_need_two (hr.mono (by omega)) (by rfl) T.dneed_two.g T.dneed_two.F.kp T.dneed_two.b (fun σ => L2N.passAt tk σ) (pda_cons (pd_var (pv 0)) (pda_cons (pd_var (pv 1)) pda_nil))))
      (pds_one (pds_ret (pd_call G_lowest (hr.mono (by omega)) (by rfl) T.dlowest.g T.dlowest.F.kp T.dlowest.b (fun σ => L2N.passAt tk σ) (pda_cons (pd_op op_sub ol_sub (pd_op op_mulW ol_mul (pd_ix ix_seq ol_ix (pd_var (pv 0)) pd_int (fun _ _ => rfl)) (pd_ix ix_seq ol_ix (pd_var (pv 1)) pd_int (fun _ _ => rfl))) (pd_op op_mulW ol_mul (pd_ix ix_seq ol_ix (pd_var (pv 1)) pd_int (fun _ _ => rfl)) (pd_ix ix_seq ol_ix (pd_var (pv 0)) pd_int (fun _ _ => rfl)))) (pda_cons (pd_op op_mulW ol_mul (pd_ix ix_seq ol_ix (pd_var (pv 0)) pd_int (fun _ _ => rfl)) (pd_ix ix_seq ol_ix (pd_var (pv 1)) pd_int (fun _ _ => rfl))) pda_nil)))))), fun ds Q E hl h => ?_⟩
  match ds, hl with
  | [d1, d2], _ =>
    obtain ⟨p1, p2, h1, h2, h3⟩ := h
    walk_at "dl"
    refine ⟨p1, p2, h1, h2, fun a b c d e1 e2 r1 r2 => ?_⟩
    obtain ⟨⟨sa, sb, sc, sd⟩, k3⟩ := h3 a b c d e1 e2 r1 r2
    subst e1 e2
    obtain ⟨_, _, e, hb, _⟩ := rat_shape r1
    cases e
    obtain ⟨_, _, e, hd, _⟩ := rat_shape r2
    cases e
    have bd : b * d ≠ 0 := Int.mul_ne_zero (by omega) (by omega)
    simp only [ratD]
    walk_at "dl"
    exact ⟨sa.mul sd, sc.mul sb, sb.mul sd, bd, sb.prod sd, k3⟩
theorem ok_multiply (T : Txt K mg) : FnOk P w K mg base (L2N.CX P w) 6 T.dmultiply.f T.dmultiply.fd P_multiply (spD K 2 (m_op T fun a b c d => (a * c, b * d))) := by
  have G_need_two : FnOk P w K mg base (L2N.CX P w) 5 T.dneed_two.f T.dneed_two.fd P_need_two (spD K 2 (m_need_two T)) := ok_need_two T
  have G_lowest : FnOk P w K mg base (L2N.CX P w) 2 T.dlowest.f T.dlowest.fd P_lowest (spD K 2 m_lowest) := ok_lowest T
  refine T.dmultiply.okD sc_multiply fun cdv A outer s H E so A0 hr tk hp => ⟨_, (pds_cons (pds_expr (pd_call G_need_two (hr.mono (by omega)) (by rfl) T.dneed_two.g T.dneed_two.F.kp T.dneed_two.b (fun σ => L2N.passAt tk σ) (pda_cons (pd_var (pv 0)) (pda_cons (pd_var (pv 1)) pda_nil))))
      (pds_one (pds_ret (pd_call G_lowest (hr.mono (by omega)) (by rfl) T.dlowest.g T.dlowest.F.kp T.dlowest.b (fun σ => L2N.passAt tk σ) (pda_cons (pd_op op_mulW ol_mul (pd_ix ix_seq ol_ix (pd_var (pv 0)) pd_int (fun _ _ => rfl)) (pd_ix ix_seq ol_ix (pd_var (pv 1)) pd_int (fun _ _ => rfl))) (pda_cons (pd_op op_mulW ol_mul (pd_ix ix_seq ol_ix (pd_var (pv 0)) pd_int (fun _ _ => rfl)) (pd_ix ix_seq ol_ix (pd_var (pv 1)) pd_int (fun _ _ => rfl))) pda_nil)))))), fun ds Q E hl h => ?_⟩
  match ds, hl with
  | [d1, d2], _ =>
    obtain ⟨p1, p2, h1, h2, h3⟩ := h
    walk_at "dl"
    refine ⟨p1, p2, h1, h2, fun a b c d e1 e2 r1 r2 => ?_⟩
    obtain ⟨⟨sa, sb, sc, sd⟩, k3⟩ := h3 a b c d e1 e2 r1 r2
    subst e1 e2
    obtain ⟨_, _, e, hb, _⟩ := rat_shape r1
    cases e
    obtain ⟨_, _, e, hd, _⟩ := rat_shape r2
    cases e
    have bd : b * d ≠ 0 := Int.mul_ne_zero (by omega) (by omega)
    simp only [ratD]
    walk_at "dl"
    exact ⟨sa.mul sc, sb.mul sd, bd, sb.prod sd, k3⟩
theorem ok_compare (T : Txt K mg) : FnOk P w K mg base (L2N.CX P w) 6 T.dcompare.f T.dcompare.fd P_compare (spD K 2 (m_compare T)) := by
  have G_need_two : FnOk P w K mg base (L2N.CX P w) 5 T.dneed_two.f T.dneed_two.fd P_need_two (spD K 2 (m_need_two T)) := ok_need_two T
  have G_sign_of : FnOk P w K mg base (L2N.CX P w) 1 T.dsign_of.f T.dsign_of.fd P_sign_of (spD K 1 m_sign_of) := ok_sign_of T
  refine T.dcompare.okD sc_compare fun cdv A outer s H E so A0 hr tk hp => ⟨_, (pds_cons (pds_expr (pd_call G_need_two (hr.mono (by omega)) (by rfl) T.dneed_two.g T.dneed_two.F.kp T.dneed_two.b (fun σ => L2N.passAt tk σ) (pda_cons (pd_var (pv 0)) (pda_cons (pd_var (pv 1)) pda_nil))))
      (pds_one (pds_ret (pd_call G_sign_of (hr.mono (by omega)) (by rfl) T.dsign_of.g T.dsign_of.F.kp T.dsign_of.b (fun σ => L2N.passAt tk σ) (pda_cons (pd_op op_sub ol_sub (pd_op op_mulW ol_mul (pd_ix ix_seq ol_ix (pd_var (pv 0)) pd_int (fun _ _ => rfl)) (pd_ix ix_seq ol_ix (pd_var (pv 1)) pd_int (fun _ _ => rfl))) (pd_op op_mulW ol_mul (pd_ix ix_seq ol_ix (pd_var (pv 1)) pd_int (fun _ _ => rfl)) (pd_ix ix_seq ol_ix (pd_var (pv 0)) pd_int (fun _ _ => rfl)))) pda_nil))))), fun ds Q E hl h => ?_⟩
  match ds, hl with
  | [d1, d2], _ =>
    obtain ⟨p1, p2, h1, h2, h3⟩ := h
    walk_at "dl"
    refine ⟨p1, p2, h1, h2, fun a b c d e1 e2 r1 r2 => ?_⟩
    obtain ⟨⟨sa, sb, sc, sd⟩, k3⟩ := h3 a b c d e1 e2 r1 r2
    subst e1 e2
    simp only [ratD]
    walk_at "dl"
    exact ⟨sa.mul sd, sc.mul sb, k3⟩
theorem ok_divide (T : Txt K mg) : FnOk P w K mg base (L2N.CX P w) 6 T.ddivide.f T.ddivide.fd P_divide (spD K 2 (m_divide T)) := by
  have I_ZeroDivisor := ok_iZeroDivisor (P := P) (w := w) (base := base) T
  have G_need_two : FnOk P w K mg base (L2N.CX P w) 5 T.dneed_two.f T.dneed_two.fd P_need_two (spD K 2 (m_need_two T)) := ok_need_two T
  have G_lowest : FnOk P w K mg base (L2N.CX P w) 2 T.dlowest.f T.dlowest.fd P_lowest (spD K 2 m_lowest) := ok_lowest T
  refine T.ddivide.okD sc_divide fun cdv A outer s H E so A0 hr tk hp => ⟨_, (pds_cons (pds_expr (pd_call G_need_two (hr.mono (by omega)) (by rfl) T.dneed_two.g T.dneed_two.F.kp T.dneed_two.b (fun σ => L2N.passAt tk σ) (pda_cons (pd_var (pv 0)) (pda_cons (pd_var (pv 1)) pda_nil))))
      (pds_cons (pds_if (pdt_cmp (oo_eq hr.units) ol_eq (pd_ix ix_seq ol_ix (pd_var (pv 1)) pd_int (fun _ _ => rfl)) pd_int (nomark _))
        (pds_one (pds_raise0 T.zZeroDivisor rfl tk T.iZeroDivisor.i T.iZeroDivisor.t I_ZeroDivisor (hr.mono (by omega)) T.iZeroDivisor.bd T.iZeroDivisor.vd (dd := [.non]) (fun _ _ => DaL.one rfl) rfl T.cZeroDivisor.g))
        pds_nil)
      (pds_one (pds_ret (pd_call G_lowest (hr.mono (by omega)) (by rfl) T.dlowest.g T.dlowest.F.kp T.dlowest.b (fun σ => L2N.passAt tk σ) (pda_cons (pd_op op_mulW ol_mul (pd_ix ix_seq ol_ix (pd_var (pv 0)) pd_int (fun _ _ => rfl)) (pd_ix ix_seq ol_ix (pd_var (pv 1)) pd_int (fun _ _ => rfl))) (pda_cons (pd_op op_mulW ol_mul (pd_ix ix_seq ol_ix (pd_var (pv 0)) pd_int (fun _ _ => rfl)) (pd_ix ix_seq ol_ix (pd_var (pv 1)) pd_int (fun _ _ => rfl))) pda_nil))))))), fun ds Q E hl h => ?_⟩
  match ds, hl with
  | [d1, d2], _ =>
    obtain ⟨p1, p2, h1, h2, h3⟩ := h
    walk_at "dl"
    refine ⟨p1, p2, h1, h2, fun a b c d e1 e2 r1 r2 => ?_⟩
    obtain ⟨⟨sa, sb, sc, sd⟩, h30, k3⟩ := h3 a b c d e1 e2 r1 r2
    subst e1 e2
    obtain ⟨_, _, e, hb, _⟩ := rat_shape r1
    cases e
    simp only [ratD]
    walk_at "dl"
    by_cases c0 : c = 0
    · rw [decide_eq_true c0]
      walk_at "dl"
      exact ⟨by decide, h30 c0⟩
    · rw [decide_eq_false c0]
      walk_at "dl"
      exact ⟨sa.mul sd, sb.mul sc, Int.mul_ne_zero (by omega) c0, sb.prod sc, k3 c0⟩
theorem ok_negate (T : Txt K mg) : FnOk P w K mg base (L2N.CX P w) 5 T.dnegate.f T.dnegate.fd P_negate (spD K 1 (m_negate T)) := by
  have G_need_ratio : FnOk P w K mg base (L2N.CX P w) 4 T.dneed_ratio.f T.dneed_ratio.fd P_need_ratio (spD K 2 (m_need_ratio T)) := ok_need_ratio T
  refine T.dnegate.okD sc_negate fun cdv A outer s H E so A0 hr tk hp => ⟨_, (pds_cons (pds_expr (pd_call G_need_ratio (hr.mono (by omega)) (by rfl) T.dneed_ratio.g T.dneed_ratio.F.kp T.dneed_ratio.b (fun σ => L2N.passAt tk σ) (pda_cons (pd_var (pv 0)) (pda_cons pd_str pda_nil))))
      (pds_one (pds_ret (pd_tup (pda_cons (pd_neg (pd_ix ix_seq ol_ix (pd_var (pv 0)) pd_int (fun _ _ => rfl))) (pda_cons (pd_ix ix_seq ol_ix (pd_var (pv 0)) pd_int (fun _ _ => rfl)) pda_nil)))))), fun ds Q E hl h => ?_⟩
  match ds, hl with
  | [d1], _ =>
    obtain ⟨p1, h1, h2⟩ := h
    walk_at "dl"
    refine ⟨p1, h1, fun r1 => ?_⟩
    obtain ⟨a, b, rfl, _⟩ := rat_shape r1
    have h2 := h2 a b rfl r1
    simp only [ratD]
    walk_at "dl"
    exact ⟨by show 2 ≤ sizeLine; decide, h2⟩
theorem ok_sign (T : Txt K mg) : FnOk P w K mg base (L2N.CX P w) 5 T.dsign.f T.dsign.fd P_sign (spD K 1 (m_sign T)) := by
  have G_need_ratio : FnOk P w K mg base (L2N.CX P w) 4 T.dneed_ratio.f T.dneed_ratio.fd P_need_ratio (spD K 2 (m_need_ratio T)) := ok_need_ratio T
  have G_sign_of : FnOk P w K mg base (L2N.CX P w) 1 T.dsign_of.f T.dsign_of.fd P_sign_of (spD K 1 m_sign_of) := ok_sign_of T
  refine T.dsign.okD sc_sign fun cdv A outer s H E so A0 hr tk hp => ⟨_, (pds_cons (pds_expr (pd_call G_need_ratio (hr.mono (by omega)) (by rfl) T.dneed_ratio.g T.dneed_ratio.F.kp T.dneed_ratio.b (fun σ => L2N.passAt tk σ) (pda_cons (pd_var (pv 0)) (pda_cons pd_str pda_nil))))
      (pds_one (pds_ret (pd_call G_sign_of (hr.mono (by omega)) (by rfl) T.dsign_of.g T.dsign_of.F.kp T.dsign_of.b (fun σ => L2N.passAt tk σ) (pda_cons (pd_ix ix_seq ol_ix (pd_var (pv 0)) pd_int (fun _ _ => rfl)) pda_nil))))), fun ds Q E hl h => ?_⟩
  match ds, hl with
  | [d1], _ =>
    obtain ⟨p1, h1, h2⟩ := h
    walk_at "dl"
    refine ⟨p1, h1, fun r1 => ?_⟩
    obtain ⟨a, b, rfl, _⟩ := rat_shape r1
    have h2 := h2 a b rfl r1
    simp only [ratD]
    walk_at "dl"
    exact h2
theorem ok_ratio (T : Txt K mg) : FnOk P w K mg base (L2N.CX P w) 3 T.dratio.f T.dratio.fd P_ratio (spD K 2 (m_ratio T)) := by
  have I_WrongKind := ok_iWrongKind (P := P) (w := w) (base := base) T
  have I_ZeroDivisor := ok_iZeroDivisor (P := P) (w := w) (base := base) T
  have G_is_whole : FnOk P w K mg base (L2N.CX P w) 1 T.dis_whole.f T.dis_whole.fd P_is_whole (spD K 1 m_is_whole) := ok_is_whole T
  have G_lowest : FnOk P w K mg base (L2N.CX P w) 2 T.dlowest.f T.dlowest.fd P_lowest (spD K 2 m_lowest) := ok_lowest T
  refine T.dratio.okD sc_ratio fun cdv A outer s H E so A0 hr tk hp => ⟨_, (pds_cons (pds_if (pdt_not (pdt_tru (pd_call G_is_whole (hr.mono (by omega)) (by rfl) T.dis_whole.g T.dis_whole.F.kp T.dis_whole.b (fun σ => L2N.passAt tk σ) (pda_cons (pd_var (pv 0)) pda_nil))))
        (pds_one (pds_raise T.zWrongKind rfl tk T.iWrongKind.i T.iWrongKind.t I_WrongKind (hr.mono (by omega)) T.iWrongKind.b .nil (dd := []) (fun _ _ => rfl) rfl T.cWrongKind.g (pda_cons pd_str pda_nil)))
        pds_nil)
      (pds_cons (pds_if (pdt_not (pdt_tru (pd_call G_is_whole (hr.mono (by omega)) (by rfl) T.dis_whole.g T.dis_whole.F.kp T.dis_whole.b (fun σ => L2N.passAt tk σ) (pda_cons (pd_var (pv 1)) pda_nil))))
        (pds_one (pds_raise T.zWrongKind rfl tk T.iWrongKind.i T.iWrongKind.t I_WrongKind (hr.mono (by omega)) T.iWrongKind.b .nil (dd := []) (fun _ _ => rfl) rfl T.cWrongKind.g (pda_cons pd_str pda_nil)))
        pds_nil)
      (pds_cons (pds_if (pdt_cmp (oo_eq hr.units) ol_eq (pd_var (pv 1)) pd_int (nomark _))
        (pds_one (pds_raise0 T.zZeroDivisor rfl tk T.iZeroDivisor.i T.iZeroDivisor.t I_ZeroDivisor (hr.mono (by omega)) T.iZeroDivisor.bd T.iZeroDivisor.vd (dd := [.non]) (fun _ _ => DaL.one rfl) rfl T.cZeroDivisor.g))
        pds_nil)
      (pds_one (pds_ret (pd_call G_lowest (hr.mono (by omega)) (by rfl) T.dlowest.g T.dlowest.F.kp T.dlowest.b (fun σ => L2N.passAt tk σ) (pda_cons (pd_var (pv 0)) (pda_cons (pd_var (pv 1)) pda_nil)))))))), fun ds Q E hl h => ?_⟩
  match ds, hl with
  | [d1, d2], _ =>
    obtain ⟨p1, p2, h1, h2, h3⟩ := h
    walk_at "dl"
    refine ⟨p1, ?_⟩
    cases w1 : isW d1 with
    | false =>
      walk_at "dl"
      exact ⟨by decide, h1 w1⟩
    | true =>
      walk_at "dl"
      refine ⟨p2, ?_⟩
      cases w2 : isW d2 with
      | false =>
        walk_at "dl"
        exact ⟨by decide, h2 w1 w2⟩
      | true =>
        obtain ⟨a, rfl⟩ := isW_int w1
        obtain ⟨b, rfl⟩ := isW_int w2
        obtain ⟨h30, h3⟩ := h3 a b rfl rfl
        walk_at "dl"
        by_cases b0 : b = 0
        · rw [decide_eq_true b0]
          walk_at "dl"
          exact ⟨by decide, h30 b0⟩
        · rw [decide_eq_false b0]
          walk_at "dl"
          exact ⟨b0, h3 b0⟩
theorem ok_is_ratio_list (T : Txt K mg) : FnOk P w K mg base (L2N.CX P w) 3 T.dis_ratio_list.f T.dis_ratio_list.fd P_is_ratio_list (spD K 1 m_is_ratio_list) := by
  have G_is_ratio : FnOk P w K mg base (L2N.CX P w) 2 T.dis_ratio.f T.dis_ratio.fd P_is_ratio (spD K 1 m_is_ratio) := ok_is_ratio T
  refine T.dis_ratio_list.okD sc_is_ratio_list fun cdv A outer s H E so A0 hr tk hp => ⟨_, (pds_one (pds_ret (pd_and (pd_isi (by rfl) T.m_isinstance (pd_var (pv 0)) (pe_bltn (v := .ty "list") (by rfl) T.m_list bt_list rfl) tq_list) (pd_one (pd_callB (cr_all rfl) cl_all (by rfl) T.m_all bt_all (pda_cons (pd_new (pdn_lc (own := [("item", 1)]) rfl sc_is_ratio_list.nd (pdi_list (pd_var (pv 0))) (blkOk_by (own := [("item", 1)]) (N := N_is_ratio_list) (sc := defScope s_is_ratio_list) (by decide +kernel)) (fun _ _ _ _ _ => (pdgw_name (pg_name (i := 1) sc_is_ratio_list.nd rfl (by first | exact .inl rfl | exact .inr rfl)) (by simp))) (fun _ _ _ _ _ => pdts_nil) (fun _ _ _ _ _ => (pd_call G_is_ratio (hr.mono (by omega)) (by rfl) T.dis_ratio.g T.dis_ratio.F.kp T.dis_ratio.b (fun σ => passN0 σ) (pda_cons (pd_var (pv 1)) pda_nil))))) pda_nil)))))), fun ds Q E hl h => ?_⟩
  match ds, hl with
  | [d], _ =>
    obtain ⟨p, pl, h⟩ := h
    walk_at "dl"
    refine ⟨p, ?_⟩
    rcases lst_cases d with ⟨hd, hn⟩ | ⟨l, rfl, ht⟩
    · rw [hd]
      walk_at "dl"
      rw [hn] at h
      exact h
    rw [ht]
    walk_at "dl"
    obtain ⟨hl, pe⟩ := pl l rfl
    refine compL_map (fun d => .bl (isRat d)) _ _ (fun d hd R q => ?_) (by rw [sizeLine_eq, List.length_nil]; omega) ?_
    · simp only [wipeD]
      walk_at "dl"
      exact ⟨pe d hd, q⟩
    · refine ⟨l.map isRat, by rw [List.nil_append, List.map_map]; rfl, ?_⟩
      rw [List.all_map]
      exact h
end
end My
namespace My
open PySem PySem.Spec PyProof.Rows L2
local macro_rules | `(tactic| walk_at "dl") => `(tactic| simp only [startD, List.map_cons, List.map_nil, List.length_cons, List.length_nil, List.cons_append, List.nil_append, List.replicate_succ, List.replicate_zero, List.getElem?_cons_zero, List.getElem?_cons_succ, List.set_cons_zero, List.set_cons_succ,
  dVar, rdS, dC, dNew, dOp, onB, qB, dChain, qAnd, qOr, qNot, qTru, truD, dIf, dAnd, dOr, dNot, dUn, ddNeg, lNil, lCons, dTup, nLst, ddI, ddI0, ddAdd, isNonD, isBlD, ddIsN, ddIsB, ddIx_t0, ddIx_t1, ddIx_t2, ddIx_t3, ddIx_l0, ddIx_l1, ddIx_l2, dCB, ddLen, ddInt1, ddAbs, ddMM, ddTuple, nCB, nnList, ddIsi, dCall,
  sSkip, sSeq, sBreak, sCont, sExpr, sRet, sRetN, sIf, sNever, gdName, gdNil, gdCons, gdTup, sAsg, sSetN, sPar, sRaise, sFrz, owS, sApp, sIns, dLenO, dIxO, sTry, sFor, iL, iT, onL, onT, iR1, iR2, nComp, qYes,
  ddEq_ii, ddEq_ss, ddEq_bb, Bool.false_bne, Bool.true_bne, List.append_nil, true_and, and_true, if_true, if_false, Bool.not_true, Bool.not_false, Bool.true_eq_false, Bool.false_eq_true, ite_true, ite_false, id_eq])

/-! ### draws over data -/
def m_take : DF := fun ds Q _ => match ds with
  | [.sto, .int many] => many < BIG ∧ ∀ r : Int, 0 ≤ r → (r = 0 ∨ r < many) → Q (.int r)
  | _ => False
def m_between : DF := fun ds Q _ => match ds with
  | [.sto, .int low, .int high] => low ≤ high ∧ high - low < 1000000000 ∧ ∀ r : Int, low ≤ r → r ≤ high → Q (.int r)
  | _ => False
def m_tens : DF := fun ds Q _ => match ds with
  | [.int n] => 0 ≤ n ∧ n ≤ 1000 ∧ Q (.int (10 ^ n.toNat))
  | _ => False
theorem sto2 {K : PySem.W.Frag} {so : Option Addr} {A : Hp} {i : Int} {vs : List V} (h : DaL K so A [.sto, .int i] vs) : ∃ s, vs = [.ref s, .int i] ∧ so = some s := by
  obtain ⟨v, w, rfl, ⟨s, rfl, e⟩, dw⟩ := h.two'
  cases dw
  exact ⟨s, rfl, e⟩
section
variable {P : Program} {w : World} {K : PySem.W.Frag} {mg : Str → Option Value} {base : Heap}
theorem takeD : ∀ vs H Q E, spD K 2 m_take vs H Q E → spTakeB K vs H Q E := fun vs H Q E h => by
  obtain ⟨so, A, ds, Qd, Ed, gd, hl, da, m, c, cx⟩ := h
  unfold m_take at m
  split at m
  · obtain ⟨s, rfl, e⟩ := sto2 da
    exact ⟨s, _, rfl, StoOk.store gd e, m.1, fun r H' h0 h1 x st => c (.int r) _ A H' (Ext.store gd e x st) rfl (m.2 r h0 h1)⟩
  · exact m.elim
theorem ok_takeD (T : Txt K mg) : FnOk P w K mg base (L2N.CX P w) 171 T.dtake.f T.dtake.fd P_take (spD K 2 m_take) := FnOk_cx (ok_takeB T) takeD
theorem ok_edgeD (T : Txt K mg) : FnOk P w K mg base (L2N.CX P w) 172 T.dedge.f T.dedge.fd P_edge (spD K 2 m_take) := FnOk_cx (ok_edge T) takeD
theorem ok_betweenD (T : Txt K mg) : FnOk P w K mg base (L2N.CX P w) 173 T.dbetween.f T.dbetween.fd P_between (spD K 3 m_between) := FnOk_cx (ok_between T) fun vs H Q E h => by
  obtain ⟨so, A, ds, Qd, Ed, gd, hl, da, m, c, cx⟩ := h
  unfold m_between at m
  split at m
  · obtain ⟨v, r, rfl, ⟨s, rfl, e⟩, d2⟩ := da
    obtain ⟨x, y, rfl, dx, dy⟩ := d2.two'
    cases dx
    cases dy
    exact ⟨s, _, _, rfl, StoOk.store gd e, m.1, m.2.1, fun r H' h0 h1 x st => c (.int r) _ A H' (Ext.store gd e x st) rfl (m.2.2 r h0 h1)⟩
  · exact m.elim
theorem ok_tensD (T : Txt K mg) : FnOk P w K mg base (L2N.CX P w) 1 T.dtens.f T.dtens.fd P_tens (spD K 1 m_tens) := FnOk_cx (ok_tens T) fun vs H Q E h => by
  obtain ⟨so, A, ds, Qd, Ed, gd, hl, da, m, c, cx⟩ := h
  unfold m_tens at m
  split at m
  · rename_i n
    obtain ⟨v, rfl, dv⟩ := da.one'
    cases dv
    exact ⟨n.toNat, by rw [Int.toNat_of_nonneg m.1], by omega, c.nowI gd m.2.2⟩
  · exact m.elim
end
/-- at most n figures -/
def Dig (n : Nat) (x : Int) : Prop := x.natAbs < 10 ^ n
theorem Dig.up {n m : Nat} {x : Int} (h : Dig n x) (l : n ≤ m) : Dig m x := Nat.lt_of_lt_of_le h (Nat.pow_le_pow_right (by decide) l)
theorem p10 (n : Nat) : ((10 ^ n : Nat) : Int) = (10 : Int) ^ n := by
  rw [Int.natCast_pow]
  rfl
theorem p10_pos (n : Nat) : 1 ≤ 10 ^ n := Nat.pow_pos (by decide)
theorem Dig.small {n : Nat} {x : Int} (h : 1 ≤ n) (hx : x.natAbs ≤ 9) : Dig n x := by
  have : (10 : Nat) ^ 1 ≤ 10 ^ n := Nat.pow_le_pow_right (by decide) h
  unfold Dig
  omega
theorem big1000 : (10 : Nat) ^ 1000 < 2 ^ 4000 := by decide +kernel
theorem Dig.sm {n : Nat} {x : Int} (h : Dig n x) (l : n ≤ 1000) : Sm x := Nat.lt_trans (Nat.lt_of_lt_of_le h (Nat.pow_le_pow_right (by decide) l)) big1000
theorem Sm.log {x : Int} (h : Sm x) : x.natAbs.log2 < 9000 := Nat.lt_of_lt_of_le (PySem.Flt.log2_lt_of (by decide) h) (by decide)
def m_integer : DF := fun ds Q _ => match ds with
  | [.sto, .int f] => 1 ≤ f ∧ f ≤ 1000 ∧ ∀ r : Int, Dig f.toNat r → Q (.int r)
  | _ => False
def m_low : DF := fun ds Q _ => match ds with
  | [.int a, .int b] => b.natAbs.log2 < 9000 ∧ Q (if b = 0 then ratD 0 1 else lowD (a, b))
  | _ => False
def m_sgn : DF := fun ds Q _ => match ds with
  | [.tup (.int a :: _)] => Q (.int (sgn a))
  | [.lst (.int a :: _)] => Q (.int (sgn a))
  | _ => False
abbrev s_low : Stmt := topS 53
abbrev N_low : List Str := ["up", "down", "one", "two", "rest"]
abbrev P_low : List Str := ["up", "down"]
theorem sc_low : FnScope N_low P_low (defScope s_low) := ⟨rfl, rfl, rfl, by decide +kernel, rfl, by decide +kernel, by decide +kernel⟩

abbrev s_sgn : Stmt := topS 54
abbrev N_sgn : List Str := ["one"]
abbrev P_sgn : List Str := ["one"]
theorem sc_sgn : FnScope N_sgn P_sgn (defScope s_sgn) := ⟨rfl, rfl, rfl, by decide +kernel, rfl, by decide +kernel, by decide +kernel⟩

/-- an item at a place that is not told -/
theorem ddIx_any {l : List D} {i : Int} {Q : D → Prop} (h0 : 0 ≤ i) (h1 : i < l.length) (q : ∀ d ∈ l, Q d) : ddIx (.lst l) (.int i) Q := by
  obtain ⟨j, rfl⟩ : ∃ j : Nat, i = j := ⟨i.toNat, by omega⟩
  have hj : j < l.length := by omega
  exact ⟨l[j], atI_nat (List.getElem?_eq_getElem hj), q _ (List.getElem_mem hj)⟩
theorem sgn_eq (a : Int) : (if decide (0 < a) = true then (1 : Int) else 0) - (if decide (a < 0) = true then 1 else 0) = sgn a := by
  unfold sgn
  by_cases h : 0 < a
  · have h2 : ¬ a < 0 := by omega
    simp [h, h2]
  · by_cases h2 : a < 0
    · simp [h, h2]
    · simp [h, h2]
section
variable {P : Program} {w : World} {K : PySem.W.Frag} {mg : Str → Option Value} {base : Heap}
theorem ok_sgn (T : Txt K mg) : FnOk P w K mg base (L2N.CX P w) 1 T.dsgn.f T.dsgn.fd P_sgn (spD K 1 m_sgn) := by
  refine T.dsgn.okD sc_sgn fun cdv A outer s H E so A0 hr tk hp => ⟨_, (pds_one (pds_ret (pd_op op_sub ol_sub (pd_callTy c_int1 cl_int1 (by rfl) T.m_int bt_int (pda_cons (pd_cmp op_gt ol_gt (pd_ix ix_seq ol_ix (pd_var (pv 0)) pd_int (fun _ _ => rfl)) pd_int (nomark _)) pda_nil)) (pd_callTy c_int1 cl_int1 (by rfl) T.m_int bt_int (pda_cons (pd_cmp op_lt ol_lt (pd_ix ix_seq ol_ix (pd_var (pv 0)) pd_int (fun _ _ => rfl)) pd_int (nomark _)) pda_nil))))), fun ds Q E hl h => ?_⟩
  unfold m_sgn at h
  split at h
  · walk_at "dl"
    rw [sgn_eq]
    exact h
  · walk_at "dl"
    rw [sgn_eq]
    exact h
  · exact h.elim
theorem ok_low (T : Txt K mg) : FnOk P w K mg base (L2N.CX P w) 1 T.dlow.f T.dlow.fd P_low (spD K 2 m_low) := by
  refine T.dlow.okD sc_low fun cdv A outer s H E so A0 hr tk hp => ⟨_, (pds_cons (pds_if (pdt_cmp (oo_eq hr.units) ol_eq (pd_var (pv 1)) pd_int (nomark _))
        (pds_one (pds_ret (pd_tup (pda_cons pd_int (pda_cons pd_int pda_nil)))))
        pds_nil)
      (pds_cons (pds_set (i := 2) sc_low.nd rfl (by first | exact .inl rfl | exact .inr rfl) (pd_callB (c_max2 rfl) cl_max2 (by rfl) T.m_max bt_max (pda_cons (pd_var (pv 0)) (pda_cons (pd_neg (pd_var (pv 0))) pda_nil))))
      (pds_cons (pds_set (i := 3) sc_low.nd rfl (by first | exact .inl rfl | exact .inr rfl) (pd_callB (c_max2 rfl) cl_max2 (by rfl) T.m_max bt_max (pda_cons (pd_var (pv 1)) (pda_cons (pd_neg (pd_var (pv 1))) pda_nil))))
      (pds_cons (pds_while hp (pdt_cmp op_gt ol_gt (pd_var (pv 3)) pd_int (nomark _))
        (pds_cons (pds_set (i := 4) sc_low.nd rfl (by first | exact .inl rfl | exact .inr rfl) (pd_op op_modN ol_mod (pd_callTy c_int1 cl_int1 (by rfl) T.m_int bt_int (pda_cons (pd_var (pv 2)) pda_nil)) (pd_var (pv 3))))
        (pds_cons (pds_set (i := 2) sc_low.nd rfl (by first | exact .inl rfl | exact .inr rfl) (pd_var (pv 3)))
        (pds_one (pds_set (i := 3) sc_low.nd rfl (by first | exact .inl rfl | exact .inr rfl) (pd_var (pv 4)))))))
      (pds_cons (pds_if (pdt_cmp op_lt ol_lt (pd_var (pv 1)) pd_int (nomark _))
        (pds_one (pds_set (i := 2) sc_low.nd rfl (by first | exact .inl rfl | exact .inr rfl) (pd_neg (pd_var (pv 2)))))
        pds_nil)
      (pds_one (pds_ret (pd_tup (pda_cons (pd_op op_fdivZ ol_fdiv (pd_var (pv 0)) (pd_var (pv 2))) (pda_cons (pd_op op_fdivZ ol_fdiv (pd_var (pv 1)) (pd_var (pv 2))) pda_nil)))))))))), fun ds Q E hl h => ?_⟩
  unfold m_low at h
  split at h
  · rename_i a b
    obtain ⟨hz, h⟩ := h
    walk_at "dl"
    by_cases b0 : b = 0
    · rw [if_pos b0] at h
      rw [decide_eq_true b0]
      walk_at "dl"
      exact ⟨by show 2 ≤ sizeLine; decide, h⟩
    rw [if_neg b0] at h
    rw [decide_eq_false b0]
    walk_at "dl"
    obtain ⟨f1, f2⟩ := low_div a b b0
    obtain ⟨c1, c2⟩ := gcd_bits (a := a) b0 hz a b
    have mn : ∀ i : Int, (if i < -i then -i else i) = (i.natAbs : Int) := fun i => by split <;> omega
    rw [mn, mn]
    refine ⟨fun m ρ => ∃ (x : Nat) (z : Sl), ρ = [.fr (.int a), .fr (.int b), .fr (.int (x : Int)), .fr (.int (m : Int)), z] ∧ Nat.gcd x m = G2 a b, ⟨b.natAbs, a.natAbs, .no, rfl, rfl⟩, ?_⟩
    rintro m ρ ⟨x, z, rfl, hg⟩
    walk_at "dl"
    split
    · rename_i c
      have hm : 0 < m := by
        have := of_decide_eq_true c
        omega
      refine ⟨fun ρ' => ∃ (x : Nat) (z : Sl), ρ' = [.fr (.int a), .fr (.int b), .fr (.int (m : Int)), .fr (.int (x : Int)), z] ∧ Nat.gcd m x = G2 a b ∧ x < m, ?_, ?_⟩
      · rintro ρ' ⟨y, z, e1, e2, e3⟩
        exact ⟨y, e3, m, z, e1, e2⟩
      · refine ⟨by omega, ?_⟩
        rw [fmod_nat x m hm]
        exact ⟨x % m, _, rfl, by rw [gcd_step]; exact hg, Nat.mod_lt x hm⟩
    · rename_i c
      have hm : m = 0 := by
        have : ¬ (0 : Int) < m := by simpa using c
        omega
      subst hm
      rw [Nat.gcd_zero_right] at hg
      subst hg
      split
      · rename_i c
        have c : b < 0 := by simpa using c
        rw [if_pos c] at c1 c2 f1 f2
        refine ⟨c1, c2, (by show 2 ≤ sizeLine; decide), ?_⟩
        rw [f1, f2]
        exact h
      · rename_i c
        have c : ¬ b < 0 := by simpa using c
        rw [if_neg c] at c1 c2 f1 f2
        refine ⟨c1, c2, (by show 2 ≤ sizeLine; decide), ?_⟩
        rw [f1, f2]
        exact h
  · exact h.elim
theorem ok_integerD (T : Txt K mg) : FnOk P w K mg base (L2N.CX P w) 174 T.dinteger.f T.dinteger.fd P_integer (spD K 2 m_integer) := by
  have G_take : FnOk P w K mg base (L2N.CX P w) 171 T.dtake.f T.dtake.fd P_take (spD K 2 m_take) := ok_takeD T
  have G_edge : FnOk P w K mg base (L2N.CX P w) 172 T.dedge.f T.dedge.fd P_edge (spD K 2 m_take) := ok_edgeD T
  have G_between : FnOk P w K mg base (L2N.CX P w) 173 T.dbetween.f T.dbetween.fd P_between (spD K 3 m_between) := ok_betweenD T
  have G_tens : FnOk P w K mg base (L2N.CX P w) 1 T.dtens.f T.dtens.fd P_tens (spD K 1 m_tens) := ok_tensD T
  refine T.dinteger.okD sc_integer fun cdv A outer s H E so A0 hr tk hp => ⟨_, (pds_cons (pds_if (pdt_cmp (oo_eq hr.units) ol_eq (pd_call G_take (hr.mono (by omega)) (by rfl) T.dtake.g T.dtake.F.kp T.dtake.b (fun σ => L2N.passAt tk σ) (pda_cons (pd_var (pv 0)) (pda_cons pd_int pda_nil))) pd_int (nomark _))
        (pds_one (pds_ret (pd_call G_between (hr.mono (by omega)) (by rfl) T.dbetween.g T.dbetween.F.kp T.dbetween.b (fun σ => L2N.passAt tk σ) (pda_cons (pd_var (pv 0)) (pda_cons (pd_neg pd_int) (pda_cons pd_int pda_nil))))))
        pds_nil)
      (pds_cons (pds_set (i := 2) sc_integer.nd rfl (by first | exact .inl rfl | exact .inr rfl) (pd_op oo_add ol_add pd_int (pd_call G_edge (hr.mono (by omega)) (by rfl) T.dedge.g T.dedge.F.kp T.dedge.b (fun σ => L2N.passAt tk σ) (pda_cons (pd_var (pv 0)) (pda_cons (pd_var (pv 1)) pda_nil)))))
      (pds_cons (pds_set (i := 3) sc_integer.nd rfl (by first | exact .inl rfl | exact .inr rfl) (pd_call G_take (hr.mono (by omega)) (by rfl) T.dtake.g T.dtake.F.kp T.dtake.b (fun σ => L2N.passAt tk σ) (pda_cons (pd_var (pv 0)) (pda_cons pd_int pda_nil))))
      (pds_cons (pds_if (pdt_cmp (oo_eq hr.units) ol_eq (pd_var (pv 3)) pd_int (nomark _))
        (pds_one (pds_set (i := 4) sc_integer.nd rfl (by first | exact .inl rfl | exact .inr rfl) (pd_op op_sub ol_sub (pd_call G_tens (hr.mono (by omega)) (by rfl) T.dtens.g T.dtens.F.kp T.dtens.b (fun σ => L2N.passAt tk σ) (pda_cons (pd_var (pv 2)) pda_nil)) pd_int)))
        (pds_one (pds_if (pdt_cmp (oo_eq hr.units) ol_eq (pd_var (pv 3)) pd_int (nomark _))
          (pds_one (pds_set (i := 4) sc_integer.nd rfl (by first | exact .inl rfl | exact .inr rfl) (pd_call G_tens (hr.mono (by omega)) (by rfl) T.dtens.g T.dtens.F.kp T.dtens.b (fun σ => L2N.passAt tk σ) (pda_cons (pd_op op_sub ol_sub (pd_var (pv 2)) pd_int) pda_nil))))
          (pds_one (pds_set (i := 4) sc_integer.nd rfl (by first | exact .inl rfl | exact .inr rfl) (pd_call G_take (hr.mono (by omega)) (by rfl) T.dtake.g T.dtake.F.kp T.dtake.b (fun σ => L2N.passAt tk σ) (pda_cons (pd_var (pv 0)) (pda_cons (pd_call G_tens (hr.mono (by omega)) (by rfl) T.dtens.g T.dtens.F.kp T.dtens.b (fun σ => L2N.passAt tk σ) (pda_cons (pd_var (pv 2)) pda_nil)) pda_nil))))))))
      (pds_cons (pds_if (pdt_cmp (oo_eq hr.units) ol_eq (pd_call G_take (hr.mono (by omega)) (by rfl) T.dtake.g T.dtake.F.kp T.dtake.b (fun σ => L2N.passAt tk σ) (pda_cons (pd_var (pv 0)) (pda_cons pd_int pda_nil))) pd_int (nomark _))
        (pds_one (pds_ret (pd_neg (pd_var (pv 4)))))
        pds_nil)
      (pds_one (pds_ret (pd_var (pv 4))))))))), fun ds Q E hl h => ?_⟩
  unfold m_integer at h
  split at h
  · rename_i f
    obtain ⟨f1, f2, h⟩ := h
    obtain ⟨n, rfl⟩ : ∃ n : Nat, f = n := ⟨f.toNat, by omega⟩
    have h : ∀ r : Int, Dig n r → Q (.int r) := h
    have hn : 1 ≤ n ∧ n ≤ 1000 := by omega
    walk_at "dl"
    simp only [m_take, m_between]
    refine ⟨by decide, fun r0 _ _ => ?_⟩
    walk_at "dl"
    split
    · exact ⟨by decide, by decide, fun r a b => h r (Dig.small hn.1 (by omega))⟩
    refine ⟨Int.lt_of_le_of_lt (show (n : Int) ≤ 1000000000 by omega) (big_of (Int.le_refl _)), fun r1 p1 q1 => ?_⟩
    obtain ⟨k, rfl⟩ : ∃ k : Nat, r1 = k := ⟨r1.toNat, by omega⟩
    have hk : 1 + k ≤ n := by omega
    refine ⟨by decide, fun r2 p2 q2 => ?_⟩
    have last : ∀ got : Int, Dig (1 + k) got → ((2 : Int) < BIG ∧ ∀ r : Int, 0 ≤ r → (r = 0 ∨ r < 2) → if decide (r = 0) = true then Q (.int (-got)) else Q (.int got)) := fun got hg => by
      refine ⟨by decide, fun r _ _ => ?_⟩
      have g1 := h got (hg.up hk)
      have g2 := h (-got) (by unfold Dig; rw [Int.natAbs_neg]; exact hg.up hk)
      split
      · exact g2
      · exact g1
    have pw := p10_pos (1 + k)
    split
    · simp only [m_tens]
      refine ⟨by omega, by omega, ?_⟩
      have e : ((1 : Int) + (k : Int)).toNat = 1 + k := by omega
      rw [e]
      refine last _ ?_
      unfold Dig
      rw [← p10]
      omega
    · split
      · simp only [m_tens]
        refine ⟨by omega, by omega, ?_⟩
        have e : ((1 : Int) + (k : Int) - 1).toNat = k := by omega
        rw [e]
        refine last _ ?_
        unfold Dig
        rw [← p10, Int.natAbs_natCast]
        exact Nat.pow_lt_pow_right (by decide) (by omega)
      · simp only [m_tens]
        refine ⟨by omega, by omega, ?_⟩
        have e : ((1 : Int) + (k : Int)).toNat = 1 + k := by omega
        rw [e]
        refine ⟨?_, fun r3 p3 q3 => last _ ?_⟩
        · have : (10 : Int) ^ (1 + k) ≤ 10 ^ 1000 := by
            rw [← p10, ← p10]
            exact Int.ofNat_le.mpr (Nat.pow_le_pow_right (by decide) (by omega))
          exact Int.lt_of_le_of_lt this ten_big
        · unfold Dig
          rw [← p10] at q3
          omega
  · exact h.elim
end
end My
namespace My
open PySem PySem.Spec PyProof.Rows L2
local macro_rules | `(tactic| walk_at "dl") => `(tactic| simp only [startD, List.map_cons, List.map_nil, List.length_cons, List.length_nil, List.cons_append, List.nil_append, List.replicate_succ, List.replicate_zero, List.getElem?_cons_zero, List.getElem?_cons_succ, List.set_cons_zero, List.set_cons_succ,
  dVar, rdS, dC, dNew, dOp, onB, qB, dChain, qAnd, qOr, qNot, qTru, truD, dIf, dAnd, dOr, dNot, dUn, ddNeg, lNil, lCons, dTup, nLst, ddI, ddI0, ddAdd, isNonD, isBlD, ddIsN, ddIsB, ddIx_t0, ddIx_t1, ddIx_t2, ddIx_t3, ddIx_l0, ddIx_l1, ddIx_l2, dCB, ddLen, ddInt1, ddAbs, ddMM, ddTuple, nCB, nnList, ddIsi, dCall,
  sSkip, sSeq, sBreak, sCont, sExpr, sRet, sRetN, sIf, sNever, gdName, gdNil, gdCons, gdTup, sAsg, sSetN, sPar, sRaise, sFrz, owS, sApp, sIns, dLenO, dIxO, sTry, sFor, iL, iT, onL, onT, iR1, iR2, nComp, qYes,
  ddEq_ii, ddEq_ss, ddEq_bb, Bool.false_bne, Bool.true_bne, List.append_nil, true_and, and_true, if_true, if_false, Bool.not_true, Bool.not_false, Bool.true_eq_false, Bool.false_eq_true, ite_true, ite_false, id_eq])

/-! ### lowest terms -/
theorem low_facts (a b : Int) (hb : b ≠ 0) : 1 ≤ lowQ a b ∧ G2 (lowP a b) (lowQ a b) = 1 ∧ lowP a b * b = lowQ a b * a ∧ (lowP a b).natAbs ≤ a.natAbs ∧ (lowQ a b).natAbs ≤ b.natAbs := by
  have hG : 0 < G2 a b := Nat.gcd_pos_of_pos_right _ (by omega)
  have gz : (G2 a b : Int) ≠ 0 := by omega
  have d1 : G2 a b ∣ a.natAbs := Nat.gcd_dvd_left _ _
  have d2 : G2 a b ∣ b.natAbs := Nat.gcd_dvd_right _ _
  obtain ⟨c, hc⟩ := d1
  obtain ⟨d, hd⟩ := d2
  have hdp : 0 < d := by
    rcases Nat.eq_zero_or_pos d with z | z
    · rw [z, Nat.mul_zero] at hd
      omega
    · exact z
  have q : lowQ a b = (d : Int) := by
    unfold lowQ
    rw [hd, Int.natCast_mul]
    exact Int.mul_ediv_cancel_left _ gz
  have pabs : (lowP a b).natAbs = c ∧ lowP a b * (G2 a b : Int) = (if b < 0 then -a else a) := by
    have da : (G2 a b : Int) ∣ (if b < 0 then -a else a) := by
      have : (G2 a b : Int) ∣ a := Int.ofNat_dvd_left.mpr ⟨c, hc⟩
      split
      · exact Int.dvd_neg.mpr this
      · exact this
    have e : lowP a b * (G2 a b : Int) = (if b < 0 then -a else a) := Int.ediv_mul_cancel da
    refine ⟨?_, e⟩
    have e2 := congrArg Int.natAbs e
    rw [Int.natAbs_mul, Int.natAbs_natCast] at e2
    have e3 : (if b < 0 then -a else a).natAbs = a.natAbs := by split <;> omega
    rw [e3, hc, Nat.mul_comm] at e2
    exact Nat.eq_of_mul_eq_mul_left hG e2
  have hcd : Nat.gcd c d = 1 := by
    have e : G2 a b = G2 a b * Nat.gcd c d := by
      conv => lhs; unfold G2; rw [hc, hd]
      exact Nat.gcd_mul_left _ _ _
    have e2 : G2 a b * Nat.gcd c d = G2 a b * 1 := by rw [Nat.mul_one]; exact e.symm
    exact Nat.eq_of_mul_eq_mul_left hG e2
  refine ⟨by rw [q]; omega, ?_, ?_, ?_, ?_⟩
  · unfold G2
    rw [pabs.1, q, Int.natAbs_natCast]
    exact hcd
  · -- crosswise
    have e := pabs.2
    have hb2 : ((b.natAbs : Nat) : Int) = (G2 a b : Int) * d := by rw [hd, Int.natCast_mul]
    rw [q]
    generalize lowP a b = p at *
    generalize (G2 a b : Int) = g at *
    by_cases h : b < 0
    · rw [if_pos h] at e
      have e4 : b = -(g * d) := by omega
      rw [e4, Int.mul_neg, ← Int.mul_assoc, e, Int.neg_mul, Int.neg_neg, Int.mul_comm]
    · rw [if_neg h] at e
      have e4 : b = g * d := by omega
      rw [e4, ← Int.mul_assoc, e, Int.mul_comm]
  · rw [pabs.1, hc]
    exact Nat.le_mul_of_pos_left _ hG
  · rw [q, Int.natAbs_natCast, hd]
    exact Nat.le_mul_of_pos_left _ hG
theorem low_rat (a b : Int) (hb : b ≠ 0) : isRat (lowD (a, b)) = true := by
  obtain ⟨h1, h2, _⟩ := low_facts a b hb
  show (decide (1 ≤ lowQ a b) && decide (G2 (lowP a b) (lowQ a b) = 1)) = true
  rw [decide_eq_true h1, decide_eq_true h2]
  rfl
/-- a ratio whose parts have at most n figures -/
def RatN (n : Nat) (d : D) : Prop := ∃ a b, d = ratD a b ∧ isRat d = true ∧ Dig n a ∧ Dig n b
theorem RatN.up {n m : Nat} {d : D} (h : RatN n d) (l : n ≤ m) : RatN m d := let ⟨a, b, e, r, x, y⟩ := h; ⟨a, b, e, r, x.up l, y.up l⟩
theorem RatN.low {n : Nat} {a b : Int} (hb : b ≠ 0) (ha : Dig n a) (hd : Dig n b) : RatN n (lowD (a, b)) := by
  obtain ⟨_, _, _, l1, l2⟩ := low_facts a b hb
  exact ⟨lowP a b, lowQ a b, rfl, low_rat a b hb, Nat.lt_of_le_of_lt l1 ha, Nat.lt_of_le_of_lt l2 hd⟩
def m_small : DF := fun ds Q _ => match ds with
  | [.sto] => ∀ d, RatN 1 d → Q d
  | _ => False
def m_lratio : DF := fun ds Q _ => match ds with
  | [.sto, .int f] => 1 ≤ f ∧ f ≤ 1000 ∧ ∀ d, RatN f.toNat d → Q d
  | _ => False
def m_second : DF := fun ds Q _ => match ds with
  | [.sto, one, .int f] => 1 ≤ f ∧ f ≤ 1000 ∧ RatN f.toNat one ∧ ∀ d, RatN f.toNat d → Q d
  | _ => False
def m_whole_pair : DF := fun ds Q _ => match ds with
  | [.sto, .int f] => 3 ≤ f ∧ f ≤ 1000 ∧ ∀ x y : Int, Dig 1000 x → Dig 1000 y → Q (.lst [.int x, .int y])
  | _ => False
/-- the list of a script with such figures -/
def ValOk (n : Nat) (l : List D) : Prop := (l.length * n ≤ 900 ∧ l.length ≤ 24 ∧ ∀ d ∈ l, RatN n d) ∨ (n = 9 ∧ l.length ≤ 299 ∧ ∀ d ∈ l, RatN 1 d)
def m_values : DF := fun ds Q _ => match ds with
  | [.sto, one, .int f] => 1 ≤ f ∧ f ≤ 1000 ∧ (f < 10 → f = 9) ∧ RatN f.toNat one ∧ ∀ l, ValOk f.toNat l → Q (.lst l)
  | _ => False
abbrev s_small : Stmt := topS 55
abbrev N_small : List Str := ["store", "up"]
abbrev P_small : List Str := ["store"]
theorem sc_small : FnScope N_small P_small (defScope s_small) := ⟨rfl, rfl, rfl, by decide +kernel, rfl, by decide +kernel, by decide +kernel⟩

abbrev s_lratio : Stmt := topS 56
abbrev N_lratio : List Str := ["store", "figures", "up", "down"]
abbrev P_lratio : List Str := ["store", "figures"]
theorem sc_lratio : FnScope N_lratio P_lratio (defScope s_lratio) := ⟨rfl, rfl, rfl, by decide +kernel, rfl, by decide +kernel, by decide +kernel⟩

abbrev s_second : Stmt := topS 70
abbrev N_second : List Str := ["store", "one", "figures", "way"]
abbrev P_second : List Str := ["store", "one", "figures"]
theorem sc_second : FnScope N_second P_second (defScope s_second) := ⟨rfl, rfl, rfl, by decide +kernel, rfl, by decide +kernel, by decide +kernel⟩

abbrev s_whole_pair : Stmt := topS 71
abbrev N_whole_pair : List Str := ["store", "figures", "common", "by"]
abbrev P_whole_pair : List Str := ["store", "figures"]
theorem sc_whole_pair : FnScope N_whole_pair P_whole_pair (defScope s_whole_pair) := ⟨rfl, rfl, rfl, by decide +kernel, rfl, by decide +kernel, by decide +kernel⟩

abbrev s_values : Stmt := topS 72
abbrev N_values : List Str := ["store", "one", "figures", "many", "k"]
abbrev P_values : List Str := ["store", "one", "figures"]
theorem sc_values : FnScope N_values P_values (defScope s_values) := ⟨rfl, rfl, rfl, by decide +kernel, rfl, by decide +kernel, by decide +kernel⟩

theorem three_div (n : Nat) : (n : Int).fdiv 3 = ((n / 3 : Nat) : Int) := by
  rw [Int.fdiv_eq_ediv_of_nonneg _ (by decide)]
  exact (Int.natCast_ediv n 3).symm
section
variable {P : Program} {w : World} {K : PySem.W.Frag} {mg : Str → Option Value} {base : Heap}
theorem ok_small (T : Txt K mg) : FnOk P w K mg base (L2N.CX P w) 174 T.dsmall.f T.dsmall.fd P_small (spD K 1 m_small) := by
  have G_take : FnOk P w K mg base (L2N.CX P w) 171 T.dtake.f T.dtake.fd P_take (spD K 2 m_take) := ok_takeD T
  have G_between : FnOk P w K mg base (L2N.CX P w) 173 T.dbetween.f T.dbetween.fd P_between (spD K 3 m_between) := ok_betweenD T
  have G_low : FnOk P w K mg base (L2N.CX P w) 1 T.dlow.f T.dlow.fd P_low (spD K 2 m_low) := ok_low T
  refine T.dsmall.okD sc_small fun cdv A outer s H E so A0 hr tk hp => ⟨_, (pds_cons (pds_set (i := 1) sc_small.nd rfl (by first | exact .inl rfl | exact .inr rfl) (pd_op op_sub ol_sub (pd_call G_between (hr.mono (by omega)) (by rfl) T.dbetween.g T.dbetween.F.kp T.dbetween.b (fun σ => L2N.passAt tk σ) (pda_cons (pd_var (pv 0)) (pda_cons pd_int (pda_cons pd_int pda_nil)))) pd_int))
      (pds_cons (pds_if (pdt_cmp (oo_eq hr.units) ol_eq (pd_call G_take (hr.mono (by omega)) (by rfl) T.dtake.g T.dtake.F.kp T.dtake.b (fun σ => L2N.passAt tk σ) (pda_cons (pd_var (pv 0)) (pda_cons pd_int pda_nil))) pd_int (nomark _))
        (pds_one (pds_set (i := 1) sc_small.nd rfl (by first | exact .inl rfl | exact .inr rfl) pd_int))
        pds_nil)
      (pds_one (pds_ret (pd_call G_low (hr.mono (by omega)) (by rfl) T.dlow.g T.dlow.F.kp T.dlow.b (fun σ => L2N.passAt tk σ) (pda_cons (pd_var (pv 1)) (pda_cons (pd_ix ix_seq ol_ix (pd_new (pdn_lst (pda_cons pd_int (pda_cons pd_int (pda_cons pd_int (pda_cons pd_int pda_nil)))))) (pd_call G_take (hr.mono (by omega)) (by rfl) T.dtake.g T.dtake.F.kp T.dtake.b (fun σ => L2N.passAt tk σ) (pda_cons (pd_var (pv 0)) (pda_cons pd_int pda_nil))) (fun _ _ => rfl)) pda_nil))))))), fun ds Q E hl h => ?_⟩
  unfold m_small at h
  split at h
  · walk_at "dl"
    simp only [m_take, m_between]
    refine ⟨by decide, by decide, fun r p1 p2 => ⟨by decide, fun r1 _ _ => ?_⟩⟩
    have last : ∀ up : Int, up.natAbs ≤ 4 → (4 ≤ sizeLine ∧ (4 : Int) < BIG ∧ ∀ r : Int, 0 ≤ r → (r = 0 ∨ r < 4) → ddIx (.lst [.int 1, .int 1, .int 2, .int 3]) (.int r) fun x => m_low [.int up, x] Q E) := fun up hu => by
      refine ⟨by decide, by decide, fun r q1 q2 => ddIx_any q1 (by show r < 4; omega) fun d hd => ?_⟩
      have go : ∀ b : Int, b ≠ 0 → b.natAbs ≤ 3 → m_low [.int up, .int b] Q E := fun b hb0 hb => by
        refine ⟨(Dig.sm (n := 1) (Dig.small (Nat.le_refl _) (by omega)) (by decide)).log, ?_⟩
        rw [if_neg hb0]
        exact h _ (RatN.low hb0 (Dig.small (Nat.le_refl _) (by omega)) (Dig.small (Nat.le_refl _) (by omega)))
      simp only [List.mem_cons, List.mem_nil_iff, or_false] at hd
      rcases hd with rfl | rfl | rfl | rfl
      · exact go 1 (by decide) (by decide)
      · exact go 1 (by decide) (by decide)
      · exact go 2 (by decide) (by decide)
      · exact go 3 (by decide) (by decide)
    walk_at "dl"
    split
    · exact last 0 (by decide)
    · exact last (r - 4) (by omega)
  · exact h.elim
theorem ok_lratio (T : Txt K mg) : FnOk P w K mg base (L2N.CX P w) 175 T.dlratio.f T.dlratio.fd P_lratio (spD K 2 m_lratio) := by
  have G_take : FnOk P w K mg base (L2N.CX P w) 171 T.dtake.f T.dtake.fd P_take (spD K 2 m_take) := ok_takeD T
  have G_integer : FnOk P w K mg base (L2N.CX P w) 174 T.dinteger.f T.dinteger.fd P_integer (spD K 2 m_integer) := ok_integerD T
  have G_small : FnOk P w K mg base (L2N.CX P w) 174 T.dsmall.f T.dsmall.fd P_small (spD K 1 m_small) := ok_small T
  have G_low : FnOk P w K mg base (L2N.CX P w) 1 T.dlow.f T.dlow.fd P_low (spD K 2 m_low) := ok_low T
  refine T.dlratio.okD sc_lratio fun cdv A outer s H E so A0 hr tk hp => ⟨_, (pds_cons (pds_if (pdt_cmp (oo_eq hr.units) ol_eq (pd_call G_take (hr.mono (by omega)) (by rfl) T.dtake.g T.dtake.F.kp T.dtake.b (fun σ => L2N.passAt tk σ) (pda_cons (pd_var (pv 0)) (pda_cons pd_int pda_nil))) pd_int (nomark _))
        (pds_one (pds_ret (pd_call G_small (hr.mono (by omega)) (by rfl) T.dsmall.g T.dsmall.F.kp T.dsmall.b (fun σ => L2N.passAt tk σ) (pda_cons (pd_var (pv 0)) pda_nil))))
        pds_nil)
      (pds_cons (pds_set (i := 2) sc_lratio.nd rfl (by first | exact .inl rfl | exact .inr rfl) (pd_call G_integer (hr.mono (by omega)) (by rfl) T.dinteger.g T.dinteger.F.kp T.dinteger.b (fun σ => L2N.passAt tk σ) (pda_cons (pd_var (pv 0)) (pda_cons (pd_var (pv 1)) pda_nil))))
      (pds_cons (pds_set (i := 3) sc_lratio.nd rfl (by first | exact .inl rfl | exact .inr rfl) (pd_call G_integer (hr.mono (by omega)) (by rfl) T.dinteger.g T.dinteger.F.kp T.dinteger.b (fun σ => L2N.passAt tk σ) (pda_cons (pd_var (pv 0)) (pda_cons (pd_var (pv 1)) pda_nil))))
      (pds_cons (pds_if (pdt_cmp (oo_eq hr.units) ol_eq (pd_var (pv 3)) pd_int (nomark _))
        (pds_one (pds_set (i := 3) sc_lratio.nd rfl (by first | exact .inl rfl | exact .inr rfl) pd_int))
        pds_nil)
      (pds_one (pds_ret (pd_call G_low (hr.mono (by omega)) (by rfl) T.dlow.g T.dlow.F.kp T.dlow.b (fun σ => L2N.passAt tk σ) (pda_cons (pd_var (pv 2)) (pda_cons (pd_var (pv 3)) pda_nil))))))))), fun ds Q E hl h => ?_⟩
  unfold m_lratio at h
  split at h
  · rename_i f
    obtain ⟨f1, f2, h⟩ := h
    walk_at "dl"
    simp only [m_take, m_integer, m_small]
    refine ⟨by decide, fun r _ _ => ?_⟩
    walk_at "dl"
    split
    · exact fun d hd => h d (hd.up (by omega))
    refine ⟨f1, f2, fun up hu => ⟨f1, f2, fun dn hd => ?_⟩⟩
    have one : Dig f.toNat 1 := Dig.small (by omega) (by decide)
    split
    · refine ⟨(Dig.sm one (by omega)).log, ?_⟩
      rw [if_neg (by decide)]
      exact h _ (RatN.low (by decide) hu one)
    · rename_i c
      have c : dn ≠ 0 := by simpa using c
      refine ⟨(Dig.sm hd (by omega)).log, ?_⟩
      rw [if_neg c]
      exact h _ (RatN.low c hu hd)
  · exact h.elim
theorem ok_second (T : Txt K mg) : FnOk P w K mg base (L2N.CX P w) 176 T.dsecond.f T.dsecond.fd P_second (spD K 3 m_second) := by
  have G_take : FnOk P w K mg base (L2N.CX P w) 171 T.dtake.f T.dtake.fd P_take (spD K 2 m_take) := ok_takeD T
  have G_lratio : FnOk P w K mg base (L2N.CX P w) 175 T.dlratio.f T.dlratio.fd P_lratio (spD K 2 m_lratio) := ok_lratio T
  have G_sgn : FnOk P w K mg base (L2N.CX P w) 1 T.dsgn.f T.dsgn.fd P_sgn (spD K 1 m_sgn) := ok_sgn T
  have G_low : FnOk P w K mg base (L2N.CX P w) 1 T.dlow.f T.dlow.fd P_low (spD K 2 m_low) := ok_low T
  refine T.dsecond.okD sc_second fun cdv A outer s H E so A0 hr tk hp => ⟨_, (pds_cons (pds_set (i := 3) sc_second.nd rfl (by first | exact .inl rfl | exact .inr rfl) (pd_call G_take (hr.mono (by omega)) (by rfl) T.dtake.g T.dtake.F.kp T.dtake.b (fun σ => L2N.passAt tk σ) (pda_cons (pd_var (pv 0)) (pda_cons pd_int pda_nil))))
      (pds_cons (pds_if (pdt_cmp (oo_eq hr.units) ol_eq (pd_var (pv 3)) pd_int (nomark _))
        (pds_one (pds_ret (pd_var (pv 1))))
        pds_nil)
      (pds_cons (pds_if (pdt_cmp (oo_eq hr.units) ol_eq (pd_var (pv 3)) pd_int (nomark _))
        (pds_one (pds_ret (pd_tup (pda_cons (pd_neg (pd_ix ix_seq ol_ix (pd_var (pv 1)) pd_int (fun _ _ => rfl))) (pda_cons (pd_ix ix_seq ol_ix (pd_var (pv 1)) pd_int (fun _ _ => rfl)) pda_nil)))))
        pds_nil)
      (pds_cons (pds_if (PDW.t (pdw_and (pdt_cmp (oo_eq hr.units) ol_eq (pd_var (pv 3)) pd_int (nomark _)) (pdw_and1 (pdt_cmp (oo_ne hr.units) ol_ne (pd_ix ix_seq ol_ix (pd_var (pv 1)) pd_int (fun _ _ => rfl)) pd_int (nomark _)))))
        (pds_one (pds_ret (pd_call G_low (hr.mono (by omega)) (by rfl) T.dlow.g T.dlow.F.kp T.dlow.b (fun σ => L2N.passAt tk σ) (pda_cons (pd_ix ix_seq ol_ix (pd_var (pv 1)) pd_int (fun _ _ => rfl)) (pda_cons (pd_ix ix_seq ol_ix (pd_var (pv 1)) pd_int (fun _ _ => rfl)) pda_nil)))))
        pds_nil)
      (pds_cons (pds_if (PDW.t (pdw_and (pdt_cmp (oo_eq hr.units) ol_eq (pd_var (pv 3)) pd_int (nomark _)) (pdw_and1 (pdt_cmp (oo_ne hr.units) ol_ne (pd_ix ix_seq ol_ix (pd_var (pv 1)) pd_int (fun _ _ => rfl)) pd_int (nomark _)))))
        (pds_one (pds_ret (pd_call G_low (hr.mono (by omega)) (by rfl) T.dlow.g T.dlow.F.kp T.dlow.b (fun σ => L2N.passAt tk σ) (pda_cons (pd_op op_sub ol_sub (pd_ix ix_seq ol_ix (pd_var (pv 1)) pd_int (fun _ _ => rfl)) (pd_call G_sgn (hr.mono (by omega)) (by rfl) T.dsgn.g T.dsgn.F.kp T.dsgn.b (fun σ => L2N.passAt tk σ) (pda_cons (pd_var (pv 1)) pda_nil))) (pda_cons (pd_ix ix_seq ol_ix (pd_var (pv 1)) pd_int (fun _ _ => rfl)) pda_nil)))))
        pds_nil)
      (pds_one (pds_ret (pd_call G_lratio (hr.mono (by omega)) (by rfl) T.dlratio.g T.dlratio.F.kp T.dlratio.b (fun σ => L2N.passAt tk σ) (pda_cons (pd_var (pv 0)) (pda_cons (pd_var (pv 2)) pda_nil)))))))))), fun ds Q E hl h => ?_⟩
  unfold m_second at h
  split at h
  · rename_i one f
    obtain ⟨f1, f2, ro, h⟩ := h
    obtain ⟨a, b, rfl, r1, da, db⟩ := ro
    obtain ⟨_, _, e, hb, hg⟩ := rat_shape r1
    cases e
    have neg : RatN f.toNat (ratD (-a) b) := ⟨-a, b, rfl, by
      show (decide (1 ≤ b) && decide (G2 (-a) b = 1)) = true
      have : G2 (-a) b = G2 a b := by unfold G2; rw [Int.natAbs_neg]
      rw [this, decide_eq_true hb, decide_eq_true hg]
      rfl, by unfold Dig; rw [Int.natAbs_neg]; exact da, db⟩
    have inv : a ≠ 0 → RatN f.toNat (lowD (b, a)) := fun h0 => RatN.low h0 db da
    have near : a ≠ 0 → RatN f.toNat (lowD (a - sgn a, b)) := fun h0 => RatN.low (by omega) (by
      have : (a - sgn a).natAbs ≤ a.natAbs := by
        unfold sgn
        split
        · omega
        · split <;> omega
      exact Nat.lt_of_le_of_lt this da) db
    have la := (Dig.sm da (by omega)).log
    have lb := (Dig.sm db (by omega)).log
    simp only [ratD]
    walk_at "dl"
    simp only [m_take]
    refine ⟨by decide, fun r _ _ => ?_⟩
    walk_at "dl"
    have fin : 1 ≤ f ∧ f ≤ 1000 ∧ ∀ d, RatN f.toNat d → Q d := ⟨f1, f2, h⟩
    split
    · exact h _ ⟨a, b, rfl, r1, da, db⟩
    split
    · exact ⟨by show 2 ≤ sizeLine; decide, h _ neg⟩
    by_cases a0 : a = 0
    · have e : decide (a = 0) = true := decide_eq_true a0
      rw [e]
      walk_at "dl"
      split <;> split <;> exact fin
    · have e : decide (a = 0) = false := decide_eq_false a0
      rw [e]
      walk_at "dl"
      have g1 : m_low [.int b, .int a] Q E := by
        refine ⟨la, ?_⟩
        rw [if_neg a0]
        exact h _ (inv a0)
      have g2 : m_sgn [.tup [.int a, .int b]] (fun x => ddI0 (fun i j => .int (i - j)) (.int a) x fun z => m_low [z, .int b] Q E) E := by
        refine ⟨lb, ?_⟩
        rw [if_neg (by omega)]
        exact h _ (near a0)
      split
      · exact g1
      · split
        · exact g2
        · exact fin
  · exact h.elim
theorem ok_whole_pair (T : Txt K mg) : FnOk P w K mg base (L2N.CX P w) 175 T.dwhole_pair.f T.dwhole_pair.fd P_whole_pair (spD K 2 m_whole_pair) := by
  have G_take : FnOk P w K mg base (L2N.CX P w) 171 T.dtake.f T.dtake.fd P_take (spD K 2 m_take) := ok_takeD T
  have G_integer : FnOk P w K mg base (L2N.CX P w) 174 T.dinteger.f T.dinteger.fd P_integer (spD K 2 m_integer) := ok_integerD T
  refine T.dwhole_pair.okD sc_whole_pair fun cdv A outer s H E so A0 hr tk hp => ⟨_, (pds_cons (pds_set (i := 2) sc_whole_pair.nd rfl (by first | exact .inl rfl | exact .inr rfl) (pd_call G_integer (hr.mono (by omega)) (by rfl) T.dinteger.g T.dinteger.F.kp T.dinteger.b (fun σ => L2N.passAt tk σ) (pda_cons (pd_var (pv 0)) (pda_cons (pd_op op_fdivZ ol_fdiv (pd_var (pv 1)) pd_int) pda_nil))))
      (pds_cons (pds_if (PDW.t (pdw_or (pdt_cmp (oo_eq hr.units) ol_eq (pd_var (pv 2)) pd_int (nomark _)) (pdw_or1 (pdt_cmp (oo_eq hr.units) ol_eq (pd_call G_take (hr.mono (by omega)) (by rfl) T.dtake.g T.dtake.F.kp T.dtake.b (fun σ => L2N.passAt tk σ) (pda_cons (pd_var (pv 0)) (pda_cons pd_int pda_nil))) pd_int (nomark _)))))
        (pds_one (pds_set (i := 2) sc_whole_pair.nd rfl (by first | exact .inl rfl | exact .inr rfl) pd_int))
        pds_nil)
      (pds_cons (pds_set (i := 3) sc_whole_pair.nd rfl (by first | exact .inl rfl | exact .inr rfl) (pd_op op_mulW ol_mul (pd_var (pv 2)) (pd_call G_integer (hr.mono (by omega)) (by rfl) T.dinteger.g T.dinteger.F.kp T.dinteger.b (fun σ => L2N.passAt tk σ) (pda_cons (pd_var (pv 0)) (pda_cons (pd_op op_sub ol_sub (pd_var (pv 1)) (pd_op op_fdivZ ol_fdiv (pd_var (pv 1)) pd_int)) pda_nil)))))
      (pds_cons (pds_if (pdt_cmp (oo_eq hr.units) ol_eq (pd_call G_take (hr.mono (by omega)) (by rfl) T.dtake.g T.dtake.F.kp T.dtake.b (fun σ => L2N.passAt tk σ) (pda_cons (pd_var (pv 0)) (pda_cons pd_int pda_nil))) pd_int (nomark _))
        (pds_one (pds_set (i := 3) sc_whole_pair.nd rfl (by first | exact .inl rfl | exact .inr rfl) pd_int))
        pds_nil)
      (pds_one (pds_ret (pd_new (pdn_lst (pda_cons (pd_op op_mulW ol_mul (pd_var (pv 2)) (pd_call G_integer (hr.mono (by omega)) (by rfl) T.dinteger.g T.dinteger.F.kp T.dinteger.b (fun σ => L2N.passAt tk σ) (pda_cons (pd_var (pv 0)) (pda_cons (pd_op op_sub ol_sub (pd_var (pv 1)) (pd_op op_fdivZ ol_fdiv (pd_var (pv 1)) pd_int)) pda_nil)))) (pda_cons (pd_var (pv 3)) pda_nil)))))))))), fun ds Q E hl h => ?_⟩
  unfold m_whole_pair at h
  split at h
  · rename_i f
    obtain ⟨f1, f2, h⟩ := h
    obtain ⟨n, rfl⟩ : ∃ n : Nat, f = n := ⟨f.toNat, by omega⟩
    walk_at "dl"
    rw [three_div]
    simp only [m_take, m_integer]
    have c3 : CDivZ (n : Int) 3 := ⟨by decide, by decide⟩
    have t1 : ((n / 3 : Nat) : Int).toNat = n / 3 := by omega
    have t2 : ((n : Int) - ((n / 3 : Nat) : Int)).toNat = n - n / 3 := by omega
    rw [t1, t2]
    have pr : ∀ x y : Int, Dig (n / 3) x → Dig (n - n / 3) y → Dig 1000 (x * y) := fun x y hx hy => by
      have : (x * y).natAbs < 10 ^ (n / 3) * 10 ^ (n - n / 3) := by
        rw [Int.natAbs_mul]
        exact Nat.mul_lt_mul'' hx hy
      rw [← Nat.pow_add] at this
      exact Nat.lt_of_lt_of_le this (Nat.pow_le_pow_right (by decide) (by omega))
    have ms : ∀ x y : Int, Dig (n / 3) x → Dig (n - n / 3) y → CMulW x y := fun x y hx hy => (Dig.sm hx (by omega)).mul (Dig.sm hy (by omega))
    have main : ∀ common : Int, Dig (n / 3) common → (CDivZ (n : Int) 3 ∧ (1 : Int) ≤ (n : Int) - ((n / 3 : Nat) : Int) ∧ (n : Int) - ((n / 3 : Nat) : Int) ≤ 1000 ∧ ∀ r : Int, Dig (n - n / 3) r → CMulW common r ∧ ((8 : Int) < BIG ∧ ∀ r2 : Int, 0 ≤ r2 → (r2 = 0 ∨ r2 < 8) →
        if decide (r2 = 0) = true then CDivZ (n : Int) 3 ∧ (1 : Int) ≤ (n : Int) - ((n / 3 : Nat) : Int) ∧ (n : Int) - ((n / 3 : Nat) : Int) ≤ 1000 ∧ ∀ r3 : Int, Dig (n - n / 3) r3 → CMulW common r3 ∧ 0 + 1 + 1 ≤ sizeLine ∧ Q (.lst [.int (common * r3), .int 0])
        else CDivZ (n : Int) 3 ∧ (1 : Int) ≤ (n : Int) - ((n / 3 : Nat) : Int) ∧ (n : Int) - ((n / 3 : Nat) : Int) ≤ 1000 ∧ ∀ r3 : Int, Dig (n - n / 3) r3 → CMulW common r3 ∧ 0 + 1 + 1 ≤ sizeLine ∧ Q (.lst [.int (common * r3), .int (common * r)]))) := fun common hc => by
      refine ⟨c3, by omega, by omega, fun r hr' => ⟨ms _ _ hc hr', by decide, fun r2 _ _ => ?_⟩⟩
      split
      · exact ⟨c3, by omega, by omega, fun r3 h3 => ⟨ms _ _ hc h3, by show 2 ≤ sizeLine; decide, h _ _ (pr _ _ hc h3) (Dig.small (by decide) (by decide))⟩⟩
      · exact ⟨c3, by omega, by omega, fun r3 h3 => ⟨ms _ _ hc h3, by show 2 ≤ sizeLine; decide, h _ _ (pr _ _ hc h3) (pr _ _ hc hr')⟩⟩
    have one : Dig (n / 3) 1 := Dig.small (by omega) (by decide)
    refine ⟨c3, by omega, by omega, fun common hc => ?_⟩
    walk_at "dl"
    split
    · exact main 1 one
    · refine ⟨by decide, fun r _ _ => ?_⟩
      split
      · exact main 1 one
      · exact main common hc
  · exact h.elim
theorem ok_values (T : Txt K mg) : FnOk P w K mg base (L2N.CX P w) 177 T.dvalues.f T.dvalues.fd P_values (spD K 3 m_values) := by
  have G_take : FnOk P w K mg base (L2N.CX P w) 171 T.dtake.f T.dtake.fd P_take (spD K 2 m_take) := ok_takeD T
  have G_edge : FnOk P w K mg base (L2N.CX P w) 172 T.dedge.f T.dedge.fd P_edge (spD K 2 m_take) := ok_edgeD T
  have G_small : FnOk P w K mg base (L2N.CX P w) 174 T.dsmall.f T.dsmall.fd P_small (spD K 1 m_small) := ok_small T
  have G_second : FnOk P w K mg base (L2N.CX P w) 176 T.dsecond.f T.dsecond.fd P_second (spD K 3 m_second) := ok_second T
  refine T.dvalues.okD sc_values fun cdv A outer s H E so A0 hr tk hp => ⟨_, (pds_cons (pds_set (i := 3) sc_values.nd rfl (by first | exact .inl rfl | exact .inr rfl) (pd_call G_edge (hr.mono (by omega)) (by rfl) T.dedge.g T.dedge.F.kp T.dedge.b (fun σ => L2N.passAt tk σ) (pda_cons (pd_var (pv 0)) (pda_cons (pd_op oo_add ol_add (pd_callB (c_min2 rfl) cl_min2 (by rfl) T.m_min bt_min (pda_cons pd_int (pda_cons (pd_op op_fdivZ ol_fdiv pd_int (pd_var (pv 2))) pda_nil))) pd_int) pda_nil))))
      (pds_cons (pds_if (PDW.t (pdw_and (pdt_cmp op_lt ol_lt (pd_var (pv 2)) pd_int (nomark _)) (pdw_and1 (pdt_cmp (oo_eq hr.units) ol_eq (pd_call G_take (hr.mono (by omega)) (by rfl) T.dtake.g T.dtake.F.kp T.dtake.b (fun σ => L2N.passAt tk σ) (pda_cons (pd_var (pv 0)) (pda_cons pd_int pda_nil))) pd_int (nomark _)))))
        (pds_one (pds_ret (pd_new (pdn_lc (own := [("k", 4)]) rfl sc_values.nd (pdi_range1 (by rfl) T.m_range (pda_cons (pd_op oo_add ol_add pd_int (pd_call G_edge (hr.mono (by omega)) (by rfl) T.dedge.g T.dedge.F.kp T.dedge.b (fun σ => L2N.passAt tk σ) (pda_cons (pd_var (pv 0)) (pda_cons pd_int pda_nil)))) pda_nil)) (blkOk_by (own := [("k", 4)]) (N := N_values) (sc := defScope s_values) (by decide +kernel)) (fun _ _ _ _ _ => (pdgw_name (pg_name (i := 4) sc_values.nd rfl (by first | exact .inl rfl | exact .inr rfl)) (by simp))) (fun _ _ _ _ _ => pdts_nil) (fun _ _ _ _ _ => (pd_call G_small (hr.mono (by omega)) (by rfl) T.dsmall.g T.dsmall.F.kp T.dsmall.b (fun σ => passN0 σ) (pda_cons (pd_var (pv 0)) pda_nil)))))))
        pds_nil)
      (pds_one (pds_ret (pd_new (pdn_lc (own := [("k", 4)]) rfl sc_values.nd (pdi_range1 (by rfl) T.m_range (pda_cons (pd_var (pv 3)) pda_nil)) (blkOk_by (own := [("k", 4)]) (N := N_values) (sc := defScope s_values) (by decide +kernel)) (fun _ _ _ _ _ => (pdgw_name (pg_name (i := 4) sc_values.nd rfl (by first | exact .inl rfl | exact .inr rfl)) (by simp))) (fun _ _ _ _ _ => pdts_nil) (fun _ _ _ _ _ => (pd_call G_second (hr.mono (by omega)) (by rfl) T.dsecond.g T.dsecond.F.kp T.dsecond.b (fun σ => passN0 σ) (pda_cons (pd_var (pv 0)) (pda_cons (pd_var (pv 1)) (pda_cons (pd_var (pv 2)) pda_nil))))))))))), fun ds Q E hl h => ?_⟩
  unfold m_values at h
  split at h
  · rename_i one f
    obtain ⟨f1, f2, f3, ro, h⟩ := h
    walk_at "dl"
    simp only [m_take, m_small, m_second]
    obtain ⟨n, rfl⟩ : ∃ n : Nat, f = n := ⟨f.toNat, by omega⟩
    have hn : ((n : Int)).toNat = n := rfl
    rw [hn] at ro
    have h : ∀ l, ValOk n l → Q (.lst l) := h
    have ed : Int.fdiv 900 (n : Int) = ((900 / n : Nat) : Int) := by
      rw [Int.fdiv_eq_ediv_of_nonneg _ (by omega)]
      exact (Int.natCast_ediv 900 n).symm
    rw [ed]
    have cz : CDivZ 900 (n : Int) := ⟨by omega, (Dig.sm (n := 4) (by unfold Dig; rw [Int.natAbs_natCast]; omega) (by decide)).log⟩
    have q24 : (if ((900 / n : Nat) : Int) < 24 then ((900 / n : Nat) : Int) else 24) ≤ 24 := by split <;> omega
    have q9 : (if ((900 / n : Nat) : Int) < 24 then ((900 / n : Nat) : Int) else 24) ≤ ((900 / n : Nat) : Int) := by split <;> omega
    have hdiv : 900 / n * n ≤ 900 := Nat.div_mul_le_self 900 n
    generalize 900 / n = t at *
    generalize (if ((t : Nat) : Int) < 24 then ((t : Nat) : Int) else 24) = m at *
    have hz : m + 1 < BIG := Int.lt_of_le_of_lt (show m + 1 ≤ 1000000000 by omega) (big_of (Int.le_refl _))
    refine ⟨cz, hz, fun r p1 p2 => ?_⟩
    obtain ⟨k, rfl⟩ : ∃ k : Nat, r = k := ⟨r.toNat, by omega⟩
    have many : (k : Int) < 2 ^ 62 ∧ -2 ^ 62 ≤ (k : Int) ∧ compL (gdName 4) qYes (dCall (0 + 1 + 1 + 1) m_second [] (lCons (dVar 0) (lCons (dVar 1) (lCons (dVar 2) lNil)))) (wipeD [Sl.fr D.sto, Sl.fr one, Sl.fr (D.int (n : Int)), Sl.fr (D.int (k : Int)), Sl.no] [4]) (fun l => Q (D.lst l)) (rangeD 0 ((k : Int)).toNat) [] := by
      have kk : k ≤ 24 := by
        rcases p2 with p2 | p2 <;> omega
      have k9 : k * n ≤ 900 := by
        have : k ≤ t := by rcases p2 with p2 | p2 <;> omega
        exact Nat.le_trans (Nat.mul_le_mul_right _ this) hdiv
      refine ⟨by omega, by omega, compL_any (RatN n) _ _ (fun d hd R q => ?_) (by rw [rangeD_len, sizeLine_eq, List.length_nil]; omega) fun l e pl => ?_⟩
      · simp only [wipeD]
        walk_at "dl"
        exact ⟨f1, f2, ro, q⟩
      · rw [rangeD_len] at e
        have e : l.length = k := e
        exact h _ (.inl ⟨by rw [List.nil_append, e]; exact k9, by rw [List.nil_append, e]; exact kk, pl⟩)
    split
    · rename_i c
      refine ⟨by decide, fun r1 _ _ => ?_⟩
      walk_at "dl"
      split
      · refine ⟨by decide, fun r2 a1 a2 => ⟨by omega, by omega, compL_any (RatN 1) _ _ (fun d hd R q => ?_) (by rw [rangeD_len, sizeLine_eq, List.length_nil]; omega) fun l e pl => ?_⟩⟩
        · simp only [wipeD]
          walk_at "dl"
          exact q
        · rw [rangeD_len] at e
          have h9 : n = 9 := by
            have := f3 (by simpa using c)
            omega
          exact h _ (.inr ⟨h9, by rw [List.nil_append, e]; omega, pl⟩)
      · exact many
    · exact many
  · exact h.elim
end
end My
namespace My
open PySem PySem.Spec PyProof.Rows L2
local macro_rules | `(tactic| walk_at "dl") => `(tactic| simp only [startD, List.map_cons, List.map_nil, List.length_cons, List.length_nil, List.cons_append, List.nil_append, List.replicate_succ, List.replicate_zero, List.getElem?_cons_zero, List.getElem?_cons_succ, List.set_cons_zero, List.set_cons_succ,
  dVar, rdS, dC, dNew, dOp, onB, qB, dChain, qAnd, qOr, qNot, qTru, truD, dIf, dAnd, dOr, dNot, dUn, ddNeg, lNil, lCons, dTup, nLst, ddI, ddI0, ddAdd, isNonD, isBlD, ddIsN, ddIsB, ddIx_t0, ddIx_t1, ddIx_t2, ddIx_t3, ddIx_l0, ddIx_l1, ddIx_l2, dCB, ddLen, ddInt1, ddAbs, ddMM, ddTuple, nCB, nnList, ddIsi, dCall,
  sSkip, sSeq, sBreak, sCont, sExpr, sRet, sRetN, sIf, sNever, gdName, gdNil, gdCons, gdTup, sAsg, sSetN, sPar, sRaise, sFrz, owS, sApp, sIns, dLenO, dIxO, sTry, sFor, iL, iT, onL, onT, iR1, iR2, nComp, qYes,
  ddEq_ii, ddEq_ss, ddEq_bb, Bool.false_bne, Bool.true_bne, List.append_nil, true_and, and_true, if_true, if_false, Bool.not_true, Bool.not_false, Bool.true_eq_false, Bool.false_eq_true, ite_true, ite_false, id_eq])

/-! ### sums -/
def totF : Int → Int → List D → Int × Int
  | t, b, .tup [.int f, .int u] :: l => totF (lowP (t * u + f * b) (b * u)) (lowQ (t * u + f * b) (b * u)) l
  | t, b, _ => (t, b)
def TotOk : Int → Int → List D → Prop
  | _, _, [] => True
  | t, b, .tup [.int f, .int u] :: l => Sm t ∧ Sm b ∧ Sm f ∧ Sm u ∧ b * u ≠ 0 ∧ TotOk (lowP (t * u + f * b) (b * u)) (lowQ (t * u + f * b) (b * u)) l
  | _, _, _ => False
def frF : Int → Int → List D → Int × Int
  | t, b, .tup [.int f, .int u] :: l => frF (t * u + f * b) (b * u) l
  | t, b, _ => (t, b)
def FrOk : Int → Int → List D → Prop
  | _, _, [] => True
  | t, b, .tup [.int f, .int u] :: l => Sm t ∧ Sm b ∧ Sm f ∧ Sm u ∧ FrOk (t * u + f * b) (b * u) l
  | _, _, _ => False
def Bn (m k : Nat) : Nat := k * 10 ^ (m * k)
theorem Bn_step {m k : Nat} {t b f u : Int} (ht : t.natAbs ≤ Bn m k) (hb : b.natAbs ≤ 10 ^ (m * k)) (hf : Dig m f) (hu : Dig m u) : (t * u + f * b).natAbs ≤ Bn m (k + 1) ∧ (b * u).natAbs ≤ 10 ^ (m * (k + 1)) := by
  have e : (10 : Nat) ^ (m * (k + 1)) = 10 ^ (m * k) * 10 ^ m := by rw [Nat.mul_add, Nat.mul_one, Nat.pow_add]
  have hu' : u.natAbs ≤ 10 ^ m := Nat.le_of_lt hu
  have hf' : f.natAbs ≤ 10 ^ m := Nat.le_of_lt hf
  constructor
  · have h1 : (t * u + f * b).natAbs ≤ t.natAbs * u.natAbs + f.natAbs * b.natAbs := by
      rw [← Int.natAbs_mul, ← Int.natAbs_mul]
      exact Int.natAbs_add_le _ _
    have h2 : t.natAbs * u.natAbs ≤ Bn m k * 10 ^ m := Nat.mul_le_mul ht hu'
    have h3 : f.natAbs * b.natAbs ≤ 10 ^ m * 10 ^ (m * k) := Nat.mul_le_mul hf' hb
    refine Nat.le_trans h1 ?_
    unfold Bn at *
    rw [e]
    have : (k + 1) * (10 ^ (m * k) * 10 ^ m) = k * 10 ^ (m * k) * 10 ^ m + 10 ^ m * 10 ^ (m * k) := by
      rw [Nat.add_mul, Nat.one_mul, Nat.mul_assoc, Nat.mul_comm (10 ^ (m * k)) (10 ^ m)]
    rw [this]
    exact Nat.add_le_add h2 h3
  · rw [Int.natAbs_mul, e]
    exact Nat.mul_le_mul hb hu'
theorem Bn_mono {m k j : Nat} (h : k ≤ j) : Bn m k ≤ Bn m j := Nat.mul_le_mul h (Nat.pow_le_pow_right (by decide) (Nat.mul_le_mul_left _ h))
theorem Bn_low {m k : Nat} (h : 1 ≤ k) : 10 ^ (m * k) ≤ Bn m k := Nat.le_mul_of_pos_left _ h
/-- where a sum stands -/
structure Tot (m k : Nat) (t b up dn : Int) : Prop where
  b1 : 1 ≤ b
  d1 : 1 ≤ dn
  x : t * dn = b * up
  g : G2 t b = 1
  bt : t.natAbs ≤ Bn m k
  bb : b.natAbs ≤ 10 ^ (m * k)
  bu : up.natAbs ≤ Bn m k
  bd : dn.natAbs ≤ 10 ^ (m * k)
theorem Tot.zero (m : Nat) : Tot m 0 0 1 0 1 := ⟨by decide, by decide, by decide, by decide, Nat.zero_le _, Nat.le_refl 1, Nat.zero_le _, Nat.le_refl 1⟩
theorem Tot.sm {m k j : Nat} {t b up dn : Int} (T : Tot m k t b up dn) (h : k < j) (hj : Bn m j < 2 ^ 4000) : Sm t ∧ Sm b ∧ Sm up ∧ Sm dn := by
  have h1 : Bn m k < 2 ^ 4000 := Nat.lt_of_le_of_lt (Bn_mono (Nat.le_of_lt h)) hj
  have h2 : 10 ^ (m * k) < 2 ^ 4000 := Nat.lt_of_le_of_lt (Nat.le_trans (Nat.pow_le_pow_right (by decide) (Nat.mul_le_mul_left _ (Nat.le_of_lt h))) (Bn_low (by omega))) hj
  exact ⟨Nat.lt_of_le_of_lt T.bt h1, Nat.lt_of_le_of_lt T.bb h2, Nat.lt_of_le_of_lt T.bu h1, Nat.lt_of_le_of_lt T.bd h2⟩
theorem Tot.step {m k : Nat} {t b up dn f u : Int} (T : Tot m k t b up dn) (hf : Dig m f) (hu : Dig m u) (u1 : 1 ≤ u) : Tot m (k + 1) (lowP (t * u + f * b) (b * u)) (lowQ (t * u + f * b) (b * u)) (up * u + f * dn) (dn * u) := by
  have bu : b * u ≠ 0 := Int.mul_ne_zero (by have := T.b1; omega) (by omega)
  obtain ⟨l1, l2, l3, l4, l5⟩ := low_facts (t * u + f * b) (b * u) bu
  obtain ⟨s1, s2⟩ := Bn_step T.bt T.bb hf hu
  obtain ⟨s3, s4⟩ := Bn_step T.bu T.bd hf hu
  refine ⟨l1, ?_, ?_, l2, Nat.le_trans l4 s1, Nat.le_trans l5 s2, s3, s4⟩
  · have := Int.mul_le_mul T.d1 u1 (by decide) (by have := T.d1; omega)
    simpa using this
  · generalize lowP (t * u + f * b) (b * u) = p at *
    generalize lowQ (t * u + f * b) (b * u) = q at *
    have b0 : b ≠ 0 := by have := T.b1; omega
    refine Int.eq_of_mul_eq_mul_left b0 ?_
    have e1 : b * (p * (dn * u)) = (p * (b * u)) * dn := by simp only [Int.mul_comm, Int.mul_left_comm, Int.mul_assoc]
    rw [e1, l3]
    have e2 : q * (t * u + f * b) * dn = q * (u * (t * dn) + f * b * dn) := by
      rw [Int.mul_assoc, Int.add_mul]
      congr 2
      simp only [Int.mul_comm, Int.mul_left_comm, Int.mul_assoc]
    rw [e2, T.x]
    rw [Int.mul_add, Int.mul_add, Int.mul_add]
    congr 1 <;> simp only [Int.mul_comm, Int.mul_left_comm, Int.mul_assoc]
theorem tot_all (m j : Nat) (hm : m ≤ 1000) (hj : Bn m j < 2 ^ 4000) : ∀ (l : List D) (k : Nat) (t b up dn : Int), (∀ d ∈ l, RatN m d) → Tot m k t b up dn → k + l.length < j + 1 → k ≤ j →
    TotOk t b l ∧ FrOk up dn l ∧ Tot m (k + l.length) (totF t b l).1 (totF t b l).2 (frF up dn l).1 (frF up dn l).2
  | [], k, t, b, up, dn, _, T, _, _ => ⟨trivial, trivial, T⟩
  | d :: l, k, t, b, up, dn, h, T, hk, hk2 => by
    obtain ⟨f, u, rfl, r, df, du⟩ := h d (List.mem_cons_self ..)
    obtain ⟨_, _, e, u1, _⟩ := rat_shape r
    cases e
    rw [List.length_cons] at hk
    obtain ⟨s1, s2, s3, s4⟩ := T.sm (show k < j by omega) hj
    have T2 := T.step df du u1
    obtain ⟨g1, g2, g3⟩ := tot_all m j hm hj l (k + 1) _ _ _ _ (fun c hc => h c (List.mem_cons_of_mem _ hc)) T2 (by omega) (by omega)
    have bu : b * u ≠ 0 := Int.mul_ne_zero (by have := T.b1; omega) (by omega)
    refine ⟨⟨s1, s2, df.sm hm, du.sm hm, bu, g1⟩, ⟨s3, s4, df.sm hm, du.sm hm, g2⟩, ?_⟩
    rw [List.length_cons, show k + (l.length + 1) = k + 1 + l.length by omega]
    exact g3
theorem tot_app : ∀ (l : List D) (e : D) (t b : Int), (∀ d ∈ l, isRat d = true) → totF t b (l ++ [e]) = totF (totF t b l).1 (totF t b l).2 [e] ∧ frF t b (l ++ [e]) = frF (frF t b l).1 (frF t b l).2 [e]
  | [], _, _, _, _ => ⟨rfl, rfl⟩
  | d :: l, e, t, b, h => by
    obtain ⟨f, u, rfl, _⟩ := rat_shape (h d (List.mem_cons_self ..))
    exact ⟨(tot_app l e _ _ fun c hc => h c (List.mem_cons_of_mem _ hc)).1, (tot_app l e _ _ fun c hc => h c (List.mem_cons_of_mem _ hc)).2⟩
theorem totOk_app : ∀ (l : List D) (e : D) (t b : Int), TotOk t b l → TotOk (totF t b l).1 (totF t b l).2 [e] → TotOk t b (l ++ [e])
  | [], _, _, _, _, h => h
  | .tup [.int f, .int u] :: l, e, t, b, ⟨h1, h2, h3, h4, h5, h⟩, q => ⟨h1, h2, h3, h4, h5, totOk_app l e _ _ h q⟩
theorem frOk_app : ∀ (l : List D) (e : D) (t b : Int), FrOk t b l → FrOk (frF t b l).1 (frF t b l).2 [e] → FrOk t b (l ++ [e])
  | [], _, _, _, _, h => h
  | .tup [.int f, .int u] :: l, e, t, b, ⟨h1, h2, h3, h4, h⟩, q => ⟨h1, h2, h3, h4, frOk_app l e _ _ h q⟩
/-- small enough to be multiplied -/
def Md (x : Int) : Prop := x.natAbs < 2 ^ 8500
theorem Md.mul {x y : Int} (hx : Md x) (hy : Md y) : CMulW x y := wide_mul hx hy (by decide) (by decide) (by decide)
theorem Md.log {x : Int} (h : Md x) : x.natAbs.log2 < 9000 := Nat.lt_of_lt_of_le (PySem.Flt.log2_lt_of (by decide) h) (by decide)
theorem Sm.md {x : Int} (h : Sm x) : Md x := Nat.lt_of_lt_of_le h (Nat.pow_le_pow_right (by decide) (by decide))
/-- a list that may be summed -/
structure SumOk (l : List D) : Prop where
  t : TotOk 0 1 l
  f : FrOk 0 1 l
  r : isRat (ratD (totF 0 1 l).1 (totF 0 1 l).2) = true
  x : (totF 0 1 l).1 * (frF 0 1 l).2 = (totF 0 1 l).2 * (frF 0 1 l).1
  s : (Md (totF 0 1 l).1 ∧ Md (totF 0 1 l).2) ∧ Md (frF 0 1 l).1 ∧ Md (frF 0 1 l).2
theorem SumOk.of {m k : Nat} {l : List D} (t : TotOk 0 1 l) (f : FrOk 0 1 l) (T : Tot m k (totF 0 1 l).1 (totF 0 1 l).2 (frF 0 1 l).1 (frF 0 1 l).2) (hj : Bn m (k + 1) < 2 ^ 8500) : SumOk l := by
  have h1 : Bn m k < 2 ^ 8500 := Nat.lt_of_le_of_lt (Bn_mono (Nat.le_succ k)) hj
  have h2 : 10 ^ (m * k) < 2 ^ 8500 := Nat.lt_of_le_of_lt (Nat.le_trans (Nat.pow_le_pow_right (by decide) (Nat.mul_le_mul_left _ (Nat.le_succ k))) (Bn_low (by omega))) hj
  refine ⟨t, f, ?_, T.x, ⟨Nat.lt_of_le_of_lt T.bt h1, Nat.lt_of_le_of_lt T.bb h2⟩, Nat.lt_of_le_of_lt T.bu h1, Nat.lt_of_le_of_lt T.bd h2⟩
  show (decide (1 ≤ (totF 0 1 l).2) && decide (G2 (totF 0 1 l).1 (totF 0 1 l).2 = 1)) = true
  rw [decide_eq_true T.b1, decide_eq_true T.g]
  rfl
theorem sum_plain {m j : Nat} {l : List D} (hm : m ≤ 1000) (h : ∀ d ∈ l, RatN m d) (hl : l.length ≤ j) (hj : Bn m j < 2 ^ 4000) (hj2 : Bn m (j + 1) < 2 ^ 8500) : SumOk l := by
  obtain ⟨h1, h2, h3⟩ := tot_all m j hm hj l 0 0 1 0 1 h (Tot.zero m) (by omega) (by omega)
  rw [Nat.zero_add] at h3
  exact .of h1 h2 h3 (Nat.lt_of_le_of_lt (Bn_mono (by omega)) hj2)
theorem bn9 : Bn 9 26 < 2 ^ 4000 := by decide +kernel
theorem bn9b : Bn 9 36 < 2 ^ 4000 := by decide +kernel
theorem bn1 : Bn 1 300 < 2 ^ 4000 := by decide +kernel
theorem bn60 : Bn 60 17 < 2 ^ 4000 := by decide +kernel
theorem bn300 : Bn 300 4 < 2 ^ 4000 := by decide +kernel
theorem bn1000 : Bn 1000 1 < 2 ^ 4000 := by decide +kernel
theorem bn1_9 : Bn 1 299 ≤ Bn 9 34 ∧ 10 ^ (1 * 299) ≤ 10 ^ (9 * 34) := by decide +kernel
/-- the figures of a script -/
def Fig (n : Nat) : Prop := n = 9 ∨ n = 60 ∨ n = 300 ∨ n = 1000
theorem Bn_le {m k j : Nat} (h : k ≤ j) (hj : Bn m j < 2 ^ 4000) : Bn m k < 2 ^ 4000 := Nat.lt_of_le_of_lt (Bn_mono h) hj
theorem bm9 : Bn 9 27 < 2 ^ 8500 := by decide +kernel
theorem bm9b : Bn 9 37 < 2 ^ 8500 := by decide +kernel
theorem bm1 : Bn 1 301 < 2 ^ 8500 := by decide +kernel
theorem bm60 : Bn 60 18 < 2 ^ 8500 := by decide +kernel
theorem bm300 : Bn 300 5 < 2 ^ 8500 := by decide +kernel
theorem bm1000 : Bn 1000 2 < 2 ^ 8500 := by decide +kernel
theorem values_sum {n : Nat} {l : List D} (fg : Fig n) (v : ValOk n l) : SumOk l := by
  rcases v with ⟨h1, h2, h3⟩ | ⟨rfl, h2, h3⟩
  · rcases fg with rfl | rfl | rfl | rfl
    · exact sum_plain (by decide) h3 (j := 26) (by omega) bn9 bm9
    · exact sum_plain (by decide) h3 (j := 17) (by omega) bn60 bm60
    · exact sum_plain (by decide) h3 (j := 4) (by omega) bn300 bm300
    · exact sum_plain (by decide) h3 (j := 1) (by omega) bn1000 bm1000
  · exact sum_plain (by decide) h3 (j := 300) (by omega) bn1 bm1
theorem values_sum2 {n : Nat} {l : List D} {e : D} (fg : Fig n) (v : ValOk n l) (he : RatN n e) : SumOk (l ++ [e]) := by
  have app : ∀ {m : Nat}, (∀ d ∈ l, RatN m d) → RatN m e → ∀ d ∈ l ++ [e], RatN m d := fun {m} h q d hd => by
    rcases List.mem_append.mp hd with z | z
    · exact h d z
    · rw [List.mem_singleton.mp z]
      exact q
  have ln : (l ++ [e]).length = l.length + 1 := by rw [List.length_append]; rfl
  rcases v with ⟨h1, h2, h3⟩ | ⟨rfl, h2, h3⟩
  · rcases fg with rfl | rfl | rfl | rfl
    · exact sum_plain (by decide) (app h3 he) (j := 26) (by omega) bn9 bm9
    · exact sum_plain (by decide) (app h3 he) (j := 17) (by omega) bn60 bm60
    · exact sum_plain (by decide) (app h3 he) (j := 4) (by omega) bn300 bm300
    · exact sum_plain (by decide) (app h3 he) (j := 1) (by omega) bn1000 bm1000
  · obtain ⟨g1, g2, g3⟩ := tot_all 1 300 (by decide) bn1 l 0 0 1 0 1 h3 (Tot.zero 1) (by omega) (by omega)
    rw [Nat.zero_add] at g3
    have b1 : Bn 1 l.length ≤ Bn 9 34 := Nat.le_trans (Bn_mono h2) bn1_9.1
    have b2 : 10 ^ (1 * l.length) ≤ 10 ^ (9 * 34) := Nat.le_trans (Nat.pow_le_pow_right (by decide) (Nat.mul_le_mul_left _ h2)) bn1_9.2
    have g4 : Tot 9 34 (totF 0 1 l).1 (totF 0 1 l).2 (frF 0 1 l).1 (frF 0 1 l).2 := ⟨g3.b1, g3.d1, g3.x, g3.g, Nat.le_trans g3.bt b1, Nat.le_trans g3.bb b2, Nat.le_trans g3.bu b1, Nat.le_trans g3.bd b2⟩
    obtain ⟨k1, k2, k3⟩ := tot_all 9 36 (by decide) bn9b [e] 34 _ _ _ _ (fun d hd => by rw [List.mem_singleton.mp hd]; exact he) g4 (by show 34 + 1 < 37; decide) (by decide)
    obtain ⟨a1, a2⟩ := tot_app l e 0 1 fun d hd => by
      obtain ⟨_, _, rfl, r, _⟩ := h3 d hd
      exact r
    refine SumOk.of (m := 9) (k := 35) (totOk_app l e 0 1 g1 k1) (frOk_app l e 0 1 g2 k2) ?_ (Nat.lt_of_le_of_lt (Bn_mono (by decide)) bm9b)
    have e1 := congrArg Prod.fst a1
    have e2 := congrArg Prod.snd a1
    rw [a1, (tot_app l e 0 1 fun d hd => by
      obtain ⟨_, _, rfl, r, _⟩ := h3 d hd
      exact r).2]
    exact k3
end My
namespace My
open PySem PySem.Spec PyProof.Rows L2
local macro_rules | `(tactic| walk_at "dl") => `(tactic| simp only [startD, List.map_cons, List.map_nil, List.length_cons, List.length_nil, List.cons_append, List.nil_append, List.replicate_succ, List.replicate_zero, List.getElem?_cons_zero, List.getElem?_cons_succ, List.set_cons_zero, List.set_cons_succ,
  dVar, rdS, dC, dNew, dOp, onB, qB, dChain, qAnd, qOr, qNot, qTru, truD, dIf, dAnd, dOr, dNot, dUn, ddNeg, lNil, lCons, dTup, nLst, ddI, ddI0, ddAdd, isNonD, isBlD, ddIsN, ddIsB, ddIx_t0, ddIx_t1, ddIx_t2, ddIx_t3, ddIx_l0, ddIx_l1, ddIx_l2, dCB, ddLen, ddInt1, ddAbs, ddMM, ddTuple, nCB, nnList, ddIsi, dCall,
  sSkip, sSeq, sBreak, sCont, sExpr, sRet, sRetN, sIf, sNever, gdName, gdNil, gdCons, gdTup, sAsg, sSetN, sPar, sRaise, sFrz, owS, sApp, sIns, dLenO, dIxO, sTry, sFor, iL, iT, onL, onT, iR1, iR2, nComp, qYes,
  ddEq_ii, ddEq_ss, ddEq_bb, Bool.false_bne, Bool.true_bne, List.append_nil, true_and, and_true, if_true, if_false, Bool.not_true, Bool.not_false, Bool.true_eq_false, Bool.false_eq_true, ite_true, ite_false, id_eq])

/-! ### == of ratios -/
theorem shaped_rat (a b : Int) : SeqAt.shaped (.tuple [.int a, .int b]) = true := by
  simp [SeqAt.shaped, PyData.canLay0, PyData.canLayAll0, PyData.depth, PyData.depthAll]
theorem eqv_rat (a b c d : Int) : PyData.eqv (.tuple [.int a, .int b]) (.tuple [.int c, .int d]) = (decide (a = c) && decide (b = d)) := by
  simp [PyData.eqv, PyData.eqvAll, Bool.beq_eq_decide_eq]
theorem ddEq_rat (n : Bool) (a b c d : Int) (Q : D → Prop) : ddEq n (ratD a b) (ratD c d) Q = Q (.bl (n != (decide (a = c) && decide (b = d)))) := by
  show ddEqP n (ratD a b) (ratD c d) Q = _
  unfold ddEqP
  have e1 : pyD (ratD a b) = some (.tuple [.int a, .int b]) := rfl
  have e2 : pyD (ratD c d) = some (.tuple [.int c, .int d]) := rfl
  rw [e1, e2]
  simp [shaped_rat, eqv_rat]
/-! ### a ratio by the law's own measure -/
/-- the ints within are small -/
def Bt (d : D) : Prop := ∀ a b, d = ratD a b → Sm a ∧ Sm b
theorem rat_low {a b : Int} (hb : 1 ≤ b) : (decide (lowP a b = a) && decide (lowQ a b = b)) = decide (G2 a b = 1) := by
  have hG : 0 < G2 a b := Nat.gcd_pos_of_pos_right _ (by omega)
  by_cases h : G2 a b = 1
  · rw [decide_eq_true h]
    have e1 : lowP a b = a := by unfold lowP; rw [h, if_neg (by omega)]; omega
    have e2 : lowQ a b = b := by unfold lowQ; rw [h]; omega
    rw [decide_eq_true e1, decide_eq_true e2]
    rfl
  · rw [decide_eq_false h]
    have : lowQ a b ≠ b := fun e => by
      obtain ⟨_, g1, _⟩ := low_facts a b (by omega)
      unfold lowQ at e
      have d2 : (G2 a b : Int) ∣ (b.natAbs : Int) := Int.ofNat_dvd.mpr (Nat.gcd_dvd_right _ _)
      have e3 := Int.ediv_mul_cancel d2
      rw [e] at e3
      have e4 : (b.natAbs : Int) = b := by omega
      rw [e4] at e3
      have e5 : b * (G2 a b : Int) = b * 1 := by rw [e3, Int.mul_one]
      have := Int.eq_of_mul_eq_mul_left (by omega) e5
      omega
    rw [decide_eq_false this, Bool.and_false]
def Bm (d : D) : Prop := ∀ a b, d = ratD a b → Md a ∧ Md b
theorem Bt.bm {d : D} (h : Bt d) : Bm d := fun a b e => ⟨(h a b e).1.md, (h a b e).2.md⟩
def m_lis_int : DF := fun ds Q _ => match ds with
  | [d] => plainD d = true ∧ Q (.bl (isW d))
  | _ => False
def m_lis_ratio : DF := fun ds Q _ => match ds with
  | [d] => Pl d ∧ Bm d ∧ Q (.bl (isRat d))
  | _ => False
def m_is_ratios : DF := fun ds Q _ => match ds with
  | [d, .int n] => plainD d = true ∧ (isRL d = false → Q (.bl false)) ∧ ∀ l, d = .lst l → ((l.length : Int) ≠ n → Q (.bl false)) ∧ ((l.length : Int) = n → (∀ e ∈ l, Pl e ∧ Bm e) ∧ Q (.bl (l.all isRat)))
  | _ => False
abbrev s_is_int : Stmt := topS 60
abbrev N_is_int : List Str := ["thing"]
abbrev P_is_int : List Str := ["thing"]
theorem sc_is_int : FnScope N_is_int P_is_int (defScope s_is_int) := ⟨rfl, rfl, rfl, by decide +kernel, rfl, by decide +kernel, by decide +kernel⟩

abbrev s_lis_ratio : Stmt := topS 61
abbrev N_lis_ratio : List Str := ["thing"]
abbrev P_lis_ratio : List Str := ["thing"]
theorem sc_lis_ratio : FnScope N_lis_ratio P_lis_ratio (defScope s_lis_ratio) := ⟨rfl, rfl, rfl, by decide +kernel, rfl, by decide +kernel, by decide +kernel⟩

abbrev s_is_ratios : Stmt := topS 62
abbrev N_is_ratios : List Str := ["thing", "many", "one"]
abbrev P_is_ratios : List Str := ["thing", "many"]
theorem sc_is_ratios : FnScope N_is_ratios P_is_ratios (defScope s_is_ratios) := ⟨rfl, rfl, rfl, by decide +kernel, rfl, by decide +kernel, by decide +kernel⟩

abbrev s_total : Stmt := topS 45
abbrev N_total : List Str := ["values", "top", "bottom", "first", "under"]
abbrev P_total : List Str := ["values"]
theorem sc_total : FnScope N_total P_total (defScope s_total) := ⟨rfl, rfl, rfl, by decide +kernel, rfl, by decide +kernel, by decide +kernel⟩

section
variable {K : PySem.W.Frag} {mg : Str → Option Value} (T : Txt K mg)
def m_total : DF := fun ds Q E => match ds with
  | [d] => plainD d = true ∧ (∀ l, d = .lst l → l.length ≤ 1000000 ∧ ∀ e ∈ l, Pl e) ∧ (isRL d = false → E (wkX T "values")) ∧ ∀ l, d = .lst l → isRL d = true → TotOk 0 1 l ∧ Q (ratD (totF 0 1 l).1 (totF 0 1 l).2)
  | _ => False
end
section
variable {P : Program} {w : World} {K : PySem.W.Frag} {mg : Str → Option Value} {base : Heap}
theorem ok_total (T : Txt K mg) : FnOk P w K mg base (L2N.CX P w) 5 T.dtotal.f T.dtotal.fd P_total (spD K 1 (m_total T)) := by
  have I_WrongKind := ok_iWrongKind (P := P) (w := w) (base := base) T
  have G_is_ratio_list : FnOk P w K mg base (L2N.CX P w) 3 T.dis_ratio_list.f T.dis_ratio_list.fd P_is_ratio_list (spD K 1 m_is_ratio_list) := ok_is_ratio_list T
  have G_lowest : FnOk P w K mg base (L2N.CX P w) 2 T.dlowest.f T.dlowest.fd P_lowest (spD K 2 m_lowest) := ok_lowest T
  refine T.dtotal.okD sc_total fun cdv A outer s H E so A0 hr tk hp => ⟨_, (pds_cons (pds_if (pdt_not (pdt_tru (pd_call G_is_ratio_list (hr.mono (by omega)) (by rfl) T.dis_ratio_list.g T.dis_ratio_list.F.kp T.dis_ratio_list.b (fun σ => L2N.passAt tk σ) (pda_cons (pd_var (pv 0)) pda_nil))))
        (pds_one (pds_raise T.zWrongKind rfl tk T.iWrongKind.i T.iWrongKind.t I_WrongKind (hr.mono (by omega)) T.iWrongKind.b .nil (dd := []) (fun _ _ => rfl) rfl T.cWrongKind.g (pda_cons pd_str pda_nil)))
        pds_nil)
      (pds_cons (pds_asg (pd_c (v := .ref T.aNOUGHT) (pe_glob rfl T.kNOUGHT rfl) T.vNOUGHT) (pdg_tup (n := 2) rfl (pdgs_cons (pdg_name (pg_name (i := 1) sc_total.nd rfl (by first | exact .inl rfl | exact .inr rfl))) (pdgs_cons (pdg_name (pg_name (i := 2) sc_total.nd rfl (by first | exact .inl rfl | exact .inr rfl))) pdgs_nil))))
      (pds_cons (pds_for hp rfl (pdi_list (pd_var (pv 0))) (pdg_tup (n := 2) rfl (pdgs_cons (pdg_name (pg_name (i := 3) sc_total.nd rfl (by first | exact .inl rfl | exact .inr rfl))) (pdgs_cons (pdg_name (pg_name (i := 4) sc_total.nd rfl (by first | exact .inl rfl | exact .inr rfl))) pdgs_nil)))
        (pds_one (pds_asg (pd_call G_lowest (hr.mono (by omega)) (by rfl) T.dlowest.g T.dlowest.F.kp T.dlowest.b (fun σ => L2N.passAt tk σ) (pda_cons (pd_op oo_add ol_add (pd_op op_mulW ol_mul (pd_var (pv 1)) (pd_var (pv 4))) (pd_op op_mulW ol_mul (pd_var (pv 3)) (pd_var (pv 2)))) (pda_cons (pd_op op_mulW ol_mul (pd_var (pv 2)) (pd_var (pv 4))) pda_nil))) (pdg_tup (n := 2) rfl (pdgs_cons (pdg_name (pg_name (i := 1) sc_total.nd rfl (by first | exact .inl rfl | exact .inr rfl))) (pdgs_cons (pdg_name (pg_name (i := 2) sc_total.nd rfl (by first | exact .inl rfl | exact .inr rfl))) pdgs_nil))))))
      (pds_one (pds_ret (pd_tup (pda_cons (pd_var (pv 1)) (pda_cons (pd_var (pv 2)) pda_nil)))))))), fun ds Q E hl h => ?_⟩
  match ds, hl with
  | [d], _ =>
    obtain ⟨p, pl, h0, h1⟩ := h
    walk_at "dl"
    refine ⟨p, pl, ?_⟩
    cases hR : isRL d with
    | false =>
      walk_at "dl"
      exact ⟨by decide, h0 hR⟩
    | true =>
      rcases lst_cases d with ⟨_, hn⟩ | ⟨l, rfl, _⟩
      · rw [hn] at hR
        cases hR
      obtain ⟨tok, q⟩ := h1 l rfl hR
      walk_at "dl"
      have main : ∀ (m : List D) (t b : Int) (z1 z2 : Sl), TotOk t b m → Q (ratD (totF t b m).1 (totF t b m).2) →
          forL (gdTup 2 (gdCons (gdName 3) (gdCons (gdName 4) gdNil))) (sAsg (dCall 2 m_lowest [] (lCons (dOp ddAdd (dOp (ddI CMulW fun i j => .int (i * j)) (dVar 1) (dVar 4)) (dOp (ddI CMulW fun i j => .int (i * j)) (dVar 3) (dVar 2))) (lCons (dOp (ddI CMulW fun i j => .int (i * j)) (dVar 2) (dVar 4)) lNil))) (gdTup 2 (gdCons (gdName 1) (gdCons (gdName 2) gdNil))))
            { nx := (sRet (dTup (lCons (dVar 1) (lCons (dVar 2) lNil)))) { nx := fun _ => Q .non, rt := Q, bk := fun _ => False, ct := fun _ => False, ex := E }, rt := Q, bk := fun _ => False, ct := fun _ => False, ex := E } m [.fr (.lst l), .fr (.int t), .fr (.int b), z1, z2] := by
        intro m
        induction m with
        | nil =>
          intro t b z1 z2 _ q
          simp only [forL]
          walk_at "dl"
          exact ⟨by show 2 ≤ sizeLine; decide, q⟩
        | cons c m ih =>
          intro t b z1 z2 tok q
          match c, tok, q with
          | .tup [.int f, .int u], ⟨s1, s2, s3, s4, bu, tok⟩, q =>
            show gdTup _ _ _ _ _
            walk_at "dl"
            refine ⟨s1.mul s4, s3.mul s2, s2.mul s4, bu, s2.prod s4, ?_⟩
            simp only [ratD]
            walk_at "dl"
            exact ih _ _ _ _ tok q
      exact main l 0 1 .no .no tok q
theorem ok_lis_int (T : Txt K mg) : FnOk P w K mg base (L2N.CX P w) 1 T.dis_int.f T.dis_int.fd P_is_int (spD K 1 m_lis_int) := by
  refine T.dis_int.okD sc_is_int fun cdv A outer s H E so A0 hr tk hp => ⟨_, (pds_one (pds_ret (pd_and (pd_isi (by rfl) T.m_isinstance (pd_var (pv 0)) (pe_bltn (v := .ty "int") (by rfl) T.m_int bt_int rfl) tq_int) (pd_one (pd_not (pd_isi (by rfl) T.m_isinstance (pd_var (pv 0)) (pe_bltn (v := .ty "bool") (by rfl) T.m_bool bt_bool rfl) tq_bool)))))), fun ds Q E hl h => ?_⟩
  match ds, hl with
  | [d], _ =>
    obtain ⟨p, h⟩ := h
    walk_at "dl"
    refine ⟨p, ?_⟩
    rw [← isW_eq] at h
    split
    · rename_i e
      rw [e] at h
      exact ⟨p, h⟩
    · rename_i e
      rw [Bool.not_eq_true] at e
      rw [e] at h
      exact h
theorem ok_lis_ratio (T : Txt K mg) : FnOk P w K mg base (L2N.CX P w) 2 T.dlis_ratio.f T.dlis_ratio.fd P_lis_ratio (spD K 1 m_lis_ratio) := by
  have G_is_int : FnOk P w K mg base (L2N.CX P w) 1 T.dis_int.f T.dis_int.fd P_is_int (spD K 1 m_lis_int) := ok_lis_int T
  have G_low : FnOk P w K mg base (L2N.CX P w) 1 T.dlow.f T.dlow.fd P_low (spD K 2 m_low) := ok_low T
  refine T.dlis_ratio.okD sc_lis_ratio fun cdv A outer s H E so A0 hr tk hp => ⟨_, (pds_cons (pds_if (PDW.t (pdw_or (pdt_not (pdt_tru (pd_isi (by rfl) T.m_isinstance (pd_var (pv 0)) (pe_bltn (v := .ty "tuple") (by rfl) T.m_tuple bt_tuple rfl) tq_tuple))) (pdw_or (pdt_cmp (oo_ne hr.units) ol_ne (pd_callB oo_len cl_len (by rfl) T.m_len bt_len (pda_cons (pd_var (pv 0)) pda_nil)) pd_int (nomark _)) (pdw_or (pdt_not (pdt_tru (pd_call G_is_int (hr.mono (by omega)) (by rfl) T.dis_int.g T.dis_int.F.kp T.dis_int.b (fun σ => L2N.passAt tk σ) (pda_cons (pd_ix ix_seq ol_ix (pd_var (pv 0)) pd_int (fun _ _ => rfl)) pda_nil)))) (pdw_or1 (pdt_not (pdt_tru (pd_call G_is_int (hr.mono (by omega)) (by rfl) T.dis_int.g T.dis_int.F.kp T.dis_int.b (fun σ => L2N.passAt tk σ) (pda_cons (pd_ix ix_seq ol_ix (pd_var (pv 0)) pd_int (fun _ _ => rfl)) pda_nil)))))))))
        (pds_one (pds_ret pd_bl))
        pds_nil)
      (pds_one (pds_ret (pd_and (pd_cmp op_ge ol_ge (pd_ix ix_seq ol_ix (pd_var (pv 0)) pd_int (fun _ _ => rfl)) pd_int (nomark _)) (pd_one (pd_cmp (oo_eq hr.units) ol_eq (pd_call G_low (hr.mono (by omega)) (by rfl) T.dlow.g T.dlow.F.kp T.dlow.b (fun σ => L2N.passAt tk σ) (pda_cons (pd_ix ix_seq ol_ix (pd_var (pv 0)) pd_int (fun _ _ => rfl)) (pda_cons (pd_ix ix_seq ol_ix (pd_var (pv 0)) pd_int (fun _ _ => rfl)) pda_nil))) (pd_var (pv 0)) (nomark _))))))), fun ds Q E hl h => ?_⟩
  match ds, hl with
  | [d], _ =>
    obtain ⟨⟨p, pl⟩, bt, h⟩ := h
    walk_at "dl"
    refine ⟨p, ?_⟩
    rcases tup_cases d with ⟨hd, hn⟩ | ⟨l, rfl, ht⟩
    · rw [hd]
      walk_at "dl"
      rw [hn] at h
      exact h
    rw [ht]
    walk_at "dl"
    by_cases h2 : l.length = 2
    · obtain ⟨d1, d2, rfl⟩ : ∃ d1 d2, l = [d1, d2] := by
        match l, h2 with
        | [d1, d2], _ => exact ⟨d1, d2, rfl⟩
      have p1 := pl _ rfl d1 (by simp)
      have p2 := pl _ rfl d2 (by simp)
      walk_at "dl"
      simp only [m_lis_int, p1, p2, true_and]
      cases w1 : isW d1 with
      | false =>
        rw [rat_no1 w1] at h
        simpa using h
      | true =>
        cases w2 : isW d2 with
        | false =>
          rw [rat_no2 w2] at h
          simpa using h
        | true =>
          obtain ⟨a, rfl⟩ := isW_int w1
          obtain ⟨b, rfl⟩ := isW_int w2
          obtain ⟨sa, sb⟩ := bt a b rfl
          have h : Q (.bl (decide (1 ≤ b) && decide (G2 a b = 1))) := h
          by_cases hb : 1 ≤ b
          · rw [decide_eq_true hb, Bool.true_and, ← rat_low hb] at h
            have b0 : b ≠ 0 := by omega
            simp [hb, m_low, b0, lowD]
            refine ⟨sb.log, ?_⟩
            have e := ddEq_rat false (lowP a b) (lowQ a b) a b Q
            rw [Bool.false_bne] at e
            exact e.mpr h
          · rw [decide_eq_false hb, Bool.false_and] at h
            simp [hb]
            exact h
    · rw [rat_no h2] at h
      have e : ¬ ((l.length : Int) = 2) := by omega
      simp only [decide_eq_false e, Bool.not_false, if_true]
      exact h
theorem ok_is_ratios (T : Txt K mg) : FnOk P w K mg base (L2N.CX P w) 3 T.dis_ratios.f T.dis_ratios.fd P_is_ratios (spD K 2 m_is_ratios) := by
  have G_lis_ratio : FnOk P w K mg base (L2N.CX P w) 2 T.dlis_ratio.f T.dlis_ratio.fd P_lis_ratio (spD K 1 m_lis_ratio) := ok_lis_ratio T
  refine T.dis_ratios.okD sc_is_ratios fun cdv A outer s H E so A0 hr tk hp => ⟨_, (pds_cons (pds_if (PDW.t (pdw_or (pdt_not (pdt_tru (pd_isi (by rfl) T.m_isinstance (pd_var (pv 0)) (pe_bltn (v := .ty "list") (by rfl) T.m_list bt_list rfl) tq_list))) (pdw_or1 (pdt_cmp (oo_ne hr.units) ol_ne (pd_callB oo_len cl_len (by rfl) T.m_len bt_len (pda_cons (pd_var (pv 0)) pda_nil)) (pd_var (pv 1)) (nomark _)))))
        (pds_one (pds_ret pd_bl))
        pds_nil)
      (pds_cons (pds_for hp rfl (pdi_list (pd_var (pv 0))) (pdg_name (pg_name (i := 2) sc_is_ratios.nd rfl (by first | exact .inl rfl | exact .inr rfl)))
        (pds_one (pds_if (pdt_not (pdt_tru (pd_call G_lis_ratio (hr.mono (by omega)) (by rfl) T.dlis_ratio.g T.dlis_ratio.F.kp T.dlis_ratio.b (fun σ => L2N.passAt tk σ) (pda_cons (pd_var (pv 2)) pda_nil))))
          (pds_one (pds_ret pd_bl))
          pds_nil)))
      (pds_one (pds_ret pd_bl)))), fun ds Q E hl h => ?_⟩
  unfold m_is_ratios at h
  split at h
  · rename_i d n
    obtain ⟨p, h0, h⟩ := h
    walk_at "dl"
    refine ⟨p, ?_⟩
    rcases lst_cases d with ⟨e, hn⟩ | ⟨l, rfl, e⟩
    · rw [e]
      walk_at "dl"
      exact h0 hn
    · rw [e]
      obtain ⟨hl, h⟩ := h l rfl
      walk_at "dl"
      by_cases hn : (l.length : Int) = n
      · obtain ⟨hp, q⟩ := h hn
        simp only [decide_eq_true hn]
        walk_at "dl"
        have main : ∀ (m : List D) (z : Sl) (σ0 σ1 : Sl), (∀ e ∈ m, Pl e ∧ Bm e) → Q (.bl (m.all isRat)) →
            forL (gdName 2) (sIf (qNot (qTru (dCall (0 + 1) m_lis_ratio [] (lCons (dVar 2) lNil)))) (sRet (dC (D.bl false))) sSkip)
              { nx := sRet (dC (D.bl true)) { nx := fun _ => Q .non, rt := Q, bk := fun _ => False, ct := fun _ => False, ex := E }, rt := Q, bk := fun _ => False, ct := fun _ => False, ex := E } m [σ0, σ1, z] := by
          intro m
          induction m with
          | nil =>
            intro z σ0 σ1 _ q
            simp only [forL]
            walk_at "dl"
            exact q
          | cons c m ih =>
            intro z σ0 σ1 hm q
            show gdName _ _ _ _
            obtain ⟨a1, a2⟩ := hm c (by simp)
            walk_at "dl"
            simp only [m_lis_ratio]
            refine ⟨a1, a2, ?_⟩
            rw [List.all_cons] at q
            cases hc : isRat c with
            | false =>
              rw [hc] at q
              simpa using q
            | true =>
              rw [hc, Bool.true_and] at q
              walk_at "dl"
              exact ih _ _ _ (fun e he => hm e (by simp [he])) q
        exact main l _ _ _ hp q
      · simp only [decide_eq_false hn]
        walk_at "dl"
        exact hl hn
  · exact h.elim
end
end My
namespace My
open PySem PySem.Spec PyProof.Rows L2
section
variable {X : Cx} {g : Gx} {EX : EXT} {e a b c : Expr} {es : List Expr} {ra rb : DE} {pos p pt : Pos} {T U : String}
def ddIsi2 (T U : String) (d : D) (Q : D → Prop) : Prop := plainD d = true ∧ Q (.bl (isIn d T || isIn d U))
theorem pd_isiT {k : Nat} (hg : Gl X "isinstance") (hm : X.mg "isinstance" = none) (ha : PD X g EX a ra) (hb : PE X b (tC (.ty T))) (hc : PE X c (tC (.ty U))) (hT : TyQ T) (hU : TyQ U)
    (he : starEach [a, .Tuple [b, c] k pt] X.env = (false, eval a X.env) :: starEach [.Tuple [b, c] k pt] X.env := by rfl)
    (hs : starEach [.Tuple [b, c] k pt] X.env = (false, eval (.Tuple [b, c] k pt) X.env) :: starEach [] X.env := by rfl)
    (h1 : starEach [b, c] X.env = (false, eval b X.env) :: starEach [c] X.env := by rfl) (h2 : starEach [c] X.env = (false, eval c X.env) :: starEach [] X.env := by rfl)
    (hpl : (backTo pos (starEach [.Tuple [b, c] k pt] X.env)).any (·.1) = false := by rfl) :
    PD X g EX (.Call (.Name "isinstance" p) [a, .Tuple [b, c] k pt] [] pos) (dUn (ddIsi2 T U) ra) :=
  ⟨(pe_callB call_isiT hg hm bt_isinstance (pa_cons ha.pe (pa_cons (pe_tup (pa_cons hb (pa_cons hc pa_nil h2) h1)) pa_nil hs) he) (by decide) (by decide) he hpl).imp fun σ H Q h => by
  obtain ⟨A, ρ, Qd, Ed, S, h, c, cx⟩ := h
  refine ⟨A, ρ, _, Ed, S, h, fun d v A1 H1 x1 da q => ?_, cx⟩
  have q : ddIsi2 T U d Qd := q
  refine ⟨by show 2 ≤ sizeLine; decide, fun tp hp => ?_⟩
  refine ⟨v, tp, _, _, _, isIn d T || isIn d U, rfl, upd_same, .cons (.ty T) (.cons (.ty U) .nil), da.ty (x1.trans (Ext.open_ x1.good hp)).good q.1, ?_, ?_⟩
  · refine kitAny_cons (kit_ty (hT.h d q.1)) (fun e => ?_) (fun e => by rw [e]; rfl)
    refine kitAny_cons (kit_ty (hU.h d q.1)) (fun e2 => ?_) (fun e2 => by rw [e2, Bool.or_true])
    rw [e, e2]
    exact kitAny_nil
  · exact c (.bl _) _ A1 _ (x1.trans (Ext.open_ x1.good hp)) rfl q.2⟩
end
local macro_rules | `(tactic| walk_at "dl") => `(tactic| simp only [startD, List.map_cons, List.map_nil, List.length_cons, List.length_nil, List.cons_append, List.nil_append, List.replicate_succ, List.replicate_zero, List.getElem?_cons_zero, List.getElem?_cons_succ, List.set_cons_zero, List.set_cons_succ,
  dVar, rdS, dC, dNew, dOp, onB, qB, dChain, qAnd, qOr, qNot, qTru, truD, dIf, dAnd, dOr, dNot, dUn, ddNeg, lNil, lCons, dTup, nLst, ddI, ddI0, ddAdd, isNonD, isBlD, ddIsN, ddIsB, ddIx_t0, ddIx_t1, ddIx_t2, ddIx_t3, ddIx_l0, ddIx_l1, ddIx_l2, dCB, ddLen, ddInt1, ddAbs, ddMM, ddTuple, nCB, nnList, ddIsi, dCall,
  sSkip, sSeq, sBreak, sCont, sExpr, sRet, sRetN, sIf, sNever, gdName, gdNil, gdCons, gdTup, sAsg, sSetN, sPar, sRaise, sFrz, owS, sApp, sIns, dLenO, dIxO, sTry, sFor, iL, iT, onL, onT, iR1, iR2, nComp, qYes,
  ddEq_ii, ddEq_ss, ddEq_bb, Bool.false_bne, Bool.true_bne, List.append_nil, true_and, and_true, if_true, if_false, Bool.not_true, Bool.not_false, Bool.true_eq_false, Bool.false_eq_true, ite_true, ite_false, id_eq])

theorem plain_non  : plainD D.non = true := rfl
theorem isIn_non_int  : isIn D.non "int" = false := rfl
theorem isIn_non_str  : isIn D.non "str" = false := rfl
theorem isIn_non_bool  : isIn D.non "bool" = false := rfl
theorem isIn_non_list  : isIn D.non "list" = false := rfl
theorem isIn_non_tuple  : isIn D.non "tuple" = false := rfl
theorem isIn_non_dict  : isIn D.non "dict" = false := rfl
theorem plain_bl (b : Bool) : plainD (.bl b) = true := rfl
theorem isIn_bl_int (b : Bool) : isIn (.bl b) "int" = true := by show ("int" == "bool" || "int" == "int") = true; decide +kernel
theorem isIn_bl_str (b : Bool) : isIn (.bl b) "str" = false := by show ("str" == "bool" || "str" == "int") = false; decide +kernel
theorem isIn_bl_bool (b : Bool) : isIn (.bl b) "bool" = true := by show ("bool" == "bool" || "bool" == "int") = true; decide +kernel
theorem isIn_bl_list (b : Bool) : isIn (.bl b) "list" = false := by show ("list" == "bool" || "list" == "int") = false; decide +kernel
theorem isIn_bl_tuple (b : Bool) : isIn (.bl b) "tuple" = false := by show ("tuple" == "bool" || "tuple" == "int") = false; decide +kernel
theorem isIn_bl_dict (b : Bool) : isIn (.bl b) "dict" = false := by show ("dict" == "bool" || "dict" == "int") = false; decide +kernel
theorem plain_int (i : Int) : plainD (.int i) = true := rfl
theorem isIn_int_int (i : Int) : isIn (.int i) "int" = true := by show ("int" == "int") = true; decide +kernel
theorem isIn_int_str (i : Int) : isIn (.int i) "str" = false := by show ("str" == "int") = false; decide +kernel
theorem isIn_int_bool (i : Int) : isIn (.int i) "bool" = false := by show ("bool" == "int") = false; decide +kernel
theorem isIn_int_list (i : Int) : isIn (.int i) "list" = false := by show ("list" == "int") = false; decide +kernel
theorem isIn_int_tuple (i : Int) : isIn (.int i) "tuple" = false := by show ("tuple" == "int") = false; decide +kernel
theorem isIn_int_dict (i : Int) : isIn (.int i) "dict" = false := by show ("dict" == "int") = false; decide +kernel
theorem plain_str (z : Str) : plainD (.str z) = true := rfl
theorem isIn_str_int (z : Str) : isIn (.str z) "int" = false := by show ("int" == "str") = false; decide +kernel
theorem isIn_str_str (z : Str) : isIn (.str z) "str" = true := by show ("str" == "str") = true; decide +kernel
theorem isIn_str_bool (z : Str) : isIn (.str z) "bool" = false := by show ("bool" == "str") = false; decide +kernel
theorem isIn_str_list (z : Str) : isIn (.str z) "list" = false := by show ("list" == "str") = false; decide +kernel
theorem isIn_str_tuple (z : Str) : isIn (.str z) "tuple" = false := by show ("tuple" == "str") = false; decide +kernel
theorem isIn_str_dict (z : Str) : isIn (.str z) "dict" = false := by show ("dict" == "str") = false; decide +kernel
theorem plain_tup (l : List D) : plainD (.tup l) = true := rfl
theorem isIn_tup_int (l : List D) : isIn (.tup l) "int" = false := by show ("int" == "tuple") = false; decide +kernel
theorem isIn_tup_str (l : List D) : isIn (.tup l) "str" = false := by show ("str" == "tuple") = false; decide +kernel
theorem isIn_tup_bool (l : List D) : isIn (.tup l) "bool" = false := by show ("bool" == "tuple") = false; decide +kernel
theorem isIn_tup_list (l : List D) : isIn (.tup l) "list" = false := by show ("list" == "tuple") = false; decide +kernel
theorem isIn_tup_tuple (l : List D) : isIn (.tup l) "tuple" = true := by show ("tuple" == "tuple") = true; decide +kernel
theorem isIn_tup_dict (l : List D) : isIn (.tup l) "dict" = false := by show ("dict" == "tuple") = false; decide +kernel
theorem plain_lst (l : List D) : plainD (.lst l) = true := rfl
theorem isIn_lst_int (l : List D) : isIn (.lst l) "int" = false := by show ("int" == "list") = false; decide +kernel
theorem isIn_lst_str (l : List D) : isIn (.lst l) "str" = false := by show ("str" == "list") = false; decide +kernel
theorem isIn_lst_bool (l : List D) : isIn (.lst l) "bool" = false := by show ("bool" == "list") = false; decide +kernel
theorem isIn_lst_list (l : List D) : isIn (.lst l) "list" = true := by show ("list" == "list") = true; decide +kernel
theorem isIn_lst_tuple (l : List D) : isIn (.lst l) "tuple" = false := by show ("tuple" == "list") = false; decide +kernel
theorem isIn_lst_dict (l : List D) : isIn (.lst l) "dict" = false := by show ("dict" == "list") = false; decide +kernel
local macro_rules | `(tactic| walk_at "is") => `(tactic| simp only [plain_non, isIn_non_int, isIn_non_str, isIn_non_bool, isIn_non_list, isIn_non_tuple, isIn_non_dict, plain_bl, isIn_bl_int, isIn_bl_str, isIn_bl_bool, isIn_bl_list, isIn_bl_tuple, isIn_bl_dict, plain_int, isIn_int_int, isIn_int_str, isIn_int_bool, isIn_int_list, isIn_int_tuple, isIn_int_dict, plain_str, isIn_str_int, isIn_str_str, isIn_str_bool, isIn_str_list, isIn_str_tuple, isIn_str_dict, plain_tup, isIn_tup_int, isIn_tup_str, isIn_tup_bool, isIn_tup_list, isIn_tup_tuple, isIn_tup_dict, plain_lst, isIn_lst_int, isIn_lst_str, isIn_lst_bool, isIn_lst_list, isIn_lst_tuple, isIn_lst_dict, ddIsi, ddIsi2, true_and, if_true, if_false, Bool.false_eq_true, Bool.not_true, Bool.not_false, Bool.or_true, Bool.or_false, Bool.true_or, and_true])
/-! ### the same data -/
mutual
/-- plain data no deeper than n, without dicts -/
def TreeD : Nat → D → Prop
  | 0, _ => False
  | n + 1, .tup l => l.length ≤ 1000000 ∧ ∀ d ∈ l, TreeD n d
  | n + 1, .lst l => l.length ≤ 1000000 ∧ ∀ d ∈ l, TreeD n d
  | _ + 1, .non => True
  | _ + 1, .bl _ => True
  | _ + 1, .int _ => True
  | _ + 1, .str _ => True
  | _, _ => False
end
theorem TreeD.plain : ∀ {n : Nat} {d : D}, TreeD n d → plainD d = true
  | 0, _, h => by unfold TreeD at h; exact h.elim
  | n + 1, d, h => by
    cases d <;> first | rfl | (unfold TreeD at h; exact h.elim)
theorem forL_inv {gr : DG} {body : DS} {DD : DEnds} (P : Nat → DEnv → Prop) : ∀ (ds : List D) (ρ : DEnv) (k : Nat),
    (∀ (i : Nat) (d : D) (ρ : DEnv) (R : DEnv → Prop), ds[i]? = some d → P (k + i) ρ → (∀ ρ', P (k + i + 1) ρ' → R ρ') → gr d ρ (fun ρ1 => body ⟨R, DD.rt, DD.nx, R, DD.ex, DD.fr⟩ ρ1)) →
    (∀ ρ, P (k + ds.length) ρ → DD.nx ρ) → P k ρ → forL gr body DD ds ρ
  | [], ρ, k, _, h2, h0 => h2 ρ h0
  | d :: ds, ρ, k, h1, h2, h0 => by
    refine h1 0 d ρ _ rfl h0 fun ρ' q => ?_
    refine forL_inv P ds ρ' (k + 1) (fun i e ρ R he hp hr => ?_) (fun ρ q => h2 ρ (by rw [List.length_cons]; rwa [Nat.add_assoc, Nat.add_comm 1] at q)) q
    refine h1 (i + 1) e ρ R (by rw [List.getElem?_cons_succ]; exact he) ?_ fun ρ' q => hr ρ' ?_
    · rwa [Nat.add_assoc, Nat.add_comm 1] at hp
    · rw [Nat.add_assoc k 1 i, Nat.add_comm 1 i]
      exact q
theorem rangeD_at {lo : Int} {n i : Nat} {d : D} (h : (rangeD lo n)[i]? = some d) : i < n ∧ d = .int (lo + (i : Nat)) := by
  unfold rangeD at h
  rw [List.getElem?_map] at h
  by_cases hi : i < n
  · rw [List.getElem?_range hi] at h
    exact ⟨hi, (Option.some.inj h).symm⟩
  · rw [List.getElem?_eq_none (by rw [List.length_range]; omega)] at h
    cases h
theorem ddIx_tup {l : List D} {i : Nat} {d : D} {Q : D → Prop} (h : l[i]? = some d) (q : Q d) : ddIx (.tup l) (.int (0 + (i : Nat))) Q := by
  refine ⟨d, ?_, q⟩
  rw [Int.zero_add]
  exact atI_nat h
theorem ddIx_lst {l : List D} {i : Nat} {d : D} {Q : D → Prop} (h : l[i]? = some d) (q : Q d) : ddIx (.lst l) (.int (0 + (i : Nat))) Q := by
  refine ⟨d, ?_, q⟩
  rw [Int.zero_add]
  exact atI_nat h
def m_same : Nat → DF
  | 0 => fun _ _ _ => False
  | n + 1 => fun ds Q _ => match ds with
    | [got, due] => TreeD (n + 1) got ∧ TreeD (n + 1) due ∧ ∀ b : Bool, (b = true ↔ got = due) → Q (.bl b)
    | _ => False
abbrev s_same : Stmt := topS 59
abbrev N_same : List Str := ["got", "due", "key", "k"]
abbrev P_same : List Str := ["got", "due"]
theorem sc_same : FnScope N_same P_same (defScope s_same) := ⟨rfl, rfl, rfl, by decide +kernel, rfl, by decide +kernel, by decide +kernel⟩

section
variable {P : Program} {w : World} {K : PySem.W.Frag} {mg : Str → Option Value} {base : Heap}
theorem ok_same (T : Txt K mg) (n : Nat) : FnOk P w K mg base (L2N.CX P w) n T.dsame.f T.dsame.fd P_same (spD K 2 (m_same n)) := by
  induction n with
  | zero =>
    refine ⟨fun _ _ _ _ h => ?_, fun _ _ _ _ _ _ _ _ _ _ _ _ _ h => ?_⟩ <;>
    · obtain ⟨_, _, _, _, _, _, _, _, h, _⟩ := h
      exact h.elim
  | succ n G_same =>
    refine T.dsame.okD sc_same fun cdv A outer s H E so A0 hr tk hp => ⟨_, (pds_cons (pds_if (pdt_cmp o_isN ol_isN (pd_var (pv 1)) pd_non (nomark _))
        (pds_one (pds_ret (pd_cmp o_isN ol_isN (pd_var (pv 0)) pd_non (nomark _))))
        pds_nil)
      (pds_cons (pds_if (pdt_cmp o_isB ol_isB (pd_var (pv 1)) pd_bl (nomark _))
        (pds_one (pds_ret (pd_cmp o_isB ol_isB (pd_var (pv 0)) pd_bl (nomark _))))
        pds_nil)
      (pds_cons (pds_if (pdt_cmp o_isB ol_isB (pd_var (pv 1)) pd_bl (nomark _))
        (pds_one (pds_ret (pd_cmp o_isB ol_isB (pd_var (pv 0)) pd_bl (nomark _))))
        pds_nil)
      (pds_cons (pds_if (pdt_tru (pd_isi (by rfl) T.m_isinstance (pd_var (pv 1)) (pe_bltn (v := .ty "int") (by rfl) T.m_int bt_int rfl) tq_int))
        (pds_one (pds_ret (pd_and (pd_isi (by rfl) T.m_isinstance (pd_var (pv 0)) (pe_bltn (v := .ty "int") (by rfl) T.m_int bt_int rfl) tq_int) (pd_and (pd_not (pd_isi (by rfl) T.m_isinstance (pd_var (pv 0)) (pe_bltn (v := .ty "bool") (by rfl) T.m_bool bt_bool rfl) tq_bool)) (pd_one (pd_cmp (oo_eq hr.units) ol_eq (pd_var (pv 0)) (pd_var (pv 1)) (nomark _)))))))
        pds_nil)
      (pds_cons (pds_if (pdt_tru (pd_isi (by rfl) T.m_isinstance (pd_var (pv 1)) (pe_bltn (v := .ty "str") (by rfl) T.m_str bt_str rfl) tq_str))
        (pds_one (pds_ret (pd_and (pd_isi (by rfl) T.m_isinstance (pd_var (pv 0)) (pe_bltn (v := .ty "str") (by rfl) T.m_str bt_str rfl) tq_str) (pd_one (pd_cmp (oo_eq hr.units) ol_eq (pd_var (pv 0)) (pd_var (pv 1)) (nomark _))))))
        pds_nil)
      (pds_cons (pds_if (pdt_tru (pd_isi (by rfl) T.m_isinstance (pd_var (pv 1)) (pe_bltn (v := .ty "dict") (by rfl) T.m_dict bt_dict rfl) tq_dict))
        pds_never
        pds_nil)
      (pds_cons (pds_if (PDW.t (pdw_or (PDW.t (pdw_and (pdt_tru (pd_isi (by rfl) T.m_isinstance (pd_var (pv 1)) (pe_bltn (v := .ty "list") (by rfl) T.m_list bt_list rfl) tq_list)) (pdw_and1 (pdt_not (pdt_tru (pd_isi (by rfl) T.m_isinstance (pd_var (pv 0)) (pe_bltn (v := .ty "list") (by rfl) T.m_list bt_list rfl) tq_list)))))) (pdw_or1 (PDW.t (pdw_and (pdt_tru (pd_isi (by rfl) T.m_isinstance (pd_var (pv 1)) (pe_bltn (v := .ty "tuple") (by rfl) T.m_tuple bt_tuple rfl) tq_tuple)) (pdw_and1 (pdt_not (pdt_tru (pd_isi (by rfl) T.m_isinstance (pd_var (pv 0)) (pe_bltn (v := .ty "tuple") (by rfl) T.m_tuple bt_tuple rfl) tq_tuple)))))))))
        (pds_one (pds_ret pd_bl))
        pds_nil)
      (pds_cons (pds_if (pdt_not (pdt_tru (pd_isiT (by rfl) T.m_isinstance (pd_var (pv 1)) (pe_bltn (v := .ty "list") (by rfl) T.m_list bt_list rfl) (pe_bltn (v := .ty "tuple") (by rfl) T.m_tuple bt_tuple rfl) tq_list tq_tuple)))
        pds_never
        pds_nil)
      (pds_cons (pds_if (pdt_cmp (oo_ne hr.units) ol_ne (pd_callB oo_len cl_len (by rfl) T.m_len bt_len (pda_cons (pd_var (pv 0)) pda_nil)) (pd_callB oo_len cl_len (by rfl) T.m_len bt_len (pda_cons (pd_var (pv 1)) pda_nil)) (nomark _))
        (pds_one (pds_ret pd_bl))
        pds_nil)
      (pds_cons (pds_for hp rfl (pdi_range1 (by rfl) T.m_range (pda_cons (pd_callB oo_len cl_len (by rfl) T.m_len bt_len (pda_cons (pd_var (pv 1)) pda_nil)) pda_nil)) (pdg_name (pg_name (i := 3) sc_same.nd rfl (by first | exact .inl rfl | exact .inr rfl)))
        (pds_one (pds_if (pdt_not (pdt_tru (pd_call G_same (hr.mono (by omega)) (by rfl) T.dsame.g T.dsame.F.kp T.dsame.b (fun σ => L2N.passAt tk σ) (pda_cons (pd_ix ix_seq ol_ix (pd_var (pv 0)) (pd_var (pv 3)) (fun _ _ => rfl)) (pda_cons (pd_ix ix_seq ol_ix (pd_var (pv 1)) (pd_var (pv 3)) (fun _ _ => rfl)) pda_nil)))))
          (pds_one (pds_ret pd_bl))
          pds_nil)))
      (pds_one (pds_ret pd_bl)))))))))))), fun ds Q E hl h => ?_⟩
    match ds, hl with
    | [got, due], _ =>
      obtain ⟨t1, t2, q⟩ := h
      have p1 := t1.plain
      have p2 := t2.plain
      have no : got ≠ due → Q (.bl false) := fun h => q false ⟨fun e => (Bool.false_ne_true e).elim, fun e => (h e).elim⟩
      have yes : got = due → Q (.bl true) := fun h => q true ⟨fun _ => h, fun _ => rfl⟩
      cases due with
      | bl b => cases b <;> cases got <;> (first | (unfold TreeD at t1; exact t1.elim) | (walk_at "dl"; (try walk_at "is"); (try walk_at "dl"); (first | exact yes rfl | exact no (by intro h; cases h) | exact q _ (by simp) | (simp; exact q _ (by simp)) | (exact yes rfl))))
      | tup l =>
        cases got with
        | tup m =>
          unfold TreeD at t1 t2
          walk_at "dl"
          walk_at "is"
          by_cases hlen : m.length = l.length
          · rw [decide_eq_true (by rw [hlen] : (m.length : Int) = (l.length : Int))]
            walk_at "dl"
            have t23 := t2.1
            refine ⟨by omega, by omega, ?_⟩
            refine forL_inv (P := fun i ρ => ∃ z, ρ = [.fr (.tup m), .fr (.tup l), .no, z] ∧ m.take i = l.take i) _ _ 0 ?_ ?_ ⟨_, rfl, by rw [List.take_zero, List.take_zero]⟩
            · rintro i d ρ R hi ⟨z, rfl, tk⟩ hR
              rw [Nat.zero_add] at tk hR
              obtain ⟨hj, rfl⟩ := rangeD_at hi
              have hi : i < l.length := by omega
              have hm : i < m.length := by omega
              walk_at "dl"
              refine ddIx_tup (List.getElem?_eq_getElem hm) ?_
              refine ddIx_tup (List.getElem?_eq_getElem hi) ?_
              obtain ⟨n', rfl⟩ : ∃ n', n = n' + 1 := by
                cases n with
                | zero => exact (by have := t1.2 _ (List.getElem_mem hm); unfold TreeD at this; exact this.elim)
                | succ n' => exact ⟨n', rfl⟩
              refine ⟨t1.2 _ (List.getElem_mem hm), t2.2 _ (List.getElem_mem hi), fun b hb => ?_⟩
              cases b with
              | true =>
                walk_at "dl"
                refine hR _ ⟨_, rfl, ?_⟩
                rw [List.take_succ_eq_append_getElem hm, List.take_succ_eq_append_getElem hi, tk, hb.mp rfl]
              | false =>
                walk_at "dl"
                refine no fun e => ?_
                cases e
                exact Bool.false_ne_true (hb.mpr rfl)
            · rintro ρ ⟨z, rfl, tk⟩
              rw [Nat.zero_add, rangeD_len] at tk
              walk_at "dl"
              have e : m = l := by
                rw [← List.take_length (l := l), ← List.take_length (l := m), hlen]
                have e2 : ((l.length : Int)).toNat = l.length := by omega
                rw [e2] at tk
                exact tk
              exact yes (by rw [e])
          · rw [decide_eq_false (fun e => hlen (by omega) : ¬ ((m.length : Int) = (l.length : Int)))]
            walk_at "dl"
            exact no fun e => hlen (by cases e; rfl)
        | _ => first | (unfold TreeD at t1; exact t1.elim) | (walk_at "dl"; (try walk_at "is"); (try walk_at "dl"); (first | exact yes rfl | exact no (by intro h; cases h) | exact q _ (by simp) | (simp; exact q _ (by simp)) | (exact yes rfl)))
      | lst l =>
        cases got with
        | lst m =>
          unfold TreeD at t1 t2
          walk_at "dl"
          walk_at "is"
          by_cases hlen : m.length = l.length
          · rw [decide_eq_true (by rw [hlen] : (m.length : Int) = (l.length : Int))]
            walk_at "dl"
            have t23 := t2.1
            refine ⟨by omega, by omega, ?_⟩
            refine forL_inv (P := fun i ρ => ∃ z, ρ = [.fr (.lst m), .fr (.lst l), .no, z] ∧ m.take i = l.take i) _ _ 0 ?_ ?_ ⟨_, rfl, by rw [List.take_zero, List.take_zero]⟩
            · rintro i d ρ R hi ⟨z, rfl, tk⟩ hR
              rw [Nat.zero_add] at tk hR
              obtain ⟨hj, rfl⟩ := rangeD_at hi
              have hi : i < l.length := by omega
              have hm : i < m.length := by omega
              walk_at "dl"
              refine ddIx_lst (List.getElem?_eq_getElem hm) ?_
              refine ddIx_lst (List.getElem?_eq_getElem hi) ?_
              obtain ⟨n', rfl⟩ : ∃ n', n = n' + 1 := by
                cases n with
                | zero => exact (by have := t1.2 _ (List.getElem_mem hm); unfold TreeD at this; exact this.elim)
                | succ n' => exact ⟨n', rfl⟩
              refine ⟨t1.2 _ (List.getElem_mem hm), t2.2 _ (List.getElem_mem hi), fun b hb => ?_⟩
              cases b with
              | true =>
                walk_at "dl"
                refine hR _ ⟨_, rfl, ?_⟩
                rw [List.take_succ_eq_append_getElem hm, List.take_succ_eq_append_getElem hi, tk, hb.mp rfl]
              | false =>
                walk_at "dl"
                refine no fun e => ?_
                cases e
                exact Bool.false_ne_true (hb.mpr rfl)
            · rintro ρ ⟨z, rfl, tk⟩
              rw [Nat.zero_add, rangeD_len] at tk
              walk_at "dl"
              have e : m = l := by
                rw [← List.take_length (l := l), ← List.take_length (l := m), hlen]
                have e2 : ((l.length : Int)).toNat = l.length := by omega
                rw [e2] at tk
                exact tk
              exact yes (by rw [e])
          · rw [decide_eq_false (fun e => hlen (by omega) : ¬ ((m.length : Int) = (l.length : Int)))]
            walk_at "dl"
            exact no fun e => hlen (by cases e; rfl)
        | _ => first | (unfold TreeD at t1; exact t1.elim) | (walk_at "dl"; (try walk_at "is"); (try walk_at "dl"); (first | exact yes rfl | exact no (by intro h; cases h) | exact q _ (by simp) | (simp; exact q _ (by simp)) | (exact yes rfl)))
      | _ => first | (unfold TreeD at t2; exact t2.elim) | (cases got <;> (first | (unfold TreeD at t1; exact t1.elim) | (walk_at "dl"; (try walk_at "is"); (try walk_at "dl"); (first | exact yes rfl | exact no (by intro h; cases h) | exact q _ (by simp) | (simp; exact q _ (by simp)) | (exact yes rfl)))))
end
end My
namespace My
open PySem PySem.Spec PyProof.Rows L2
local macro_rules | `(tactic| walk_at "dl") => `(tactic| simp only [startD, List.map_cons, List.map_nil, List.length_cons, List.length_nil, List.cons_append, List.nil_append, List.replicate_succ, List.replicate_zero, List.getElem?_cons_zero, List.getElem?_cons_succ, List.set_cons_zero, List.set_cons_succ,
  dVar, rdS, dC, dNew, dOp, onB, qB, dChain, qAnd, qOr, qNot, qTru, truD, dIf, dAnd, dOr, dNot, dUn, ddNeg, lNil, lCons, dTup, nLst, ddI, ddI0, ddAdd, isNonD, isBlD, ddIsN, ddIsB, ddIx_t0, ddIx_t1, ddIx_t2, ddIx_t3, ddIx_l0, ddIx_l1, ddIx_l2, dCB, ddLen, ddInt1, ddAbs, ddMM, ddTuple, nCB, nnList, ddIsi, dCall,
  sSkip, sSeq, sBreak, sCont, sExpr, sRet, sRetN, sIf, sNever, gdName, gdNil, gdCons, gdTup, sAsg, sSetN, sPar, sRaise, sFrz, owS, sApp, sIns, dLenO, dIxO, sTry, sFor, iL, iT, onL, onT, iR1, iR2, nComp, qYes,
  ddEq_ii, ddEq_ss, ddEq_bb, Bool.false_bne, Bool.true_bne, List.append_nil, true_and, and_true, if_true, if_false, Bool.not_true, Bool.not_false, Bool.true_eq_false, Bool.false_eq_true, ite_true, ite_false, id_eq])

theorem sl0 : (0 ≤ sizeLine) = True := eq_true (by decide)
theorem sl1 : (0 + 1 ≤ sizeLine) = True := eq_true (by decide)
theorem sl2 : (0 + 1 + 1 ≤ sizeLine) = True := eq_true (by decide)
theorem sl3 : (0 + 1 + 1 + 1 ≤ sizeLine) = True := eq_true (by decide)
theorem sl4 : (0 + 1 + 1 + 1 + 1 ≤ sizeLine) = True := eq_true (by decide)
local macro_rules | `(tactic| walk_at "is") => `(tactic| simp only [plain_non, isIn_non_int, isIn_non_str, isIn_non_bool, isIn_non_list, isIn_non_tuple, isIn_non_dict, plain_bl, isIn_bl_int, isIn_bl_str, isIn_bl_bool, isIn_bl_list, isIn_bl_tuple, isIn_bl_dict, plain_int, isIn_int_int, isIn_int_str, isIn_int_bool, isIn_int_list, isIn_int_tuple, isIn_int_dict, plain_str, isIn_str_int, isIn_str_str, isIn_str_bool, isIn_str_list, isIn_str_tuple, isIn_str_dict, plain_tup, isIn_tup_int, isIn_tup_str, isIn_tup_bool, isIn_tup_list, isIn_tup_tuple, isIn_tup_dict, plain_lst, isIn_lst_int, isIn_lst_str, isIn_lst_bool, isIn_lst_list, isIn_lst_tuple, isIn_lst_dict, sl0, sl1, sl2, sl3, sl4, decide_true, decide_false, ddIsi, ddIsi2, true_and, if_true, if_false, Bool.false_eq_true, Bool.not_true, Bool.not_false, Bool.or_true, Bool.or_false, Bool.true_or, and_true])
local macro_rules | `(tactic| walk_at "wk") => `(tactic| ((try walk_at "dl"); (try walk_at "is"); (try walk_at "dl")))
/-! ### what is due -/
def wkD (x : Str) : D := .tup [.str "WrongKind", .str x]
def zdD : D := .tup [.str "ZeroDivisor", .non]
def num : D → Int
  | .tup [.int a, .int _] => a
  | _ => 1
def isZ : D → Bool
  | .int i => decide (i = 0)
  | _ => false
def faultD (w : Int) (one two : D) : D :=
  if w = 8 then (if isRL one = true then .non else wkD "values")
  else if w = 0 ∨ w = 9 then
    (if isW one = false then wkD "numerator" else if w = 0 ∧ isW two = false then wkD "denominator" else if w = 0 ∧ isZ two = true then zdD else .non)
  else if isRat one = false then wkD "one" else if w < 6 ∧ isRat two = false then wkD "other" else if w = 4 ∧ num two = 0 then zdD else .non
def BtW (d : D) : Prop := ∀ a, d = .int a → Sm a
/-- what may be asked -/
def AskOk (w : Int) (one two : D) : Prop :=
  (0 ≤ w ∧ w ≤ 9) ∧
  (w = 8 → plainD one = true ∧ ∀ l, one = .lst l → l.length ≤ 1000 ∧ (∀ e ∈ l, Pl e ∧ Bt e) ∧ (l.all isRat = true → SumOk l)) ∧
  ((w = 0 ∨ w = 9) → plainD one = true ∧ plainD two = true ∧ BtW one ∧ BtW two) ∧
  ((1 ≤ w ∧ w ≤ 7) → Pl one ∧ Pl two ∧ Bt one ∧ Bt two)
def m_fault : DF := fun ds Q _ => match ds with
  | [.int w, one, two] => AskOk w one two ∧ Q (faultD w one two)
  | _ => False
abbrev s_fault : Stmt := topS 66
abbrev N_fault : List Str := ["way", "one", "two"]
abbrev P_fault : List Str := ["way", "one", "two"]
theorem sc_fault : FnScope N_fault P_fault (defScope s_fault) := ⟨rfl, rfl, rfl, by decide +kernel, rfl, by decide +kernel, by decide +kernel⟩

section
variable {P : Program} {w : World} {K : PySem.W.Frag} {mg : Str → Option Value} {base : Heap}
theorem ok_fault (T : Txt K mg) : FnOk P w K mg base (L2N.CX P w) 4 T.dfault.f T.dfault.fd P_fault (spD K 3 m_fault) := by
  have G_lis_int : FnOk P w K mg base (L2N.CX P w) 1 T.dis_int.f T.dis_int.fd P_is_int (spD K 1 m_lis_int) := ok_lis_int T
  have G_is_int := G_lis_int
  have G_lis_ratio : FnOk P w K mg base (L2N.CX P w) 2 T.dlis_ratio.f T.dlis_ratio.fd P_lis_ratio (spD K 1 m_lis_ratio) := ok_lis_ratio T
  have G_is_ratios : FnOk P w K mg base (L2N.CX P w) 3 T.dis_ratios.f T.dis_ratios.fd P_is_ratios (spD K 2 m_is_ratios) := ok_is_ratios T
  refine T.dfault.okD sc_fault fun cdv A outer s H E so A0 hr tk hp => ⟨_, (pds_cons (pds_if (pdt_cmp (oo_eq hr.units) ol_eq (pd_var (pv 0)) pd_int (nomark _))
        (pds_cons (pds_if (PDW.t (pdw_or (pdt_not (pdt_tru (pd_isi (by rfl) T.m_isinstance (pd_var (pv 1)) (pe_bltn (v := .ty "list") (by rfl) T.m_list bt_list rfl) tq_list))) (pdw_or1 (pdt_not (pdt_tru (pd_call G_is_ratios (hr.mono (by omega)) (by rfl) T.dis_ratios.g T.dis_ratios.F.kp T.dis_ratios.b (fun σ => L2N.passAt tk σ) (pda_cons (pd_var (pv 1)) (pda_cons (pd_callB oo_len cl_len (by rfl) T.m_len bt_len (pda_cons (pd_var (pv 1)) pda_nil)) pda_nil))))))))
          (pds_one (pds_ret (pd_tup (pda_cons pd_str (pda_cons pd_str pda_nil)))))
          pds_nil)
        (pds_one (pds_ret pd_non)))
        pds_nil)
      (pds_cons (pds_if (PDW.t (pdw_or (pdt_cmp (oo_eq hr.units) ol_eq (pd_var (pv 0)) pd_int (nomark _)) (pdw_or1 (pdt_cmp (oo_eq hr.units) ol_eq (pd_var (pv 0)) pd_int (nomark _)))))
        (pds_cons (pds_if (pdt_not (pdt_tru (pd_call G_is_int (hr.mono (by omega)) (by rfl) T.dis_int.g T.dis_int.F.kp T.dis_int.b (fun σ => L2N.passAt tk σ) (pda_cons (pd_var (pv 1)) pda_nil))))
          (pds_one (pds_ret (pd_tup (pda_cons pd_str (pda_cons pd_str pda_nil)))))
          pds_nil)
        (pds_cons (pds_if (PDW.t (pdw_and (pdt_cmp (oo_eq hr.units) ol_eq (pd_var (pv 0)) pd_int (nomark _)) (pdw_and1 (pdt_not (pdt_tru (pd_call G_is_int (hr.mono (by omega)) (by rfl) T.dis_int.g T.dis_int.F.kp T.dis_int.b (fun σ => L2N.passAt tk σ) (pda_cons (pd_var (pv 2)) pda_nil)))))))
          (pds_one (pds_ret (pd_tup (pda_cons pd_str (pda_cons pd_str pda_nil)))))
          pds_nil)
        (pds_cons (pds_if (PDW.t (pdw_and (pdt_cmp (oo_eq hr.units) ol_eq (pd_var (pv 0)) pd_int (nomark _)) (pdw_and1 (pdt_cmp (oo_eq hr.units) ol_eq (pd_var (pv 2)) pd_int (nomark _)))))
          (pds_one (pds_ret (pd_tup (pda_cons pd_str (pda_cons pd_non pda_nil)))))
          pds_nil)
        (pds_one (pds_ret pd_non)))))
        pds_nil)
      (pds_cons (pds_if (pdt_not (pdt_tru (pd_call G_lis_ratio (hr.mono (by omega)) (by rfl) T.dlis_ratio.g T.dlis_ratio.F.kp T.dlis_ratio.b (fun σ => L2N.passAt tk σ) (pda_cons (pd_var (pv 1)) pda_nil))))
        (pds_one (pds_ret (pd_tup (pda_cons pd_str (pda_cons pd_str pda_nil)))))
        pds_nil)
      (pds_cons (pds_if (PDW.t (pdw_and (pdt_cmp op_lt ol_lt (pd_var (pv 0)) pd_int (nomark _)) (pdw_and1 (pdt_not (pdt_tru (pd_call G_lis_ratio (hr.mono (by omega)) (by rfl) T.dlis_ratio.g T.dlis_ratio.F.kp T.dlis_ratio.b (fun σ => L2N.passAt tk σ) (pda_cons (pd_var (pv 2)) pda_nil)))))))
        (pds_one (pds_ret (pd_tup (pda_cons pd_str (pda_cons pd_str pda_nil)))))
        pds_nil)
      (pds_cons (pds_if (PDW.t (pdw_and (pdt_cmp (oo_eq hr.units) ol_eq (pd_var (pv 0)) pd_int (nomark _)) (pdw_and1 (pdt_cmp (oo_eq hr.units) ol_eq (pd_ix ix_seq ol_ix (pd_var (pv 2)) pd_int (fun _ _ => rfl)) pd_int (nomark _)))))
        (pds_one (pds_ret (pd_tup (pda_cons pd_str (pda_cons pd_non pda_nil)))))
        pds_nil)
      (pds_one (pds_ret pd_non))))))), fun ds Q E hl h => ?_⟩
  unfold m_fault at h
  split at h
  · rename_i w one two
    obtain ⟨⟨⟨w0, w9⟩, k8, k0, k1⟩, q⟩ := h
    unfold faultD at q
    walk_at "dl"
    by_cases e8 : w = 8
    · subst e8
      obtain ⟨p, lk⟩ := k8 rfl
      simp only [decide_true, if_true] at q ⊢
      refine ⟨p, ?_⟩
      rcases lst_cases one with ⟨e, hn⟩ | ⟨l, rfl, e⟩
      · rw [e]
        rw [hn] at q
        simp only [Bool.false_eq_true, if_false, Bool.not_false, if_true] at q ⊢
        walk_at "is"
        exact q
      · rw [e]
        obtain ⟨hl, he, _⟩ := lk l rfl
        walk_at "is"
        simp only [m_is_ratios]
        refine ⟨rfl, fun hn => ?_, fun l' e' => ?_⟩
        · walk_at "is"
          rw [hn] at q
          exact q
        · cases e'
          refine ⟨fun z => absurd rfl z, fun _ => ⟨fun e' hh => ⟨(he e' hh).1, (he e' hh).2.bm⟩, ?_⟩⟩
          have e2 : isRL (.lst l) = l.all isRat := rfl
          rw [e2] at q
          cases h2 : l.all isRat with
          | true =>
            rw [h2] at q
            walk_at "is"
            simpa using q
          | false =>
            rw [h2] at q
            walk_at "is"
            exact q
    · rw [if_neg e8] at q
      simp only [decide_eq_false e8, Bool.false_eq_true, if_false]
      by_cases e0 : w = 0 ∨ w = 9
      · obtain ⟨p1, p2, _, _⟩ := k0 e0
        rw [if_pos e0] at q
        simp only [m_lis_int, p1, p2]
        walk_at "is"
        cases h1 : isW one with
        | false =>
          rw [h1] at q
          rcases e0 with rfl | rfl <;> simpa [sl2, wkD] using q
        | true =>
          rw [h1] at q
          rcases e0 with rfl | rfl
          · cases h2 : isW two with
            | false =>
              rw [h2] at q
              simpa [sl2, wkD] using q
            | true =>
              obtain ⟨b, rfl⟩ := isW_int h2
              rw [h2] at q
              simp [sl2, ddEq_ii, isZ] at q ⊢
              split
              · rename_i z
                rw [if_pos z] at q
                exact q
              · rename_i z
                rw [if_neg z] at q
                exact q
          · simpa [sl2, wkD] using q
      · obtain ⟨p1, p2, b1, b2⟩ := k1 (by omega)
        rw [if_neg e0] at q
        have n0 : w ≠ 0 := fun e => e0 (.inl e)
        have n9 : w ≠ 9 := fun e => e0 (.inr e)
        simp only [decide_eq_false n0, decide_eq_false n9, Bool.false_eq_true, if_false, m_lis_ratio]
        refine ⟨p1, b1.bm, ?_⟩
        cases h1 : isRat one with
        | false =>
          rw [h1] at q
          walk_at "is"
          exact q
        | true =>
          rw [h1] at q
          simp only [Bool.true_eq_false, if_false] at q
          walk_at "is"
          by_cases h6 : w < 6
          · simp only [decide_eq_true h6, if_true]
            refine ⟨p2, b2.bm, ?_⟩
            cases h2 : isRat two with
            | false =>
              rw [h2] at q
              rw [if_pos ⟨h6, rfl⟩] at q
              walk_at "is"
              exact q
            | true =>
              obtain ⟨c, d, rfl, _⟩ := rat_shape h2
              rw [h2] at q
              rw [if_neg (fun z => by cases z.2)] at q
              simp only [ratD]
              walk_at "is"
              walk_at "dl"
              by_cases h4 : w = 4
              · subst h4
                by_cases z : c = 0
                · subst z
                  exact q
                · have nz : num (ratD c d) = c := rfl
                  rw [nz, if_neg (fun e => z e.2)] at q
                  simp [z]
                  exact q
              · rw [if_neg (fun z => h4 z.1)] at q
                rw [decide_eq_false h4]
                walk_at "is"
                exact q
          · simp only [decide_eq_false h6, Bool.false_eq_true, if_false]
            have h4 : w ≠ 4 := by omega
            rw [if_neg (fun z => h6 z.1), if_neg (fun z => h4 z.1)] at q
            rw [decide_eq_false h4]
            walk_at "is"
            exact q
  · exact h.elim
end
end My
set_option exponentiation.threshold 100000
namespace My
open PySem PySem.Spec PyProof.Rows L2
local macro_rules | `(tactic| walk_at "dl") => `(tactic| simp only [startD, List.map_cons, List.map_nil, List.length_cons, List.length_nil, List.cons_append, List.nil_append, List.replicate_succ, List.replicate_zero, List.getElem?_cons_zero, List.getElem?_cons_succ, List.set_cons_zero, List.set_cons_succ,
  dVar, rdS, dC, dNew, dOp, onB, qB, dChain, qAnd, qOr, qNot, qTru, truD, dIf, dAnd, dOr, dNot, dUn, ddNeg, lNil, lCons, dTup, nLst, ddI, ddI0, ddAdd, isNonD, isBlD, ddIsN, ddIsB, ddIx_t0, ddIx_t1, ddIx_t2, ddIx_t3, ddIx_l0, ddIx_l1, ddIx_l2, dCB, ddLen, ddInt1, ddAbs, ddMM, ddTuple, nCB, nnList, ddIsi, dCall,
  sSkip, sSeq, sBreak, sCont, sExpr, sRet, sRetN, sIf, sNever, gdName, gdNil, gdCons, gdTup, sAsg, sSetN, sPar, sRaise, sFrz, owS, sApp, sIns, dLenO, dIxO, sTry, sFor, iL, iT, onL, onT, iR1, iR2, nComp, qYes,
  ddEq_ii, ddEq_ss, ddEq_bb, Bool.false_bne, Bool.true_bne, List.append_nil, true_and, and_true, if_true, if_false, Bool.not_true, Bool.not_false, Bool.true_eq_false, Bool.false_eq_true, ite_true, ite_false, id_eq])

local macro_rules | `(tactic| walk_at "is") => `(tactic| simp only [plain_non, isIn_non_int, isIn_non_str, isIn_non_bool, isIn_non_list, isIn_non_tuple, isIn_non_dict, plain_bl, isIn_bl_int, isIn_bl_str, isIn_bl_bool, isIn_bl_list, isIn_bl_tuple, isIn_bl_dict, plain_int, isIn_int_int, isIn_int_str, isIn_int_bool, isIn_int_list, isIn_int_tuple, isIn_int_dict, plain_str, isIn_str_int, isIn_str_str, isIn_str_bool, isIn_str_list, isIn_str_tuple, isIn_str_dict, plain_tup, isIn_tup_int, isIn_tup_str, isIn_tup_bool, isIn_tup_list, isIn_tup_tuple, isIn_tup_dict, plain_lst, isIn_lst_int, isIn_lst_str, isIn_lst_bool, isIn_lst_list, isIn_lst_tuple, isIn_lst_dict, sl0, sl1, sl2, sl3, sl4, decide_true, decide_false, ddIsi, ddIsi2, true_and, if_true, if_false, Bool.false_eq_true, Bool.not_true, Bool.not_false, Bool.or_true, Bool.or_false, Bool.true_or, and_true])
local macro_rules | `(tactic| walk_at "wk") => `(tactic| ((try walk_at "dl"); (try walk_at "is"); (try walk_at "dl")))

/-! ### the fraction that is due -/
def val : D → Int
  | .int a => a
  | _ => 0
def den : D → Int
  | .tup [.int _, .int b] => b
  | _ => 1
def itemsD : D → List D
  | .lst l => l
  | _ => []
def fracP (w : Int) (one two : D) : Int × Int :=
  if w = 0 then (val one, val two) else if w = 9 then (val one, 1) else if w = 1 then (num one * den two + num two * den one, den one * den two) else
  if w = 2 then (num one * den two - num two * den one, den one * den two) else if w = 3 then (num one * num two, den one * den two) else
  if w = 4 then (num one * den two, den one * num two) else if w = 6 then (-num one, den one) else frF 0 1 (itemsD one)
def resD (w : Int) (one two : D) : D :=
  if w = 5 then .int (sgn (num one * den two - num two * den one)) else if w = 7 then .int (sgn (num one)) else if w = 8 then ratD (totF 0 1 (itemsD one)).1 (totF 0 1 (itemsD one)).2 else
  if w = 6 then ratD (-num one) (den one) else lowD (fracP w one two)
/-- what no fault tells -/
theorem fault_non {w : Int} {one two : D} (h : faultD w one two = .non) :
    (w = 8 → isRL one = true) ∧ ((w = 0 ∨ w = 9) → isW one = true ∧ (w = 0 → isW two = true ∧ isZ two = false)) ∧ (w ≠ 8 → w ≠ 0 → w ≠ 9 → isRat one = true ∧ (w < 6 → isRat two = true) ∧ (w = 4 → num two ≠ 0)) := by
  unfold faultD wkD zdD at h
  refine ⟨fun e => ?_, fun e => ?_, fun e8 e0 e9 => ?_⟩
  · rw [if_pos e] at h
    split at h
    · assumption
    · cases h
  · have e8 : w ≠ 8 := by omega
    rw [if_neg e8, if_pos e] at h
    split at h
    · cases h
    · rename_i h1
      split at h
      · cases h
      · rename_i h2
        split at h
        · cases h
        · rename_i h3
          refine ⟨by simpa using h1, fun e0 => ⟨?_, ?_⟩⟩
          · cases z : isW two with
            | true => rfl
            | false => exact absurd ⟨e0, z⟩ h2
          · cases z : isZ two with
            | false => rfl
            | true => exact absurd ⟨e0, z⟩ h3
  · rw [if_neg e8, if_neg (by omega)] at h
    split at h
    · cases h
    · rename_i h1
      split at h
      · cases h
      · rename_i h2
        split at h
        · cases h
        · rename_i h3
          refine ⟨by simpa using h1, fun e6 => ?_, fun e4 e => h3 ⟨e4, e⟩⟩
          cases z : isRat two with
          | true => rfl
          | false => exact absurd ⟨e6, z⟩ h2
theorem Sm.md2 {x y : Int} (hx : Sm x) (hy : Sm y) : Md (x * y) := by
  have h : (x * y).natAbs < 2 ^ (4000 + 4000) := by
    rw [Int.natAbs_mul, Nat.pow_add]
    exact Nat.mul_lt_mul'' hx hy
  exact Nat.lt_of_lt_of_le h (Nat.pow_le_pow_right (by decide) (by decide))
theorem Sm.md3 {x y z u : Int} (hx : Sm x) (hy : Sm y) (hz : Sm z) (hu : Sm u) : Md (x * y + z * u) ∧ Md (x * y - z * u) := by
  have h1 : (x * y).natAbs < 2 ^ 8000 := by
    rw [Int.natAbs_mul, show (8000 : Nat) = 4000 + 4000 from rfl, Nat.pow_add]
    exact Nat.mul_lt_mul'' hx hy
  have h2 : (z * u).natAbs < 2 ^ 8000 := by
    rw [Int.natAbs_mul, show (8000 : Nat) = 4000 + 4000 from rfl, Nat.pow_add]
    exact Nat.mul_lt_mul'' hz hu
  generalize x * y = a at *
  generalize z * u = b at *
  have h3 : (2 : Nat) ^ 8000 + 2 ^ 8000 ≤ 2 ^ 8500 := by decide +kernel
  unfold Md
  generalize (2 : Nat) ^ 8000 = p at *
  generalize (2 : Nat) ^ 8500 = q at *
  omega
theorem Md.lowP {a b : Int} (hb : b ≠ 0) (ha : Md a) (hd : Md b) : Md (lowP a b) ∧ Md (lowQ a b) := by
  obtain ⟨_, _, _, l1, l2⟩ := low_facts a b hb
  exact ⟨Nat.lt_of_le_of_lt l1 ha, Nat.lt_of_le_of_lt l2 hd⟩
theorem isW_val {d : D} (h : isW d = true) : d = .int (val d) := by
  cases d <;> first | rfl | cases h
theorem isRat_num {d : D} (h : isRat d = true) : d = ratD (num d) (den d) ∧ 1 ≤ den d ∧ G2 (num d) (den d) = 1 := by
  obtain ⟨a, b, rfl, h1, h2⟩ := rat_shape h
  exact ⟨rfl, h1, h2⟩
theorem isRL_items {d : D} (h : isRL d = true) : d = .lst (itemsD d) ∧ (itemsD d).all isRat = true := by
  cases d <;> first | exact ⟨rfl, h⟩ | cases h
/-- the answer in lowest terms is due -/
theorem res_ok {w : Int} {one two : D} (A : AskOk w one two) (h : faultD w one two = .non) (h5 : w ≠ 5) (h7 : w ≠ 7) :
    ∃ x y, resD w one two = ratD x y ∧ isRat (ratD x y) = true ∧ x * (fracP w one two).2 = y * (fracP w one two).1 ∧ (Md x ∧ Md y) ∧ Md (fracP w one two).1 ∧ Md (fracP w one two).2 := by
  obtain ⟨⟨w0, w9⟩, k8, k0, k1⟩ := A
  obtain ⟨f8, f0, f1⟩ := fault_non h
  have key : ∀ p q : Int, q ≠ 0 → Md p → Md q → fracP w one two = (p, q) → resD w one two = lowD (fracP w one two) →
      ∃ x y, resD w one two = ratD x y ∧ isRat (ratD x y) = true ∧ x * (fracP w one two).2 = y * (fracP w one two).1 ∧ (Md x ∧ Md y) ∧ Md (fracP w one two).1 ∧ Md (fracP w one two).2 := fun p q z hp hq e e2 => by
    obtain ⟨l1, l2, l3, _⟩ := low_facts p q z
    rw [e2, e]
    exact ⟨_, _, rfl, low_rat p q z, l3, Md.lowP z hp hq, hp, hq⟩
  have res : w ≠ 8 → w ≠ 6 → resD w one two = lowD (fracP w one two) := fun h8 h6 => by
    unfold resD
    rw [if_neg h5, if_neg h7, if_neg h8, if_neg h6]
  by_cases e8 : w = 8
  · subst e8
    obtain ⟨e, al⟩ := isRL_items (f8 rfl)
    obtain ⟨_, lk⟩ := k8 rfl
    obtain ⟨_, _, so⟩ := lk _ e
    have S := so al
    exact ⟨_, _, rfl, S.r, S.x, S.s.1, S.s.2.1, S.s.2.2⟩
  by_cases e0 : w = 0
  · subst e0
    obtain ⟨i1, i2⟩ := f0 (.inl rfl)
    obtain ⟨_, _, b1, b2⟩ := k0 (.inl rfl)
    obtain ⟨i2, z⟩ := i2 rfl
    refine key (val one) (val two) (fun e => ?_) (b1 _ (isW_val i1)).md (b2 _ (isW_val i2)).md rfl (res (by decide) (by decide))
    rw [isW_val i2, e] at z
    cases z
  by_cases e9 : w = 9
  · subst e9
    obtain ⟨i1, _⟩ := f0 (.inr rfl)
    obtain ⟨_, _, b1, b2⟩ := k0 (.inr rfl)
    exact key (val one) 1 (by decide) (b1 _ (isW_val i1)).md (by unfold Md; decide +kernel) rfl (res (by decide) (by decide))
  obtain ⟨r1, r2, r4⟩ := f1 e8 e0 e9
  obtain ⟨_, _, b1, b2⟩ := k1 (by omega)
  obtain ⟨e1, p1, g1⟩ := isRat_num r1
  obtain ⟨sa, sb⟩ := b1 _ _ e1
  by_cases e6 : w = 6
  · subst e6
    refine ⟨-num one, den one, rfl, ?_, ?_, ⟨?_, sb.md⟩, ?_, sb.md⟩
    · show (decide (1 ≤ den one) && decide (G2 (-num one) (den one) = 1)) = true
      have : G2 (-num one) (den one) = 1 := by
        unfold G2
        rw [Int.natAbs_neg]
        exact g1
      rw [decide_eq_true p1, decide_eq_true this]
      rfl
    · show -num one * den one = den one * -num one
      exact Int.mul_comm _ _
    · unfold Md
      rw [Int.natAbs_neg]
      exact sa.md
    · show Md (-num one)
      unfold Md
      rw [Int.natAbs_neg]
      exact sa.md
  obtain ⟨e2, p2, g2⟩ := isRat_num (r2 (by omega))
  obtain ⟨sc, sd⟩ := b2 _ _ e2
  have bd : den one * den two ≠ 0 := Int.mul_ne_zero (by omega) (by omega)
  by_cases c1 : w = 1
  · subst c1
    exact key _ _ bd (sa.md3 sd sc sb).1 (sb.md2 sd) rfl (res (by decide) (by decide))
  by_cases c2 : w = 2
  · subst c2
    exact key _ _ bd (sa.md3 sd sc sb).2 (sb.md2 sd) rfl (res (by decide) (by decide))
  by_cases c3 : w = 3
  · subst c3
    exact key _ _ bd (sa.md2 sc) (sb.md2 sd) rfl (res (by decide) (by decide))
  have c4 : w = 4 := by omega
  subst c4
  exact key _ _ (Int.mul_ne_zero (by omega) (r4 rfl)) (sa.md2 sd) (sb.md2 sc) rfl (res (by decide) (by decide))
end My
set_option exponentiation.threshold 100000
namespace My
open PySem PySem.Spec PyProof.Rows L2
local macro_rules | `(tactic| walk_at "dl") => `(tactic| simp only [startD, List.map_cons, List.map_nil, List.length_cons, List.length_nil, List.cons_append, List.nil_append, List.replicate_succ, List.replicate_zero, List.getElem?_cons_zero, List.getElem?_cons_succ, List.set_cons_zero, List.set_cons_succ,
  dVar, rdS, dC, dNew, dOp, onB, qB, dChain, qAnd, qOr, qNot, qTru, truD, dIf, dAnd, dOr, dNot, dUn, ddNeg, lNil, lCons, dTup, nLst, ddI, ddI0, ddAdd, isNonD, isBlD, ddIsN, ddIsB, ddIx_t0, ddIx_t1, ddIx_t2, ddIx_t3, ddIx_l0, ddIx_l1, ddIx_l2, dCB, ddLen, ddInt1, ddAbs, ddMM, ddTuple, nCB, nnList, ddIsi, dCall,
  sSkip, sSeq, sBreak, sCont, sExpr, sRet, sRetN, sIf, sNever, gdName, gdNil, gdCons, gdTup, sAsg, sSetN, sPar, sRaise, sFrz, owS, sApp, sIns, dLenO, dIxO, sTry, sFor, iL, iT, onL, onT, iR1, iR2, nComp, qYes,
  ddEq_ii, ddEq_ss, ddEq_bb, Bool.false_bne, Bool.true_bne, List.append_nil, true_and, and_true, if_true, if_false, Bool.not_true, Bool.not_false, Bool.true_eq_false, Bool.false_eq_true, ite_true, ite_false, id_eq])

local macro_rules | `(tactic| walk_at "is") => `(tactic| simp only [plain_non, isIn_non_int, isIn_non_str, isIn_non_bool, isIn_non_list, isIn_non_tuple, isIn_non_dict, plain_bl, isIn_bl_int, isIn_bl_str, isIn_bl_bool, isIn_bl_list, isIn_bl_tuple, isIn_bl_dict, plain_int, isIn_int_int, isIn_int_str, isIn_int_bool, isIn_int_list, isIn_int_tuple, isIn_int_dict, plain_str, isIn_str_int, isIn_str_str, isIn_str_bool, isIn_str_list, isIn_str_tuple, isIn_str_dict, plain_tup, isIn_tup_int, isIn_tup_str, isIn_tup_bool, isIn_tup_list, isIn_tup_tuple, isIn_tup_dict, plain_lst, isIn_lst_int, isIn_lst_str, isIn_lst_bool, isIn_lst_list, isIn_lst_tuple, isIn_lst_dict, sl0, sl1, sl2, sl3, sl4, decide_true, decide_false, ddIsi, ddIsi2, true_and, if_true, if_false, Bool.false_eq_true, Bool.not_true, Bool.not_false, Bool.or_true, Bool.or_false, Bool.true_or, and_true])
local macro_rules | `(tactic| walk_at "wk") => `(tactic| ((try walk_at "dl"); (try walk_at "is"); (try walk_at "dl")))

theorem forL_rest {gr : DG} {body : DS} {DD : DEnds} (P : List D → DEnv → Prop)
    (h1 : ∀ (d : D) (l : List D) (ρ : DEnv) (R : DEnv → Prop), P (d :: l) ρ → (∀ ρ', P l ρ' → R ρ') → gr d ρ (fun ρ1 => body ⟨R, DD.rt, DD.nx, R, DD.ex, DD.fr⟩ ρ1))
    (h2 : ∀ ρ, P [] ρ → DD.nx ρ) : ∀ (ds : List D) (ρ : DEnv), P ds ρ → forL gr body DD ds ρ
  | [], ρ, h0 => h2 ρ h0
  | d :: ds, ρ, h0 => h1 d ds ρ _ h0 fun ρ' q => forL_rest P h1 h2 ds ρ' q
def m_fraction : DF := fun ds Q _ => match ds with
  | [.int w, one, two] => AskOk w one two ∧ faultD w one two = .non ∧ w ≠ 5 ∧ w ≠ 7 ∧ Q (.lst [.int (fracP w one two).1, .int (fracP w one two).2])
  | _ => False
abbrev s_fraction : Stmt := topS 67
abbrev N_fraction : List Str := ["way", "one", "two", "up", "down", "part"]
abbrev P_fraction : List Str := ["way", "one", "two"]
theorem sc_fraction : FnScope N_fraction P_fraction (defScope s_fraction) := ⟨rfl, rfl, rfl, by decide +kernel, rfl, by decide +kernel, by decide +kernel⟩

section
variable {P : Program} {w : World} {K : PySem.W.Frag} {mg : Str → Option Value} {base : Heap}
theorem ok_fraction (T : Txt K mg) : FnOk P w K mg base (L2N.CX P w) 1 T.dfraction.f T.dfraction.fd P_fraction (spD K 3 m_fraction) := by
  refine T.dfraction.okD sc_fraction fun cdv A outer s H E so A0 hr tk hp => ⟨_, (pds_cons (pds_if (pdt_cmp (oo_eq hr.units) ol_eq (pd_var (pv 0)) pd_int (nomark _))
        (pds_one (pds_ret (pd_new (pdn_lst (pda_cons (pd_var (pv 1)) (pda_cons (pd_var (pv 2)) pda_nil))))))
        pds_nil)
      (pds_cons (pds_if (pdt_cmp (oo_eq hr.units) ol_eq (pd_var (pv 0)) pd_int (nomark _))
        (pds_one (pds_ret (pd_new (pdn_lst (pda_cons (pd_var (pv 1)) (pda_cons pd_int pda_nil))))))
        pds_nil)
      (pds_cons (pds_if (pdt_cmp (oo_eq hr.units) ol_eq (pd_var (pv 0)) pd_int (nomark _))
        (pds_one (pds_ret (pd_new (pdn_lst (pda_cons (pd_op oo_add ol_add (pd_op op_mulW ol_mul (pd_ix ix_seq ol_ix (pd_var (pv 1)) pd_int (fun _ _ => rfl)) (pd_ix ix_seq ol_ix (pd_var (pv 2)) pd_int (fun _ _ => rfl))) (pd_op op_mulW ol_mul (pd_ix ix_seq ol_ix (pd_var (pv 2)) pd_int (fun _ _ => rfl)) (pd_ix ix_seq ol_ix (pd_var (pv 1)) pd_int (fun _ _ => rfl)))) (pda_cons (pd_op op_mulW ol_mul (pd_ix ix_seq ol_ix (pd_var (pv 1)) pd_int (fun _ _ => rfl)) (pd_ix ix_seq ol_ix (pd_var (pv 2)) pd_int (fun _ _ => rfl))) pda_nil))))))
        pds_nil)
      (pds_cons (pds_if (pdt_cmp (oo_eq hr.units) ol_eq (pd_var (pv 0)) pd_int (nomark _))
        (pds_one (pds_ret (pd_new (pdn_lst (pda_cons (pd_op op_sub ol_sub (pd_op op_mulW ol_mul (pd_ix ix_seq ol_ix (pd_var (pv 1)) pd_int (fun _ _ => rfl)) (pd_ix ix_seq ol_ix (pd_var (pv 2)) pd_int (fun _ _ => rfl))) (pd_op op_mulW ol_mul (pd_ix ix_seq ol_ix (pd_var (pv 2)) pd_int (fun _ _ => rfl)) (pd_ix ix_seq ol_ix (pd_var (pv 1)) pd_int (fun _ _ => rfl)))) (pda_cons (pd_op op_mulW ol_mul (pd_ix ix_seq ol_ix (pd_var (pv 1)) pd_int (fun _ _ => rfl)) (pd_ix ix_seq ol_ix (pd_var (pv 2)) pd_int (fun _ _ => rfl))) pda_nil))))))
        pds_nil)
      (pds_cons (pds_if (pdt_cmp (oo_eq hr.units) ol_eq (pd_var (pv 0)) pd_int (nomark _))
        (pds_one (pds_ret (pd_new (pdn_lst (pda_cons (pd_op op_mulW ol_mul (pd_ix ix_seq ol_ix (pd_var (pv 1)) pd_int (fun _ _ => rfl)) (pd_ix ix_seq ol_ix (pd_var (pv 2)) pd_int (fun _ _ => rfl))) (pda_cons (pd_op op_mulW ol_mul (pd_ix ix_seq ol_ix (pd_var (pv 1)) pd_int (fun _ _ => rfl)) (pd_ix ix_seq ol_ix (pd_var (pv 2)) pd_int (fun _ _ => rfl))) pda_nil))))))
        pds_nil)
      (pds_cons (pds_if (pdt_cmp (oo_eq hr.units) ol_eq (pd_var (pv 0)) pd_int (nomark _))
        (pds_one (pds_ret (pd_new (pdn_lst (pda_cons (pd_op op_mulW ol_mul (pd_ix ix_seq ol_ix (pd_var (pv 1)) pd_int (fun _ _ => rfl)) (pd_ix ix_seq ol_ix (pd_var (pv 2)) pd_int (fun _ _ => rfl))) (pda_cons (pd_op op_mulW ol_mul (pd_ix ix_seq ol_ix (pd_var (pv 1)) pd_int (fun _ _ => rfl)) (pd_ix ix_seq ol_ix (pd_var (pv 2)) pd_int (fun _ _ => rfl))) pda_nil))))))
        pds_nil)
      (pds_cons (pds_if (pdt_cmp (oo_eq hr.units) ol_eq (pd_var (pv 0)) pd_int (nomark _))
        (pds_one (pds_ret (pd_new (pdn_lst (pda_cons (pd_neg (pd_ix ix_seq ol_ix (pd_var (pv 1)) pd_int (fun _ _ => rfl))) (pda_cons (pd_ix ix_seq ol_ix (pd_var (pv 1)) pd_int (fun _ _ => rfl)) pda_nil))))))
        pds_nil)
      (pds_cons (pds_set (i := 3) sc_fraction.nd rfl (by first | exact .inl rfl | exact .inr rfl) pd_int)
      (pds_cons (pds_set (i := 4) sc_fraction.nd rfl (by first | exact .inl rfl | exact .inr rfl) pd_int)
      (pds_cons (pds_for hp rfl (pdi_list (pd_var (pv 1))) (pdg_name (pg_name (i := 5) sc_fraction.nd rfl (by first | exact .inl rfl | exact .inr rfl)))
        (pds_cons (pds_set (i := 3) sc_fraction.nd rfl (by first | exact .inl rfl | exact .inr rfl) (pd_op oo_add ol_add (pd_op op_mulW ol_mul (pd_var (pv 3)) (pd_ix ix_seq ol_ix (pd_var (pv 5)) pd_int (fun _ _ => rfl))) (pd_op op_mulW ol_mul (pd_ix ix_seq ol_ix (pd_var (pv 5)) pd_int (fun _ _ => rfl)) (pd_var (pv 4)))))
        (pds_one (pds_set (i := 4) sc_fraction.nd rfl (by first | exact .inl rfl | exact .inr rfl) (pd_op op_mulW ol_mul (pd_var (pv 4)) (pd_ix ix_seq ol_ix (pd_var (pv 5)) pd_int (fun _ _ => rfl)))))))
      (pds_one (pds_ret (pd_new (pdn_lst (pda_cons (pd_var (pv 3)) (pda_cons (pd_var (pv 4)) pda_nil)))))))))))))))), fun ds Q E hl h => ?_⟩
  unfold m_fraction at h
  split at h
  · rename_i w one two
    obtain ⟨A, hf, n5, n7, q⟩ := h
    obtain ⟨⟨w0, w9⟩, k8, k0, k1⟩ := A
    obtain ⟨f8, f0, f1⟩ := fault_non hf
    walk_at "dl"
    by_cases e0 : w = 0
    · subst e0
      obtain ⟨i1, i2⟩ := f0 (.inl rfl)
      obtain ⟨i2, _⟩ := i2 rfl
      obtain ⟨a, rfl⟩ := isW_int i1
      obtain ⟨b, rfl⟩ := isW_int i2
      walk_at "is"
      exact q
    by_cases e9 : w = 9
    · subst e9
      obtain ⟨i1, _⟩ := f0 (.inr rfl)
      obtain ⟨a, rfl⟩ := isW_int i1
      simp only [decide_eq_false e0]
      walk_at "is"
      exact q
    simp only [decide_eq_false e0, decide_eq_false e9]
    walk_at "is"
    by_cases e8 : w = 8
    · subst e8
      obtain ⟨e, al⟩ := isRL_items (f8 rfl)
      obtain ⟨_, lk⟩ := k8 rfl
      obtain ⟨_, _, so⟩ := lk _ e
      have S := so al
      have q : Q (.lst [.int (frF 0 1 (itemsD one)).1, .int (frF 0 1 (itemsD one)).2]) := q
      have FO := S.f
      rw [e]
      generalize itemsD one = l at *
      simp
      clear S so al lk hf k8
      refine forL_rest (P := fun m ρ => ∃ t b z, ρ = [.fr (.int 8), .fr (.lst l), .fr two, .fr (.int t), .fr (.int b), z] ∧ FrOk t b m ∧ Q (.lst [.int (frF t b m).1, .int (frF t b m).2])) ?_ ?_ l _ ⟨0, 1, .no, rfl, FO, q⟩
      · rintro d m ρ R ⟨t, b, z, rfl, fo, q⟩ hR
        match d, fo, q with
        | .tup [.int f, .int u], ⟨s1, s2, s3, s4, fo⟩, q =>
          walk_at "dl"
          refine ⟨s1.mul s4, s3.mul s2, ?_⟩
          exact ⟨s2.mul s4, hR _ ⟨_, _, _, rfl, fo, q⟩⟩
      · rintro ρ ⟨t, b, z, rfl, fo, q⟩
        walk_at "wk"
        exact q
    · obtain ⟨r1, r2, r4⟩ := f1 e8 e0 e9
      obtain ⟨_, _, b1, b2⟩ := k1 (by omega)
      obtain ⟨e1, p1, g1⟩ := isRat_num r1
      obtain ⟨sa, sb⟩ := b1 _ _ e1
      by_cases e6 : w = 6
      · subst e6
        have q : Q (.lst [.int (-num one), .int (den one)]) := q
        rw [e1]
        simp [ratD]
        walk_at "wk"
        walk_at "wk"
        exact q
      · obtain ⟨e2, p2, g2⟩ := isRat_num (r2 (by omega))
        obtain ⟨sc, sd⟩ := b2 _ _ e2
        rw [e1, e2]
        have hw : w = 1 ∨ w = 2 ∨ w = 3 ∨ w = 4 := by omega
        rcases hw with rfl | rfl | rfl | rfl
        · have q : Q (.lst [.int (num one * den two + num two * den one), .int (den one * den two)]) := q
          simp [ratD]
          walk_at "wk"
          refine ⟨sa.mul sd, sc.mul sb, sb.mul sd, ?_⟩
          walk_at "wk"
          exact q
        · have q : Q (.lst [.int (num one * den two - num two * den one), .int (den one * den two)]) := q
          simp [ratD]
          walk_at "wk"
          refine ⟨sa.mul sd, sc.mul sb, sb.mul sd, ?_⟩
          walk_at "wk"
          exact q
        · have q : Q (.lst [.int (num one * num two), .int (den one * den two)]) := q
          simp [ratD]
          walk_at "wk"
          refine ⟨sa.mul sc, sb.mul sd, ?_⟩
          walk_at "wk"
          exact q
        · have q : Q (.lst [.int (num one * den two), .int (den one * num two)]) := q
          simp [ratD]
          walk_at "wk"
          refine ⟨sa.mul sd, sb.mul sc, ?_⟩
          walk_at "wk"
          exact q
  · exact h.elim
def m_right : DF := fun ds Q _ => match ds with
  | [.int w, one, two, told] => AskOk w one two ∧ faultD w one two = .non ∧ told = resD w one two ∧ Q (.bl true)
  | _ => False
end
abbrev s_right : Stmt := topS 68
abbrev N_right : List Str := ["way", "one", "two", "told", "due"]
abbrev P_right : List Str := ["way", "one", "two", "told"]
theorem sc_right : FnScope N_right P_right (defScope s_right) := ⟨rfl, rfl, rfl, by decide +kernel, rfl, by decide +kernel, by decide +kernel⟩

section
variable {P : Program} {w : World} {K : PySem.W.Frag} {mg : Str → Option Value} {base : Heap}
theorem ok_right (T : Txt K mg) : FnOk P w K mg base (L2N.CX P w) 4 T.dright.f T.dright.fd P_right (spD K 4 m_right) := by
  have G_same : FnOk P w K mg base (L2N.CX P w) 1 T.dsame.f T.dsame.fd P_same (spD K 2 (m_same 1)) := ok_same T 1
  have G_sgn : FnOk P w K mg base (L2N.CX P w) 1 T.dsgn.f T.dsgn.fd P_sgn (spD K 1 m_sgn) := ok_sgn T
  have G_fraction : FnOk P w K mg base (L2N.CX P w) 1 T.dfraction.f T.dfraction.fd P_fraction (spD K 3 m_fraction) := ok_fraction T
  have G_lis_ratio : FnOk P w K mg base (L2N.CX P w) 2 T.dlis_ratio.f T.dlis_ratio.fd P_lis_ratio (spD K 1 m_lis_ratio) := ok_lis_ratio T
  refine T.dright.okD sc_right fun cdv A outer s H E so A0 hr tk hp => ⟨_, (pds_cons (pds_if (pdt_cmp (oo_eq hr.units) ol_eq (pd_var (pv 0)) pd_int (nomark _))
        (pds_one (pds_ret (pd_call G_same (hr.mono (by omega)) (by rfl) T.dsame.g T.dsame.F.kp T.dsame.b (fun σ => L2N.passAt tk σ) (pda_cons (pd_var (pv 3)) (pda_cons (pd_call G_sgn (hr.mono (by omega)) (by rfl) T.dsgn.g T.dsgn.F.kp T.dsgn.b (fun σ => L2N.passAt tk σ) (pda_cons (pd_new (pdn_lst (pda_cons (pd_op op_sub ol_sub (pd_op op_mulW ol_mul (pd_ix ix_seq ol_ix (pd_var (pv 1)) pd_int (fun _ _ => rfl)) (pd_ix ix_seq ol_ix (pd_var (pv 2)) pd_int (fun _ _ => rfl))) (pd_op op_mulW ol_mul (pd_ix ix_seq ol_ix (pd_var (pv 2)) pd_int (fun _ _ => rfl)) (pd_ix ix_seq ol_ix (pd_var (pv 1)) pd_int (fun _ _ => rfl)))) (pda_cons pd_int pda_nil)))) pda_nil)) pda_nil)))))
        pds_nil)
      (pds_cons (pds_if (pdt_cmp (oo_eq hr.units) ol_eq (pd_var (pv 0)) pd_int (nomark _))
        (pds_one (pds_ret (pd_call G_same (hr.mono (by omega)) (by rfl) T.dsame.g T.dsame.F.kp T.dsame.b (fun σ => L2N.passAt tk σ) (pda_cons (pd_var (pv 3)) (pda_cons (pd_call G_sgn (hr.mono (by omega)) (by rfl) T.dsgn.g T.dsgn.F.kp T.dsgn.b (fun σ => L2N.passAt tk σ) (pda_cons (pd_var (pv 1)) pda_nil)) pda_nil)))))
        pds_nil)
      (pds_cons (pds_set (i := 4) sc_right.nd rfl (by first | exact .inl rfl | exact .inr rfl) (pd_call G_fraction (hr.mono (by omega)) (by rfl) T.dfraction.g T.dfraction.F.kp T.dfraction.b (fun σ => L2N.passAt tk σ) (pda_cons (pd_var (pv 0)) (pda_cons (pd_var (pv 1)) (pda_cons (pd_var (pv 2)) pda_nil)))))
      (pds_one (pds_ret (pd_and (pd_call G_lis_ratio (hr.mono (by omega)) (by rfl) T.dlis_ratio.g T.dlis_ratio.F.kp T.dlis_ratio.b (fun σ => L2N.passAt tk σ) (pda_cons (pd_var (pv 3)) pda_nil)) (pd_one (pd_cmp (oo_eq hr.units) ol_eq (pd_op op_mulW ol_mul (pd_ix ix_seq ol_ix (pd_var (pv 3)) pd_int (fun _ _ => rfl)) (pd_ix ix_seq ol_ix (pd_var (pv 4)) pd_int (fun _ _ => rfl))) (pd_op op_mulW ol_mul (pd_ix ix_seq ol_ix (pd_var (pv 3)) pd_int (fun _ _ => rfl)) (pd_ix ix_seq ol_ix (pd_var (pv 4)) pd_int (fun _ _ => rfl))) (nomark _))))))))), fun ds Q E hl h => ?_⟩
  unfold m_right at h
  split at h
  · rename_i w one two told
    obtain ⟨A, hf, e, q⟩ := h
    have A' := A
    obtain ⟨⟨w0, w9⟩, k8, k0, k1⟩ := A
    obtain ⟨f8, f0, f1⟩ := fault_non hf
    walk_at "dl"
    by_cases e5 : w = 5
    · subst e5
      obtain ⟨r1, r2, r4⟩ := f1 (by decide) (by decide) (by decide)
      obtain ⟨_, _, b1, b2⟩ := k1 (by decide)
      obtain ⟨e1, p1, g1⟩ := isRat_num r1
      obtain ⟨e2, p2, g2⟩ := isRat_num (r2 (by decide))
      obtain ⟨sa, sb⟩ := b1 _ _ e1
      obtain ⟨sc, sd⟩ := b2 _ _ e2
      have e : told = .int (sgn (num one * den two - num two * den one)) := e
      rw [e1, e2]
      generalize num one = a at *
      generalize num two = c at *
      generalize den one = b at *
      generalize den two = d at *
      simp [ratD]
      walk_at "wk"
      refine ⟨sa.mul sd, sc.mul sb, ?_⟩
      refine ⟨by rw [e]; unfold TreeD; trivial, by unfold TreeD; trivial, fun b hb => ?_⟩
      rw [hb.mpr e]
      exact q
    by_cases e7 : w = 7
    · subst e7
      obtain ⟨r1, r2, r4⟩ := f1 (by decide) (by decide) (by decide)
      obtain ⟨e1, p1, g1⟩ := isRat_num r1
      have e : told = .int (sgn (num one)) := e
      rw [e1]
      generalize num one = a at *
      generalize den one = b at *
      simp [ratD]
      walk_at "wk"
      refine ⟨by rw [e]; unfold TreeD; trivial, by unfold TreeD; trivial, fun b hb => ?_⟩
      rw [hb.mpr e]
      exact q
    obtain ⟨x, y, er, ir, xe, ⟨mx, my⟩, mp, mq⟩ := res_ok A' hf e5 e7
    rw [decide_eq_false e5, decide_eq_false e7]
    simp only [m_fraction, m_lis_ratio]
    walk_at "wk"
    refine ⟨A', hf, e5, e7, ?_⟩
    rw [er] at e
    subst e
    generalize (fracP w one two).1 = p at *
    generalize (fracP w one two).2 = r at *
    refine ⟨⟨rfl, fun l hl e he => ?_⟩, fun a b e => ?_, ?_⟩
    · cases hl
      rcases List.mem_cons.mp he with rfl | he
      · rfl
      · rw [List.mem_singleton.mp he]
        rfl
    · cases e
      exact ⟨mx, my⟩
    · rw [ir]
      simp only [ratD]
      walk_at "wk"
      refine ⟨mx.mul mq, my.mul mp, ?_⟩
      rw [decide_eq_true xe]
      exact q
  · exact h.elim
end
end My
set_option exponentiation.threshold 100000
namespace My
open PySem PySem.Spec PyProof.Rows L2
local macro_rules | `(tactic| walk_at "dl") => `(tactic| simp only [startD, List.map_cons, List.map_nil, List.length_cons, List.length_nil, List.cons_append, List.nil_append, List.replicate_succ, List.replicate_zero, List.getElem?_cons_zero, List.getElem?_cons_succ, List.set_cons_zero, List.set_cons_succ,
  dVar, rdS, dC, dNew, dOp, onB, qB, dChain, qAnd, qOr, qNot, qTru, truD, dIf, dAnd, dOr, dNot, dUn, ddNeg, lNil, lCons, dTup, nLst, ddI, ddI0, ddAdd, isNonD, isBlD, ddIsN, ddIsB, ddIx_t0, ddIx_t1, ddIx_t2, ddIx_t3, ddIx_l0, ddIx_l1, ddIx_l2, dCB, ddLen, ddInt1, ddAbs, ddMM, ddTuple, nCB, nnList, ddIsi, dCall,
  sSkip, sSeq, sBreak, sCont, sExpr, sRet, sRetN, sIf, sNever, gdName, gdNil, gdCons, gdTup, sAsg, sSetN, sPar, sRaise, sFrz, owS, sApp, sIns, dLenO, dIxO, sTry, sFor, iL, iT, onL, onT, iR1, iR2, nComp, qYes,
  ddEq_ii, ddEq_ss, ddEq_bb, Bool.false_bne, Bool.true_bne, List.append_nil, true_and, and_true, if_true, if_false, Bool.not_true, Bool.not_false, Bool.true_eq_false, Bool.false_eq_true, ite_true, ite_false, id_eq])

local macro_rules | `(tactic| walk_at "is") => `(tactic| simp only [plain_non, isIn_non_int, isIn_non_str, isIn_non_bool, isIn_non_list, isIn_non_tuple, isIn_non_dict, plain_bl, isIn_bl_int, isIn_bl_str, isIn_bl_bool, isIn_bl_list, isIn_bl_tuple, isIn_bl_dict, plain_int, isIn_int_int, isIn_int_str, isIn_int_bool, isIn_int_list, isIn_int_tuple, isIn_int_dict, plain_str, isIn_str_int, isIn_str_str, isIn_str_bool, isIn_str_list, isIn_str_tuple, isIn_str_dict, plain_tup, isIn_tup_int, isIn_tup_str, isIn_tup_bool, isIn_tup_list, isIn_tup_tuple, isIn_tup_dict, plain_lst, isIn_lst_int, isIn_lst_str, isIn_lst_bool, isIn_lst_list, isIn_lst_tuple, isIn_lst_dict, sl0, sl1, sl2, sl3, sl4, decide_true, decide_false, ddIsi, ddIsi2, true_and, if_true, if_false, Bool.false_eq_true, Bool.not_true, Bool.not_false, Bool.or_true, Bool.or_false, Bool.true_or, and_true])
local macro_rules | `(tactic| walk_at "wk") => `(tactic| ((try walk_at "dl"); (try walk_at "is"); (try walk_at "dl")))

/-- what a call tells -/
def callD (w : Int) (one two : D) : D := match faultD w one two with
  | .non => .tup [.str "told", resD w one two]
  | f => f
theorem fault_cases (w : Int) (one two : D) : (faultD w one two = .non ∧ callD w one two = .tup [.str "told", resD w one two]) ∨ ∃ x, faultD w one two = x ∧ callD w one two = x ∧ (x = zdD ∨ ∃ s, x = wkD s) := by
  have h : faultD w one two = .non ∨ faultD w one two = zdD ∨ ∃ s, faultD w one two = wkD s := by
    unfold faultD
    repeat' split
    all_goals first | exact .inl rfl | exact .inr (.inl rfl) | exact .inr (.inr ⟨_, rfl⟩)
  rcases h with h | h
  · exact .inl ⟨h, by unfold callD; rw [h]⟩
  · refine .inr ⟨_, rfl, ?_, h⟩
    unfold callD
    rcases h with h | ⟨s, h⟩ <;> rw [h] <;> rfl
def m_as_due : DF := fun ds Q _ => match ds with
  | [.tup [.int w, one, two], told] => AskOk w one two ∧ told = callD w one two ∧ Q (.bl true)
  | _ => False
abbrev s_as_due : Stmt := topS 69
abbrev N_as_due : List Str := ["ask", "told", "due"]
abbrev P_as_due : List Str := ["ask", "told"]
theorem sc_as_due : FnScope N_as_due P_as_due (defScope s_as_due) := ⟨rfl, rfl, rfl, by decide +kernel, rfl, by decide +kernel, by decide +kernel⟩

section
variable {P : Program} {w : World} {K : PySem.W.Frag} {mg : Str → Option Value} {base : Heap}
theorem ok_as_due (T : Txt K mg) : FnOk P w K mg base (L2N.CX P w) 5 T.das_due.f T.das_due.fd P_as_due (spD K 2 m_as_due) := by
  have G_same : FnOk P w K mg base (L2N.CX P w) 2 T.dsame.f T.dsame.fd P_same (spD K 2 (m_same 2)) := ok_same T 2
  have G_fault : FnOk P w K mg base (L2N.CX P w) 4 T.dfault.f T.dfault.fd P_fault (spD K 3 m_fault) := ok_fault T
  have G_right : FnOk P w K mg base (L2N.CX P w) 4 T.dright.f T.dright.fd P_right (spD K 4 m_right) := ok_right T
  refine T.das_due.okD sc_as_due fun cdv A outer s H E so A0 hr tk hp => ⟨_, (pds_cons (pds_set (i := 2) sc_as_due.nd rfl (by first | exact .inl rfl | exact .inr rfl) (pd_call G_fault (hr.mono (by omega)) (by rfl) T.dfault.g T.dfault.F.kp T.dfault.b (fun σ => L2N.passAt tk σ) (pda_cons (pd_ix ix_seq ol_ix (pd_var (pv 0)) pd_int (fun _ _ => rfl)) (pda_cons (pd_ix ix_seq ol_ix (pd_var (pv 0)) pd_int (fun _ _ => rfl)) (pda_cons (pd_ix ix_seq ol_ix (pd_var (pv 0)) pd_int (fun _ _ => rfl)) pda_nil)))))
      (pds_cons (pds_if (pdt_cmp o_notN ol_notN (pd_var (pv 2)) pd_non (nomark _))
        (pds_one (pds_ret (pd_call G_same (hr.mono (by omega)) (by rfl) T.dsame.g T.dsame.F.kp T.dsame.b (fun σ => L2N.passAt tk σ) (pda_cons (pd_var (pv 1)) (pda_cons (pd_var (pv 2)) pda_nil)))))
        pds_nil)
      (pds_one (pds_ret (pd_and (pd_cmp (oo_eq hr.units) ol_eq (pd_ix ix_seq ol_ix (pd_var (pv 1)) pd_int (fun _ _ => rfl)) pd_str (nomark _)) (pd_one (pd_call G_right (hr.mono (by omega)) (by rfl) T.dright.g T.dright.F.kp T.dright.b (fun σ => L2N.passAt tk σ) (pda_cons (pd_ix ix_seq ol_ix (pd_var (pv 0)) pd_int (fun _ _ => rfl)) (pda_cons (pd_ix ix_seq ol_ix (pd_var (pv 0)) pd_int (fun _ _ => rfl)) (pda_cons (pd_ix ix_seq ol_ix (pd_var (pv 0)) pd_int (fun _ _ => rfl)) (pda_cons (pd_ix ix_seq ol_ix (pd_var (pv 1)) pd_int (fun _ _ => rfl)) pda_nil))))))))))), fun ds Q E hl h => ?_⟩
  unfold m_as_due at h
  split at h
  · rename_i w one two told
    obtain ⟨A, e, q⟩ := h
    walk_at "wk"
    refine ⟨A, ?_⟩
    rcases fault_cases w one two with ⟨f1, f2⟩ | ⟨x, f1, f2, hx⟩
    · rw [f1]
      rw [f2] at e
      subst e
      walk_at "wk"
      exact ⟨A, f1, rfl, q⟩
    · rw [f1]
      rw [f2] at e
      have ht : TreeD 2 x ∧ ∃ l, x = .tup l := by
        rcases hx with rfl | ⟨s, rfl⟩
        · refine ⟨?_, _, rfl⟩
          unfold zdD
          simp [TreeD]
        · refine ⟨?_, _, rfl⟩
          unfold wkD
          simp [TreeD]
      obtain ⟨ht, l, rfl⟩ := ht
      walk_at "wk"
      refine ⟨by rw [e]; exact ht, ht, fun b hb => ?_⟩
      rw [hb.mpr e]
      exact q
  · exact h.elim
end
end My
set_option exponentiation.threshold 100000
namespace My
open PySem PySem.Spec PyProof.Rows L2
local macro_rules | `(tactic| walk_at "dl") => `(tactic| simp only [startD, List.map_cons, List.map_nil, List.length_cons, List.length_nil, List.cons_append, List.nil_append, List.replicate_succ, List.replicate_zero, List.getElem?_cons_zero, List.getElem?_cons_succ, List.set_cons_zero, List.set_cons_succ,
  dVar, rdS, dC, dNew, dOp, onB, qB, dChain, qAnd, qOr, qNot, qTru, truD, dIf, dAnd, dOr, dNot, dUn, ddNeg, lNil, lCons, dTup, nLst, ddI, ddI0, ddAdd, isNonD, isBlD, ddIsN, ddIsB, ddIx_t0, ddIx_t1, ddIx_t2, ddIx_t3, ddIx_l0, ddIx_l1, ddIx_l2, dCB, ddLen, ddInt1, ddAbs, ddMM, ddTuple, nCB, nnList, ddIsi, dCall,
  sSkip, sSeq, sBreak, sCont, sExpr, sRet, sRetN, sIf, sNever, gdName, gdNil, gdCons, gdTup, sAsg, sSetN, sPar, sRaise, sFrz, owS, sApp, sIns, dLenO, dIxO, sTry, sFor, iL, iT, onL, onT, iR1, iR2, nComp, qYes,
  ddEq_ii, ddEq_ss, ddEq_bb, Bool.false_bne, Bool.true_bne, List.append_nil, true_and, and_true, if_true, if_false, Bool.not_true, Bool.not_false, Bool.true_eq_false, Bool.false_eq_true, ite_true, ite_false, id_eq])

local macro_rules | `(tactic| walk_at "is") => `(tactic| simp only [plain_non, isIn_non_int, isIn_non_str, isIn_non_bool, isIn_non_list, isIn_non_tuple, isIn_non_dict, plain_bl, isIn_bl_int, isIn_bl_str, isIn_bl_bool, isIn_bl_list, isIn_bl_tuple, isIn_bl_dict, plain_int, isIn_int_int, isIn_int_str, isIn_int_bool, isIn_int_list, isIn_int_tuple, isIn_int_dict, plain_str, isIn_str_int, isIn_str_str, isIn_str_bool, isIn_str_list, isIn_str_tuple, isIn_str_dict, plain_tup, isIn_tup_int, isIn_tup_str, isIn_tup_bool, isIn_tup_list, isIn_tup_tuple, isIn_tup_dict, plain_lst, isIn_lst_int, isIn_lst_str, isIn_lst_bool, isIn_lst_list, isIn_lst_tuple, isIn_lst_dict, sl0, sl1, sl2, sl3, sl4, decide_true, decide_false, ddIsi, ddIsi2, true_and, if_true, if_false, Bool.false_eq_true, Bool.not_true, Bool.not_false, Bool.or_true, Bool.or_false, Bool.true_or, and_true])
local macro_rules | `(tactic| walk_at "wk") => `(tactic| ((try walk_at "dl"); (try walk_at "is"); (try walk_at "dl")))

theorem rat_uniq {a b c d : Int} (h1 : isRat (ratD a b) = true) (h2 : isRat (ratD c d) = true) (e : a * d = b * c) : ratD a b = ratD c d := by
  obtain ⟨_, _, e1, b1, g1⟩ := rat_shape h1
  obtain ⟨_, _, e2, d1, g2⟩ := rat_shape h2
  cases e1
  cases e2
  unfold G2 at g1 g2
  have n := congrArg Int.natAbs e
  rw [Int.natAbs_mul, Int.natAbs_mul] at n
  have hb : b.natAbs ∣ d.natAbs := by
    have : b.natAbs ∣ a.natAbs * d.natAbs := ⟨c.natAbs, n⟩
    exact (Nat.Coprime.symm g1).dvd_of_dvd_mul_left this
  have hd : d.natAbs ∣ b.natAbs := by
    have : d.natAbs ∣ b.natAbs * c.natAbs := ⟨a.natAbs, by rw [← n, Nat.mul_comm]⟩
    exact (Nat.Coprime.symm g2).dvd_of_dvd_mul_right this
  have hbd : b = d := by
    have := Nat.dvd_antisymm hb hd
    omega
  subst hbd
  have : a = c := by
    have b0 : b ≠ 0 := by omega
    refine Int.eq_of_mul_eq_mul_left b0 ?_
    rw [← e, Int.mul_comm]
  rw [this]
theorem undone_div {a b c d : Int} (h1 : isRat (ratD a b) = true) (b1 : 1 ≤ b) (d1 : 1 ≤ d) (c0 : c ≠ 0) :
    lowD (lowP (a * c) (b * d) * d, lowQ (a * c) (b * d) * c) = ratD a b := by
  have bd : b * d ≠ 0 := Int.mul_ne_zero (by omega) (by omega)
  obtain ⟨y1, _, x1, _⟩ := low_facts (a * c) (b * d) bd
  generalize lowP (a * c) (b * d) = x at *
  generalize lowQ (a * c) (b * d) = y at *
  have yc : y * c ≠ 0 := Int.mul_ne_zero (by omega) c0
  obtain ⟨_, _, x2, _⟩ := low_facts (x * d) (y * c) yc
  have r := low_rat (x * d) (y * c) yc
  refine rat_uniq r h1 ?_
  generalize lowP (x * d) (y * c) = p at *
  generalize lowQ (x * d) (y * c) = q at *
  refine Int.eq_of_mul_eq_mul_left yc ?_
  show y * c * (p * b) = y * c * (q * a)
  have e1 : y * c * (p * b) = (p * (y * c)) * b := by grind
  have e2 : y * c * (q * a) = q * (y * (a * c)) := by grind
  rw [e1, x2, e2, ← x1]
  grind
theorem undone_sub {a b c d : Int} (h1 : isRat (ratD a b) = true) (b1 : 1 ≤ b) (d1 : 1 ≤ d) :
    lowD (lowP (a * d + c * b) (b * d) * d - c * lowQ (a * d + c * b) (b * d), lowQ (a * d + c * b) (b * d) * d) = ratD a b := by
  have bd : b * d ≠ 0 := Int.mul_ne_zero (by omega) (by omega)
  obtain ⟨y1, _, x1, _⟩ := low_facts (a * d + c * b) (b * d) bd
  generalize lowP (a * d + c * b) (b * d) = x at *
  generalize lowQ (a * d + c * b) (b * d) = y at *
  have yc : y * d ≠ 0 := Int.mul_ne_zero (by omega) (by omega)
  obtain ⟨_, _, x2, _⟩ := low_facts (x * d - c * y) (y * d) yc
  have r := low_rat (x * d - c * y) (y * d) yc
  refine rat_uniq r h1 ?_
  generalize lowP (x * d - c * y) (y * d) = p at *
  generalize lowQ (x * d - c * y) (y * d) = q at *
  refine Int.eq_of_mul_eq_mul_left yc ?_
  show y * d * (p * b) = y * d * (q * a)
  have e1 : y * d * (p * b) = (p * (y * d)) * b := by grind
  rw [e1, x2]
  have e2 : q * (x * d - c * y) * b = q * (x * (b * d)) - q * c * y * b := by grind
  rw [e2, x1]
  grind
def m_undone : DF := fun ds Q _ => match ds with
  | [one, two] => RatN 9 one ∧ RatN 9 two ∧ Q (.bl true)
  | _ => False
abbrev s_undone : Stmt := topS 74
abbrev N_undone : List Str := ["one", "two"]
abbrev P_undone : List Str := ["one", "two"]
theorem sc_undone : FnScope N_undone P_undone (defScope s_undone) := ⟨rfl, rfl, rfl, by decide +kernel, rfl, by decide +kernel, by decide +kernel⟩

theorem RatN.pl {n : Nat} {d : D} (h : RatN n d) : Pl d := by
  obtain ⟨a, b, rfl, _⟩ := h
  refine ⟨rfl, fun l hl e he => ?_⟩
  cases hl
  rcases List.mem_cons.mp he with rfl | he
  · rfl
  · rw [List.mem_singleton.mp he]
    rfl
theorem pl_rat (a b : Int) : Pl (ratD a b) := by
  refine ⟨rfl, fun l hl e he => ?_⟩
  cases hl
  rcases List.mem_cons.mp he with rfl | he
  · rfl
  · rw [List.mem_singleton.mp he]
    rfl
theorem tree_rat (a b : Int) : TreeD 2 (ratD a b) := by
  unfold ratD
  simp [TreeD]
theorem Dig.sum {n m : Nat} {a b c d : Int} (ha : Dig n a) (hb : Dig n b) (hc : Dig n c) (hd : Dig n d) (h : 2 * n + 1 ≤ m) : Dig m (a * b + c * d) ∧ Dig m (a * b - c * d) ∧ Dig m (a * b) := by
  have h1 : (a * b).natAbs < 10 ^ (n + n) := by
    rw [Int.natAbs_mul, Nat.pow_add]
    exact Nat.mul_lt_mul'' ha hb
  have h2 : (c * d).natAbs < 10 ^ (n + n) := by
    rw [Int.natAbs_mul, Nat.pow_add]
    exact Nat.mul_lt_mul'' hc hd
  have h3 : 10 ^ (n + n) * 10 ≤ 10 ^ m := by
    rw [← Nat.pow_succ]
    exact Nat.pow_le_pow_right (by decide) (by omega)
  unfold Dig
  generalize a * b = x at *
  generalize c * d = y at *
  generalize 10 ^ (n + n) = p at *
  generalize 10 ^ m = q at *
  omega
theorem neg_rat {a b : Int} (h : isRat (ratD a b) = true) : isRat (ratD (-a) b) = true := by
  obtain ⟨_, _, e, b1, g⟩ := rat_shape h
  cases e
  show (decide (1 ≤ b) && decide (G2 (-a) b = 1)) = true
  have : G2 (-a) b = 1 := by
    unfold G2
    rw [Int.natAbs_neg]
    exact g
  rw [decide_eq_true b1, decide_eq_true this]
  rfl
theorem Neg.mk {K : PySem.W.Frag} {mg : Str → Option Value} {T : Txt K mg} {a b : Int} {Q : D → Prop} {E : XD → Prop} (i1 : isRat (ratD a b) = true) (h : Q (ratD (-a) b)) : m_negate T [ratD a b] Q E :=
  ⟨pl_rat a b, fun e => (by rw [i1] at e; cases e), fun _ _ e _ => by cases e; exact h⟩
theorem Two.mk {K : PySem.W.Frag} {mg : Str → Option Value} {T : Txt K mg} {a b c d : Int} {E : XD → Prop} {k : Int → Int → Int → Int → Prop} (i1 : isRat (ratD a b) = true) (i2 : isRat (ratD c d) = true) (h : k a b c d) : Two T (ratD a b) (ratD c d) E k :=
  ⟨pl_rat a b, pl_rat c d, fun e => (by rw [i1] at e; cases e), fun _ e => (by rw [i2] at e; cases e), fun _ _ _ _ e1 e2 _ _ => by cases e1; cases e2; exact h⟩
section
variable {P : Program} {w : World} {K : PySem.W.Frag} {mg : Str → Option Value} {base : Heap}
theorem ok_undone (T : Txt K mg) : FnOk P w K mg base (L2N.CX P w) 7 T.dundone.f T.dundone.fd P_undone (spD K 2 m_undone) := by
  have G_same : FnOk P w K mg base (L2N.CX P w) 2 T.dsame.f T.dsame.fd P_same (spD K 2 (m_same 2)) := ok_same T 2
  have G_add : FnOk P w K mg base (L2N.CX P w) 6 T.dadd.f T.dadd.fd P_add (spD K 2 (m_op T fun a b c d => (a * d + c * b, b * d))) := ok_add T
  have G_subtract : FnOk P w K mg base (L2N.CX P w) 6 T.dsubtract.f T.dsubtract.fd P_subtract (spD K 2 (m_op T fun a b c d => (a * d - c * b, b * d))) := ok_subtract T
  have G_multiply : FnOk P w K mg base (L2N.CX P w) 6 T.dmultiply.f T.dmultiply.fd P_multiply (spD K 2 (m_op T fun a b c d => (a * c, b * d))) := ok_multiply T
  have G_divide : FnOk P w K mg base (L2N.CX P w) 6 T.ddivide.f T.ddivide.fd P_divide (spD K 2 (m_divide T)) := ok_divide T
  have G_negate : FnOk P w K mg base (L2N.CX P w) 5 T.dnegate.f T.dnegate.fd P_negate (spD K 1 (m_negate T)) := ok_negate T
  refine T.dundone.okD sc_undone fun cdv A outer s H E so A0 hr tk hp => ⟨_, (pds_cons (pds_if (PDW.t (pdw_and (pdt_cmp (oo_ne hr.units) ol_ne (pd_ix ix_seq ol_ix (pd_var (pv 1)) pd_int (fun _ _ => rfl)) pd_int (nomark _)) (pdw_and1 (pdt_not (pdt_tru (pd_call G_same (hr.mono (by omega)) (by rfl) T.dsame.g T.dsame.F.kp T.dsame.b (fun σ => L2N.passAt tk σ) (pda_cons (pd_call G_divide (hr.mono (by omega)) (by rfl) T.ddivide.g T.ddivide.F.kp T.ddivide.b (fun σ => L2N.passAt tk σ) (pda_cons (pd_call G_multiply (hr.mono (by omega)) (by rfl) T.dmultiply.g T.dmultiply.F.kp T.dmultiply.b (fun σ => L2N.passAt tk σ) (pda_cons (pd_var (pv 0)) (pda_cons (pd_var (pv 1)) pda_nil))) (pda_cons (pd_var (pv 1)) pda_nil))) (pda_cons (pd_var (pv 0)) pda_nil))))))))
        (pds_one (pds_ret pd_bl))
        pds_nil)
      (pds_one (pds_ret (pd_and (pd_call G_same (hr.mono (by omega)) (by rfl) T.dsame.g T.dsame.F.kp T.dsame.b (fun σ => L2N.passAt tk σ) (pda_cons (pd_call G_subtract (hr.mono (by omega)) (by rfl) T.dsubtract.g T.dsubtract.F.kp T.dsubtract.b (fun σ => L2N.passAt tk σ) (pda_cons (pd_call G_add (hr.mono (by omega)) (by rfl) T.dadd.g T.dadd.F.kp T.dadd.b (fun σ => L2N.passAt tk σ) (pda_cons (pd_var (pv 0)) (pda_cons (pd_var (pv 1)) pda_nil))) (pda_cons (pd_var (pv 1)) pda_nil))) (pda_cons (pd_var (pv 0)) pda_nil))) (pd_one (pd_call G_same (hr.mono (by omega)) (by rfl) T.dsame.g T.dsame.F.kp T.dsame.b (fun σ => L2N.passAt tk σ) (pda_cons (pd_call G_negate (hr.mono (by omega)) (by rfl) T.dnegate.g T.dnegate.F.kp T.dnegate.b (fun σ => L2N.passAt tk σ) (pda_cons (pd_call G_negate (hr.mono (by omega)) (by rfl) T.dnegate.g T.dnegate.F.kp T.dnegate.b (fun σ => L2N.passAt tk σ) (pda_cons (pd_var (pv 0)) pda_nil)) pda_nil)) (pda_cons (pd_var (pv 0)) pda_nil)))))))), fun ds Q E hl h => ?_⟩
  unfold m_undone at h
  split at h
  · rename_i one two
    obtain ⟨r1, r2, q⟩ := h
    obtain ⟨a, b, rfl, i1, da, db⟩ := r1
    obtain ⟨c, d, rfl, i2, dc, dd⟩ := r2
    obtain ⟨_, _, e, b1, _⟩ := rat_shape i1
    cases e
    obtain ⟨_, _, e, d1, _⟩ := rat_shape i2
    cases e
    have bd : b * d ≠ 0 := Int.mul_ne_zero (by omega) (by omega)
    have sa := da.sm (by decide)
    have sb := db.sm (by decide)
    have sc := dc.sm (by decide)
    have sd := dd.sm (by decide)
    obtain ⟨s1, s2, s3⟩ := Dig.sum da dd dc db (show 2 * 9 + 1 ≤ 20 by decide)
    obtain ⟨_, _, s4⟩ := Dig.sum db dd da dc (show 2 * 9 + 1 ≤ 20 by decide)
    obtain ⟨_, _, s5⟩ := Dig.sum da dc da dc (show 2 * 9 + 1 ≤ 20 by decide)
    have sx : Sm (lowP (a * d + c * b) (b * d)) ∧ Sm (lowQ (a * d + c * b) (b * d)) := by
      obtain ⟨_, _, _, l1, l2⟩ := low_facts (a * d + c * b) (b * d) bd
      exact ⟨Dig.sm (n := 20) (Nat.lt_of_le_of_lt l1 s1) (by decide), Dig.sm (n := 20) (Nat.lt_of_le_of_lt l2 s4) (by decide)⟩
    have sy : Sm (lowP (a * c) (b * d)) ∧ Sm (lowQ (a * c) (b * d)) := by
      obtain ⟨_, _, _, l1, l2⟩ := low_facts (a * c) (b * d) bd
      exact ⟨Dig.sm (n := 20) (Nat.lt_of_le_of_lt l1 s5) (by decide), Dig.sm (n := 20) (Nat.lt_of_le_of_lt l2 s4) (by decide)⟩
    simp only [ratD]
    walk_at "wk"
    by_cases hc : c = 0
    · simp only [decide_eq_true hc]
      walk_at "wk"
      skip
      refine Two.mk i1 i2 ⟨⟨sa, sb, sc, sd⟩, ?_⟩
      refine Two.mk (low_rat _ _ bd) i2 ⟨⟨sx.1, sx.2, sc, sd⟩, ?_⟩
      have e := undone_sub i1 b1 d1 (c := c)
      refine ⟨by rw [e]; exact tree_rat a b, tree_rat a b, fun r hr => ?_⟩
      rw [hr.mpr e]
      walk_at "wk"
      refine Neg.mk i1 (Neg.mk (neg_rat i1) ?_)
      refine ⟨tree_rat _ _, tree_rat _ _, fun r hr => ?_⟩
      rw [hr.mpr (by show ratD (- -a) b = ratD a b; rw [Int.neg_neg])]
      exact q
    · simp only [decide_eq_false hc]
      walk_at "wk"
      refine Two.mk i1 i2 ⟨⟨sa, sb, sc, sd⟩, ?_⟩
      refine Two.mk (low_rat _ _ bd) i2 ⟨⟨sy.1, sy.2, sc, sd⟩, fun z => absurd z hc, fun _ => ?_⟩
      have e := undone_div i1 b1 d1 hc
      refine ⟨by rw [e]; exact tree_rat a b, tree_rat a b, fun r hr => ?_⟩
      rw [hr.mpr e]
      walk_at "wk"
      refine Two.mk i1 i2 ⟨⟨sa, sb, sc, sd⟩, ?_⟩
      refine Two.mk (low_rat _ _ bd) i2 ⟨⟨sx.1, sx.2, sc, sd⟩, ?_⟩
      have e := undone_sub i1 b1 d1 (c := c)
      refine ⟨by rw [e]; exact tree_rat a b, tree_rat a b, fun r hr => ?_⟩
      rw [hr.mpr e]
      walk_at "wk"
      refine Neg.mk i1 (Neg.mk (neg_rat i1) ?_)
      refine ⟨tree_rat _ _, tree_rat _ _, fun r hr => ?_⟩
      rw [hr.mpr (by show ratD (- -a) b = ratD a b; rw [Int.neg_neg])]
      exact q
  · exact h.elim
end
end My
set_option exponentiation.threshold 100000
namespace My
open PySem PySem.Spec PyProof.Rows L2
def dDNew : DE := fun _ Q _ => Q (.dct [] [])
section
variable {X : Cx} {g : Gx} {EX : EXT} {pos : Pos}
theorem pd_dnew : PD X g EX (.Dict [] [] pos) dDNew := ⟨pe_dnewK.imp fun σ H Q h => by
  obtain ⟨A, ρ, Qd, Ed, S, h, c, cx⟩ := h
  intro p hp
  have y := Ext.laid (o := .dK []) S.x.good hp
  exact c (.dct [] []) (.ref p) _ _ y ⟨p, [], rfl, .inl ⟨[], upd_same, rfl, rfl⟩, rfl⟩ h⟩
end
local macro_rules | `(tactic| walk_at "dl") => `(tactic| simp only [startD, List.map_cons, List.map_nil, List.length_cons, List.length_nil, List.cons_append, List.nil_append, List.replicate_succ, List.replicate_zero, List.getElem?_cons_zero, List.getElem?_cons_succ, List.set_cons_zero, List.set_cons_succ,
  dVar, rdS, dC, dNew, dOp, onB, qB, dChain, qAnd, qOr, qNot, qTru, truD, dIf, dAnd, dOr, dNot, dUn, ddNeg, lNil, lCons, dTup, nLst, ddI, ddI0, ddAdd, isNonD, isBlD, ddIsN, ddIsB, ddIx_t0, ddIx_t1, ddIx_t2, ddIx_t3, ddIx_l0, ddIx_l1, ddIx_l2, dCB, ddLen, ddInt1, ddAbs, ddMM, ddTuple, nCB, nnList, ddIsi, dCall,
  sSkip, sSeq, sBreak, sCont, sExpr, sRet, sRetN, sIf, sNever, gdName, gdNil, gdCons, gdTup, sAsg, sSetN, sPar, sRaise, sFrz, owS, sApp, sIns, dLenO, dIxO, sTry, sFor, iL, iT, onL, onT, iR1, iR2, nComp, qYes,
  ddEq_ii, ddEq_ss, ddEq_bb, Bool.false_bne, Bool.true_bne, List.append_nil, true_and, and_true, if_true, if_false, Bool.not_true, Bool.not_false, Bool.true_eq_false, Bool.false_eq_true, ite_true, ite_false, id_eq])

local macro_rules | `(tactic| walk_at "is") => `(tactic| simp only [plain_non, isIn_non_int, isIn_non_str, isIn_non_bool, isIn_non_list, isIn_non_tuple, isIn_non_dict, plain_bl, isIn_bl_int, isIn_bl_str, isIn_bl_bool, isIn_bl_list, isIn_bl_tuple, isIn_bl_dict, plain_int, isIn_int_int, isIn_int_str, isIn_int_bool, isIn_int_list, isIn_int_tuple, isIn_int_dict, plain_str, isIn_str_int, isIn_str_str, isIn_str_bool, isIn_str_list, isIn_str_tuple, isIn_str_dict, plain_tup, isIn_tup_int, isIn_tup_str, isIn_tup_bool, isIn_tup_list, isIn_tup_tuple, isIn_tup_dict, plain_lst, isIn_lst_int, isIn_lst_str, isIn_lst_bool, isIn_lst_list, isIn_lst_tuple, isIn_lst_dict, sl0, sl1, sl2, sl3, sl4, decide_true, decide_false, ddIsi, ddIsi2, true_and, if_true, if_false, Bool.false_eq_true, Bool.not_true, Bool.not_false, Bool.or_true, Bool.or_false, Bool.true_or, and_true])
local macro_rules | `(tactic| walk_at "wk") => `(tactic| ((try walk_at "dl"); (try walk_at "is"); (try walk_at "dl")))

/-- no ratio, but plain -/
def NotR (d : D) : Prop := Pl d ∧ Bt d ∧ isRat d = false
def m_not_ratio : DF := fun ds Q _ => match ds with
  | [.sto, .bl _] => ∀ d, NotR d → Q d
  | _ => False
def NotI (d : D) : Prop := plainD d = true ∧ isW d = false
def m_not_integer : DF := fun ds Q _ => match ds with
  | [.sto] => ∀ d, NotI d → Q d
  | _ => False
def plB (d : D) : Bool := plainD d && match d with
  | .tup l => l.all plainD
  | _ => true
def btB : D → Bool
  | .tup [.int a, .int b] => decide (a.natAbs < 2 ^ 4000) && decide (b.natAbs < 2 ^ 4000)
  | _ => true
def nrB (d : D) : Bool := plB d && btB d && !isRat d
theorem nrB_ok {d : D} (h : nrB d = true) : NotR d := by
  unfold nrB at h
  rw [Bool.and_eq_true, Bool.and_eq_true] at h
  obtain ⟨⟨h1, h2⟩, h3⟩ := h
  unfold plB at h1
  rw [Bool.and_eq_true] at h1
  refine ⟨⟨h1.1, fun l e => ?_⟩, fun a b e => ?_, by simpa using h3⟩
  · subst e
    exact List.all_eq_true.mp h1.2
  · subst e
    have h2 : (decide (a.natAbs < 2 ^ 4000) && decide (b.natAbs < 2 ^ 4000)) = true := h2
    rw [Bool.and_eq_true, decide_eq_true_eq, decide_eq_true_eq] at h2
    exact h2
def itemsR (up b : Int) : List D := [.int 1, .int 0, .bl true, .str "1", .str "1/2", .tup [.int 1], .tup [], .tup [.int 1, .int 0], .tup [.int 0, .int 0], .tup [.int 0, .int 2], .tup [.int 1, .int (-1)], .tup [.int 0, .int (-1)],
  .tup [.bl true, .int 1], .tup [.int 1, .bl true], .tup [.bl false, .int 1], .tup [.int 1, .int 1, .int 1], .tup [.str "1", .int 1], .tup [.int 1, .str "1"], .tup [.non, .int 1], .tup [.int 1, .non],
  .tup [.tup [.int 1, .int 1], .tup [.int 1, .int 1]], .tup [.tup [.int 1, .int 1], .int 1], .dct [] [], .lst [.int up, .int 1], .lst [.int 1, .int 1], .tup [.int (up * b), .int b], .tup [.int b, .int (2 * b)], .tup [.int (-b), .int (2 * b)], .tup [.int (10 ^ 40), .int (10 ^ 39)]]
theorem itemsR_fin : ∀ u : Fin 9, ∀ v : Fin 3, (itemsR ((u.val : Int) - 4) ((v.val : Int) + 2)).all nrB = true := by decide +kernel
theorem itemsR_ok {up b : Int} (h1 : -4 ≤ up) (h2 : up ≤ 4) (h3 : 2 ≤ b) (h4 : b < 5) : ∀ d ∈ itemsR up b, NotR d := fun d hd => by
  have h := itemsR_fin ⟨(up + 4).toNat, by omega⟩ ⟨(b - 2).toNat, by omega⟩
  have e1 : (((up + 4).toNat : Nat) : Int) - 4 = up := by omega
  have e2 : (((b - 2).toNat : Nat) : Int) + 2 = b := by omega
  dsimp only at h
  rw [e1, e2] at h
  exact nrB_ok (List.all_eq_true.mp h d hd)
def itemsI : List D := [.bl true, .bl false, .non, .str "1", .str "", .tup [.int 1, .int 1], .tup [.int 0, .int 1], .lst [.int 1], .tup [.int 1], .dct [] [], .lst []]
def niB (d : D) : Bool := plainD d && !isW d
theorem itemsI_ok : ∀ d ∈ itemsI, NotI d := fun d hd => by
  have h : itemsI.all niB = true := by decide +kernel
  have := List.all_eq_true.mp h d hd
  unfold niB at this
  rw [Bool.and_eq_true] at this
  exact ⟨this.1, by simpa using this.2⟩
abbrev s_not_ratio : Stmt := topS 57
abbrev N_not_ratio : List Str := ["store", "none_too", "up", "by", "ways"]
abbrev P_not_ratio : List Str := ["store", "none_too"]
theorem sc_not_ratio : FnScope N_not_ratio P_not_ratio (defScope s_not_ratio) := ⟨rfl, rfl, rfl, by decide +kernel, rfl, by decide +kernel, by decide +kernel⟩

abbrev s_not_integer : Stmt := topS 58
abbrev N_not_integer : List Str := ["store", "ways"]
abbrev P_not_integer : List Str := ["store"]
theorem sc_not_integer : FnScope N_not_integer P_not_integer (defScope s_not_integer) := ⟨rfl, rfl, rfl, by decide +kernel, rfl, by decide +kernel, by decide +kernel⟩

section
variable {P : Program} {w : World} {K : PySem.W.Frag} {mg : Str → Option Value} {base : Heap}
theorem ok_not_integer (T : Txt K mg) : FnOk P w K mg base (L2N.CX P w) 173 T.dnot_integer.f T.dnot_integer.fd P_not_integer (spD K 1 m_not_integer) := by
  have G_edge : FnOk P w K mg base (L2N.CX P w) 172 T.dedge.f T.dedge.fd P_edge (spD K 2 m_take) := ok_edgeD T
  refine T.dnot_integer.okD sc_not_integer fun cdv A outer s H E so A0 hr tk hp => ⟨_, (pds_cons (pds_set (i := 1) sc_not_integer.nd rfl (by first | exact .inl rfl | exact .inr rfl) (pd_new (pdn_lst (pda_cons pd_bl (pda_cons pd_bl (pda_cons pd_non (pda_cons pd_str (pda_cons pd_str (pda_cons (pd_tup (pda_cons pd_int (pda_cons pd_int pda_nil))) (pda_cons (pd_tup (pda_cons pd_int (pda_cons pd_int pda_nil))) (pda_cons (pd_new (pdn_lst (pda_cons pd_int pda_nil))) (pda_cons (pd_tup (pda_cons pd_int pda_nil)) (pda_cons pd_dnew (pda_cons (pd_new (pdn_lst pda_nil)) pda_nil))))))))))))))
      (pds_one (pds_ret (pd_ix ix_seq ol_ix (pd_var (pv 1)) (pd_call G_edge (hr.mono (by omega)) (by rfl) T.dedge.g T.dedge.F.kp T.dedge.b (fun σ => L2N.passAt tk σ) (pda_cons (pd_var (pv 0)) (pda_cons (pd_callB oo_len cl_len (by rfl) T.m_len bt_len (pda_cons (pd_var (pv 1)) pda_nil)) pda_nil))) (fun _ _ => rfl))))), fun ds Q E hl h => ?_⟩
  unfold m_not_integer at h
  split at h
  · walk_at "wk"
    simp only [dDNew]
    walk_at "wk"
    refine ⟨by decide, ?_⟩
    refine ⟨by decide, fun r r0 r1 => ?_⟩
    refine ddIx_any (l := itemsI) r0 (by show r < 11; omega) fun d hd => h d (itemsI_ok d hd)
  · exact h.elim
theorem ok_not_ratio (T : Txt K mg) : FnOk P w K mg base (L2N.CX P w) 174 T.dnot_ratio.f T.dnot_ratio.fd P_not_ratio (spD K 2 m_not_ratio) := by
  have G_take : FnOk P w K mg base (L2N.CX P w) 171 T.dtake.f T.dtake.fd P_take (spD K 2 m_take) := ok_takeD T
  have G_edge : FnOk P w K mg base (L2N.CX P w) 172 T.dedge.f T.dedge.fd P_edge (spD K 2 m_take) := ok_edgeD T
  have G_between : FnOk P w K mg base (L2N.CX P w) 173 T.dbetween.f T.dbetween.fd P_between (spD K 3 m_between) := ok_betweenD T
  refine T.dnot_ratio.okD sc_not_ratio fun cdv A outer s H E so A0 hr tk hp => ⟨_, (pds_cons (pds_if (PDW.t (pdw_and (pdt_tru (pd_var (pv 1))) (pdw_and1 (pdt_cmp (oo_eq hr.units) ol_eq (pd_call G_take (hr.mono (by omega)) (by rfl) T.dtake.g T.dtake.F.kp T.dtake.b (fun σ => L2N.passAt tk σ) (pda_cons (pd_var (pv 0)) (pda_cons pd_int pda_nil))) pd_int (nomark _)))))
        (pds_one (pds_ret pd_non))
        pds_nil)
      (pds_cons (pds_set (i := 2) sc_not_ratio.nd rfl (by first | exact .inl rfl | exact .inr rfl) (pd_call G_between (hr.mono (by omega)) (by rfl) T.dbetween.g T.dbetween.F.kp T.dbetween.b (fun σ => L2N.passAt tk σ) (pda_cons (pd_var (pv 0)) (pda_cons (pd_neg pd_int) (pda_cons pd_int pda_nil)))))
      (pds_cons (pds_set (i := 3) sc_not_ratio.nd rfl (by first | exact .inl rfl | exact .inr rfl) (pd_op oo_add ol_add pd_int (pd_call G_take (hr.mono (by omega)) (by rfl) T.dtake.g T.dtake.F.kp T.dtake.b (fun σ => L2N.passAt tk σ) (pda_cons (pd_var (pv 0)) (pda_cons pd_int pda_nil)))))
      (pds_cons (pds_set (i := 4) sc_not_ratio.nd rfl (by first | exact .inl rfl | exact .inr rfl) (pd_new (pdn_lst (pda_cons pd_int (pda_cons pd_int (pda_cons pd_bl (pda_cons pd_str (pda_cons pd_str (pda_cons (pd_tup (pda_cons pd_int pda_nil)) (pda_cons (pd_tup pda_nil) (pda_cons (pd_tup (pda_cons pd_int (pda_cons pd_int pda_nil))) (pda_cons (pd_tup (pda_cons pd_int (pda_cons pd_int pda_nil))) (pda_cons (pd_tup (pda_cons pd_int (pda_cons pd_int pda_nil))) (pda_cons (pd_tup (pda_cons pd_int (pda_cons (pd_neg pd_int) pda_nil))) (pda_cons (pd_tup (pda_cons pd_int (pda_cons (pd_neg pd_int) pda_nil))) (pda_cons (pd_tup (pda_cons pd_bl (pda_cons pd_int pda_nil))) (pda_cons (pd_tup (pda_cons pd_int (pda_cons pd_bl pda_nil))) pda_nil)))))))))))))))))
      (pds_cons (pds_set (i := 4) sc_not_ratio.nd rfl (by first | exact .inl rfl | exact .inr rfl) (pd_op oo_add ol_add (pd_var (pv 4)) (pd_new (pdn_lst (pda_cons (pd_tup (pda_cons pd_bl (pda_cons pd_int pda_nil))) (pda_cons (pd_tup (pda_cons pd_int (pda_cons pd_int (pda_cons pd_int pda_nil)))) (pda_cons (pd_tup (pda_cons pd_str (pda_cons pd_int pda_nil))) (pda_cons (pd_tup (pda_cons pd_int (pda_cons pd_str pda_nil))) (pda_cons (pd_tup (pda_cons pd_non (pda_cons pd_int pda_nil))) (pda_cons (pd_tup (pda_cons pd_int (pda_cons pd_non pda_nil))) (pda_cons (pd_tup (pda_cons (pd_tup (pda_cons pd_int (pda_cons pd_int pda_nil))) (pda_cons (pd_tup (pda_cons pd_int (pda_cons pd_int pda_nil))) pda_nil))) (pda_cons (pd_tup (pda_cons (pd_tup (pda_cons pd_int (pda_cons pd_int pda_nil))) (pda_cons pd_int pda_nil))) (pda_cons pd_dnew pda_nil)))))))))))))
      (pds_cons (pds_set (i := 4) sc_not_ratio.nd rfl (by first | exact .inl rfl | exact .inr rfl) (pd_op oo_add ol_add (pd_var (pv 4)) (pd_new (pdn_lst (pda_cons (pd_new (pdn_lst (pda_cons (pd_var (pv 2)) (pda_cons pd_int pda_nil)))) (pda_cons (pd_new (pdn_lst (pda_cons pd_int (pda_cons pd_int pda_nil)))) (pda_cons (pd_tup (pda_cons (pd_op op_mulW ol_mul (pd_var (pv 2)) (pd_var (pv 3))) (pda_cons (pd_var (pv 3)) pda_nil))) (pda_cons (pd_tup (pda_cons (pd_var (pv 3)) (pda_cons (pd_op op_mulW ol_mul pd_int (pd_var (pv 3))) pda_nil))) (pda_cons (pd_tup (pda_cons (pd_neg (pd_var (pv 3))) (pda_cons (pd_op op_mulW ol_mul pd_int (pd_var (pv 3))) pda_nil))) (pda_cons (pd_tup (pda_cons (pd_op op_pow ol_pow pd_int pd_int) (pda_cons (pd_op op_pow ol_pow pd_int pd_int) pda_nil))) pda_nil))))))))))
      (pds_one (pds_ret (pd_ix ix_seq ol_ix (pd_var (pv 4)) (pd_call G_edge (hr.mono (by omega)) (by rfl) T.dedge.g T.dedge.F.kp T.dedge.b (fun σ => L2N.passAt tk σ) (pda_cons (pd_var (pv 0)) (pda_cons (pd_callB oo_len cl_len (by rfl) T.m_len bt_len (pda_cons (pd_var (pv 4)) pda_nil)) pda_nil))) (fun _ _ => rfl)))))))))), fun ds Q E hl h => ?_⟩
  unfold m_not_ratio at h
  split at h
  · rename_i b
    cases b
    · walk_at "wk"
      refine ⟨by decide, by decide, fun up u0 u1 => ?_⟩
      refine ⟨by decide, fun v v0 v1 => ?_⟩
      walk_at "wk"
      refine ⟨by decide, ?_⟩
      simp only [dDNew]
      walk_at "wk"
      refine ⟨by decide, by decide, ?_⟩
      have v3 : v < 3 := by omega
      have cm : ∀ a b : Int, -100 ≤ a → a ≤ 100 → -100 ≤ b → b ≤ 100 → CMulW a b := fun a b h1 h2 h3 h4 => wide_mul (a := 10) (b := 10) (by omega) (by omega) (by decide) (by decide) (by decide)
      refine ⟨cm _ _ (by omega) (by omega) (by omega) (by omega), cm _ _ (by omega) (by omega) (by omega) (by omega), cm _ _ (by omega) (by omega) (by omega) (by omega), ⟨by decide, by decide, by decide⟩, ⟨by decide, by decide, by decide⟩, by decide, by decide, ?_⟩
      refine ⟨by decide, fun r r0 r1 => ?_⟩
      refine ddIx_any (l := itemsR up (2 + v)) r0 (by show r < 29; omega) fun d hd => h d (itemsR_ok u0 u1 (by omega) (by omega) d hd)
    · walk_at "wk"
      refine ⟨by decide, fun r r0 r1 => ?_⟩
      walk_at "wk"
      by_cases z : r = 0
      · simp only [decide_eq_true z]
        walk_at "wk"
        exact h .non (nrB_ok (by decide +kernel))
      simp only [decide_eq_false z]
      walk_at "wk"
      refine ⟨by decide, by decide, fun up u0 u1 => ?_⟩
      refine ⟨by decide, fun v v0 v1 => ?_⟩
      walk_at "wk"
      refine ⟨by decide, ?_⟩
      simp only [dDNew]
      walk_at "wk"
      refine ⟨by decide, by decide, ?_⟩
      have v3 : v < 3 := by omega
      have cm : ∀ a b : Int, -100 ≤ a → a ≤ 100 → -100 ≤ b → b ≤ 100 → CMulW a b := fun a b h1 h2 h3 h4 => wide_mul (a := 10) (b := 10) (by omega) (by omega) (by decide) (by decide) (by decide)
      refine ⟨cm _ _ (by omega) (by omega) (by omega) (by omega), cm _ _ (by omega) (by omega) (by omega) (by omega), cm _ _ (by omega) (by omega) (by omega) (by omega), ⟨by decide, by decide, by decide⟩, ⟨by decide, by decide, by decide⟩, by decide, by decide, ?_⟩
      refine ⟨by decide, fun r r0 r1 => ?_⟩
      refine ddIx_any (l := itemsR up (2 + v)) r0 (by show r < 29; omega) fun d hd => h d (itemsR_ok u0 u1 (by omega) (by omega) d hd)
  · exact h.elim
end
end My
set_option exponentiation.threshold 100000
namespace My
open PySem PySem.Spec PyProof.Rows L2
local macro_rules | `(tactic| walk_at "dl") => `(tactic| simp only [startD, List.map_cons, List.map_nil, List.length_cons, List.length_nil, List.cons_append, List.nil_append, List.replicate_succ, List.replicate_zero, List.getElem?_cons_zero, List.getElem?_cons_succ, List.set_cons_zero, List.set_cons_succ,
  dVar, rdS, dC, dNew, dOp, onB, qB, dChain, qAnd, qOr, qNot, qTru, truD, dIf, dAnd, dOr, dNot, dUn, ddNeg, lNil, lCons, dTup, nLst, ddI, ddI0, ddAdd, isNonD, isBlD, ddIsN, ddIsB, ddIx_t0, ddIx_t1, ddIx_t2, ddIx_t3, ddIx_l0, ddIx_l1, ddIx_l2, dCB, ddLen, ddInt1, ddAbs, ddMM, ddTuple, nCB, nnList, ddIsi, dCall,
  sSkip, sSeq, sBreak, sCont, sExpr, sRet, sRetN, sIf, sNever, gdName, gdNil, gdCons, gdTup, sAsg, sSetN, sPar, sRaise, sFrz, owS, sApp, sIns, dLenO, dIxO, sTry, sFor, iL, iT, onL, onT, iR1, iR2, nComp, qYes,
  ddEq_ii, ddEq_ss, ddEq_bb, Bool.false_bne, Bool.true_bne, List.append_nil, true_and, and_true, if_true, if_false, Bool.not_true, Bool.not_false, Bool.true_eq_false, Bool.false_eq_true, ite_true, ite_false, id_eq])

local macro_rules | `(tactic| walk_at "is") => `(tactic| simp only [plain_non, isIn_non_int, isIn_non_str, isIn_non_bool, isIn_non_list, isIn_non_tuple, isIn_non_dict, plain_bl, isIn_bl_int, isIn_bl_str, isIn_bl_bool, isIn_bl_list, isIn_bl_tuple, isIn_bl_dict, plain_int, isIn_int_int, isIn_int_str, isIn_int_bool, isIn_int_list, isIn_int_tuple, isIn_int_dict, plain_str, isIn_str_int, isIn_str_str, isIn_str_bool, isIn_str_list, isIn_str_tuple, isIn_str_dict, plain_tup, isIn_tup_int, isIn_tup_str, isIn_tup_bool, isIn_tup_list, isIn_tup_tuple, isIn_tup_dict, plain_lst, isIn_lst_int, isIn_lst_str, isIn_lst_bool, isIn_lst_list, isIn_lst_tuple, isIn_lst_dict, sl0, sl1, sl2, sl3, sl4, decide_true, decide_false, ddIsi, ddIsi2, true_and, if_true, if_false, Bool.false_eq_true, Bool.not_true, Bool.not_false, Bool.or_true, Bool.or_false, Bool.true_or, and_true])
local macro_rules | `(tactic| walk_at "wk") => `(tactic| ((try walk_at "dl"); (try walk_at "is"); (try walk_at "dl")))

def m_bad_ask : DF := fun ds Q _ => match ds with
  | [.sto, .int v, .tup [.int w, one, two]] => v = w ∧ AskOk w one two ∧ (w = 8 → ∃ l, one = .lst l ∧ l.length ≤ 900) ∧ ∀ one' two', AskOk w one' two' → Q (.tup [.int w, one', two'])
  | _ => False
theorem ask8 {d t : D} (p : plainD d = true) (h : ∀ l, d = .lst l → l.length ≤ 1000 ∧ (∀ e ∈ l, Pl e ∧ Bt e) ∧ (l.all isRat = true → SumOk l)) : AskOk 8 d t :=
  ⟨by decide, fun _ => ⟨p, h⟩, fun z => by omega, fun z => by omega⟩
theorem ask0 {w : Int} {d t : D} (hw : w = 0 ∨ w = 9) (p : plainD d = true) (p2 : plainD t = true) (h : BtW d) (h2 : BtW t) : AskOk w d t :=
  ⟨by omega, fun z => by omega, fun _ => ⟨p, p2, h, h2⟩, fun z => by omega⟩
theorem ask1 {w : Int} {d t : D} (hw : 1 ≤ w ∧ w ≤ 7) (p : Pl d) (p2 : Pl t) (h : Bt d) (h2 : Bt t) : AskOk w d t :=
  ⟨by omega, fun z => by omega, fun z => by omega, fun _ => ⟨p, p2, h, h2⟩⟩
theorem NotI.bt {d : D} (h : NotI d) : BtW d := fun a e => by
  subst e
  cases h.2
theorem bad3 {w : Int} {one two x y z : D} {Q : D → Prop} (q : ∀ one' two', AskOk w one' two' → Q (.tup [.int w, one', two'])) : True := trivial
abbrev s_bad_ask : Stmt := topS 73
abbrev N_bad_ask : List Str := ["store", "way", "ask", "listed", "bad", "spot"]
abbrev P_bad_ask : List Str := ["store", "way", "ask"]
theorem sc_bad_ask : FnScope N_bad_ask P_bad_ask (defScope s_bad_ask) := ⟨rfl, rfl, rfl, by decide +kernel, rfl, by decide +kernel, by decide +kernel⟩

section
variable {P : Program} {w : World} {K : PySem.W.Frag} {mg : Str → Option Value} {base : Heap}
theorem ok_bad_ask (T : Txt K mg) : FnOk P w K mg base (L2N.CX P w) 175 T.dbad_ask.f T.dbad_ask.fd P_bad_ask (spD K 3 m_bad_ask) := by
  have G_take : FnOk P w K mg base (L2N.CX P w) 171 T.dtake.f T.dtake.fd P_take (spD K 2 m_take) := ok_takeD T
  have G_edge : FnOk P w K mg base (L2N.CX P w) 172 T.dedge.f T.dedge.fd P_edge (spD K 2 m_take) := ok_edgeD T
  have G_not_integer : FnOk P w K mg base (L2N.CX P w) 173 T.dnot_integer.f T.dnot_integer.fd P_not_integer (spD K 1 m_not_integer) := ok_not_integer T
  have G_not_ratio : FnOk P w K mg base (L2N.CX P w) 174 T.dnot_ratio.f T.dnot_ratio.fd P_not_ratio (spD K 2 m_not_ratio) := ok_not_ratio T
  refine T.dbad_ask.okD sc_bad_ask fun cdv A outer s H E so A0 hr tk hp => ⟨_, (pds_cons (pds_if (PDW.t (pdw_and (pdt_cmp (oo_eq hr.units) ol_eq (pd_var (pv 1)) pd_int (nomark _)) (pdw_and1 (pdt_cmp (oo_eq hr.units) ol_eq (pd_call G_take (hr.mono (by omega)) (by rfl) T.dtake.g T.dtake.F.kp T.dtake.b (fun σ => L2N.passAt tk σ) (pda_cons (pd_var (pv 0)) (pda_cons pd_int pda_nil))) pd_int (nomark _)))))
        (pds_one (pds_ret (pd_tup (pda_cons pd_int (pda_cons (pd_ix ix_seq ol_ix (pd_new (pdn_lst (pda_cons pd_non (pda_cons (pd_tup pda_nil) (pda_cons (pd_callTy oo_tuple cl_tuple (by rfl) T.m_tuple bt_tuple (pda_cons (pd_ix ix_seq ol_ix (pd_var (pv 2)) pd_int (fun _ _ => rfl)) pda_nil)) (pda_cons pd_dnew (pda_cons (pd_tup (pda_cons pd_int (pda_cons pd_int pda_nil))) (pda_cons pd_int (pda_cons pd_str pda_nil))))))))) (pd_call G_take (hr.mono (by omega)) (by rfl) T.dtake.g T.dtake.F.kp T.dtake.b (fun σ => L2N.passAt tk σ) (pda_cons (pd_var (pv 0)) (pda_cons pd_int pda_nil))) (fun _ _ => rfl)) (pda_cons pd_non pda_nil))))))
        pds_nil)
      (pds_cons (pds_if (pdt_cmp (oo_eq hr.units) ol_eq (pd_var (pv 1)) pd_int (nomark _))
        (pds_cons (pds_setN (i := 3) sc_bad_ask.nd rfl (by first | exact .inl rfl | exact .inr rfl) (pdn_list (by rfl) T.m_list (pda_cons (pd_ix ix_seq ol_ix (pd_var (pv 2)) pd_int (fun _ _ => rfl)) pda_nil)))
        (pds_cons (pds_ins (pv 3) (pda_cons (pd_call G_edge (hr.mono (by omega)) (by rfl) T.dedge.g T.dedge.F.kp T.dedge.b (fun σ => L2N.passAt tk σ) (pda_cons (pd_var (pv 0)) (pda_cons (pd_op oo_add ol_add (pd_lenO (by rfl) T.m_len (pv 3)) pd_int) pda_nil))) (pda_cons (pd_call G_not_ratio (hr.mono (by omega)) (by rfl) T.dnot_ratio.g T.dnot_ratio.F.kp T.dnot_ratio.b (fun σ => L2N.passAt tk σ) (pda_cons (pd_var (pv 0)) (pda_cons pd_bl pda_nil))) pda_nil)) rfl rfl rfl rfl rfl rfl)
        (pds_frz 3 (pds_one (pds_ret (pd_tup (pda_cons pd_int (pda_cons (pd_var (pv 3)) (pda_cons pd_non pda_nil)))))))))
        pds_nil)
      (pds_cons (pds_if (PDW.t (pdw_or (pdt_cmp (oo_eq hr.units) ol_eq (pd_var (pv 1)) pd_int (nomark _)) (pdw_or1 (pdt_cmp (oo_eq hr.units) ol_eq (pd_var (pv 1)) pd_int (nomark _)))))
        (pds_one (pds_set (i := 4) sc_bad_ask.nd rfl (by first | exact .inl rfl | exact .inr rfl) (pd_new (pdn_lst (pda_cons (pd_call G_not_integer (hr.mono (by omega)) (by rfl) T.dnot_integer.g T.dnot_integer.F.kp T.dnot_integer.b (fun σ => L2N.passAt tk σ) (pda_cons (pd_var (pv 0)) pda_nil)) (pda_cons (pd_call G_not_integer (hr.mono (by omega)) (by rfl) T.dnot_integer.g T.dnot_integer.F.kp T.dnot_integer.b (fun σ => L2N.passAt tk σ) (pda_cons (pd_var (pv 0)) pda_nil)) (pda_cons pd_int pda_nil)))))))
        (pds_one (pds_set (i := 4) sc_bad_ask.nd rfl (by first | exact .inl rfl | exact .inr rfl) (pd_new (pdn_lst (pda_cons (pd_call G_not_ratio (hr.mono (by omega)) (by rfl) T.dnot_ratio.g T.dnot_ratio.F.kp T.dnot_ratio.b (fun σ => L2N.passAt tk σ) (pda_cons (pd_var (pv 0)) (pda_cons pd_bl pda_nil))) (pda_cons (pd_call G_not_ratio (hr.mono (by omega)) (by rfl) T.dnot_ratio.g T.dnot_ratio.F.kp T.dnot_ratio.b (fun σ => L2N.passAt tk σ) (pda_cons (pd_var (pv 0)) (pda_cons pd_bl pda_nil))) (pda_cons (pd_tup (pda_cons pd_int (pda_cons pd_int pda_nil))) pda_nil))))))))
      (pds_cons (pds_set (i := 5) sc_bad_ask.nd rfl (by first | exact .inl rfl | exact .inr rfl) (pd_call G_take (hr.mono (by omega)) (by rfl) T.dtake.g T.dtake.F.kp T.dtake.b (fun σ => L2N.passAt tk σ) (pda_cons (pd_var (pv 0)) (pda_cons pd_int pda_nil))))
      (pds_cons (pds_if (pdt_cmp op_lt ol_lt (pd_var (pv 5)) pd_int (nomark _))
        (pds_one (pds_ret (pd_tup (pda_cons (pd_var (pv 1)) (pda_cons (pd_ix ix_seq ol_ix (pd_var (pv 4)) pd_int (fun _ _ => rfl)) (pda_cons (pd_ix ix_seq ol_ix (pd_new (pdn_lst (pda_cons (pd_ix ix_seq ol_ix (pd_var (pv 2)) pd_int (fun _ _ => rfl)) (pda_cons (pd_ix ix_seq ol_ix (pd_var (pv 4)) pd_int (fun _ _ => rfl)) pda_nil)))) (pd_var (pv 5)) (fun _ _ => rfl)) pda_nil))))))
        pds_nil)
      (pds_cons (pds_if (pdt_cmp (oo_eq hr.units) ol_eq (pd_var (pv 5)) pd_int (nomark _))
        (pds_one (pds_ret (pd_tup (pda_cons (pd_var (pv 1)) (pda_cons (pd_ix ix_seq ol_ix (pd_var (pv 4)) pd_int (fun _ _ => rfl)) (pda_cons (pd_ix ix_seq ol_ix (pd_var (pv 4)) pd_int (fun _ _ => rfl)) pda_nil))))))
        pds_nil)
      (pds_one (pds_ret (pd_tup (pda_cons (pd_var (pv 1)) (pda_cons (pd_ix ix_seq ol_ix (pd_var (pv 2)) pd_int (fun _ _ => rfl)) (pda_cons (pd_ix ix_seq ol_ix (pd_var (pv 4)) (pd_op oo_add ol_add (pd_op op_modN ol_mod (pd_callTy c_int1 cl_int1 (by rfl) T.m_int bt_int (pda_cons (pd_var (pv 5)) pda_nil)) pd_int) pd_int) (fun _ _ => rfl)) pda_nil)))))))))))), fun ds Q E hl h => ?_⟩
  unfold m_bad_ask at h
  split at h
  · rename_i v w one two
    obtain ⟨rfl, A, k8, q⟩ := h
    walk_at "wk"
    by_cases e8 : v = 8
    · subst e8
      obtain ⟨l, rfl, hl⟩ := k8 rfl
      simp only [decide_true]
      walk_at "wk"
      obtain ⟨_, A8, _, _⟩ := A
      obtain ⟨p, lk⟩ := A8 rfl
      obtain ⟨_, he, _⟩ := lk l rfl
      refine ⟨by decide, fun r r0 r1 => ?_⟩
      walk_at "wk"
      by_cases z : r = 0
      · simp only [decide_eq_true z, if_true, dDNew]
        refine ⟨by decide, ?_⟩
        refine ⟨by decide, fun r r0 r1 => ?_⟩
        refine ddIx_any r0 (by show r < 7; omega) fun d hd => q d .non ?_
        simp only [List.mem_cons, List.not_mem_nil, or_false] at hd
        rcases hd with rfl | rfl | rfl | rfl | rfl | rfl | rfl <;> exact ask8 rfl (fun l e => by cases e)
      · simp only [decide_eq_false z, Bool.false_eq_true, if_false]
        refine ⟨big_of (by omega), fun r2 a0 a1 => ?_⟩
        refine fun d nd => ⟨a0, by omega, by rw [sizeLine_eq]; omega, q _ _ (ask8 rfl fun l' e' => ?_)⟩
        cases e'
        refine ⟨by simp only [List.length_append, List.length_take, List.length_drop, List.length_cons, List.length_nil]; omega, fun e hm => ?_, fun hall => ?_⟩
        · rcases List.mem_append.mp hm with hm | hm
          · rcases List.mem_append.mp hm with hm | hm
            · exact he e (List.mem_of_mem_take hm)
            · rw [List.mem_singleton.mp hm]
              exact ⟨nd.1, nd.2.1⟩
          · exact he e (List.mem_of_mem_drop hm)
        · have := List.all_eq_true.mp hall d (List.mem_append.mpr (.inl (List.mem_append.mpr (.inr (List.mem_singleton.mpr rfl)))))
          rw [nd.2.2] at this
          cases this
    · simp only [decide_eq_false e8]
      walk_at "wk"
      by_cases e0 : v = 0 ∨ v = 9
      · obtain ⟨p1, p2, b1, b2⟩ := A.2.2.1 e0
        have bz : BtW (.int 0) := fun a e => by
          cases e
          exact Nat.pow_pos (by decide)
        rcases e0 with rfl | rfl
        · have e0 : (0 : Int) = 0 ∨ (0 : Int) = 9 := .inl rfl
          walk_at "wk"
          refine fun x hx => fun y hy => ⟨by decide, fun r r0 r1 => ?_⟩
          walk_at "wk"
          by_cases c2 : r < 2
          · simp only [decide_eq_true c2, if_true]
            refine ddIx_any r0 (by show r < 2; omega) fun d hd => q _ _ ?_
            simp only [List.mem_cons, List.not_mem_nil, or_false] at hd
            rcases hd with rfl | rfl
            · exact ask0 e0 hx.1 p2 hx.bt b2
            · exact ask0 e0 hx.1 rfl hx.bt bz
          · simp only [decide_eq_false c2, Bool.false_eq_true, if_false]
            walk_at "wk"
            by_cases c3 : r = 2
            · simp only [decide_eq_true c3, if_true]
              exact q _ _ (ask0 e0 hx.1 hy.1 hx.bt hy.bt)
            · simp only [decide_eq_false c3, Bool.false_eq_true, if_false]
              refine ⟨by decide, ?_⟩
              have c4 : r = 3 ∨ r = 4 := by omega
              rcases c4 with rfl | rfl
              · show ddIx _ (.int 1) _
                rw [ddIx_l1]
                exact q _ _ (ask0 e0 p1 hy.1 b1 hy.bt)
              · show ddIx _ (.int 2) _
                rw [ddIx_l2]
                exact q _ _ (ask0 e0 p1 rfl b1 bz)
        · have e0 : (9 : Int) = 0 ∨ (9 : Int) = 9 := .inr rfl
          simp only [show decide ((9 : Int) = 0) = false by decide]
          walk_at "wk"
          refine fun x hx => fun y hy => ⟨by decide, fun r r0 r1 => ?_⟩
          walk_at "wk"
          by_cases c2 : r < 2
          · simp only [decide_eq_true c2, if_true]
            refine ddIx_any r0 (by show r < 2; omega) fun d hd => q _ _ ?_
            simp only [List.mem_cons, List.not_mem_nil, or_false] at hd
            rcases hd with rfl | rfl
            · exact ask0 e0 hx.1 p2 hx.bt b2
            · exact ask0 e0 hx.1 rfl hx.bt bz
          · simp only [decide_eq_false c2, Bool.false_eq_true, if_false]
            walk_at "wk"
            by_cases c3 : r = 2
            · simp only [decide_eq_true c3, if_true]
              exact q _ _ (ask0 e0 hx.1 hy.1 hx.bt hy.bt)
            · simp only [decide_eq_false c3, Bool.false_eq_true, if_false]
              refine ⟨by decide, ?_⟩
              have c4 : r = 3 ∨ r = 4 := by omega
              rcases c4 with rfl | rfl
              · show ddIx _ (.int 1) _
                rw [ddIx_l1]
                exact q _ _ (ask0 e0 p1 hy.1 b1 hy.bt)
              · show ddIx _ (.int 2) _
                rw [ddIx_l2]
                exact q _ _ (ask0 e0 p1 rfl b1 bz)
      · have e1 : 1 ≤ v ∧ v ≤ 7 := by
          have := A.1
          omega
        obtain ⟨p1, p2, b1, b2⟩ := A.2.2.2 e1
        have bz : Bt (ratD 0 1) := fun a b e => by
          cases e
          exact ⟨Nat.pow_pos (by decide), Nat.one_lt_two_pow (by decide)⟩
        simp only [decide_eq_false (fun z => e0 (.inl z) : ¬ v = 0), decide_eq_false (fun z => e0 (.inr z) : ¬ v = 9)]
        walk_at "wk"
        refine fun x hx => fun y hy => ⟨by decide, fun r r0 r1 => ?_⟩
        walk_at "wk"
        by_cases c2 : r < 2
        · simp only [decide_eq_true c2, if_true]
          refine ddIx_any r0 (by show r < 2; omega) fun d hd => q _ _ ?_
          simp only [List.mem_cons, List.not_mem_nil, or_false] at hd
          rcases hd with rfl | rfl
          · exact ask1 e1 hx.1 p2 hx.2.1 b2
          · exact ask1 e1 hx.1 (pl_rat 0 1) hx.2.1 bz
        · simp only [decide_eq_false c2, Bool.false_eq_true, if_false]
          walk_at "wk"
          by_cases c3 : r = 2
          · simp only [decide_eq_true c3, if_true]
            exact q _ _ (ask1 e1 hx.1 hy.1 hx.2.1 hy.2.1)
          · simp only [decide_eq_false c3, Bool.false_eq_true, if_false]
            refine ⟨by decide, ?_⟩
            have c4 : r = 3 ∨ r = 4 := by omega
            rcases c4 with rfl | rfl
            · show ddIx _ (.int 1) _
              rw [ddIx_l1]
              exact q _ _ (ask1 e1 p1 hy.1 b1 hy.2.1)
            · show ddIx _ (.int 2) _
              rw [ddIx_l2]
              exact q _ _ (ask1 e1 p1 (pl_rat 0 1) b1 bz)
  · exact h.elim
end
end My
namespace My
open PySem PySem.Spec PyProof.Rows L2
/-! ### a list's end, and list comprehensions, while an exception is handled -/
section
variable {prog : Program} {w : World} {A : Around} {E : Value → Shared → Prop} {s : Shared}
theorem list_end_hot {it l z : Addr} {i : Nat} {items : Array Value} {Q : Option Value → Shared → Prop} (hot : HotX.HotAt A z s.heap) (nz : z ≠ it) (ti : s.heap.IsListIter it l i) (tl : s.heap.IsList l items) (e : items[i]? = none)
    (q : ∀ h', (∀ b o, b ≠ it → s.heap.get? b = some o → h'.get? b = some o) → Q none { s with heap := h' }) : wpAny (model prog w) A (pyNext (.ref it)) Q E s := by
  obtain ⟨u, gu, cu, du⟩ := id ti
  obtain ⟨ul, gl, _, nl, dl⟩ := tl
  obtain ⟨hh, o1, vs1, g1, d1, c1⟩ := hot
  unfold pyNext
  refine wpAny_bind (wpAny_attempt (wpAny_callSpecial?_slot (name := Str.ofString "__next__") ti.typeIs slot_listiter_next (wpAny_call_entry slot_listiter_next ti.typeIs entry_listiter_next ?_ (args_listiter_next _))))
  show wpAny _ A.in1 (field (.ref it) 0 >>= _) _ _ s
  refine wpAny_bind (wpAny_field gu du (x := Value.ref l) rfl ?_)
  rw [if_neg (show ¬ (Value.ref l == Value.none) = true by exact Bool.false_ne_true)]
  refine wpAny_bind (wpAny_field gu du (x := Value.int i 0) rfl (wpAny_bind (wpAny_seqItems gl dl ?_)))
  simp only [e, Int.toNat_natCast]
  refine wpAny_bind (wpAny_rule (wpAny_bind (wpAny_setField gu du (by simp) ?_)))
  generalize hk : s.heap.update it (Obj.mapFields fun x => x.setIfInBounds 0 Value.none) = h1
  have kp : ∀ b o, b ≠ it → s.heap.get? b = some o → h1.get? b = some o := fun b o n g => by
    rw [← hk, Heap.get?_update_other _ _ (Ne.symm n)]
    exact g
  have g2 := kp z o1 nz g1
  unfold Builtin.SmallTypes.stopIteration
  refine wpAny_bind ?_
  simp only [newTuple, newExc]
  refine wpAny_bind (wpAny_newObj_type (wpAny_bind (m := firstArgMember _ _) (wpAny_of_eq (a := Value.none) (by first | rfl | (simp only [firstArgMember]; rfl)) (wpAny_newObj_type ?_ (by size_fits)))) (by size_fits))
  refine HotX.raiseNew_hot ⟨hh, o1, vs1, Heap.get?_push_of_some _ (Heap.get?_push_of_some _ g2), d1, c1⟩ (Nat.ne_of_lt (Heap.lt_size (Heap.get?_push_of_some _ g2))) (Heap.get?_push_size _ rfl) rfl (by first | (simp; done) | (simp; omega)) ?_
  refine wpAny_bind (wpAny_isInstance (T := "StopIteration") (b := true) ⟨_, Heap.get?_update_self _ (Heap.get?_push_size _ rfl) rfl, rfl⟩ isSubtype_stop (wpAny_pure (q _ fun b o n g => ?_)))
  have g3 := kp b o n g
  rw [Heap.get?_update_other _ _ (Nat.ne_of_gt (Heap.lt_size (Heap.get?_push_of_some _ g3)))]
  exact Heap.get?_push_of_some _ (Heap.get?_push_of_some _ g3)
end
section
variable {X : Cx} {pins : List (Addr × Obj)} {σ : L2.St} {H : Hp} {s : Shared} {Q : VK} {elt tg iter : Expr} {ifs : List Expr} {scope : Scope} {own : List (Str × Nat)} {pos : Pos} {g : TG} {tt : TT} {te : TE}
theorem lc_rest {a it : Addr} {use : Option (Value → Sem Unit)} {Qf : Value → Shared → Prop} (hot : L2H.HotC X) (hN : X.N.Nodup) (I : Inv X pins σ H s) (ti : s.heap.IsListIter it a 0) (fi : FpOk X pins H it) (ok : BlkOk X.N X.env.scope scope own)
    (hg : ∀ (s : Shared) (H : Hp) (C : Addr) (cl : List (Str × Addr)) (fp : List Addr), PG (X.blk s H scope (compEnvC scope cl C X.env) fp) tg g)
    (ht : ∀ (s : Shared) (H : Hp) (C : Addr) (cl : List (Str × Addr)) (fp : List Addr), PTs (X.blk s H scope (compEnvC scope cl C X.env) fp) ifs tt)
    (he : ∀ (s : Shared) (H : Hp) (C : Addr) (cl : List (Str × Addr)) (fp : List Addr), PE (X.blk s H scope (compEnvC scope cl C X.env) fp) elt te)
    (q : ∀ D, H D = none → ∃ W : Nat → Nat → Hp → Prop, (∃ m, W 0 m (upd H D (.lst []))) ∧ ∀ i m H, W i m H → ((Itl X.K a).stop i H ∧ Q (.ref D) H) ∨
      ((Itl X.K a).go i H ∧ ∃ Nx : Hp → Prop, (∀ H', Nx H' → ∃ m', m' < m ∧ W (i + 1) m' H') ∧ ∀ x H', (Itl X.K a).yld i H x H' → g x (wipe σ (own.map (·.2))) H' fun σ2 H2 => wipe σ2 (own.map (·.2)) = wipe σ (own.map (·.2)) ∧
        tt σ2 H2 fun b H3 => if b = true then te σ2 H3 fun y H4 => ∃ acc, H4 D = some (.lst acc) ∧ acc.length < sizeLine ∧ Nx (upd H4 D (.lst (acc ++ [y]))) else Nx H3))
    (fit : ∀ D C s' m H', Inv X pins σ H' s' → Q (.ref D) H' → s'.heap.Ns C m → FpOk X pins H' C → compPost (model X.prog X.w) X.A X.xe use Qf (.ref D) C (.ok .next) s') :
    wpAny (model X.prog X.w) X.A (newList []) (fun acc s3 => wpAny (model X.prog X.w) X.A (newFunctionEnv scope X.env.globals (cloFrom X.env.cells scope.names []) [] X.env.qual none .none (some X.env)) (fun cenv s4 =>
      codeAny (model X.prog X.w) X.A (.compStart (.ListComp elt [⟨tg, iter, ifs, 0⟩] scope pos) 0 (.ref it) acc { cenv with scope := relabel scope X.env })
        (compPost (model X.prog X.w) X.A X.xe use Qf acc cenv.locals) s4) X.xe s3) X.xe s := by
  refine wpAny_newObj_type (newEnv_comp ?_) (show (0 : Nat) ≤ sizeLine by decide)
  obtain ⟨D, eD⟩ : ∃ D, s.heap.objs.size = D := ⟨_, rfl⟩
  rw [eD]
  have nD : H D = none := I.hok.fresh (Nat.le_of_eq eD)
  obtain ⟨W, ⟨m0, w0⟩, turn⟩ := q D nD
  obtain ⟨ou, gu, cu, du⟩ := id ti
  have lit : it < s.heap.objs.size := Heap.lt_size gu
  generalize e3 : ({ s with heap := s.heap.push { cls := .type "list", data := .seq ([] : List Value).toArray } } : Shared) = s3
  have h3 : s3.heap = s.heap.push { cls := .type "list", data := .seq ([] : List Value).toArray } := e3 ▸ rfl
  have I3 : Inv X pins σ (upd H D (.lst [])) s3 := by
    rw [← e3]
    exact I.laid (t' := s.toks) (fun b o z => Heap.get?_push_of_some _ z) (Nat.le_of_eq eD) ⟨Nat.zero_le _, [], 0, .nil, by rw [← eD]; exact Heap.get?_push_size _ rfl⟩
  have fi3 : FpOk X pins (upd H D (.lst [])) it := ⟨by rw [upd_ne (by rw [← eD]; exact Nat.ne_of_lt lit)]; exact fi.1, fi.2⟩
  have ti3 : s3.heap.IsListIter it a 0 := ⟨ou, by rw [h3]; exact Heap.get?_push_of_some _ gu, cu, du⟩
  have I4 := block_start (fp := [it]) I3 ok hN fun b hb => by
    rw [List.mem_singleton.mp hb]
    exact ⟨fi3, by rw [h3, Heap.size_push]; exact Nat.lt_succ_of_lt lit⟩
  obtain ⟨cl, ecl⟩ : ∃ cl, cellsFrom (s3.heap.objs.size + 1) scope.names (cloFrom X.env.cells scope.names []) = cl := ⟨_, rfl⟩
  show codeAny _ _ (.compStart (.ListComp elt [⟨tg, iter, ifs, 0⟩] scope pos) 0 (.ref it) (.ref D) (compEnvC scope (cellsFrom (s3.heap.objs.size + 1) scope.names (cloFrom X.env.cells scope.names [])) s3.heap.objs.size X.env))
    (compPost (model X.prog X.w) X.A X.xe use Qf (.ref D) s3.heap.objs.size) { s3 with heap := pushCells (s3.heap.push { cls := .type "dict", data := .dict #[] }) scope.names }
  rw [ecl] at I4 ⊢
  have pg := hg s3 (upd H D (.lst [])) s3.heap.objs.size cl [it]
  have pt := ht s3 (upd H D (.lst [])) s3.heap.objs.size cl [it]
  have pe := he s3 (upd H D (.lst [])) s3.heap.objs.size cl [it]
  have ti4 : Heap.IsListIter (pushCells (s3.heap.push { cls := .type "dict", data := .dict #[] }) scope.names) it a 0 := ⟨ou, pushCells_keeps _ _ _ _ (Heap.get?_push_of_some _ (by rw [h3]; exact Heap.get?_push_of_some _ gu)), cu, du⟩
  -- the exception that is handled
  obtain ⟨⟨z, zo⟩, ⟨hh, zv, dz, cz⟩, hz⟩ := hot
  obtain ⟨gz, nz, nzL, nzF, _⟩ := I3.pin (z, zo) (List.mem_append_left _ hz)
  have zit : z ≠ it := fi.2.2.2.2.2 (z, zo) (List.mem_append_left _ hz)
  have zst : z ∉ frs X.stack := fun hm => (List.mem_cons.mp (I3.stkSub z hm)).elim nzL nzF
  generalize hce : compEnvC scope cl s3.heap.objs.size X.env = ce at I4 pg pt pe ⊢
  have cL : ce.locals = s3.heap.objs.size := by subst hce; rfl
  generalize hH3 : upd H D (.lst []) = H3 at I3 I4 pg pt pe w0 fi3 nz
  generalize hs4 : ({ s3 with heap := pushCells (s3.heap.push { cls := .type "dict", data := .dict #[] }) scope.names } : Shared) = s4 at I4 ⊢
  have ti4 : s4.heap.IsListIter it a 0 := by
    rw [← hs4]
    exact ti4
  have fpo : ∀ {σ' : L2.St} {H' : Hp} {s' : Shared}, Inv (X.blk s3 H3 scope ce [it]) [] σ' H' s' → H' it = none → FpOk (X.blk s3 H3 scope ce [it]) [] H' it := fun {σ' H' s'} J n =>
    have m : it ∈ [it] := List.mem_singleton.mpr rfl
    ⟨n, (J.ok.exf it m).1, J.ok.exfs it m, .inl m, fun x c e => (J.ok.exf it m).2 x c e, fun p hp => by cases hp⟩
  have loop : codeAny (model X.prog X.w) X.A (.compLoop (.ListComp elt [⟨tg, iter, ifs, 0⟩] scope pos) 0 (.ref it) (.ref D) ce) (compPost (model X.prog X.w) X.A X.xe use Qf (.ref D) s3.heap.objs.size) s4 := by
    refine compLoop_any (fun n s' => ∃ i H', Inv (X.blk s3 H3 scope ce [it]) [] (wipe σ (own.map (·.2))) H' s' ∧ s'.heap.IsListIter it a i ∧ H' it = none ∧ W i n H') ?_ m0 ⟨0, H3, I4, ti4, fi3.1, w0⟩
    rintro n s5 ⟨i, H5, I5, ti5, n5, w5⟩
    obtain ⟨f0, f1, f2, f3, f4, f5⟩ := fpo I5 n5
    rcases turn i n H5 w5 with ⟨⟨xs, hq, hx⟩, qq⟩ | ⟨⟨xs, x, hq, hx⟩, Nx, hNx, step⟩
    · obtain ⟨its, rv, p, hz5⟩ := I5.list hq
      have hl := rv.length
      have g5 : s5.heap.get? z = some zo := I5.base.keep z zo gz nz zst fun hm => zit (List.mem_singleton.mp hm)
      refine list_end_hot ⟨hh, zo, zv, g5, dz, cz⟩ zit ti5 p.isList (by simp; omega) fun h' kb => ?_
      have I6 : Inv (X.blk s3 H3 scope ce [it]) [] (wipe σ (own.map (·.2))) H5 { s5 with heap := h' } := I5.turned (t' := s5.toks) kb f0 f1 f3 f4 f5
      have I7 : Inv X pins σ H5 { s5 with heap := h' } := I3.call' (ch := [it]) I6.os I6.base I6.hok I6.bare fun b hb => by
        rw [List.mem_singleton.mp hb]
        exact ⟨fi3.2.2.2.1, fi3.2.1, fi3.2.2.2.2.1, fi3.2.2.2.2.2⟩
      have nC : H5 s3.heap.objs.size = none := by
        have y : H5 ce.locals = none := I6.free
        rw [cL] at y
        exact y
      obtain ⟨m, hn, _⟩ := I6.loc
      have hn : Heap.Ns h' ce.locals m := hn
      rw [cL] at hn
      exact fit D s3.heap.objs.size _ m H5 I7 qq hn (I3.fpOk (Nat.le_refl _) nC)
    · obtain ⟨its, rv, p, hz5⟩ := I5.list hq
      obtain ⟨u, hu, ru⟩ := rv.get hx
      refine wpAny_pyNext_list_item ti5 p.isList (x := u) (by simpa using hu) fun h' ti6 sb => ?_
      have I6 : Inv (X.blk s3 H3 scope ce [it]) [] (wipe σ (own.map (·.2))) H5 { s5 with heap := h' } := I5.turned (t' := s5.toks) (fun b o hb e => (sb.2 b hb).trans e) f0 f1 f3 f4 f5
      obtain ⟨o6, g6, k6, d6⟩ := id ti6
      have ob : ∀ b ∈ [it], ∃ o, h'.get? b = some o ∧ ∀ v, o.data ≠ .cell v := fun b hb => by
        rw [List.mem_singleton.mp hb]
        exact ⟨o6, g6, fun v y => by rw [d6] at y; cases y⟩
      have I7 := I6.pinned (fp := [it]) (fun b hb => by rw [List.mem_singleton.mp hb]; exact fpo I6 n5) ob
      refine go_of (s := { s5 with heap := h' }) g6 k6 d6 (by decide) ?_
      refine thnF (pg.run _ _ _ H5 x u _ I7 ru (step x H5 ⟨rfl, fun ys hy => by rw [I5.list_inj hy hq]; exact hx⟩)) fun _ s8 ⟨σ8, H8, I8, hw8, q8⟩ => ?_
      refine thnF (pt.run _ s8 σ8 H8 _ I8 q8) fun b s9 ⟨H9, I9, q9⟩ => ?_
      have fin : ∀ {s' : Shared} {H' : Hp}, Inv (X.blk s3 H3 scope ce [it]) ([] ++ pinsAt [it] h') σ8 H' s' → Nx H' → ∃ m, m < n ∧ ∃ i H', Inv (X.blk s3 H3 scope ce [it]) [] (wipe σ (own.map (·.2))) H' s' ∧ s'.heap.IsListIter it a i ∧ H' it = none ∧ W i m H' := fun {s' H'} J nx => by
        obtain ⟨m', hm, w'⟩ := hNx H' nx
        obtain ⟨p1, p2, _⟩ := J.pin (it, o6) (List.mem_append_right _ (List.mem_append_right _ (mem_pinsAt (List.mem_singleton.mpr rfl) g6)))
        refine ⟨m', hm, i + 1, H', J.unpinned.weak (by rw [← wipe_length σ8 (own.map (·.2)), hw8]) (fun j v e => ?_), ⟨o6, p1, k6, d6⟩, p2, w'⟩
        rw [← hw8] at e
        exact (wipe_some e).1
      cases b with
      | false => exact fin I9 (by simpa using q9)
      | true =>
        have q9 := outT q9
        refine thnF (pe.run _ s9 σ8 H9 _ I9 q9) fun y s10 ⟨yv, H10, I10, r10, acc, hD10, hz10, nx⟩ => ?_
        exact app_ok (X := X.blk s3 H3 scope ce [it]) I10 hD10 hz10 r10 fun s11 I11 => fin I11 nx
  exact codeAny_compStart_list loop (wpAny_pyIter_listiter ti4 loop)
end
section
variable {X : Cx} {elt tg iter : Expr} {ifs : List Expr} {scope : Scope} {own : List (Str × Nat)} {pos : Pos} {g : TG} {tt : TT} {te ti : TE}
theorem lc_hot {pins : List (Addr × Obj)} {s : Shared} {σ : L2.St} {H : Hp} {Q : VK} {pos' : Pos} {use : Option (Value → Sem Unit)} {Qf : Value → Shared → Prop} (hot : L2H.HotC X) (hN : X.N.Nodup) (I : Inv X pins σ H s) (hi : PE X iter ti) (ok : BlkOk X.N X.env.scope scope own)
    (hg : ∀ (s : Shared) (H : Hp) (C : Addr) (cl : List (Str × Addr)) (fp : List Addr), PG (X.blk s H scope (compEnvC scope cl C X.env) fp) tg g)
    (ht : ∀ (s : Shared) (H : Hp) (C : Addr) (cl : List (Str × Addr)) (fp : List Addr), PTs (X.blk s H scope (compEnvC scope cl C X.env) fp) ifs tt)
    (he : ∀ (s : Shared) (H : Hp) (C : Addr) (cl : List (Str × Addr)) (fp : List Addr), PE (X.blk s H scope (compEnvC scope cl C X.env) fp) elt te) (hs : ∀ x, foldedSetIterable iter X.env x = pure x)
    (rd : tLc (iList X.K ti) g tt te (own.map (·.2)) σ H Q)
    (fit : ∀ D C s' m H', Inv X pins σ H' s' → Q (.ref D) H' → s'.heap.Ns C m → FpOk X pins H' C → compPost (model X.prog X.w) X.A X.xe use Qf (.ref D) C (.ok .next) s') :
    wpAny (model X.prog X.w) X.A (comprehension (.ListComp elt [⟨tg, iter, ifs, 0⟩] scope pos) scope X.env pos' (newList []) false (eval iter X.env) use) Qf X.xe s := by
  refine wpAny_comprehension_free (use := use) rfl hs (closure_ok fun y hy e => (ok.free y hy e).elim (fun k => I.ok.has _ (.inl k)) fun k => I.ok.has _ (.inr k)) ok.kind (fun y hy e => by rw [ok.uniq y hy, e]) (thn (hi.run pins s σ H _ I rd) fun xv s1 got => ?_)
  obtain ⟨x, H1, I1, rx, a, ex, ⟨xs, hq⟩, q⟩ := got
  subst ex
  cases (show xv = Value.ref a from rx)
  obtain ⟨its, rv, pl, hz⟩ := I1.list hq
  refine wpAny_pyIter_list pl.isList (lc_rest hot hN (I1.kept (t' := s1.toks) fun b o e => Heap.get?_push_of_some _ e) ⟨_, Heap.get?_push_size _ rfl, rfl, rfl⟩ ?_ ok hg ht he q fit)
  exact I1.fpOk (Nat.le_refl _) (I1.hok.fresh (Nat.le_refl _))
theorem pe_lcH (hot : L2H.HotC X) (hN : X.N.Nodup) (hi : PE X iter ti) (ok : BlkOk X.N X.env.scope scope own)
    (hg : ∀ (s : Shared) (H : Hp) (C : Addr) (cl : List (Str × Addr)) (fp : List Addr), PG (X.blk s H scope (compEnvC scope cl C X.env) fp) tg g)
    (ht : ∀ (s : Shared) (H : Hp) (C : Addr) (cl : List (Str × Addr)) (fp : List Addr), PTs (X.blk s H scope (compEnvC scope cl C X.env) fp) ifs tt)
    (he : ∀ (s : Shared) (H : Hp) (C : Addr) (cl : List (Str × Addr)) (fp : List Addr), PE (X.blk s H scope (compEnvC scope cl C X.env) fp) elt te) (hs : ∀ x, foldedSetIterable iter X.env x = pure x) :
    PE X (.ListComp elt [⟨tg, iter, ifs, 0⟩] scope pos) (tLc (iList X.K ti) g tt te (own.map (·.2))) := by
  refine ⟨fun pins s σ H Q I rd => ?_⟩
  rw [eval_ListComp]
  refine lc_hot hot hN I hi ok hg ht he hs rd fun D C s' m H' J q hn f => ⟨m, hn, fun h8 sb => ?_⟩
  obtain ⟨c0, c1, c2, c3, c4, c5⟩ := f
  exact ⟨.ref D, H', J.turned (t' := s'.toks) (fun b o hb e => (sb.2 b hb).trans e) c0 c1 c3 c4 c5, rfl, q⟩
theorem ps_setLcH {i : Nat} {y : Str} {py spos : Pos} (hot : L2H.HotC X) (hN : X.N.Nodup) (hy : X.N[i]? = some y) (hyl : X.env.scope.names.lookup y = some .local)
    (hsw : swapsWith (.ListComp elt [⟨tg, iter, ifs, 0⟩] scope pos) (some (.Name y py)) spos.line X.env = pure true) (hi : PE X iter ti) (ok : BlkOk X.N X.env.scope scope own)
    (hg : ∀ (s : Shared) (H : Hp) (C : Addr) (cl : List (Str × Addr)) (fp : List Addr), PG (X.blk s H scope (compEnvC scope cl C X.env) fp) tg g)
    (ht : ∀ (s : Shared) (H : Hp) (C : Addr) (cl : List (Str × Addr)) (fp : List Addr), PTs (X.blk s H scope (compEnvC scope cl C X.env) fp) ifs tt)
    (he : ∀ (s : Shared) (H : Hp) (C : Addr) (cl : List (Str × Addr)) (fp : List Addr), PE (X.blk s H scope (compEnvC scope cl C X.env) fp) elt te) (hs : ∀ x, foldedSetIterable iter X.env x = pure x) :
    PS X (.Assign [.Name y py] (.ListComp elt [⟨tg, iter, ifs, 0⟩] scope pos) spos) (tAsg (tLc (iList X.K ti) g tt te (own.map (·.2))) (gName i)) := by
  refine ⟨fun pins s σ H D I rd => ?_⟩
  rw [exec_Assign_Name_used _ _ _ _ hsw]
  refine wpAny_bind (wpAny_standAt (wpAny_bind ?_))
  show wpAny _ X.A (do
    let _ ← comprehension (.ListComp elt [⟨tg, iter, ifs, 0⟩] scope pos) scope X.env (firstIterPos [⟨tg, iter, ifs, 0⟩] pos) (newList []) false (eval iter X.env) (some (assign (.Name y py) X.env))) _ _ s
  have rd : tLc (iList X.K ti) g tt te (own.map (·.2)) σ H (fun x H1 => gName i x σ H1 D.nx) := rd
  refine wpAny_bind (thn (lc_hot (Qf := fun _ s' => SP X pins D .next s') hot hN I hi ok hg ht he hs rd fun L C s' m H' J q hn f => ?_) fun _ s' hq => wpAny_pure (wpAny_pure hq))
  show wpAny _ _ (assign (.Name y py) X.env (Value.ref L)) _ _ s'
  obtain ⟨c0, c1, c2, c3, c4, c5⟩ := f
  refine wpAny_assign_Name (store_ok2 (v := V.ref L) J hN hy (.inl hyl) rfl (fun s2 I2 ⟨a, sb, ha⟩ => ?_) (.inr hyl))
  have nC : C ≠ a := ha.elim (fun z => by rw [z]; exact c1) fun z e => c4 y a z e.symm
  exact ⟨m, hn.sameBut sb nC, fun h3 sb3 => ⟨_, H', I2.turned (t' := s2.toks) (fun b o hb e => (sb3.2 b hb).trans e) c0 c1 c3 c4 c5, q⟩⟩
end
section
variable {X : Cx} {g : Gx} {EX : EXT} {tg iter elt : Expr} {ifs : List Expr} {scope : Scope} {own : List (Str × Nat)} {pos : Pos} {gr : DG} {tt : DT} {te r : DE}
theorem iL_list {σ : L2.St} {H : Hp} {R : It → Hp → Prop} (h : lI X.K g EX (iL r) σ H R) : iList X.K (lE X.K g EX r) σ H R := by
  obtain ⟨A, ρ, Qd, Ed, S, q, cx, k⟩ := h
  refine ⟨A, ρ, _, Ed, S, q, fun d v A1 H1 x1 da q => ?_, cx⟩
  have q : onL d Qd := q
  unfold onL at q
  split at q
  · obtain ⟨p, xs, rfl, hs, qa⟩ := da
    exact ⟨p, rfl, ⟨xs, SqL.of (x1.good.sub _ _ hs)⟩, k _ _ A1 H1 x1 (turns_list (SqL.of hs) qa) q⟩
  · exact q.elim
/-- name = [..], owned, while an exception is handled -/
theorem pds_setLcH {i : Nat} {y : Str} {py spos : Pos} (hot : L2H.HotC X) (hN : X.N.Nodup) (hy : X.N[i]? = some y) (hyl : X.env.scope.names.lookup y = some .local)
    (hsw : swapsWith (.ListComp elt [⟨tg, iter, ifs, 0⟩] scope pos) (some (.Name y py)) spos.line X.env = pure true) (hi : PD X g EX iter r) (ok : BlkOk X.N X.env.scope scope own)
    (hg : ∀ (s : Shared) (H : Hp) (C : Addr) (cl : List (Str × Addr)) (fp : List Addr), PDGw (X.blk s H scope (compEnvC scope cl C X.env) fp) g (own.map (·.2)) tg gr)
    (ht : ∀ (s : Shared) (H : Hp) (C : Addr) (cl : List (Str × Addr)) (fp : List Addr), PDTs (X.blk s H scope (compEnvC scope cl C X.env) fp) g EXF ifs tt)
    (he : ∀ (s : Shared) (H : Hp) (C : Addr) (cl : List (Str × Addr)) (fp : List Addr), PD (X.blk s H scope (compEnvC scope cl C X.env) fp) g EXF elt te)
    (hs : ∀ x, foldedSetIterable iter X.env x = pure x := by intro _; rfl) :
    PDS X g EX (.Assign [.Name y py] (.ListComp elt [⟨tg, iter, ifs, 0⟩] scope pos) spos) (sSetN i (nComp (iL r) gr tt te (own.map (·.2)))) :=
  ⟨(ps_setLcH (i := i) (te := lE X.K g EXF te) (tt := lT X.K g EXF tt) hot hN hy hyl hsw hi.pe ok (fun s H C cl fp => (hg s H C cl fp).pg) (fun s H C cl fp => (ht s H C cl fp).pt) (fun s H C cl fp => (he s H C cl fp).pe) hs).imp fun De σ H h => by
  obtain ⟨A, ρ, DD, S, h, k⟩ := h
  have h2 : lN X.K g EX (nComp (iL r) gr tt te (own.map (·.2))) σ H (fun x H1 => gName i x σ H1 De.nx) := ⟨A, ρ, _, _, S, h, fun l xs p A1 H1 x1 hp da q => k.nx _ _ _ _ ((S.ext x1).setOw hp da) (List.length_set ..) x1.mono q, k.cx S⟩
  exact iL_list (lcD h2)⟩
end
end My
namespace My
open PySem PySem.Spec PyProof.Rows L2
/-! ### the exception that is handled, over data -/
theorem zip_look {K : PySem.W.Frag} {so : Option Addr} {A : Hp} {n : Str} {d : D} : ∀ {fs : List Str} {vs : List D} {us : List V}, DaL K so A vs us → (fs.zip vs).lookup n = some d → ∃ v, (fs.zip us).lookup n = some v ∧ Da K so A d v
  | [], _, _, _, e => by cases e
  | _ :: _, [], _, _, e => by cases e
  | f :: fs, c :: vs, us, q, e => by
    obtain ⟨v, r, e1, h1, h2⟩ := q
    subst e1
    rw [List.zip_cons_cons, List.lookup_cons] at e ⊢
    cases hb : n == f with
    | true =>
      rw [hb] at e
      cases e
      exact ⟨v, rfl, h1⟩
    | false =>
      rw [hb] at e
      exact zip_look h2 e
section
variable {X : Cx} {g : Gx} {EX : EXT} {e c : Expr} {ra : DE} {pos p : Pos} {a : Addr} {oe : Obj} {x : XD} {dx : Addr} {us : List V}
/-- what is known of the exception -/
structure XK1 (X : Cx) (g : Gx) (a : Addr) (oe : Obj) (x : XD) (dx : Addr) (us : List V) : Prop where
  pn : (a, oe) ∈ X.pn
  hot : L2H.Hot1 X.A (a, oe)
  cls : oe.cls = .ref x.C
  dict : oe.dict = some dx
  at_ : g.Ai dx = some (.xd (x.fs.zip us))
  len : us.length = x.fs.length
  da : DaL X.K g.so g.Ai x.vs us
theorem XK1.fl (k : XK1 X g a oe x dx us) : ∃ vs, oe.data = .fields vs := k.hot.2.imp fun _ z => z.1
theorem XK1.hc (k : XK1 X g a oe x dx us) : L2H.HotC X := ⟨(a, oe), k.hot, k.pn⟩
def dIsP (K : PySem.W.Frag) (x : XD) (a : Addr) (cv : Value) (ra : DE) : DE := fun ρ Q E => ra ρ (fun d => d = .exc a ∧ XC K x.C ∧ ∃ b, PySem.W.kitOne K (.ref x.C) cv = some b ∧ Q (.bl b)) E
theorem pd_isP {cc : V} {cv : Value} (k : XK1 X g a oe x dx us) (hg : Gl X "isinstance") (hm : X.mg "isinstance" = none) (ha : PD X g EX e ra) (hb : PE X c (tC cc)) (hc : ClsV cc cv)
    (he : starEach [e, c] X.env = (false, eval e X.env) :: starEach [c] X.env := by rfl) (hs : starEach [c] X.env = (false, eval c X.env) :: starEach [] X.env := by rfl) (hpl : (backTo pos (starEach [c] X.env)).any (·.1) = false := by rfl) :
    PD X g EX (.Call (.Name "isinstance" p) [e, c] [] pos) (dIsP X.K x a cv ra) :=
  ⟨(pe_callB (c_isP k.pn ⟨k.cls, k.dict⟩ k.fl) hg hm bt_isinstance (pa_cons ha.pe (pa_cons hb pa_nil hs) he) (by decide) (by decide) he hpl).imp fun σ H Q h => by
  obtain ⟨A, ρ, Qd, Ed, S, h, c, cx⟩ := h
  refine ⟨A, ρ, _, Ed, S, h, fun d v A1 H1 x1 da q => ?_, cx⟩
  obtain ⟨rfl, xc, b, kb, q⟩ := q
  have da : v = _ := da
  subst da
  exact ⟨x.C, dx, _, _, cv, b, rfl, rfl, xc, rfl, x1.good.sub _ _ (x1.mono _ _ (S.x.mono _ _ k.at_)), hc, kb, (c.ext x1).nowB x1.good q⟩⟩
def dXg (K : PySem.W.Frag) (x : XD) (a : Addr) (n : Str) (ra : DE) : DE := fun ρ Q E => ra ρ (fun d => d = .exc a ∧ XC K x.C ∧ PySem.W.findIn K (.ref x.C) n = some none ∧ ∃ d', (x.fs.zip x.vs).lookup n = some d' ∧ Q d') E
theorem pd_xg {n : Str} (k : XK1 X g a oe x dx us) (he : PD X g EX e ra) (hb : attributeBase e n X.env (eval e X.env) = eval e X.env := by rfl) : PD X g EX (.Attribute e n pos) (dXg X.K x a n ra) :=
  ⟨(pe_xg k.pn ⟨k.cls, k.dict⟩ k.fl he.pe hb).imp fun σ H Q h => by
  obtain ⟨A, ρ, Qd, Ed, S, h, c, cx⟩ := h
  refine ⟨A, ρ, _, Ed, S, h, fun d v A1 H1 x1 da q => ?_, cx⟩
  obtain ⟨rfl, xc, nf, d', lk, q⟩ := q
  have da : v = _ := da
  subst da
  have x2 := S.x.trans x1
  obtain ⟨w, lw, dw⟩ := zip_look (x2.daL k.da) lk
  exact ⟨rfl, x.C, dx, _, w, rfl, xc, nf, rfl, x1.good.sub _ _ (x2.mono _ _ k.at_), lw, (c.ext x1).now x1.good dw q⟩⟩
def dCallE (a : Addr) (x : XD) (m : XD → (D → Prop) → Prop) (ra : DE) : DE := fun ρ Q E => ra ρ (fun d => d = .exc a ∧ m x Q) E
theorem pd_callE {lv : Nat} {f : Addr} {fd : FuncData} {ps : List Str} {nm : Str} {m : XD → (D → Prop) → Prop} (k : XK1 X g a oe x dx us) (G : FnE X.prog X.w X.K X.mg X.base lv f fd ps (fun q => spXD X.K m q.1 q.2.cls q.2.dict)) (room : L2H.RoomH lv X.A)
    (gl : Gl X nm) (gm : X.mg nm = some (.ref f)) (kp : PySem.W.keepIn X.K (.ref f) = true) (bnd : Binds X.K fd ps []) (he : PD X g EX e ra) (nd : (nm == ("__debug__" : Str)) = false := by decide)
    (st1 : starEach [e] X.env = (false, eval e X.env) :: starEach [] X.env := by rfl) (st2 : (backTo pos (starEach [] X.env)).any (·.1) = false := by rfl) : PD X g EX (.Call (.Name nm p) [e] [] pos) (dCallE a x m ra) :=
  ⟨(pe_callE G room k.hot k.pn gl gm kp bnd (pa_cons he.pe pa_nil st1) nd st1 st2).imp fun σ H Q h => by
  obtain ⟨A, ρ, Qd, Ed, S, h, c, cx⟩ := h
  refine ⟨A, ρ, _, Ed, S, h, fun d v A1 H1 x1 da q => ?_, cx⟩
  obtain ⟨rfl, q⟩ := q
  have da : v = _ := da
  subst da
  have x2 := S.x.trans x1
  exact ⟨g.so, A1, x, dx, us, Qd, rfl, k.cls, k.dict, x1.good, x2.mono _ _ k.at_, k.len, x2.daL k.da, q, c.ext x1⟩⟩
end
section
variable {P : Program} {w : World} {K : PySem.W.Frag} {mg : Str → Option Value} {base : Heap}
theorem Df.okED {y : Str} {st : Stmt} {N : List Str} {en : Str} {lv : Nat} {m : XD → (D → Prop) → Prop} (D : Df K mg y st [en]) (S : FnScope N [en] (defScope st))
    (body : ∀ (q : Addr × Obj) (cdv : Value) (A : Around) (outer : List PySem.Env) (s : Shared) (H : Hp) (E : XK) (so : Option Addr) (A0 : Hp) (x : XD) (dx : Addr) (us : List V), L2H.RoomH lv (A.deeper (envOfC y (defScope st) s.heap.objs.size D.f cdv)) →
      XK1 (L2H.cxH CX0 P w K mg base N y (defScope st) D.f cdv A outer s H E q).nox ⟨so, A0, H⟩ q.1 q.2 x dx us →
      ∃ r, PDSs (L2H.cxH CX0 P w K mg base N y (defScope st) D.f cdv A outer s H E q).nox ⟨so, A0, H⟩ EXF (defBody st) r ∧ ∀ Qd, m x Qd → r ⟨fun _ => Qd .non, Qd, fun _ => False, fun _ => False, fun _ => False, False⟩ (startD N [.exc q.1])) :
    FnE P w K mg base (lv + 1) D.f D.fd [en] (fun q => spXD K m q.1 q.2.cls q.2.dict) := by
  refine D.okE S (fun q vs H Q E h => ?_) fun q cdv A outer s H vs Q E hot room h => ?_
  · obtain ⟨_, _, _, _, _, _, rfl, _⟩ := h
    rfl
  · obtain ⟨so, A0, x, dx, us, Qd, rfl, hc, hd, gd, ea, hl, da, hm, c⟩ := h
    obtain ⟨r, hr, k⟩ := body q cdv A outer s H E so A0 x dx us room ⟨List.mem_singleton.mpr rfl, hot, hc, hd, ea, hl, da⟩
    refine ⟨_, hr.pss, A0, startD N [.exc q.1], ⟨fun _ => Qd .non, Qd, fun _ => False, fun _ => False, fun _ => False, False⟩, ⟨Ext.refl gd, startOk gd (DaL.one rfl)⟩, k Qd hm, ⟨fun A1 H1 σ ρ S1 _ _ q => ?_, fun A1 H1 d v x1 d1 q => c d v A1 H1 x1 d1 q, fun _ _ _ _ _ _ _ q => q.elim, fun _ _ _ _ _ _ _ q => q.elim, fun σ _ => ?_, fun z => z.elim⟩⟩
    · exact c .non .non A1 H1 S1.x rfl q
    · exact fun _ _ _ _ _ _ _ _ _ _ q => q.elim
end
end My
set_option exponentiation.threshold 100000
namespace My
open PySem PySem.Spec PyProof.Rows L2
local macro_rules | `(tactic| walk_at "dl") => `(tactic| simp only [startD, List.map_cons, List.map_nil, List.length_cons, List.length_nil, List.cons_append, List.nil_append, List.replicate_succ, List.replicate_zero, List.getElem?_cons_zero, List.getElem?_cons_succ, List.set_cons_zero, List.set_cons_succ,
  dVar, rdS, dC, dNew, dOp, onB, qB, dChain, qAnd, qOr, qNot, qTru, truD, dIf, dAnd, dOr, dNot, dUn, ddNeg, lNil, lCons, dTup, nLst, ddI, ddI0, ddAdd, isNonD, isBlD, ddIsN, ddIsB, ddIx_t0, ddIx_t1, ddIx_t2, ddIx_t3, ddIx_l0, ddIx_l1, ddIx_l2, dCB, ddLen, ddInt1, ddAbs, ddMM, ddTuple, nCB, nnList, ddIsi, dCall,
  sSkip, sSeq, sBreak, sCont, sExpr, sRet, sRetN, sIf, sNever, gdName, gdNil, gdCons, gdTup, sAsg, sSetN, sPar, sRaise, sFrz, owS, sApp, sIns, dLenO, dIxO, sTry, sFor, iL, iT, onL, onT, iR1, iR2, nComp, qYes,
  ddEq_ii, ddEq_ss, ddEq_bb, Bool.false_bne, Bool.true_bne, List.append_nil, true_and, and_true, if_true, if_false, Bool.not_true, Bool.not_false, Bool.true_eq_false, Bool.false_eq_true, ite_true, ite_false, id_eq])

local macro_rules | `(tactic| walk_at "is") => `(tactic| simp only [plain_non, isIn_non_int, isIn_non_str, isIn_non_bool, isIn_non_list, isIn_non_tuple, isIn_non_dict, plain_bl, isIn_bl_int, isIn_bl_str, isIn_bl_bool, isIn_bl_list, isIn_bl_tuple, isIn_bl_dict, plain_int, isIn_int_int, isIn_int_str, isIn_int_bool, isIn_int_list, isIn_int_tuple, isIn_int_dict, plain_str, isIn_str_int, isIn_str_str, isIn_str_bool, isIn_str_list, isIn_str_tuple, isIn_str_dict, plain_tup, isIn_tup_int, isIn_tup_str, isIn_tup_bool, isIn_tup_list, isIn_tup_tuple, isIn_tup_dict, plain_lst, isIn_lst_int, isIn_lst_str, isIn_lst_bool, isIn_lst_list, isIn_lst_tuple, isIn_lst_dict, sl0, sl1, sl2, sl3, sl4, decide_true, decide_false, ddIsi, ddIsi2, true_and, if_true, if_false, Bool.false_eq_true, Bool.not_true, Bool.not_false, Bool.or_true, Bool.or_false, Bool.true_or, and_true])
local macro_rules | `(tactic| walk_at "wk") => `(tactic| ((try walk_at "dl"); (try walk_at "is"); (try walk_at "dl")))

local macro_rules | `(tactic| walk_at "pl") => `(tactic| simp only [↓reduceIte, ↓startD, ↓List.map_cons, ↓List.map_nil, ↓List.length_cons, ↓List.length_nil, ↓List.cons_append, ↓List.nil_append, ↓List.replicate_succ, ↓List.replicate_zero, ↓List.getElem?_cons_zero, ↓List.getElem?_cons_succ, ↓List.set_cons_zero, ↓List.set_cons_succ, ↓dVar, ↓rdS, ↓dC, ↓dNew, ↓dOp, ↓onB, ↓qB, ↓dChain, ↓qAnd, ↓qOr, ↓qNot, ↓qTru, ↓truD, ↓dIf, ↓dAnd, ↓dOr, ↓dNot, ↓dUn, ↓ddNeg, ↓lNil, ↓lCons, ↓dTup, ↓nLst, ↓ddI, ↓ddI0, ↓ddAdd, ↓isNonD, ↓isBlD, ↓ddIsN, ↓ddIsB, ↓ddIx_t0, ↓ddIx_t1, ↓ddIx_t2, ↓ddIx_t3, ↓ddIx_l0, ↓ddIx_l1, ↓ddIx_l2, ↓dCB, ↓ddLen, ↓ddInt1, ↓ddAbs, ↓ddMM, ↓ddTuple, ↓nCB, ↓nnList, ↓ddIsi, ↓dCall, ↓sSkip, ↓sSeq, ↓sBreak, ↓sCont, ↓sExpr, ↓sRet, ↓sRetN, ↓sIf, ↓sNever, ↓gdName, ↓gdNil, ↓gdCons, ↓gdTup, ↓sAsg, ↓sSetN, ↓sPar, ↓sRaise, ↓sFrz, ↓owS, ↓sApp, ↓sIns, ↓dLenO, ↓dIxO, ↓sTry, ↓sFor, ↓iL, ↓iT, ↓onL, ↓onT, ↓iR1, ↓iR2, ↓nComp, ↓qYes, ↓ddEq_ii, ↓ddEq_ss, ↓ddEq_bb, ↓Bool.false_bne, ↓Bool.true_bne, ↓List.append_nil, ↓true_and, ↓and_true, ↓if_true, ↓if_false, ↓Bool.not_true, ↓Bool.not_false, ↓Bool.true_eq_false, ↓Bool.false_eq_true, ↓ite_true, ↓ite_false, ↓id_eq, ↓plain_non, ↓isIn_non_int, ↓isIn_non_str, ↓isIn_non_bool, ↓isIn_non_list, ↓isIn_non_tuple, ↓isIn_non_dict, ↓plain_bl, ↓isIn_bl_int, ↓isIn_bl_str, ↓isIn_bl_bool, ↓isIn_bl_list, ↓isIn_bl_tuple, ↓isIn_bl_dict, ↓plain_int, ↓isIn_int_int, ↓isIn_int_str, ↓isIn_int_bool, ↓isIn_int_list, ↓isIn_int_tuple, ↓isIn_int_dict, ↓plain_str, ↓isIn_str_int, ↓isIn_str_str, ↓isIn_str_bool, ↓isIn_str_list, ↓isIn_str_tuple, ↓isIn_str_dict, ↓plain_tup, ↓isIn_tup_int, ↓isIn_tup_str, ↓isIn_tup_bool, ↓isIn_tup_list, ↓isIn_tup_tuple, ↓isIn_tup_dict, ↓plain_lst, ↓isIn_lst_int, ↓isIn_lst_str, ↓isIn_lst_bool, ↓isIn_lst_list, ↓isIn_lst_tuple, ↓isIn_lst_dict, ↓sl0, ↓sl1, ↓sl2, ↓sl3, ↓sl4, ↓decide_true, ↓decide_false, ↓ddIsi2, ↓Bool.or_true, ↓Bool.or_false, ↓Bool.true_or])

abbrev s_unfit : Stmt := topS 64
abbrev N_unfit : List Str := ["e", "asked", "found", "one"]
abbrev P_unfit : List Str := ["e"]
theorem sc_unfit : FnScope N_unfit P_unfit (defScope s_unfit) := ⟨rfl, rfl, rfl, by decide +kernel, rfl, by decide +kernel, by decide +kernel⟩

abbrev s_refused : Stmt := topS 63
abbrev N_refused : List Str := ["e", "found"]
abbrev P_refused : List Str := ["e"]
theorem sc_refused : FnScope N_refused P_refused (defScope s_refused) := ⟨rfl, rfl, rfl, by decide +kernel, rfl, by decide +kernel, by decide +kernel⟩

section
variable {P : Program} {w : World} {K : PySem.W.Frag} {mg : Str → Option Value} {base : Heap}
theorem _root_.L2H.RoomH.units {k : Nat} {A : Around} (r : L2H.RoomH k A) : A.units + 64 < cLine := by have := r.un; omega
theorem dIsP_var {K : PySem.W.Frag} {x : XD} {a : Addr} {cv : Value} {b : Bool} {l : DEnv} {Q : D → Prop} {E : XD → Prop} (hx : XC K x.C) (hk : PySem.W.kitOne K (.ref x.C) cv = some b) : dIsP K x a cv (dVar 0) (.fr (.exc a) :: l) Q E = Q (.bl b) := by
  show ((.exc a : D) = .exc a ∧ XC K x.C ∧ ∃ c, PySem.W.kitOne K (.ref x.C) cv = some c ∧ Q (.bl c)) = _
  rw [hk]
  simp [hx]
theorem dXg_var {K : PySem.W.Frag} {x : XD} {a : Addr} {n : Str} {l : DEnv} {Q : D → Prop} {E : XD → Prop} {d : D} (hx : XC K x.C) (hk : PySem.W.findIn K (.ref x.C) n = some none) (hl : (x.fs.zip x.vs).lookup n = some d) : dXg K x a n (dVar 0) (.fr (.exc a) :: l) Q E = Q d := by
  show ((.exc a : D) = .exc a ∧ XC K x.C ∧ PySem.W.findIn K (.ref x.C) n = some none ∧ ∃ c, (x.fs.zip x.vs).lookup n = some c ∧ Q c) = _
  rw [hk, hl]
  simp [hx]
section
variable (T : Txt K mg)
def m_unfit : XD → (D → Prop) → Prop := fun x Q => x = zdX T ∧ Q zdD
def m_refused : XD → (D → Prop) → Prop := fun x Q => (x = zdX T ∧ Q zdD) ∨ ∃ s, x = wkX T s ∧ Q (wkD s)
end
theorem ok_unfit (T : Txt K mg) : FnE P w K mg base 1 T.dunfit.f T.dunfit.fd P_unfit (fun q => spXD K (m_unfit T) q.1 q.2.cls q.2.dict) := by
  refine T.dunfit.okED sc_unfit fun q cdv A outer s H E so A0 x dx us hr kx => ⟨_, (pds_cons (pds_set (i := 1) sc_unfit.nd rfl (by first | exact .inl rfl | exact .inr rfl) (pd_new (pdn_lst (pda_cons (pd_tup (pda_cons pd_str (pda_cons (pd_isP kx (by rfl) T.m_isinstance (pd_var (pv 0)) (pe_glob (v := .ref T.cZeroDivisor.C) (by rfl) T.cZeroDivisor.g rfl) (.own _)) pda_nil))) (pda_cons (pd_tup (pda_cons pd_str (pda_cons (pd_isP kx (by rfl) T.m_isinstance (pd_var (pv 0)) (pe_glob (v := .ref T.cNegativeRoot.C) (by rfl) T.cNegativeRoot.g rfl) (.own _)) pda_nil))) pda_nil)))))
      (pds_cons (pds_set (i := 1) sc_unfit.nd rfl (by first | exact .inl rfl | exact .inr rfl) (pd_op oo_add ol_add (pd_var (pv 1)) (pd_new (pdn_lst (pda_cons (pd_tup (pda_cons pd_str (pda_cons (pd_isP kx (by rfl) T.m_isinstance (pd_var (pv 0)) (pe_glob (v := .ref T.cZeroBar.C) (by rfl) T.cZeroBar.g rfl) (.own _)) pda_nil))) (pda_cons (pd_tup (pda_cons pd_str (pda_cons (pd_isP kx (by rfl) T.m_isinstance (pd_var (pv 0)) (pe_glob (v := .ref T.cFlatMap.C) (by rfl) T.cFlatMap.g rfl) (.own _)) pda_nil))) pda_nil))))))
      (pds_cons (pds_set (i := 1) sc_unfit.nd rfl (by first | exact .inl rfl | exact .inr rfl) (pd_op oo_add ol_add (pd_var (pv 1)) (pd_new (pdn_lst (pda_cons (pd_tup (pda_cons pd_str (pda_cons (pd_isP kx (by rfl) T.m_isinstance (pd_var (pv 0)) (pe_glob (v := .ref T.cBadSteps.C) (by rfl) T.cBadSteps.g rfl) (.own _)) pda_nil))) (pda_cons (pd_tup (pda_cons pd_str (pda_cons (pd_isP kx (by rfl) T.m_isinstance (pd_var (pv 0)) (pe_glob (v := .ref T.cNotOneWay.C) (by rfl) T.cNotOneWay.g rfl) (.own _)) pda_nil))) pda_nil))))))
      (pds_cons (pds_set (i := 1) sc_unfit.nd rfl (by first | exact .inl rfl | exact .inr rfl) (pd_op oo_add ol_add (pd_var (pv 1)) (pd_new (pdn_lst (pda_cons (pd_tup (pda_cons pd_str (pda_cons (pd_isP kx (by rfl) T.m_isinstance (pd_var (pv 0)) (pe_glob (v := .ref T.cNotHeld.C) (by rfl) T.cNotHeld.g rfl) (.own _)) pda_nil))) (pda_cons (pd_tup (pda_cons pd_str (pda_cons (pd_isP kx (by rfl) T.m_isinstance (pd_var (pv 0)) (pe_glob (v := .ref T.cNotFlat.C) (by rfl) T.cNotFlat.g rfl) (.own _)) pda_nil))) pda_nil))))))
      (pds_cons (pds_set (i := 1) sc_unfit.nd rfl (by first | exact .inl rfl | exact .inr rfl) (pd_op oo_add ol_add (pd_var (pv 1)) (pd_new (pdn_lst (pda_cons (pd_tup (pda_cons pd_str (pda_cons (pd_isP kx (by rfl) T.m_isinstance (pd_var (pv 0)) (pe_glob (v := .ref T.cNotCover.C) (by rfl) T.cNotCover.g rfl) (.own _)) pda_nil))) (pda_cons (pd_tup (pda_cons pd_str (pda_cons (pd_isP kx (by rfl) T.m_isinstance (pd_var (pv 0)) (pe_glob (v := .ref T.cNotOwnStress.C) (by rfl) T.cNotOwnStress.g rfl) (.own _)) pda_nil))) pda_nil))))))
      (pds_cons (pds_set (i := 1) sc_unfit.nd rfl (by first | exact .inl rfl | exact .inr rfl) (pd_op oo_add ol_add (pd_var (pv 1)) (pd_new (pdn_lst (pda_cons (pd_tup (pda_cons pd_str (pda_cons (pd_isP kx (by rfl) T.m_isinstance (pd_var (pv 0)) (pe_glob (v := .ref T.cNotPicture.C) (by rfl) T.cNotPicture.g rfl) (.own _)) pda_nil))) (pda_cons (pd_tup (pda_cons pd_str (pda_cons (pd_isP kx (by rfl) T.m_isinstance (pd_var (pv 0)) (pe_glob (v := .ref T.cNotLift.C) (by rfl) T.cNotLift.g rfl) (.own _)) pda_nil))) pda_nil))))))
      (pds_cons (pds_set (i := 1) sc_unfit.nd rfl (by first | exact .inl rfl | exact .inr rfl) (pd_op oo_add ol_add (pd_var (pv 1)) (pd_new (pdn_lst (pda_cons (pd_tup (pda_cons pd_str (pda_cons (pd_isP kx (by rfl) T.m_isinstance (pd_var (pv 0)) (pe_glob (v := .ref T.cNoReciprocal.C) (by rfl) T.cNoReciprocal.g rfl) (.own _)) pda_nil))) (pda_cons (pd_tup (pda_cons pd_str (pda_cons (pd_isP kx (by rfl) T.m_isinstance (pd_var (pv 0)) (pe_glob (v := .ref T.cNotMotion.C) (by rfl) T.cNotMotion.g rfl) (.own _)) pda_nil))) pda_nil))))))
      (pds_cons (pds_set (i := 1) sc_unfit.nd rfl (by first | exact .inl rfl | exact .inr rfl) (pd_op oo_add ol_add (pd_var (pv 1)) (pd_new (pdn_lst (pda_cons (pd_tup (pda_cons pd_str (pda_cons (pd_isP kx (by rfl) T.m_isinstance (pd_var (pv 0)) (pe_glob (v := .ref T.cNotAlike.C) (by rfl) T.cNotAlike.g rfl) (.own _)) pda_nil))) (pda_cons (pd_tup (pda_cons pd_str (pda_cons (pd_isP kx (by rfl) T.m_isinstance (pd_var (pv 0)) (pe_glob (v := .ref T.cNotCrank.C) (by rfl) T.cNotCrank.g rfl) (.own _)) pda_nil))) pda_nil))))))
      (pds_cons (pds_set (i := 1) sc_unfit.nd rfl (by first | exact .inl rfl | exact .inr rfl) (pd_op oo_add ol_add (pd_var (pv 1)) (pd_new (pdn_lst (pda_cons (pd_tup (pda_cons pd_str (pda_cons (pd_isP kx (by rfl) T.m_isinstance (pd_var (pv 0)) (pe_glob (v := .ref T.cNothingToUndo.C) (by rfl) T.cNothingToUndo.g rfl) (.own _)) pda_nil))) (pda_cons (pd_tup (pda_cons pd_str (pda_cons (pd_isP kx (by rfl) T.m_isinstance (pd_var (pv 0)) (pe_glob (v := .ref T.cNothingToRedo.C) (by rfl) T.cNothingToRedo.g rfl) (.own _)) pda_nil))) pda_nil))))))
      (pds_cons (pds_setLcH (i := 2) (own := [("one", 3)]) kx.hc sc_unfit.nd rfl rfl (sw_true rfl rfl rfl (by decide +kernel)) (pd_var (pv 1)) (blkOk_by (own := [("one", 3)]) (N := N_unfit) (sc := defScope s_unfit) (by decide +kernel)) (fun _ _ _ _ _ => (pdgw_name (pg_name (i := 3) sc_unfit.nd rfl (by first | exact .inl rfl | exact .inr rfl)) (by simp))) (fun _ _ _ _ _ => (pdts_one (pdt_tru (pd_ix ix_seq ol_ix (pd_var (pv 3)) pd_int (fun _ _ => rfl))))) (fun _ _ _ _ _ => (pd_ix ix_seq ol_ix (pd_var (pv 3)) pd_int (fun _ _ => rfl))))
      (pds_frz 2 (pds_cons (pds_if (pdt_cmp (oo_eq hr.units) ol_eq (pd_callB oo_len cl_len (by rfl) T.m_len bt_len (pda_cons (pd_var (pv 2)) pda_nil)) pd_int (nomark _))
        (pds_one (pds_ret (pd_tup (pda_cons pd_str (pda_cons (pd_xg kx (pd_var (pv 0))) pda_nil)))))
        pds_nil)
      (pds_cons (pds_if (pdt_cmp op_gt ol_gt (pd_callB oo_len cl_len (by rfl) T.m_len bt_len (pda_cons (pd_var (pv 2)) pda_nil)) pd_int (nomark _))
        (pds_one (pds_ret (pd_tup (pda_cons pd_str (pda_cons (pd_var (pv 2)) pda_nil)))))
        pds_nil)
      (pds_one (pds_ret (pd_tup (pda_cons (pd_ix ix_seq ol_ix (pd_var (pv 2)) pd_int (fun _ _ => rfl)) (pda_cons (pd_xg kx (pd_var (pv 0))) pda_nil)))))))))))))))))), fun Q h => ?_⟩
  obtain ⟨rfl, h⟩ := h
  dsimp only [L2H.cxH, cxOf, Cx.nox]
  simp only [↓dIsP_var (x := zdX T) T.cZeroDivisor.x T.kZeroDivisor_WrongKind, ↓dIsP_var (x := zdX T) T.cZeroDivisor.x T.kZeroDivisor_OutOfBounds, ↓dIsP_var (x := zdX T) T.cZeroDivisor.x T.kZeroDivisor_RepeatedName, ↓dIsP_var (x := zdX T) T.cZeroDivisor.x T.kZeroDivisor_UnknownName, ↓dIsP_var (x := zdX T) T.cZeroDivisor.x T.kZeroDivisor_Unsafe, ↓dIsP_var (x := zdX T) T.cZeroDivisor.x T.kZeroDivisor_BadText, ↓dIsP_var (x := zdX T) T.cZeroDivisor.x T.kZeroDivisor_UnfitError, ↓dIsP_var (x := zdX T) T.cZeroDivisor.x T.kZeroDivisor_ZeroDivisor, ↓dIsP_var (x := zdX T) T.cZeroDivisor.x T.kZeroDivisor_NegativeRoot, ↓dIsP_var (x := zdX T) T.cZeroDivisor.x T.kZeroDivisor_ZeroBar, ↓dIsP_var (x := zdX T) T.cZeroDivisor.x T.kZeroDivisor_FlatMap, ↓dIsP_var (x := zdX T) T.cZeroDivisor.x T.kZeroDivisor_BadSteps, ↓dIsP_var (x := zdX T) T.cZeroDivisor.x T.kZeroDivisor_NotOneWay, ↓dIsP_var (x := zdX T) T.cZeroDivisor.x T.kZeroDivisor_NotHeld, ↓dIsP_var (x := zdX T) T.cZeroDivisor.x T.kZeroDivisor_NotFlat, ↓dIsP_var (x := zdX T) T.cZeroDivisor.x T.kZeroDivisor_NotCover, ↓dIsP_var (x := zdX T) T.cZeroDivisor.x T.kZeroDivisor_NotOwnStress, ↓dIsP_var (x := zdX T) T.cZeroDivisor.x T.kZeroDivisor_NotPicture, ↓dIsP_var (x := zdX T) T.cZeroDivisor.x T.kZeroDivisor_NotLift, ↓dIsP_var (x := zdX T) T.cZeroDivisor.x T.kZeroDivisor_NoReciprocal, ↓dIsP_var (x := zdX T) T.cZeroDivisor.x T.kZeroDivisor_NotMotion, ↓dIsP_var (x := zdX T) T.cZeroDivisor.x T.kZeroDivisor_NotAlike, ↓dIsP_var (x := zdX T) T.cZeroDivisor.x T.kZeroDivisor_NotCrank, ↓dIsP_var (x := zdX T) T.cZeroDivisor.x T.kZeroDivisor_NothingToUndo, ↓dIsP_var (x := zdX T) T.cZeroDivisor.x T.kZeroDivisor_NothingToRedo, ↓dIsP_var (x := zdX T) T.cZeroDivisor.x T.kZeroDivisor_FrameError, ↓dIsP_var (x := zdX T) T.cZeroDivisor.x T.kZeroDivisor_ValueError, ↓reduceIte, ↓startD, ↓List.map_cons, ↓List.map_nil, ↓List.length_cons, ↓List.length_nil, ↓List.cons_append, ↓List.nil_append, ↓List.replicate_succ, ↓List.replicate_zero, ↓List.getElem?_cons_zero, ↓List.getElem?_cons_succ, ↓List.set_cons_zero, ↓List.set_cons_succ, ↓dVar, ↓rdS, ↓dC, ↓dNew, ↓dOp, ↓onB, ↓qB, ↓dChain, ↓qAnd, ↓qOr, ↓qNot, ↓qTru, ↓truD, ↓dIf, ↓dAnd, ↓dOr, ↓dNot, ↓dUn, ↓ddNeg, ↓lNil, ↓lCons, ↓dTup, ↓nLst, ↓ddI, ↓ddI0, ↓ddAdd, ↓isNonD, ↓isBlD, ↓ddIsN, ↓ddIsB, ↓ddIx_t0, ↓ddIx_t1, ↓ddIx_t2, ↓ddIx_t3, ↓ddIx_l0, ↓ddIx_l1, ↓ddIx_l2, ↓dCB, ↓ddLen, ↓ddInt1, ↓ddAbs, ↓ddMM, ↓ddTuple, ↓nCB, ↓nnList, ↓ddIsi, ↓dCall, ↓sSkip, ↓sSeq, ↓sBreak, ↓sCont, ↓sExpr, ↓sRet, ↓sRetN, ↓sIf, ↓sNever, ↓gdName, ↓gdNil, ↓gdCons, ↓gdTup, ↓sAsg, ↓sSetN, ↓sPar, ↓sRaise, ↓sFrz, ↓owS, ↓sApp, ↓sIns, ↓dLenO, ↓dIxO, ↓sTry, ↓sFor, ↓iL, ↓iT, ↓onL, ↓onT, ↓iR1, ↓iR2, ↓nComp, ↓qYes, ↓ddEq_ii, ↓ddEq_ss, ↓ddEq_bb, ↓Bool.false_bne, ↓Bool.true_bne, ↓List.append_nil, ↓true_and, ↓and_true, ↓if_true, ↓if_false, ↓Bool.not_true, ↓Bool.not_false, ↓Bool.true_eq_false, ↓Bool.false_eq_true, ↓ite_true, ↓ite_false, ↓id_eq, ↓plain_non, ↓isIn_non_int, ↓isIn_non_str, ↓isIn_non_bool, ↓isIn_non_list, ↓isIn_non_tuple, ↓isIn_non_dict, ↓plain_bl, ↓isIn_bl_int, ↓isIn_bl_str, ↓isIn_bl_bool, ↓isIn_bl_list, ↓isIn_bl_tuple, ↓isIn_bl_dict, ↓plain_int, ↓isIn_int_int, ↓isIn_int_str, ↓isIn_int_bool, ↓isIn_int_list, ↓isIn_int_tuple, ↓isIn_int_dict, ↓plain_str, ↓isIn_str_int, ↓isIn_str_str, ↓isIn_str_bool, ↓isIn_str_list, ↓isIn_str_tuple, ↓isIn_str_dict, ↓plain_tup, ↓isIn_tup_int, ↓isIn_tup_str, ↓isIn_tup_bool, ↓isIn_tup_list, ↓isIn_tup_tuple, ↓isIn_tup_dict, ↓plain_lst, ↓isIn_lst_int, ↓isIn_lst_str, ↓isIn_lst_bool, ↓isIn_lst_list, ↓isIn_lst_tuple, ↓isIn_lst_dict, ↓sl0, ↓sl1, ↓sl2, ↓sl3, ↓sl4, ↓decide_true, ↓decide_false, ↓ddIsi2, ↓Bool.or_true, ↓Bool.or_false, ↓Bool.true_or]
  refine ⟨by decide, by decide, by decide, by decide, by decide, by decide, by decide, ?_⟩
  simp only [↓wipeD, ↓compL, ↓reduceIte, ↓startD, ↓List.map_cons, ↓List.map_nil, ↓List.length_cons, ↓List.length_nil, ↓List.cons_append, ↓List.nil_append, ↓List.replicate_succ, ↓List.replicate_zero, ↓List.getElem?_cons_zero, ↓List.getElem?_cons_succ, ↓List.set_cons_zero, ↓List.set_cons_succ, ↓dVar, ↓rdS, ↓dC, ↓dNew, ↓dOp, ↓onB, ↓qB, ↓dChain, ↓qAnd, ↓qOr, ↓qNot, ↓qTru, ↓truD, ↓dIf, ↓dAnd, ↓dOr, ↓dNot, ↓dUn, ↓ddNeg, ↓lNil, ↓lCons, ↓dTup, ↓nLst, ↓ddI, ↓ddI0, ↓ddAdd, ↓isNonD, ↓isBlD, ↓ddIsN, ↓ddIsB, ↓ddIx_t0, ↓ddIx_t1, ↓ddIx_t2, ↓ddIx_t3, ↓ddIx_l0, ↓ddIx_l1, ↓ddIx_l2, ↓dCB, ↓ddLen, ↓ddInt1, ↓ddAbs, ↓ddMM, ↓ddTuple, ↓nCB, ↓nnList, ↓ddIsi, ↓dCall, ↓sSkip, ↓sSeq, ↓sBreak, ↓sCont, ↓sExpr, ↓sRet, ↓sRetN, ↓sIf, ↓sNever, ↓gdName, ↓gdNil, ↓gdCons, ↓gdTup, ↓sAsg, ↓sSetN, ↓sPar, ↓sRaise, ↓sFrz, ↓owS, ↓sApp, ↓sIns, ↓dLenO, ↓dIxO, ↓sTry, ↓sFor, ↓iL, ↓iT, ↓onL, ↓onT, ↓iR1, ↓iR2, ↓nComp, ↓qYes, ↓ddEq_ii, ↓ddEq_ss, ↓ddEq_bb, ↓Bool.false_bne, ↓Bool.true_bne, ↓List.append_nil, ↓true_and, ↓and_true, ↓if_true, ↓if_false, ↓Bool.not_true, ↓Bool.not_false, ↓Bool.true_eq_false, ↓Bool.false_eq_true, ↓ite_true, ↓ite_false, ↓id_eq, ↓plain_non, ↓isIn_non_int, ↓isIn_non_str, ↓isIn_non_bool, ↓isIn_non_list, ↓isIn_non_tuple, ↓isIn_non_dict, ↓plain_bl, ↓isIn_bl_int, ↓isIn_bl_str, ↓isIn_bl_bool, ↓isIn_bl_list, ↓isIn_bl_tuple, ↓isIn_bl_dict, ↓plain_int, ↓isIn_int_int, ↓isIn_int_str, ↓isIn_int_bool, ↓isIn_int_list, ↓isIn_int_tuple, ↓isIn_int_dict, ↓plain_str, ↓isIn_str_int, ↓isIn_str_str, ↓isIn_str_bool, ↓isIn_str_list, ↓isIn_str_tuple, ↓isIn_str_dict, ↓plain_tup, ↓isIn_tup_int, ↓isIn_tup_str, ↓isIn_tup_bool, ↓isIn_tup_list, ↓isIn_tup_tuple, ↓isIn_tup_dict, ↓plain_lst, ↓isIn_lst_int, ↓isIn_lst_str, ↓isIn_lst_bool, ↓isIn_lst_list, ↓isIn_lst_tuple, ↓isIn_lst_dict, ↓sl0, ↓sl1, ↓sl2, ↓sl3, ↓sl4, ↓decide_true, ↓decide_false, ↓ddIsi2, ↓Bool.or_true, ↓Bool.or_false, ↓Bool.true_or]
  refine ⟨by decide, ?_⟩
  rw [if_neg (by decide), if_neg (by decide), dXg_var T.cZeroDivisor.x (T.zZeroDivisor.nf _ (by simp)) (d := .non) (by simp [zdX])]
  exact h
theorem ok_refused (T : Txt K mg) : FnE P w K mg base 2 T.drefused.f T.drefused.fd P_refused (fun q => spXD K (m_refused T) q.1 q.2.cls q.2.dict) := by
  have G_unfit : FnE P w K mg base 1 T.dunfit.f T.dunfit.fd P_unfit (fun q => spXD K (m_unfit T) q.1 q.2.cls q.2.dict) := ok_unfit T
  refine T.drefused.okED sc_refused fun q cdv A outer s H E so A0 x dx us hr kx => ⟨_, (pds_cons (pds_setN (i := 1) sc_refused.nd rfl (by first | exact .inl rfl | exact .inr rfl) (pdn_lst pda_nil))
      (pds_cons (pds_if (pdt_tru (pd_isP kx (by rfl) T.m_isinstance (pd_var (pv 0)) (pe_glob (v := .ref T.cWrongKind.C) (by rfl) T.cWrongKind.g rfl) (.own _)))
        (pds_one (pds_app (pv 1) (pd_tup (pda_cons pd_str (pda_cons (pd_xg kx (pd_var (pv 0))) pda_nil))) rfl rfl rfl rfl rfl rfl))
        pds_nil)
      (pds_cons (pds_if (pdt_tru (pd_isP kx (by rfl) T.m_isinstance (pd_var (pv 0)) (pe_glob (v := .ref T.cOutOfBounds.C) (by rfl) T.cOutOfBounds.g rfl) (.own _)))
        (pds_one (pds_app (pv 1) (pd_tup (pda_cons pd_str (pda_cons (pd_xg kx (pd_var (pv 0))) pda_nil))) rfl rfl rfl rfl rfl rfl))
        pds_nil)
      (pds_cons (pds_if (pdt_tru (pd_isP kx (by rfl) T.m_isinstance (pd_var (pv 0)) (pe_glob (v := .ref T.cRepeatedName.C) (by rfl) T.cRepeatedName.g rfl) (.own _)))
        (pds_one (pds_app (pv 1) (pd_tup (pda_cons pd_str (pda_cons (pd_xg kx (pd_var (pv 0))) pda_nil))) rfl rfl rfl rfl rfl rfl))
        pds_nil)
      (pds_cons (pds_if (pdt_tru (pd_isP kx (by rfl) T.m_isinstance (pd_var (pv 0)) (pe_glob (v := .ref T.cUnknownName.C) (by rfl) T.cUnknownName.g rfl) (.own _)))
        (pds_one (pds_app (pv 1) (pd_tup (pda_cons pd_str (pda_cons (pd_xg kx (pd_var (pv 0))) pda_nil))) rfl rfl rfl rfl rfl rfl))
        pds_nil)
      (pds_cons (pds_if (pdt_tru (pd_isP kx (by rfl) T.m_isinstance (pd_var (pv 0)) (pe_glob (v := .ref T.cUnsafe.C) (by rfl) T.cUnsafe.g rfl) (.own _)))
        (pds_one (pds_app (pv 1) (pd_tup (pda_cons pd_str (pda_cons (pd_xg kx (pd_var (pv 0))) pda_nil))) rfl rfl rfl rfl rfl rfl))
        pds_nil)
      (pds_cons (pds_if (pdt_tru (pd_isP kx (by rfl) T.m_isinstance (pd_var (pv 0)) (pe_glob (v := .ref T.cBadText.C) (by rfl) T.cBadText.g rfl) (.own _)))
        (pds_one (pds_app (pv 1) (pd_tup (pda_cons pd_str (pda_cons (pd_tup (pda_cons (pd_xg kx (pd_var (pv 0))) (pda_cons (pd_xg kx (pd_var (pv 0))) (pda_cons (pd_xg kx (pd_var (pv 0))) pda_nil)))) pda_nil))) rfl rfl rfl rfl rfl rfl))
        pds_nil)
      (pds_cons (pds_if (pdt_tru (pd_isP kx (by rfl) T.m_isinstance (pd_var (pv 0)) (pe_glob (v := .ref T.cUnfitError.C) (by rfl) T.cUnfitError.g rfl) (.own _)))
        (pds_one (pds_app (pv 1) (pd_callE kx G_unfit (hr.mono (by omega)) (by rfl) T.dunfit.g T.dunfit.F.kp T.dunfit.b (pd_var (pv 0))) rfl rfl rfl rfl rfl rfl))
        pds_nil)
      (pds_cons (pds_if (PDW.t (pdw_or (pdt_not (pdt_tru (pd_isP kx (by rfl) T.m_isinstance (pd_var (pv 0)) (pe_glob (v := .ref T.cFrameError.C) (by rfl) T.cFrameError.g rfl) (.own _)))) (pdw_or1 (pdt_not (pdt_tru (pd_isP kx (by rfl) T.m_isinstance (pd_var (pv 0)) (pe_bltn (v := .ty "ValueError") (by rfl) T.m_ValueError bt_ValueError rfl) (.ty _)))))))
        (pds_one (pds_ret (pd_tup (pda_cons pd_str (pda_cons pd_non pda_nil)))))
        pds_nil)
      (pds_cons (pds_if (pdt_cmp (oo_eq hr.units) ol_eq (pd_lenO (by rfl) T.m_len (pv 1)) pd_int (nomark _))
        (pds_one (pds_ret (pd_tup (pda_cons pd_str (pda_cons pd_non pda_nil)))))
        pds_nil)
      (pds_cons (pds_if (pdt_cmp op_gt ol_gt (pd_lenO (by rfl) T.m_len (pv 1)) pd_int (nomark _))
        (pds_frz 1 (pds_one (pds_ret (pd_tup (pda_cons pd_str (pda_cons (pd_var (pv 1)) pda_nil))))))
        pds_nil)
      (pds_one (pds_ret (pd_ixO (pv 1) pd_int (fun _ _ => rfl))))))))))))))), fun Q h => ?_⟩
  dsimp only [L2H.cxH, cxOf, Cx.nox]
  rcases h with ⟨rfl, h⟩ | ⟨s, rfl, h⟩
  · simp only [↓dIsP_var (x := zdX T) T.cZeroDivisor.x T.kZeroDivisor_WrongKind, ↓dIsP_var (x := zdX T) T.cZeroDivisor.x T.kZeroDivisor_OutOfBounds, ↓dIsP_var (x := zdX T) T.cZeroDivisor.x T.kZeroDivisor_RepeatedName, ↓dIsP_var (x := zdX T) T.cZeroDivisor.x T.kZeroDivisor_UnknownName, ↓dIsP_var (x := zdX T) T.cZeroDivisor.x T.kZeroDivisor_Unsafe, ↓dIsP_var (x := zdX T) T.cZeroDivisor.x T.kZeroDivisor_BadText, ↓dIsP_var (x := zdX T) T.cZeroDivisor.x T.kZeroDivisor_UnfitError, ↓dIsP_var (x := zdX T) T.cZeroDivisor.x T.kZeroDivisor_ZeroDivisor, ↓dIsP_var (x := zdX T) T.cZeroDivisor.x T.kZeroDivisor_NegativeRoot, ↓dIsP_var (x := zdX T) T.cZeroDivisor.x T.kZeroDivisor_ZeroBar, ↓dIsP_var (x := zdX T) T.cZeroDivisor.x T.kZeroDivisor_FlatMap, ↓dIsP_var (x := zdX T) T.cZeroDivisor.x T.kZeroDivisor_BadSteps, ↓dIsP_var (x := zdX T) T.cZeroDivisor.x T.kZeroDivisor_NotOneWay, ↓dIsP_var (x := zdX T) T.cZeroDivisor.x T.kZeroDivisor_NotHeld, ↓dIsP_var (x := zdX T) T.cZeroDivisor.x T.kZeroDivisor_NotFlat, ↓dIsP_var (x := zdX T) T.cZeroDivisor.x T.kZeroDivisor_NotCover, ↓dIsP_var (x := zdX T) T.cZeroDivisor.x T.kZeroDivisor_NotOwnStress, ↓dIsP_var (x := zdX T) T.cZeroDivisor.x T.kZeroDivisor_NotPicture, ↓dIsP_var (x := zdX T) T.cZeroDivisor.x T.kZeroDivisor_NotLift, ↓dIsP_var (x := zdX T) T.cZeroDivisor.x T.kZeroDivisor_NoReciprocal, ↓dIsP_var (x := zdX T) T.cZeroDivisor.x T.kZeroDivisor_NotMotion, ↓dIsP_var (x := zdX T) T.cZeroDivisor.x T.kZeroDivisor_NotAlike, ↓dIsP_var (x := zdX T) T.cZeroDivisor.x T.kZeroDivisor_NotCrank, ↓dIsP_var (x := zdX T) T.cZeroDivisor.x T.kZeroDivisor_NothingToUndo, ↓dIsP_var (x := zdX T) T.cZeroDivisor.x T.kZeroDivisor_NothingToRedo, ↓dIsP_var (x := zdX T) T.cZeroDivisor.x T.kZeroDivisor_FrameError, ↓dIsP_var (x := zdX T) T.cZeroDivisor.x T.kZeroDivisor_ValueError, ↓reduceIte, ↓startD, ↓List.map_cons, ↓List.map_nil, ↓List.length_cons, ↓List.length_nil, ↓List.cons_append, ↓List.nil_append, ↓List.replicate_succ, ↓List.replicate_zero, ↓List.getElem?_cons_zero, ↓List.getElem?_cons_succ, ↓List.set_cons_zero, ↓List.set_cons_succ, ↓dVar, ↓rdS, ↓dC, ↓dNew, ↓dOp, ↓onB, ↓qB, ↓dChain, ↓qAnd, ↓qOr, ↓qNot, ↓qTru, ↓truD, ↓dIf, ↓dAnd, ↓dOr, ↓dNot, ↓dUn, ↓ddNeg, ↓lNil, ↓lCons, ↓dTup, ↓nLst, ↓ddI, ↓ddI0, ↓ddAdd, ↓isNonD, ↓isBlD, ↓ddIsN, ↓ddIsB, ↓ddIx_t0, ↓ddIx_t1, ↓ddIx_t2, ↓ddIx_t3, ↓ddIx_l0, ↓ddIx_l1, ↓ddIx_l2, ↓dCB, ↓ddLen, ↓ddInt1, ↓ddAbs, ↓ddMM, ↓ddTuple, ↓nCB, ↓nnList, ↓ddIsi, ↓dCall, ↓sSkip, ↓sSeq, ↓sBreak, ↓sCont, ↓sExpr, ↓sRet, ↓sRetN, ↓sIf, ↓sNever, ↓gdName, ↓gdNil, ↓gdCons, ↓gdTup, ↓sAsg, ↓sSetN, ↓sPar, ↓sRaise, ↓sFrz, ↓owS, ↓sApp, ↓sIns, ↓dLenO, ↓dIxO, ↓sTry, ↓sFor, ↓iL, ↓iT, ↓onL, ↓onT, ↓iR1, ↓iR2, ↓nComp, ↓qYes, ↓ddEq_ii, ↓ddEq_ss, ↓ddEq_bb, ↓Bool.false_bne, ↓Bool.true_bne, ↓List.append_nil, ↓true_and, ↓and_true, ↓if_true, ↓if_false, ↓Bool.not_true, ↓Bool.not_false, ↓Bool.true_eq_false, ↓Bool.false_eq_true, ↓ite_true, ↓ite_false, ↓id_eq, ↓plain_non, ↓isIn_non_int, ↓isIn_non_str, ↓isIn_non_bool, ↓isIn_non_list, ↓isIn_non_tuple, ↓isIn_non_dict, ↓plain_bl, ↓isIn_bl_int, ↓isIn_bl_str, ↓isIn_bl_bool, ↓isIn_bl_list, ↓isIn_bl_tuple, ↓isIn_bl_dict, ↓plain_int, ↓isIn_int_int, ↓isIn_int_str, ↓isIn_int_bool, ↓isIn_int_list, ↓isIn_int_tuple, ↓isIn_int_dict, ↓plain_str, ↓isIn_str_int, ↓isIn_str_str, ↓isIn_str_bool, ↓isIn_str_list, ↓isIn_str_tuple, ↓isIn_str_dict, ↓plain_tup, ↓isIn_tup_int, ↓isIn_tup_str, ↓isIn_tup_bool, ↓isIn_tup_list, ↓isIn_tup_tuple, ↓isIn_tup_dict, ↓plain_lst, ↓isIn_lst_int, ↓isIn_lst_str, ↓isIn_lst_bool, ↓isIn_lst_list, ↓isIn_lst_tuple, ↓isIn_lst_dict, ↓sl0, ↓sl1, ↓sl2, ↓sl3, ↓sl4, ↓decide_true, ↓decide_false, ↓ddIsi2, ↓Bool.or_true, ↓Bool.or_false, ↓Bool.true_or]
    refine ⟨rfl, rfl, ?_⟩
    refine ⟨by decide, ?_⟩
    exact ⟨_, rfl, h⟩
  · simp only [↓dIsP_var (x := wkX T s) T.cWrongKind.x T.kWrongKind_WrongKind, ↓dIsP_var (x := wkX T s) T.cWrongKind.x T.kWrongKind_OutOfBounds, ↓dIsP_var (x := wkX T s) T.cWrongKind.x T.kWrongKind_RepeatedName, ↓dIsP_var (x := wkX T s) T.cWrongKind.x T.kWrongKind_UnknownName, ↓dIsP_var (x := wkX T s) T.cWrongKind.x T.kWrongKind_Unsafe, ↓dIsP_var (x := wkX T s) T.cWrongKind.x T.kWrongKind_BadText, ↓dIsP_var (x := wkX T s) T.cWrongKind.x T.kWrongKind_UnfitError, ↓dIsP_var (x := wkX T s) T.cWrongKind.x T.kWrongKind_ZeroDivisor, ↓dIsP_var (x := wkX T s) T.cWrongKind.x T.kWrongKind_NegativeRoot, ↓dIsP_var (x := wkX T s) T.cWrongKind.x T.kWrongKind_ZeroBar, ↓dIsP_var (x := wkX T s) T.cWrongKind.x T.kWrongKind_FlatMap, ↓dIsP_var (x := wkX T s) T.cWrongKind.x T.kWrongKind_BadSteps, ↓dIsP_var (x := wkX T s) T.cWrongKind.x T.kWrongKind_NotOneWay, ↓dIsP_var (x := wkX T s) T.cWrongKind.x T.kWrongKind_NotHeld, ↓dIsP_var (x := wkX T s) T.cWrongKind.x T.kWrongKind_NotFlat, ↓dIsP_var (x := wkX T s) T.cWrongKind.x T.kWrongKind_NotCover, ↓dIsP_var (x := wkX T s) T.cWrongKind.x T.kWrongKind_NotOwnStress, ↓dIsP_var (x := wkX T s) T.cWrongKind.x T.kWrongKind_NotPicture, ↓dIsP_var (x := wkX T s) T.cWrongKind.x T.kWrongKind_NotLift, ↓dIsP_var (x := wkX T s) T.cWrongKind.x T.kWrongKind_NoReciprocal, ↓dIsP_var (x := wkX T s) T.cWrongKind.x T.kWrongKind_NotMotion, ↓dIsP_var (x := wkX T s) T.cWrongKind.x T.kWrongKind_NotAlike, ↓dIsP_var (x := wkX T s) T.cWrongKind.x T.kWrongKind_NotCrank, ↓dIsP_var (x := wkX T s) T.cWrongKind.x T.kWrongKind_NothingToUndo, ↓dIsP_var (x := wkX T s) T.cWrongKind.x T.kWrongKind_NothingToRedo, ↓dIsP_var (x := wkX T s) T.cWrongKind.x T.kWrongKind_FrameError, ↓dIsP_var (x := wkX T s) T.cWrongKind.x T.kWrongKind_ValueError, ↓reduceIte, ↓startD, ↓List.map_cons, ↓List.map_nil, ↓List.length_cons, ↓List.length_nil, ↓List.cons_append, ↓List.nil_append, ↓List.replicate_succ, ↓List.replicate_zero, ↓List.getElem?_cons_zero, ↓List.getElem?_cons_succ, ↓List.set_cons_zero, ↓List.set_cons_succ, ↓dVar, ↓rdS, ↓dC, ↓dNew, ↓dOp, ↓onB, ↓qB, ↓dChain, ↓qAnd, ↓qOr, ↓qNot, ↓qTru, ↓truD, ↓dIf, ↓dAnd, ↓dOr, ↓dNot, ↓dUn, ↓ddNeg, ↓lNil, ↓lCons, ↓dTup, ↓nLst, ↓ddI, ↓ddI0, ↓ddAdd, ↓isNonD, ↓isBlD, ↓ddIsN, ↓ddIsB, ↓ddIx_t0, ↓ddIx_t1, ↓ddIx_t2, ↓ddIx_t3, ↓ddIx_l0, ↓ddIx_l1, ↓ddIx_l2, ↓dCB, ↓ddLen, ↓ddInt1, ↓ddAbs, ↓ddMM, ↓ddTuple, ↓nCB, ↓nnList, ↓ddIsi, ↓dCall, ↓sSkip, ↓sSeq, ↓sBreak, ↓sCont, ↓sExpr, ↓sRet, ↓sRetN, ↓sIf, ↓sNever, ↓gdName, ↓gdNil, ↓gdCons, ↓gdTup, ↓sAsg, ↓sSetN, ↓sPar, ↓sRaise, ↓sFrz, ↓owS, ↓sApp, ↓sIns, ↓dLenO, ↓dIxO, ↓sTry, ↓sFor, ↓iL, ↓iT, ↓onL, ↓onT, ↓iR1, ↓iR2, ↓nComp, ↓qYes, ↓ddEq_ii, ↓ddEq_ss, ↓ddEq_bb, ↓Bool.false_bne, ↓Bool.true_bne, ↓List.append_nil, ↓true_and, ↓and_true, ↓if_true, ↓if_false, ↓Bool.not_true, ↓Bool.not_false, ↓Bool.true_eq_false, ↓Bool.false_eq_true, ↓ite_true, ↓ite_false, ↓id_eq, ↓plain_non, ↓isIn_non_int, ↓isIn_non_str, ↓isIn_non_bool, ↓isIn_non_list, ↓isIn_non_tuple, ↓isIn_non_dict, ↓plain_bl, ↓isIn_bl_int, ↓isIn_bl_str, ↓isIn_bl_bool, ↓isIn_bl_list, ↓isIn_bl_tuple, ↓isIn_bl_dict, ↓plain_int, ↓isIn_int_int, ↓isIn_int_str, ↓isIn_int_bool, ↓isIn_int_list, ↓isIn_int_tuple, ↓isIn_int_dict, ↓plain_str, ↓isIn_str_int, ↓isIn_str_str, ↓isIn_str_bool, ↓isIn_str_list, ↓isIn_str_tuple, ↓isIn_str_dict, ↓plain_tup, ↓isIn_tup_int, ↓isIn_tup_str, ↓isIn_tup_bool, ↓isIn_tup_list, ↓isIn_tup_tuple, ↓isIn_tup_dict, ↓plain_lst, ↓isIn_lst_int, ↓isIn_lst_str, ↓isIn_lst_bool, ↓isIn_lst_list, ↓isIn_lst_tuple, ↓isIn_lst_dict, ↓sl0, ↓sl1, ↓sl2, ↓sl3, ↓sl4, ↓decide_true, ↓decide_false, ↓ddIsi2, ↓Bool.or_true, ↓Bool.or_false, ↓Bool.true_or]
    rw [dXg_var T.cWrongKind.x (T.zWrongKind.nf _ (by simp)) (d := .str s) (by simp [wkX])]
    refine ⟨by decide, ?_⟩
    exact ⟨_, rfl, h⟩
end
end My
set_option exponentiation.threshold 100000
namespace My
open PySem PySem.Spec PyProof.Rows L2
local macro_rules | `(tactic| walk_at "dl") => `(tactic| simp only [startD, List.map_cons, List.map_nil, List.length_cons, List.length_nil, List.cons_append, List.nil_append, List.replicate_succ, List.replicate_zero, List.getElem?_cons_zero, List.getElem?_cons_succ, List.set_cons_zero, List.set_cons_succ,
  dVar, rdS, dC, dNew, dOp, onB, qB, dChain, qAnd, qOr, qNot, qTru, truD, dIf, dAnd, dOr, dNot, dUn, ddNeg, lNil, lCons, dTup, nLst, ddI, ddI0, ddAdd, isNonD, isBlD, ddIsN, ddIsB, ddIx_t0, ddIx_t1, ddIx_t2, ddIx_t3, ddIx_l0, ddIx_l1, ddIx_l2, dCB, ddLen, ddInt1, ddAbs, ddMM, ddTuple, nCB, nnList, ddIsi, dCall,
  sSkip, sSeq, sBreak, sCont, sExpr, sRet, sRetN, sIf, sNever, gdName, gdNil, gdCons, gdTup, sAsg, sSetN, sPar, sRaise, sFrz, owS, sApp, sIns, dLenO, dIxO, sTry, sFor, iL, iT, onL, onT, iR1, iR2, nComp, qYes,
  ddEq_ii, ddEq_ss, ddEq_bb, Bool.false_bne, Bool.true_bne, List.append_nil, true_and, and_true, if_true, if_false, Bool.not_true, Bool.not_false, Bool.true_eq_false, Bool.false_eq_true, ite_true, ite_false, id_eq])

local macro_rules | `(tactic| walk_at "is") => `(tactic| simp only [plain_non, isIn_non_int, isIn_non_str, isIn_non_bool, isIn_non_list, isIn_non_tuple, isIn_non_dict, plain_bl, isIn_bl_int, isIn_bl_str, isIn_bl_bool, isIn_bl_list, isIn_bl_tuple, isIn_bl_dict, plain_int, isIn_int_int, isIn_int_str, isIn_int_bool, isIn_int_list, isIn_int_tuple, isIn_int_dict, plain_str, isIn_str_int, isIn_str_str, isIn_str_bool, isIn_str_list, isIn_str_tuple, isIn_str_dict, plain_tup, isIn_tup_int, isIn_tup_str, isIn_tup_bool, isIn_tup_list, isIn_tup_tuple, isIn_tup_dict, plain_lst, isIn_lst_int, isIn_lst_str, isIn_lst_bool, isIn_lst_list, isIn_lst_tuple, isIn_lst_dict, sl0, sl1, sl2, sl3, sl4, decide_true, decide_false, ddIsi, ddIsi2, true_and, if_true, if_false, Bool.false_eq_true, Bool.not_true, Bool.not_false, Bool.or_true, Bool.or_false, Bool.true_or, and_true])
local macro_rules | `(tactic| walk_at "wk") => `(tactic| ((try walk_at "dl"); (try walk_at "is"); (try walk_at "dl")))

abbrev s_call : Stmt := topS 65
abbrev N_call : List Str := ["way", "one", "two", "e", "told"]
abbrev P_call : List Str := ["way", "one", "two"]
theorem sc_call : FnScope N_call P_call (defScope s_call) := ⟨rfl, rfl, rfl, by decide +kernel, rfl, by decide +kernel, by decide +kernel⟩

def m_call : DF := fun ds Q _ => match ds with
  | [.int w, one, two] => AskOk w one two ∧ Q (callD w one two)
  | _ => False
theorem callD_f {w : Int} {one two x : D} (h : faultD w one two = x) (hx : x = zdD ∨ ∃ s, x = wkD s) : callD w one two = x := by
  unfold callD
  rw [h]
  rcases hx with rfl | ⟨s, rfl⟩ <;> rfl
theorem callD_n {w : Int} {one two : D} (h : faultD w one two = .non) : callD w one two = .tup [.str "told", resD w one two] := by
  unfold callD
  rw [h]
theorem f_one {w : Int} {one two : D} (hw : 1 ≤ w ∧ w ≤ 7) (h : isRat one = false) : faultD w one two = wkD "one" := by
  unfold faultD
  rw [if_neg (by omega), if_neg (by omega), if_pos h]
theorem f_other {w : Int} {one two : D} (hw : 1 ≤ w ∧ w ≤ 5) (h : isRat one = true) (h2 : isRat two = false) : faultD w one two = wkD "other" := by
  unfold faultD
  rw [if_neg (by omega), if_neg (by omega), if_neg (by rw [h]; decide), if_pos ⟨by omega, h2⟩]
theorem f_non {w : Int} {one two : D} (hw : 1 ≤ w ∧ w ≤ 7) (h : isRat one = true) (h2 : w < 6 → isRat two = true) (h4 : w = 4 → num two ≠ 0) : faultD w one two = .non := by
  unfold faultD
  rw [if_neg (by omega), if_neg (by omega), if_neg (by rw [h]; decide), if_neg (fun z => by have := h2 z.1; rw [z.2] at this; cases this), if_neg (fun z => h4 z.1 z.2)]
theorem f_zero {one two : D} (h : isRat one = true) (h2 : isRat two = true) (h4 : num two = 0) : faultD 4 one two = zdD := by
  unfold faultD
  rw [if_neg (by decide), if_neg (by decide), if_neg (by rw [h]; decide), if_neg (fun z => by rw [h2] at z; cases z.2), if_pos ⟨rfl, h4⟩]
section
variable {K : PySem.W.Frag} {mg : Str → Option Value} {T : Txt K mg}
theorem two_call {w : Int} {one two : D} {Q : D → Prop} {EX : XD → Prop} {k : Int → Int → Int → Int → Prop} (hw : 1 ≤ w ∧ w ≤ 5) (A : AskOk w one two) (q : Q (callD w one two)) (wk : ∀ s, Q (wkD s) → EX (wkX T s))
    (h : ∀ a b c d, one = ratD a b → two = ratD c d → isRat one = true → isRat two = true → (Sm a ∧ Sm b ∧ Sm c ∧ Sm d) → k a b c d) : Two T one two EX k := by
  obtain ⟨p1, p2, b1, b2⟩ := A.2.2.2 (by omega)
  refine ⟨p1, p2, fun e => wk _ ?_, fun e e2 => wk _ ?_, fun a b c d e1 e2 r1 r2 => h a b c d e1 e2 r1 r2 ⟨(b1 _ _ e1).1, (b1 _ _ e1).2, (b2 _ _ e2).1, (b2 _ _ e2).2⟩⟩
  · rw [callD_f (f_one (by omega) e) (.inr ⟨_, rfl⟩)] at q
    exact q
  · rw [callD_f (f_other hw e e2) (.inr ⟨_, rfl⟩)] at q
    exact q
end
section
variable {P : Program} {w : World} {K : PySem.W.Frag} {mg : Str → Option Value} {base : Heap}
theorem ok_call (T : Txt K mg) : FnOk P w K mg base (L2N.CX P w) 7 T.dcall.f T.dcall.fd P_call (spD K 3 m_call) := by
  have G_ratio : FnOk P w K mg base (L2N.CX P w) 3 T.dratio.f T.dratio.fd P_ratio (spD K 2 (m_ratio T)) := ok_ratio T
  have G_add : FnOk P w K mg base (L2N.CX P w) 6 T.dadd.f T.dadd.fd P_add (spD K 2 (m_op T fun a b c d => (a * d + c * b, b * d))) := ok_add T
  have G_subtract : FnOk P w K mg base (L2N.CX P w) 6 T.dsubtract.f T.dsubtract.fd P_subtract (spD K 2 (m_op T fun a b c d => (a * d - c * b, b * d))) := ok_subtract T
  have G_multiply : FnOk P w K mg base (L2N.CX P w) 6 T.dmultiply.f T.dmultiply.fd P_multiply (spD K 2 (m_op T fun a b c d => (a * c, b * d))) := ok_multiply T
  have G_divide : FnOk P w K mg base (L2N.CX P w) 6 T.ddivide.f T.ddivide.fd P_divide (spD K 2 (m_divide T)) := ok_divide T
  have G_compare : FnOk P w K mg base (L2N.CX P w) 6 T.dcompare.f T.dcompare.fd P_compare (spD K 2 (m_compare T)) := ok_compare T
  have G_negate : FnOk P w K mg base (L2N.CX P w) 5 T.dnegate.f T.dnegate.fd P_negate (spD K 1 (m_negate T)) := ok_negate T
  have G_sign : FnOk P w K mg base (L2N.CX P w) 5 T.dsign.f T.dsign.fd P_sign (spD K 1 (m_sign T)) := ok_sign T
  have G_total : FnOk P w K mg base (L2N.CX P w) 5 T.dtotal.f T.dtotal.fd P_total (spD K 1 (m_total T)) := ok_total T
  have G_refused : FnE P w K mg base 2 T.drefused.f T.drefused.fd P_refused (fun q => spXD K (m_refused T) q.1 q.2.cls q.2.dict) := ok_refused T
  refine T.dcall.okD sc_call fun cdv A outer s H E so A0 hr tk hp => ⟨_, (pds_cons (pds_tryE (i := 3) rfl rfl sc_call.nd rfl rfl ⟨rfl, by decide, .inl T.cFrameError.g⟩ (fun W pn xe tk hp =>
        (pds_one (pds_if (pdt_cmp (oo_eq hr.units) ol_eq (pd_var (pv 0)) pd_int (nomark _))
          (pds_one (pds_set (i := 4) sc_call.nd rfl (by first | exact .inl rfl | exact .inr rfl) (pd_call G_ratio (hr.mono (by omega)) (by rfl) T.dratio.g T.dratio.F.kp T.dratio.b (fun σ => L2N.passAt tk σ) (pda_cons (pd_var (pv 1)) (pda_cons (pd_var (pv 2)) pda_nil)))))
          (pds_one (pds_if (pdt_cmp (oo_eq hr.units) ol_eq (pd_var (pv 0)) pd_int (nomark _))
            (pds_one (pds_set (i := 4) sc_call.nd rfl (by first | exact .inl rfl | exact .inr rfl) (pd_call G_add (hr.mono (by omega)) (by rfl) T.dadd.g T.dadd.F.kp T.dadd.b (fun σ => L2N.passAt tk σ) (pda_cons (pd_var (pv 1)) (pda_cons (pd_var (pv 2)) pda_nil)))))
            (pds_one (pds_if (pdt_cmp (oo_eq hr.units) ol_eq (pd_var (pv 0)) pd_int (nomark _))
              (pds_one (pds_set (i := 4) sc_call.nd rfl (by first | exact .inl rfl | exact .inr rfl) (pd_call G_subtract (hr.mono (by omega)) (by rfl) T.dsubtract.g T.dsubtract.F.kp T.dsubtract.b (fun σ => L2N.passAt tk σ) (pda_cons (pd_var (pv 1)) (pda_cons (pd_var (pv 2)) pda_nil)))))
              (pds_one (pds_if (pdt_cmp (oo_eq hr.units) ol_eq (pd_var (pv 0)) pd_int (nomark _))
                (pds_one (pds_set (i := 4) sc_call.nd rfl (by first | exact .inl rfl | exact .inr rfl) (pd_call G_multiply (hr.mono (by omega)) (by rfl) T.dmultiply.g T.dmultiply.F.kp T.dmultiply.b (fun σ => L2N.passAt tk σ) (pda_cons (pd_var (pv 1)) (pda_cons (pd_var (pv 2)) pda_nil)))))
                (pds_one (pds_if (pdt_cmp (oo_eq hr.units) ol_eq (pd_var (pv 0)) pd_int (nomark _))
                  (pds_one (pds_set (i := 4) sc_call.nd rfl (by first | exact .inl rfl | exact .inr rfl) (pd_call G_divide (hr.mono (by omega)) (by rfl) T.ddivide.g T.ddivide.F.kp T.ddivide.b (fun σ => L2N.passAt tk σ) (pda_cons (pd_var (pv 1)) (pda_cons (pd_var (pv 2)) pda_nil)))))
                  (pds_one (pds_if (pdt_cmp (oo_eq hr.units) ol_eq (pd_var (pv 0)) pd_int (nomark _))
                    (pds_one (pds_set (i := 4) sc_call.nd rfl (by first | exact .inl rfl | exact .inr rfl) (pd_call G_compare (hr.mono (by omega)) (by rfl) T.dcompare.g T.dcompare.F.kp T.dcompare.b (fun σ => L2N.passAt tk σ) (pda_cons (pd_var (pv 1)) (pda_cons (pd_var (pv 2)) pda_nil)))))
                    (pds_one (pds_if (pdt_cmp (oo_eq hr.units) ol_eq (pd_var (pv 0)) pd_int (nomark _))
                      (pds_one (pds_set (i := 4) sc_call.nd rfl (by first | exact .inl rfl | exact .inr rfl) (pd_call G_negate (hr.mono (by omega)) (by rfl) T.dnegate.g T.dnegate.F.kp T.dnegate.b (fun σ => L2N.passAt tk σ) (pda_cons (pd_var (pv 1)) pda_nil))))
                      (pds_one (pds_if (pdt_cmp (oo_eq hr.units) ol_eq (pd_var (pv 0)) pd_int (nomark _))
                        (pds_one (pds_set (i := 4) sc_call.nd rfl (by first | exact .inl rfl | exact .inr rfl) (pd_call G_sign (hr.mono (by omega)) (by rfl) T.dsign.g T.dsign.F.kp T.dsign.b (fun σ => L2N.passAt tk σ) (pda_cons (pd_var (pv 1)) pda_nil))))
                        (pds_one (pds_if (pdt_cmp (oo_eq hr.units) ol_eq (pd_var (pv 0)) pd_int (nomark _))
                          (pds_one (pds_set (i := 4) sc_call.nd rfl (by first | exact .inl rfl | exact .inr rfl) (pd_call G_total (hr.mono (by omega)) (by rfl) T.dtotal.g T.dtotal.F.kp T.dtotal.b (fun σ => L2N.passAt tk σ) (pda_cons (pd_var (pv 1)) pda_nil))))
                          (pds_one (pds_set (i := 4) sc_call.nd rfl (by first | exact .inl rfl | exact .inr rfl) (pd_callD (dds := [.int 1]) G_ratio (hr.mono (by omega)) (by rfl) T.dratio.g T.dratio.F.kp T.dratio.bd T.dratio.vd (fun _ _ => DaL.one rfl) (fun σ => L2N.passAt tk σ) (pda_cons (pd_var (pv 1)) pda_nil)))))))))))))))))))))))
        G_refused (hr.mono (by omega)) rfl T.drefused.g T.drefused.F.kp T.drefused.b (fun _ _ => pv 3))
      (pds_one (pds_ret (pd_tup (pda_cons pd_str (pda_cons (pd_var (pv 4)) pda_nil)))))), fun ds Q E hl h => ?_⟩
  unfold m_call at h
  split at h
  · rename_i w one two
    obtain ⟨A, q⟩ := h
    simp only [↓reduceIte, ↓startD, ↓List.map_cons, ↓List.map_nil, ↓List.length_cons, ↓List.length_nil, ↓List.cons_append, ↓List.nil_append, ↓List.replicate_succ, ↓List.replicate_zero, ↓List.getElem?_cons_zero, ↓List.getElem?_cons_succ, ↓List.set_cons_zero, ↓List.set_cons_succ, ↓dVar, ↓rdS, ↓dC, ↓dNew, ↓dOp, ↓onB, ↓qB, ↓dChain, ↓qAnd, ↓qOr, ↓qNot, ↓qTru, ↓truD, ↓dIf, ↓dAnd, ↓dOr, ↓dNot, ↓dUn, ↓ddNeg, ↓lNil, ↓lCons, ↓dTup, ↓nLst, ↓ddI, ↓ddI0, ↓ddAdd, ↓isNonD, ↓isBlD, ↓ddIsN, ↓ddIsB, ↓ddIx_t0, ↓ddIx_t1, ↓ddIx_t2, ↓ddIx_t3, ↓ddIx_l0, ↓ddIx_l1, ↓ddIx_l2, ↓dCB, ↓ddLen, ↓ddInt1, ↓ddAbs, ↓ddMM, ↓ddTuple, ↓nCB, ↓nnList, ↓ddIsi, ↓dCall, ↓sSkip, ↓sSeq, ↓sBreak, ↓sCont, ↓sExpr, ↓sRet, ↓sRetN, ↓sIf, ↓sNever, ↓gdName, ↓gdNil, ↓gdCons, ↓gdTup, ↓sAsg, ↓sSetN, ↓sPar, ↓sRaise, ↓sFrz, ↓owS, ↓sApp, ↓sIns, ↓dLenO, ↓dIxO, ↓sTry, ↓sFor, ↓iL, ↓iT, ↓onL, ↓onT, ↓iR1, ↓iR2, ↓nComp, ↓qYes, ↓ddEq_ii, ↓ddEq_ss, ↓ddEq_bb, ↓Bool.false_bne, ↓Bool.true_bne, ↓List.append_nil, ↓true_and, ↓and_true, ↓if_true, ↓if_false, ↓Bool.not_true, ↓Bool.not_false, ↓Bool.true_eq_false, ↓Bool.false_eq_true, ↓ite_true, ↓ite_false, ↓id_eq, ↓plain_non, ↓isIn_non_int, ↓isIn_non_str, ↓isIn_non_bool, ↓isIn_non_list, ↓isIn_non_tuple, ↓isIn_non_dict, ↓plain_bl, ↓isIn_bl_int, ↓isIn_bl_str, ↓isIn_bl_bool, ↓isIn_bl_list, ↓isIn_bl_tuple, ↓isIn_bl_dict, ↓plain_int, ↓isIn_int_int, ↓isIn_int_str, ↓isIn_int_bool, ↓isIn_int_list, ↓isIn_int_tuple, ↓isIn_int_dict, ↓plain_str, ↓isIn_str_int, ↓isIn_str_str, ↓isIn_str_bool, ↓isIn_str_list, ↓isIn_str_tuple, ↓isIn_str_dict, ↓plain_tup, ↓isIn_tup_int, ↓isIn_tup_str, ↓isIn_tup_bool, ↓isIn_tup_list, ↓isIn_tup_tuple, ↓isIn_tup_dict, ↓plain_lst, ↓isIn_lst_int, ↓isIn_lst_str, ↓isIn_lst_bool, ↓isIn_lst_list, ↓isIn_lst_tuple, ↓isIn_lst_dict, ↓sl0, ↓sl1, ↓sl2, ↓sl3, ↓sl4, ↓decide_true, ↓decide_false, ↓ddIsi2, ↓Bool.or_true, ↓Bool.or_false, ↓Bool.true_or]
    dsimp only [cxOf]
    refine ⟨by decide, ?_⟩
    have ex : ∃ EX : XD → Prop, (fun x : XD => PySem.W.exmOne K (.ref x.C) (.ref T.cFrameError.C) = some true ∧ m_refused T x Q) = EX ∧ (∀ s, Q (wkD s) → EX (wkX T s)) ∧ (Q zdD → EX (zdX T)) :=
      ⟨_, rfl, fun s h => ⟨T.xWrongKind, .inr ⟨s, rfl, h⟩⟩, fun h => ⟨T.xZeroDivisor, .inl ⟨rfl, h⟩⟩⟩
    obtain ⟨EX, eX, wk, zd⟩ := ex
    rw [eX]
    clear eX
    have told : faultD w one two = .non → Q (.tup [.str "told", resD w one two]) := fun e => by
      rw [callD_n e] at q
      exact q
    by_cases e0 : w = 0
    · subst e0
      rw [if_pos (by decide)]
      obtain ⟨p1, p2, b1, b2⟩ := A.2.2.1 (.inl rfl)
      refine ⟨p1, p2, fun e => wk _ ?_, fun e e2 => wk _ ?_, fun a b e1 e2 => ⟨fun z => zd ?_, fun z => ?_⟩⟩
      · rw [callD_f (x := wkD "numerator") (by simp [faultD, e]) (.inr ⟨_, rfl⟩)] at q
        exact q
      · rw [callD_f (x := wkD "denominator") (by simp [faultD, e, e2]) (.inr ⟨_, rfl⟩)] at q
        exact q
      · rw [callD_f (x := zdD) (by rw [e1, e2, z]; rfl) (.inl rfl)] at q
        exact q
      · have t := told (by rw [e1, e2]; simp [faultD, isW, isZ, z])
        rw [e1, e2] at t
        exact ⟨(b2 _ e2).log, t⟩
    rw [if_neg (by rw [decide_eq_false e0]; decide)]
    by_cases e1 : w = 1
    · subst e1
      rw [if_pos (by decide)]
      refine two_call (w := 1) (by decide) A q wk fun a b c d h1 h2 r1 r2 s => ⟨s, ?_⟩
      have t := told (f_non (by decide) r1 (fun _ => r2) (fun z => by cases z))
      rw [h1, h2] at t
      exact t
    rw [if_neg (by rw [decide_eq_false e1]; decide)]
    by_cases e2 : w = 2
    · subst e2
      rw [if_pos (by decide)]
      refine two_call (w := 2) (by decide) A q wk fun a b c d h1 h2 r1 r2 s => ⟨s, ?_⟩
      have t := told (f_non (by decide) r1 (fun _ => r2) (fun z => by cases z))
      rw [h1, h2] at t
      exact t
    rw [if_neg (by rw [decide_eq_false e2]; decide)]
    by_cases e3 : w = 3
    · subst e3
      rw [if_pos (by decide)]
      refine two_call (w := 3) (by decide) A q wk fun a b c d h1 h2 r1 r2 s => ⟨s, ?_⟩
      have t := told (f_non (by decide) r1 (fun _ => r2) (fun z => by cases z))
      rw [h1, h2] at t
      exact t
    rw [if_neg (by rw [decide_eq_false e3]; decide)]
    by_cases e4 : w = 4
    · subst e4
      rw [if_pos (by decide)]
      refine two_call (w := 4) (by decide) A q wk fun a b c d h1 h2 r1 r2 s => ⟨s, fun z => zd ?_, fun z => ?_⟩
      · rw [callD_f (f_zero r1 r2 (by rw [h2]; exact z)) (.inl rfl)] at q
        exact q
      · have t := told (f_non (by decide) r1 (fun _ => r2) (fun _ => by rw [h2]; exact z))
        rw [h1, h2] at t
        exact t
    rw [if_neg (by rw [decide_eq_false e4]; decide)]
    by_cases e5 : w = 5
    · subst e5
      rw [if_pos (by decide)]
      refine two_call (w := 5) (by decide) A q wk fun a b c d h1 h2 r1 r2 s => ⟨s, ?_⟩
      have t := told (f_non (by decide) r1 (fun _ => r2) (fun z => by cases z))
      rw [h1, h2] at t
      exact t
    rw [if_neg (by rw [decide_eq_false e5]; decide)]
    by_cases e6 : w = 6
    · subst e6
      rw [if_pos (by decide)]
      obtain ⟨p1, p2, b1, b2⟩ := A.2.2.2 (by decide)
      refine ⟨p1, fun e => wk _ ?_, fun a b h1 r1 => ?_⟩
      · rw [callD_f (f_one (by decide) e) (.inr ⟨_, rfl⟩)] at q
        exact q
      · have t := told (f_non (by decide) r1 (fun z => absurd z (by decide)) (fun z => by cases z))
        rw [h1] at t
        exact t
    rw [if_neg (by rw [decide_eq_false e6]; decide)]
    by_cases e7 : w = 7
    · subst e7
      rw [if_pos (by decide)]
      obtain ⟨p1, p2, b1, b2⟩ := A.2.2.2 (by decide)
      refine ⟨p1, fun e => wk _ ?_, fun a b h1 r1 => ?_⟩
      · rw [callD_f (f_one (by decide) e) (.inr ⟨_, rfl⟩)] at q
        exact q
      · have t := told (f_non (by decide) r1 (fun z => absurd z (by decide)) (fun z => by cases z))
        rw [h1] at t
        exact t
    rw [if_neg (by rw [decide_eq_false e7]; decide)]
    by_cases e8 : w = 8
    · subst e8
      rw [if_pos (by decide)]
      obtain ⟨p1, lk⟩ := A.2.1 rfl
      refine ⟨p1, fun l e => ?_, fun e => wk _ ?_, fun l e r => ?_⟩
      · obtain ⟨h1, h2, _⟩ := lk l e
        exact ⟨by omega, fun c hc => (h2 c hc).1⟩
      · rw [callD_f (x := wkD "values") (by simp [faultD, e]) (.inr ⟨_, rfl⟩)] at q
        exact q
      · have t := told (by simp [faultD, r])
        obtain ⟨_, _, so⟩ := lk l e
        rw [e] at t r
        exact ⟨(so r).t, t⟩
    rw [if_neg (by rw [decide_eq_false e8]; decide)]
    have e9 : w = 9 := by
      have := A.1
      omega
    subst e9
    obtain ⟨p1, p2, b1, b2⟩ := A.2.2.1 (.inr rfl)
    refine ⟨p1, rfl, fun e => wk _ ?_, fun e e2 => (by cases e2), fun a b h1 h2 => ?_⟩
    · rw [callD_f (x := wkD "numerator") (by simp [faultD, e]) (.inr ⟨_, rfl⟩)] at q
      exact q
    · cases h2
      refine ⟨fun z => (by cases z), fun _ => ⟨by decide, ?_⟩⟩
      have t := told (by rw [h1]; simp [faultD, isW])
      rw [h1] at t
      exact t
  · exact h.elim
end
end My
namespace My
open PySem PySem.Spec PyProof.Rows L2
local macro_rules | `(tactic| walk_at "arith") => `(tactic| first
  | (with_reducible show _ ≠ _; omega)
  | (unfold CMul; omega)
  | (unfold CPow; omega)
  | (unfold CPow; decide)
  | exact wide_div (b := 100) (by decide) (by decide) (by decide) (by decide))
local macro_rules | `(tactic| walk_at "go") => `(tactic| repeat (first
  | with_reducible refine g_seq ?_
  | with_reducible refine g_asg ?_
  | with_reducible refine g_name ?_
  | with_reducible refine g_sub ?_
  | with_reducible refine g_ret ?_
  | with_reducible refine g_drop ?_
  | ((with_reducible refine g_next ?_); dsimp only)
  | with_reducible refine g_if ?_
  | with_reducible refine g_var rfl ?_
  | with_reducible refine g_c ?_
  | with_reducible refine g_op ?_
  | with_reducible refine g_un ?_
  | with_reducible refine g_I0 ?_
  | with_reducible refine g_U ?_
  | with_reducible refine g_eq rfl ?_
  | with_reducible refine g_test ?_
  | with_reducible refine g_bl ?_
  | with_reducible refine iteF ?_
  | with_reducible refine iteT ?_
  | ((with_reducible apply g_iteT); (case e => rfl))
  | ((with_reducible apply g_iteF); (case e => rfl))
  | with_reducible refine g_int1 ?_
  | with_reducible refine g_max2 ?_
  | with_reducible refine g_min2 ?_
  | with_reducible refine g_isN ?_
  | with_reducible refine g_notN ?_
  | ((with_reducible apply g_lenL); (case hs => assumption))
  | ((with_reducible apply g_ixL); (case hs => exact SqL.of (by assumption)); (case ha => rfl))
  | with_reducible refine g_pow9 ?_
  | with_reducible refine g_pow18 ?_
  | ((with_reducible apply g_I); (case c => walk_at "arith"))
  | ((with_reducible apply g_st); (case hs => assumption); (case hL => assumption); (case ne => assumption); (case x0 => assumption); (case hj => rfl); (case j0 => decide); intro _ _ _ _)
  | with_reducible refine g_and ?_
  | with_reducible refine g_or ?_
  | with_reducible refine g_not ?_
  | with_reducible refine g_nil ?_
  | with_reducible refine g_cons ?_
  | with_reducible refine g_callB ?_
  | with_reducible refine g_call ?_
  | with_reducible refine g_tup ?_
  | with_reducible refine g_lst ?_
  | with_reducible refine g_andV ?_
  | with_reducible refine g_orV ?_
  | with_reducible refine g_notV ?_
  | with_reducible refine g_tB ?_
  | with_reducible refine g_ne rfl ?_
  | with_reducible refine g_abs ?_
  | with_reducible refine g_isB ?_
  | with_reducible refine g_for ?_
  | with_reducible refine g_rng1 ?_
  | with_reducible refine g_rng2 ?_
  | with_reducible refine g_iList ?_
  | ((with_reducible refine g_break ?_); dsimp only)
  | ((with_reducible refine g_cont ?_); dsimp only)
  | with_reducible refine g_retN ?_
  | ((with_reducible apply isi_go (T := "int")); (case h => assumption); (case hb => exact k_int_ _))
  | ((with_reducible apply isi_go (T := "str")); (case h => assumption); (case hb => exact k_str_ _))
  | ((with_reducible apply isi_go (T := "bool")); (case h => assumption); (case hb => exact k_bool_ _))
  | ((with_reducible apply isi_go (T := "list")); (case h => assumption); (case hb => exact k_list_ _))
  | ((with_reducible apply isi_go (T := "tuple")); (case h => assumption); (case hb => exact k_tuple_ _))
  | ((with_reducible apply isi_go (T := "dict")); (case h => assumption); (case hb => exact k_dict_ _))
  | with_reducible refine g_intb ?_))

/-! ### what the law alone needs: the store laid, lists thawed -/
def spStoreL (K : PySem.W.Frag) : Sp := fun vs H Q _ => ∃ (a : Addr) (ns : List Int), vs = [.ref a] ∧ SqL K H a (ns.map V.int) ∧ ns.length ≤ 63 ∧
  ∀ (L s : Addr) (H' : Hp), L ≠ s → H' s = some (.lst (StL L 0 0 0 0 0)) → H' L = some (.lst (ns.map V.int)) → Q (.ref s) H'
section
variable {P : Program} {w : World} {K : PySem.W.Frag} {mg : Str → Option Value} {base : Heap}
theorem ok_storeL (T : Txt K mg) : FnOk P w K mg base CX0 1 T.dstore.f T.dstore.fd P_store (spStoreL K) := by
  refine T.dstore.F.ok sc_store (fun vs H Q E h => ?_) (fun cdv A outer s H vs Q E hr h => ?_)
  · obtain ⟨a, ns, rfl, _⟩ := h
    rfl
  · obtain ⟨a, ns, rfl, hq, hl, k⟩ := h
    refine ⟨_, (pss_one (ps_ret (pe_lst (pa_cons (pe_callTy c_list (by rfl) T.m_list bt_list (pa_cons (pv 0) pa_nil)) (pa_cons pe_int (pa_cons pe_int (pa_cons pe_int (pa_cons pe_int (pa_cons pe_int pa_nil))))))))), ?_⟩
    try dsimp only [cxOf, Cx.nox, Cx.wish]
    walk_at "go"
    refine ⟨a, _, rfl, .inl hq, fun L hL => ?_⟩
    walk_at "go"
    refine ⟨by show 6 ≤ sizeLine; decide, fun p hp => ?_⟩
    have nLp : L ≠ p := fun e => by
      rw [← e, upd_same] at hp
      cases hp
    exact k L p _ nLp upd_same (by rw [upd_ne nLp, upd_same])
end
mutual
/-- no list within -/
def lfD : D → Bool
  | .non => true
  | .bl _ => true
  | .int _ => true
  | .str _ => true
  | .tup l => lfL l
  | _ => false
def lfL : List D → Bool
  | [] => true
  | d :: l => lfD d && lfL l
end
def noL (A : Hp) : Hp := fun b => match A b with
  | some (.lst _) => none
  | o => o
theorem noL_sub {A : Hp} {b : Addr} {o : HO} (h : noL A b = some o) : A b = some o := by
  unfold noL at h
  split at h
  · cases h
  · exact h
theorem noL_of {A : Hp} {b : Addr} {o : HO} (h : A b = some o) (n : ∀ xs, o ≠ .lst xs) : noL A b = some o := by
  unfold noL
  rw [h]
  cases o <;> first | rfl | exact absurd rfl (n _)
theorem noL_lst {A : Hp} {b : Addr} {xs : List V} (h : A b = some (.lst xs)) : noL A b = none := by
  unfold noL
  rw [h]
mutual
theorem Da.noL {K : PySem.W.Frag} {so so' : Option Addr} {A : Hp} : ∀ (d : D) (v : V), lfD d = true → Da K so A d v → Da K so' (noL A) d v
  | .non, _, _, h => h
  | .bl _, _, _, h => h
  | .int _, _, _, h => h
  | .str _, _, _, h => h
  | .tup l, _, e, ⟨a, xs, e1, h, q⟩ => by
    refine ⟨a, xs, e1, ?_, DaL.noL l xs e q⟩
    rcases h with (h | ⟨o, h⟩) | h
    · exact .inl (.inl (noL_of h (fun xs z => by cases z)))
    · exact .inl (.inr ⟨o, noL_of h (fun xs z => by cases z)⟩)
    · exact .inr h
  | .lst _, _, e, _ => by cases e
  | .dct _ _, _, e, _ => by cases e
  | .ins _ _ _, _, e, _ => by cases e
  | .scr _, _, e, _ => by cases e
  | .sto, _, e, _ => by cases e
  | .exc _, _, e, _ => by cases e
theorem DaL.noL {K : PySem.W.Frag} {so so' : Option Addr} {A : Hp} : ∀ (l : List D) (xs : List V), lfL l = true → DaL K so A l xs → DaL K so' (noL A) l xs
  | [], _, _, h => h
  | d :: l, _, e, ⟨v, r, e1, h, q⟩ => by
    have e : (lfD d && lfL l) = true := e
    rw [Bool.and_eq_true] at e
    exact ⟨v, r, e1, Da.noL d v e.1 h, DaL.noL l r e.2 q⟩
end
def thawS : Sl → Sl
  | .fr d => if lfD d = true then .fr d else .no
  | _ => .no
def thawD (i : Nat) (l : List D) (ρ : DEnv) : DEnv := (ρ.map thawS).set i (.ow l)
def lawEnds : DEnds := ⟨fun _ => False, fun d => d = .bl true, fun _ => False, fun _ => False, fun _ => False, True⟩
def sThaw (i : Nat) (r : DS) : DS := fun DD ρ => DD.fr ∧ ∃ l, ρ[i]? = some (.fr (.lst l)) ∧ lfL l = true ∧ r lawEnds (thawD i l ρ)
section
variable {X : Cx} {g : Gx} {EX : EXT} {rest : List Stmt} {r : DS}
theorem lawEnds_ok {g : Gx} {n : Nat} {B : Hp} {De : Ends} (h : ∀ H, De.rt (.bl true) H) : EndsOk X.K g EX n B lawEnds De :=
  ⟨fun _ _ _ _ _ _ _ q => q.elim, fun A H d v x da q => by
    have q : d = .bl true := q
    subst q
    have da : v = _ := da
    subst da
    exact h H, fun _ _ _ _ _ _ _ q => q.elim, fun _ _ _ _ _ _ _ q => q.elim, fun _ _ _ _ _ _ _ _ _ _ _ _ q => q.elim, fun _ => h⟩
theorem pds_thaw (i : Nat) (h : ∀ g', PDSs X g' EX rest r) : PDSs X g EX rest (sThaw i r) := by
  refine ⟨⟨fun pins s σ H De I q => ?_⟩⟩
  obtain ⟨A, ρ, DD, S, ⟨hf, l, hi, hl, q⟩, k⟩ := q
  obtain ⟨o, so, v, ev, a, xs, e2, ha, da⟩ := S.e.ok i _ hi
  subst ev e2
  have g1 : Good X.K none (noL A) H := ⟨fun b o e => S.good.sub b o (noL_sub e), fun s e => by cases e⟩
  have x1 : Ext X.K none (noL A) (noL A) (noL A) H := ⟨g1, fun _ _ e => e, fun b o _ e => g1.sub b o e, fun b o e => .inl e⟩
  refine (h ⟨none, noL A, noL A⟩).pss.run pins s σ H De I ⟨noL A, thawD i l ρ, lawEnds, ⟨x1, ?_⟩, q, lawEnds_ok (k.fr hf)⟩
  refine ⟨by rw [thawD, List.length_set, List.length_map]; exact S.e.len, fun j sl e => ?_, fun j1 j2 sl1 sl2 b n e1 e2 o1 o2 _ _ => ?_⟩
  · by_cases hj : i = j
    · subst hj
      have hlt : i < ρ.length := (List.getElem?_eq_some_iff.mp hi).1
      rw [thawD, List.getElem?_set_self (by rw [List.length_map]; exact hlt)] at e
      cases e
      exact ⟨_, so, a, xs, rfl, S.x.good.sub _ _ ha, noL_lst ha, noL_lst ha, (fun z => by cases z), DaL.noL l xs hl da⟩
    · rw [thawD, List.getElem?_set_ne hj, List.getElem?_map] at e
      cases e0 : ρ[j]? with
      | none =>
        rw [e0] at e
        cases e
      | some sl0 =>
        rw [e0] at e
        cases e
        obtain ⟨o, so2, h2⟩ := S.e.ok j sl0 e0
        refine ⟨o, so2, ?_⟩
        cases sl0 with
        | fr d =>
          show SlOk X.K none (My.noL A) (My.noL A) H (if lfD d = true then .fr d else .no) o
          split
          · rename_i hd
            obtain ⟨u, eu, du⟩ := h2
            exact ⟨u, eu, Da.noL d u hd du⟩
          · trivial
        | _ => exact trivial
  · have own : ∀ (j : Nat) (sl : Sl), (thawD i l ρ)[j]? = some sl → sl.own = true → i = j := fun j sl e o => by
      by_cases hj : i = j
      · exact hj
      · rw [thawD, List.getElem?_set_ne hj, List.getElem?_map] at e
        cases e0 : ρ[j]? with
        | none =>
          rw [e0] at e
          cases e
        | some sl0 =>
          rw [e0] at e
          cases e
          cases sl0 with
          | fr d =>
            have o : (if lfD d = true then Sl.fr d else Sl.no).own = true := o
            split at o <;> cases o
          | _ => cases o
    exact n ((own _ _ e1 o1).symm.trans (own _ _ e2 o2))
def onlyAt (H : Hp) (L : Addr) : Hp := fun b => if b = L then H L else none
theorem onlyAt_sub {H : Hp} {L b : Addr} {o : HO} (e : onlyAt H L b = some o) : H b = some o := by
  unfold onlyAt at e
  by_cases z : b = L
  · rw [if_pos z] at e
    rw [z]
    exact e
  · rw [if_neg z] at e
    cases e
theorem onlyAt_at {H : Hp} {L : Addr} : onlyAt H L L = H L := if_pos rfl
theorem onlyAt_ne {H : Hp} {L b : Addr} (n : b ≠ L) : onlyAt H L b = none := if_neg n
/-- the store is laid: nothing else is looked at behind it -/
def sStore (i : Nat) (r : DS) : DS := fun DD ρ => DD.fr ∧ i < ρ.length ∧ ∃ ns : List Int, ρ[0]? = some (.fr (.scr ns)) ∧ ns.length ≤ 63 ∧ r lawEnds ((ρ.map fun _ => Sl.no).set i (.fr .sto))
theorem pds_storeL {i lv : Nat} {y x : Str} {py p pos spos : Pos} {o : Expr} {f : Addr} {fd : FuncData} {ps : List Str} (F : FnOk X.prog X.w X.K X.mg X.base CX0 lv f fd ps (spStoreL X.K)) (hr : Room lv X.A) (hg : Gl X x) (hm : X.mg x = some (.ref f)) (hk : PySem.W.keepIn X.K (.ref f) = true) (hb : Binds X.K fd ps [])
    (ho : PE X o (tVar 0)) (hN : X.N.Nodup) (hi : X.N[i]? = some y) (hx : Loc X.env.scope y) (h : ∀ g', PDSs X g' EX rest r) (hs1 : starEach [o] X.env = (false, eval o X.env) :: starEach [] X.env) (hsw : swapsWith (.Call (.Name x p) [o] [] pos) (some (.Name y py)) spos.line X.env = pure false)
    (hf : X.fn y = true ∨ X.env.scope.names.lookup y = some .local) (nd : (x == ("__debug__" : Str)) = false := by decide) : PDSs X g EX (.Assign [.Name y py] (.Call (.Name x p) [o] [] pos) spos :: rest) (sStore i r) := by
  have h2 : PSs X rest (fun De σ H => ∃ g', lS X.K g' EX r De σ H) := ⟨fun pins s σ H De I ⟨g', q⟩ => (h g').pss.run pins s σ H De I q⟩
  refine ⟨(pss_cons (ps_set (pos := spos) hN hi hx (pe_callS F hr hg hm hk hb (fun σ => pass00 EX σ) (pa_cons ho pa_nil hs1) nd hs1 rfl) hsw hf) h2).imp fun De σ H q => ?_⟩
  obtain ⟨A, ρ, DD, S, ⟨hfr, hlt, ns, h0, hl, q⟩, k⟩ := q
  obtain ⟨o, so, v, ev, a, e2, hq⟩ := S.e.ok 0 _ h0
  subst ev e2
  refine ⟨_, so, a, ns, rfl, Sub.sqL S.good.sub hq, hl, fun L s H' ne h1 h2 => ?_⟩
  refine ⟨⟨some s, onlyAt H' L, H'⟩, onlyAt H' L, _, lawEnds, ⟨Ext.refl ⟨fun b o e => ?_, fun s' e => ?_⟩, ?_⟩, q, lawEnds_ok (k.fr hfr)⟩
  · exact onlyAt_sub e
  · cases e
    exact ⟨onlyAt_ne (Ne.symm ne), L, ns, 0, 0, 0, 0, 0, h1, onlyAt_at.trans h2, by decide, by decide, by decide, by decide, by decide, hl⟩
  · have hls := S.e.len
    refine ⟨by rw [List.length_set, List.length_set, List.length_map]; exact hls, fun j sl e => ?_, fun j1 j2 sl1 sl2 b n e1 e2 o1 o2 _ _ => ?_⟩
    · by_cases hj : i = j
      · subst hj
        rw [List.getElem?_set_self (by rw [List.length_map]; exact hlt)] at e
        cases e
        exact ⟨_, List.getElem?_set_self (by rw [hls]; exact hlt), .ref s, rfl, s, rfl, rfl⟩
      · rw [List.getElem?_set_ne hj, List.getElem?_map] at e
        rw [List.getElem?_set_ne hj]
        cases e0 : ρ[j]? with
        | none =>
          rw [e0] at e
          cases e
        | some sl0 =>
          rw [e0] at e
          cases e
          obtain ⟨o, so2, _⟩ := S.e.ok j sl0 e0
          exact ⟨o, so2, trivial⟩
    · have own : ∀ (j : Nat) (sl : Sl), ((ρ.map fun _ => Sl.no).set i (.fr .sto))[j]? = some sl → sl.own = true → False := fun j sl e o => by
        by_cases hj : i = j
        · subst hj
          rw [List.getElem?_set_self (by rw [List.length_map]; exact hlt)] at e
          cases e
          cases o
        · rw [List.getElem?_set_ne hj, List.getElem?_map] at e
          cases e0 : ρ[j]? with
          | none =>
            rw [e0] at e
            cases e
          | some sl0 =>
            rw [e0] at e
            cases e
            cases o
      exact (own _ _ e1 o1).elim
end
/-! ### the law's promise -/
def spLaw (K : PySem.W.Frag) : Sp := fun vs H Q _ => ∃ (a : Addr) (ns : List Int), vs = [.ref a] ∧ SqL K H a (ns.map V.int) ∧ ns.length ≤ 63 ∧ ∀ H', Q (.bl true) H'
section
variable {P : Program} {w : World} {K : PySem.W.Frag} {mg : Str → Option Value} {base : Heap}
theorem Df.okLaw {y : Str} {st : Stmt} {N : List Str} {pn : Str} {lv : Nat} (D : Df K mg y st [pn]) (S : FnScope N [pn] (defScope st))
    (body : ∀ (cdv : Value) (A : Around) (outer : List PySem.Env) (s : Shared) (H : Hp) (E : XK) (g : Gx), Room lv (A.deeper (envOfC y (defScope st) s.heap.objs.size D.f cdv)) →
      L2N.Takes (cxOf (L2N.CX P w) P w K mg base N y (defScope st) D.f cdv A outer s H E) (fun c d _ H => E c d H) →
      PassesOwn (model P w) (A.deeper (envOfC y (defScope st) s.heap.objs.size D.f cdv)) (envOfC y (defScope st) s.heap.objs.size D.f cdv) (cxOf (L2N.CX P w) P w K mg base N y (defScope st) D.f cdv A outer s H E).xe →
      ∃ r, PDSs (cxOf (L2N.CX P w) P w K mg base N y (defScope st) D.f cdv A outer s H E) g (fun _ => E) (defBody st) r ∧ ∀ ns : List Int, ns.length ≤ 63 → r lawEnds (startD N [.scr ns])) :
    FnOk P w K mg base (L2N.CX P w) (lv + 1) D.f D.fd [pn] (spLaw K) := by
  refine D.okN S (fun vs H Q E h => ?_) fun cdv A outer s H vs Q E room h => ?_
  · obtain ⟨_, _, rfl, _⟩ := h
    rfl
  · obtain ⟨a, ns, rfl, hq, hl, k⟩ := h
    obtain ⟨r, hr, kr⟩ := body cdv A outer s H E ⟨none, H, H⟩ room (L2N.takes_of rfl rfl rfl rfl) PassesOwn.leaving
    have gd : Good K none H H := ⟨fun _ _ e => e, fun s e => by cases e⟩
    exact ⟨_, hr.pss, H, startD N [.scr ns], lawEnds, ⟨Ext.refl gd, startOk gd (DaL.one ⟨a, rfl, hq⟩)⟩, kr ns hl, lawEnds_ok k⟩
end
end My
set_option exponentiation.threshold 100000
namespace My
open PySem PySem.Spec PyProof.Rows L2
local macro_rules | `(tactic| walk_at "dl") => `(tactic| simp only [startD, List.map_cons, List.map_nil, List.length_cons, List.length_nil, List.cons_append, List.nil_append, List.replicate_succ, List.replicate_zero, List.getElem?_cons_zero, List.getElem?_cons_succ, List.set_cons_zero, List.set_cons_succ,
  dVar, rdS, dC, dNew, dOp, onB, qB, dChain, qAnd, qOr, qNot, qTru, truD, dIf, dAnd, dOr, dNot, dUn, ddNeg, lNil, lCons, dTup, nLst, ddI, ddI0, ddAdd, isNonD, isBlD, ddIsN, ddIsB, ddIx_t0, ddIx_t1, ddIx_t2, ddIx_t3, ddIx_l0, ddIx_l1, ddIx_l2, dCB, ddLen, ddInt1, ddAbs, ddMM, ddTuple, nCB, nnList, ddIsi, dCall,
  sSkip, sSeq, sBreak, sCont, sExpr, sRet, sRetN, sIf, sNever, gdName, gdNil, gdCons, gdTup, sAsg, sSetN, sPar, sRaise, sFrz, owS, sApp, sIns, dLenO, dIxO, sTry, sFor, iL, iT, onL, onT, iR1, iR2, nComp, qYes,
  ddEq_ii, ddEq_ss, ddEq_bb, Bool.false_bne, Bool.true_bne, List.append_nil, true_and, and_true, if_true, if_false, Bool.not_true, Bool.not_false, Bool.true_eq_false, Bool.false_eq_true, ite_true, ite_false, id_eq])

local macro_rules | `(tactic| walk_at "is") => `(tactic| simp only [plain_non, isIn_non_int, isIn_non_str, isIn_non_bool, isIn_non_list, isIn_non_tuple, isIn_non_dict, plain_bl, isIn_bl_int, isIn_bl_str, isIn_bl_bool, isIn_bl_list, isIn_bl_tuple, isIn_bl_dict, plain_int, isIn_int_int, isIn_int_str, isIn_int_bool, isIn_int_list, isIn_int_tuple, isIn_int_dict, plain_str, isIn_str_int, isIn_str_str, isIn_str_bool, isIn_str_list, isIn_str_tuple, isIn_str_dict, plain_tup, isIn_tup_int, isIn_tup_str, isIn_tup_bool, isIn_tup_list, isIn_tup_tuple, isIn_tup_dict, plain_lst, isIn_lst_int, isIn_lst_str, isIn_lst_bool, isIn_lst_list, isIn_lst_tuple, isIn_lst_dict, sl0, sl1, sl2, sl3, sl4, decide_true, decide_false, ddIsi, ddIsi2, true_and, if_true, if_false, Bool.false_eq_true, Bool.not_true, Bool.not_false, Bool.or_true, Bool.or_false, Bool.true_or, and_true])
local macro_rules | `(tactic| walk_at "wk") => `(tactic| ((try walk_at "dl"); (try walk_at "is"); (try walk_at "dl")))

theorem seq_mid {r u : DS} {DD : DEnds} {ρ : DEnv} (P : DEnv → Prop) (h1 : ∀ R : DEnv → Prop, (∀ ρ', P ρ' → R ρ') → r { DD with nx := R } ρ) (h2 : ∀ ρ', P ρ' → u DD ρ') : sSeq r u DD ρ := h1 _ h2
abbrev s_law : Stmt := topS 75
abbrev N_law : List Str := ["script", "store", "figures", "one", "two", "pair", "values", "kept", "asks", "firsts", "ask", "told", "bad", "k", "way"]
abbrev P_law : List Str := ["script"]
theorem sc_law : FnScope N_law P_law (defScope s_law) := ⟨rfl, rfl, rfl, by decide +kernel, rfl, by decide +kernel, by decide +kernel⟩

/-! ### the asks -/
abbrev envL (f one two pair vals kept asks firsts ask told bad k way : Sl) : DEnv := [.no, .fr .sto, f, one, two, pair, vals, kept, asks, firsts, ask, told, bad, k, way]
def asksL (x y : Int) (one two : D) (l : List D) : List D := [.tup [.int 0, .int x, .int y], .tup [.int 1, one, two], .tup [.int 2, one, two], .tup [.int 3, one, two], .tup [.int 4, one, two], .tup [.int 5, one, two], .tup [.int 6, one, two], .tup [.int 7, one, two], .tup [.int 8, .lst l, .non], .tup [.int 9, .int x, .non]]
def AskG (d : D) : Prop := ∃ w o t, d = .tup [.int w, o, t] ∧ AskOk w o t ∧ (w = 8 → ∃ l, o = .lst l ∧ l.length ≤ 900)
def callOf : D → D
  | .tup [.int w, o, t] => callD w o t
  | _ => .non
theorem fig_le {n : Nat} (f : Fig n) : 1 ≤ n ∧ n ≤ 1000 := by
  rcases f with rfl | rfl | rfl | rfl <;> decide
theorem RatN.bt {n : Nat} {d : D} (h : RatN n d) (l : n ≤ 1000) : Bt d := by
  obtain ⟨a, b, rfl, _, da, db⟩ := h
  intro a' b' e
  cases e
  exact ⟨da.sm l, db.sm l⟩
theorem ValOk.rat {n : Nat} {l : List D} (v : ValOk n l) (f : Fig n) : l.length ≤ 299 ∧ ∀ d ∈ l, ∃ m, m ≤ 1000 ∧ RatN m d := by
  rcases v with ⟨_, h2, h3⟩ | ⟨_, h2, h3⟩
  · exact ⟨by omega, fun d hd => ⟨n, (fig_le f).2, h3 d hd⟩⟩
  · exact ⟨h2, fun d hd => ⟨1, by decide, h3 d hd⟩⟩
theorem askL8 {l : List D} (hl : l.length ≤ 1000) (h : ∀ d ∈ l, ∃ m, m ≤ 1000 ∧ RatN m d) (s : SumOk l) : AskOk 8 (.lst l) .non := by
  refine ask8 rfl fun l' e => ?_
  cases e
  refine ⟨hl, fun d hd => ?_, fun _ => s⟩
  obtain ⟨m, hm, r⟩ := h d hd
  exact ⟨r.pl, r.bt hm⟩
theorem Dig.btW {x : Int} (h : Dig 1000 x) : BtW (.int x) := fun a e => by
  cases e
  exact h.sm (Nat.le_refl _)
theorem asks_ok {n : Nat} {x y : Int} {one two : D} {l : List D} (fg : Fig n) (hx : Dig 1000 x) (hy : Dig 1000 y) (h1 : RatN n one) (h2 : RatN n two) (v : ValOk n l) : ∀ d ∈ asksL x y one two l, AskG d := fun d hd => by
  have hn := (fig_le fg).2
  obtain ⟨v1, v2⟩ := v.rat fg
  have mid : ∀ w : Int, 1 ≤ w ∧ w ≤ 7 → AskG (.tup [.int w, one, two]) := fun w hw => ⟨w, one, two, rfl, ask1 hw h1.pl h2.pl (h1.bt hn) (h2.bt hn), fun z => by omega⟩
  unfold asksL at hd
  simp only [List.mem_cons, List.not_mem_nil, or_false] at hd
  rcases hd with rfl | rfl | rfl | rfl | rfl | rfl | rfl | rfl | rfl | rfl
  · exact ⟨0, _, _, rfl, ask0 (.inl rfl) rfl rfl hx.btW hy.btW, fun z => by cases z⟩
  · exact mid 1 (by decide)
  · exact mid 2 (by decide)
  · exact mid 3 (by decide)
  · exact mid 4 (by decide)
  · exact mid 5 (by decide)
  · exact mid 6 (by decide)
  · exact mid 7 (by decide)
  · exact ⟨8, _, _, rfl, askL8 (by omega) v2 (values_sum fg v), fun _ => ⟨l, rfl, by omega⟩⟩
  · exact ⟨9, _, _, rfl, ask0 (.inr rfl) rfl rfl hx.btW (fun a e => by cases e), fun z => by cases z⟩
theorem tree_res (w : Int) (one two : D) : TreeD 2 (resD w one two) := by
  unfold resD
  repeat' split
  all_goals first | exact tree_rat _ _ | (simp [TreeD])
theorem tree_call (w : Int) (one two : D) : TreeD 3 (callD w one two) := by
  rcases fault_cases w one two with ⟨_, e⟩ | ⟨x, _, e, hx⟩
  · rw [e]
    have := tree_res w one two
    simp [TreeD, this]
  · rw [e]
    rcases hx with rfl | ⟨s, rfl⟩
    · simp [TreeD, zdD]
    · simp [TreeD, wkD]
theorem tree_vals {l : List D} (hl : l.length ≤ 1000000) (h : ∀ d ∈ l, ∃ m, m ≤ 1000 ∧ RatN m d) : TreeD 3 (.lst l) := by
  unfold TreeD
  refine ⟨hl, fun d hd => ?_⟩
  obtain ⟨m, _, a, b, rfl, _⟩ := h d hd
  exact tree_rat a b
theorem lf_rat {m : Nat} {d : D} (h : RatN m d) : lfD d = true := by
  obtain ⟨a, b, rfl, _⟩ := h
  rfl
theorem lf_vals : ∀ {l : List D}, (∀ d ∈ l, ∃ m, m ≤ 1000 ∧ RatN m d) → lfL l = true
  | [], _ => rfl
  | d :: l, h => by
    show (lfD d && lfL l) = true
    obtain ⟨m, _, r⟩ := h d (List.mem_cons_self ..)
    rw [lf_rat r, lf_vals fun c hc => h c (List.mem_cons_of_mem _ hc)]
    rfl
section
variable {P : Program} {w : World} {K : PySem.W.Frag} {mg : Str → Option Value} {base : Heap}
theorem ok_law (T : Txt K mg) : FnOk P w K mg base (L2N.CX P w) 178 T.dlaw.f T.dlaw.fd P_law (spLaw K) := by
  have G_store : FnOk P w K mg base CX0 1 T.dstore.f T.dstore.fd P_store (spStoreL K) := ok_storeL T
  have G_take : FnOk P w K mg base (L2N.CX P w) 171 T.dtake.f T.dtake.fd P_take (spD K 2 m_take) := ok_takeD T
  have G_lratio : FnOk P w K mg base (L2N.CX P w) 175 T.dlratio.f T.dlratio.fd P_lratio (spD K 2 m_lratio) := ok_lratio T
  have G_second : FnOk P w K mg base (L2N.CX P w) 176 T.dsecond.f T.dsecond.fd P_second (spD K 3 m_second) := ok_second T
  have G_whole_pair : FnOk P w K mg base (L2N.CX P w) 175 T.dwhole_pair.f T.dwhole_pair.fd P_whole_pair (spD K 2 m_whole_pair) := ok_whole_pair T
  have G_values : FnOk P w K mg base (L2N.CX P w) 177 T.dvalues.f T.dvalues.fd P_values (spD K 3 m_values) := ok_values T
  have G_call : FnOk P w K mg base (L2N.CX P w) 7 T.dcall.f T.dcall.fd P_call (spD K 3 m_call) := ok_call T
  have G_as_due : FnOk P w K mg base (L2N.CX P w) 5 T.das_due.f T.das_due.fd P_as_due (spD K 2 m_as_due) := ok_as_due T
  have G_bad_ask : FnOk P w K mg base (L2N.CX P w) 175 T.dbad_ask.f T.dbad_ask.fd P_bad_ask (spD K 3 m_bad_ask) := ok_bad_ask T
  have G_same : FnOk P w K mg base (L2N.CX P w) 3 T.dsame.f T.dsame.fd P_same (spD K 2 (m_same 3)) := ok_same T 3
  have G_undone : FnOk P w K mg base (L2N.CX P w) 7 T.dundone.f T.dundone.fd P_undone (spD K 2 m_undone) := ok_undone T
  refine T.dlaw.okLaw sc_law fun cdv A outer s H E g hr tk hp => ⟨_, (pds_storeL (i := 1) G_store (hr.mono (by omega)) (by rfl) T.dstore.g T.dstore.F.kp T.dstore.b (pv 0) sc_law.nd rfl (by first | exact .inl rfl | exact .inr rfl) (hs1 := rfl) (hsw := rfl) (hf := by first | exact .inl rfl | exact .inr rfl) (h := fun _ => (pds_cons (pds_set (i := 2) sc_law.nd rfl (by first | exact .inl rfl | exact .inr rfl) (pd_ix ix_seq ol_ix (pd_new (pdn_lst (pda_cons pd_int (pda_cons pd_int (pda_cons pd_int (pda_cons pd_int (pda_cons pd_int (pda_cons pd_int pda_nil)))))))) (pd_call G_take (hr.mono (by omega)) (by rfl) T.dtake.g T.dtake.F.kp T.dtake.b (fun σ => L2N.passAt tk σ) (pda_cons (pd_var (pv 1)) (pda_cons pd_int pda_nil))) (fun _ _ => rfl)))
      (pds_cons (pds_if (pdt_cmp (oo_eq hr.units) ol_eq (pd_call G_take (hr.mono (by omega)) (by rfl) T.dtake.g T.dtake.F.kp T.dtake.b (fun σ => L2N.passAt tk σ) (pda_cons (pd_var (pv 1)) (pda_cons pd_int pda_nil))) pd_int (nomark _))
        (pds_one (pds_set (i := 2) sc_law.nd rfl (by first | exact .inl rfl | exact .inr rfl) pd_int))
        pds_nil)
      (pds_cons (pds_set (i := 3) sc_law.nd rfl (by first | exact .inl rfl | exact .inr rfl) (pd_call G_lratio (hr.mono (by omega)) (by rfl) T.dlratio.g T.dlratio.F.kp T.dlratio.b (fun σ => L2N.passAt tk σ) (pda_cons (pd_var (pv 1)) (pda_cons (pd_var (pv 2)) pda_nil))))
      (pds_cons (pds_set (i := 4) sc_law.nd rfl (by first | exact .inl rfl | exact .inr rfl) (pd_call G_second (hr.mono (by omega)) (by rfl) T.dsecond.g T.dsecond.F.kp T.dsecond.b (fun σ => L2N.passAt tk σ) (pda_cons (pd_var (pv 1)) (pda_cons (pd_var (pv 3)) (pda_cons (pd_var (pv 2)) pda_nil)))))
      (pds_cons (pds_set (i := 5) sc_law.nd rfl (by first | exact .inl rfl | exact .inr rfl) (pd_call G_whole_pair (hr.mono (by omega)) (by rfl) T.dwhole_pair.g T.dwhole_pair.F.kp T.dwhole_pair.b (fun σ => L2N.passAt tk σ) (pda_cons (pd_var (pv 1)) (pda_cons (pd_var (pv 2)) pda_nil))))
      (pds_cons (pds_set (i := 6) sc_law.nd rfl (by first | exact .inl rfl | exact .inr rfl) (pd_call G_values (hr.mono (by omega)) (by rfl) T.dvalues.g T.dvalues.F.kp T.dvalues.b (fun σ => L2N.passAt tk σ) (pda_cons (pd_var (pv 1)) (pda_cons (pd_var (pv 3)) (pda_cons (pd_var (pv 2)) pda_nil)))))
      (pds_cons (pds_set (i := 7) sc_law.nd rfl (by first | exact .inl rfl | exact .inr rfl) (pd_new (pdn_list (by rfl) T.m_list (pda_cons (pd_var (pv 6)) pda_nil))))
      (pds_cons (pds_set (i := 8) sc_law.nd rfl (by first | exact .inl rfl | exact .inr rfl) (pd_op oo_add ol_add (pd_op oo_add ol_add (pd_new (pdn_lst (pda_cons (pd_tup (pda_cons pd_int (pda_cons (pd_ix ix_seq ol_ix (pd_var (pv 5)) pd_int (fun _ _ => rfl)) (pda_cons (pd_ix ix_seq ol_ix (pd_var (pv 5)) pd_int (fun _ _ => rfl)) pda_nil)))) pda_nil))) (pd_new (pdn_lc (own := [("way", 14)]) rfl sc_law.nd (pdi_range2 (by rfl) T.m_range (pda_cons pd_int (pda_cons pd_int pda_nil))) (blkOk_by (own := [("way", 14)]) (N := N_law) (sc := defScope s_law) (by decide +kernel)) (fun _ _ _ _ _ => (pdgw_name (pg_name (i := 14) sc_law.nd rfl (by first | exact .inl rfl | exact .inr rfl)) (by simp))) (fun _ _ _ _ _ => pdts_nil) (fun _ _ _ _ _ => (pd_tup (pda_cons (pd_var (pv 14)) (pda_cons (pd_var (pv 3)) (pda_cons (pd_var (pv 4)) pda_nil)))))))) (pd_new (pdn_lst (pda_cons (pd_tup (pda_cons pd_int (pda_cons (pd_var (pv 6)) (pda_cons pd_non pda_nil)))) (pda_cons (pd_tup (pda_cons pd_int (pda_cons (pd_ix ix_seq ol_ix (pd_var (pv 5)) pd_int (fun _ _ => rfl)) (pda_cons pd_non pda_nil)))) pda_nil))))))
      (pds_cons (pds_setN (i := 9) sc_law.nd rfl (by first | exact .inl rfl | exact .inr rfl) (pdn_lst pda_nil))
      (pds_cons (pds_for hp rfl (pdi_list (pd_var (pv 8))) (pdg_name (pg_name (i := 10) sc_law.nd rfl (by first | exact .inl rfl | exact .inr rfl)))
        (pds_cons (pds_set (i := 11) sc_law.nd rfl (by first | exact .inl rfl | exact .inr rfl) (pd_call G_call (hr.mono (by omega)) (by rfl) T.dcall.g T.dcall.F.kp T.dcall.b (fun σ => L2N.passAt tk σ) (pda_cons (pd_ix ix_seq ol_ix (pd_var (pv 10)) pd_int (fun _ _ => rfl)) (pda_cons (pd_ix ix_seq ol_ix (pd_var (pv 10)) pd_int (fun _ _ => rfl)) (pda_cons (pd_ix ix_seq ol_ix (pd_var (pv 10)) pd_int (fun _ _ => rfl)) pda_nil)))))
        (pds_cons (pds_if (pdt_not (pdt_tru (pd_call G_as_due (hr.mono (by omega)) (by rfl) T.das_due.g T.das_due.F.kp T.das_due.b (fun σ => L2N.passAt tk σ) (pda_cons (pd_var (pv 10)) (pda_cons (pd_var (pv 11)) pda_nil)))))
          (pds_one (pds_ret pd_bl))
          pds_nil)
        (pds_one (pds_app (pv 9) (pd_var (pv 11)) rfl rfl rfl rfl rfl rfl)))))
      (pds_cons (pds_for hp rfl (pdi_list (pd_var (pv 8))) (pdg_name (pg_name (i := 10) sc_law.nd rfl (by first | exact .inl rfl | exact .inr rfl)))
        (pds_cons (pds_set (i := 12) sc_law.nd rfl (by first | exact .inl rfl | exact .inr rfl) (pd_call G_bad_ask (hr.mono (by omega)) (by rfl) T.dbad_ask.g T.dbad_ask.F.kp T.dbad_ask.b (fun σ => L2N.passAt tk σ) (pda_cons (pd_var (pv 1)) (pda_cons (pd_ix ix_seq ol_ix (pd_var (pv 10)) pd_int (fun _ _ => rfl)) (pda_cons (pd_var (pv 10)) pda_nil)))))
        (pds_one (pds_if (pdt_not (pdt_tru (pd_call G_as_due (hr.mono (by omega)) (by rfl) T.das_due.g T.das_due.F.kp T.das_due.b (fun σ => L2N.passAt tk σ) (pda_cons (pd_var (pv 12)) (pda_cons (pd_call G_call (hr.mono (by omega)) (by rfl) T.dcall.g T.dcall.F.kp T.dcall.b (fun σ => L2N.passAt tk σ) (pda_cons (pd_ix ix_seq ol_ix (pd_var (pv 12)) pd_int (fun _ _ => rfl)) (pda_cons (pd_ix ix_seq ol_ix (pd_var (pv 12)) pd_int (fun _ _ => rfl)) (pda_cons (pd_ix ix_seq ol_ix (pd_var (pv 12)) pd_int (fun _ _ => rfl)) pda_nil)))) pda_nil)))))
          (pds_one (pds_ret pd_bl))
          pds_nil))))
      (pds_cons (pds_for hp rfl (pdi_range1 (by rfl) T.m_range (pda_cons (pd_callB oo_len cl_len (by rfl) T.m_len bt_len (pda_cons (pd_var (pv 8)) pda_nil)) pda_nil)) (pdg_name (pg_name (i := 13) sc_law.nd rfl (by first | exact .inl rfl | exact .inr rfl)))
        (pds_cons (pds_set (i := 10) sc_law.nd rfl (by first | exact .inl rfl | exact .inr rfl) (pd_ix ix_seq ol_ix (pd_var (pv 8)) (pd_op op_sub ol_sub (pd_op op_sub ol_sub (pd_callB oo_len cl_len (by rfl) T.m_len bt_len (pda_cons (pd_var (pv 8)) pda_nil)) pd_int) (pd_var (pv 13))) (fun _ _ => rfl)))
        (pds_one (pds_if (pdt_not (pdt_tru (pd_call G_same (hr.mono (by omega)) (by rfl) T.dsame.g T.dsame.F.kp T.dsame.b (fun σ => L2N.passAt tk σ) (pda_cons (pd_call G_call (hr.mono (by omega)) (by rfl) T.dcall.g T.dcall.F.kp T.dcall.b (fun σ => L2N.passAt tk σ) (pda_cons (pd_ix ix_seq ol_ix (pd_var (pv 10)) pd_int (fun _ _ => rfl)) (pda_cons (pd_ix ix_seq ol_ix (pd_var (pv 10)) pd_int (fun _ _ => rfl)) (pda_cons (pd_ix ix_seq ol_ix (pd_var (pv 10)) pd_int (fun _ _ => rfl)) pda_nil)))) (pda_cons (pd_ixO (pv 9) (pd_op op_sub ol_sub (pd_op op_sub ol_sub (pd_callB oo_len cl_len (by rfl) T.m_len bt_len (pda_cons (pd_var (pv 8)) pda_nil)) pd_int) (pd_var (pv 13))) (fun _ _ => rfl)) pda_nil)))))
          (pds_one (pds_ret pd_bl))
          pds_nil))))
      (pds_cons (pds_if (pdt_not (pdt_tru (pd_call G_same (hr.mono (by omega)) (by rfl) T.dsame.g T.dsame.F.kp T.dsame.b (fun σ => L2N.passAt tk σ) (pda_cons (pd_var (pv 6)) (pda_cons (pd_var (pv 7)) pda_nil)))))
        (pds_one (pds_ret pd_bl))
        pds_nil)
      (pds_thaw 6 fun _ => (pds_cons (pds_app (pv 6) (pd_var (pv 4)) rfl rfl rfl rfl rfl rfl)
      (pds_frz 6 (pds_cons (pds_if (pdt_not (pdt_tru (pd_call G_as_due (hr.mono (by omega)) (by rfl) T.das_due.g T.das_due.F.kp T.das_due.b (fun σ => L2N.passAt tk σ) (pda_cons (pd_tup (pda_cons pd_int (pda_cons (pd_var (pv 6)) (pda_cons pd_non pda_nil)))) (pda_cons (pd_call G_call (hr.mono (by omega)) (by rfl) T.dcall.g T.dcall.F.kp T.dcall.b (fun σ => L2N.passAt tk σ) (pda_cons pd_int (pda_cons (pd_var (pv 6)) (pda_cons pd_non pda_nil)))) pda_nil)))))
        (pds_one (pds_ret pd_bl))
        pds_nil)
      (pds_one (pds_ret (pd_or (pd_cmp op_gt ol_gt (pd_var (pv 2)) pd_int (nomark _)) (pd_one (pd_call G_undone (hr.mono (by omega)) (by rfl) T.dundone.g T.dundone.F.kp T.dundone.b (fun σ => L2N.passAt tk σ) (pda_cons (pd_var (pv 3)) (pda_cons (pd_var (pv 4)) pda_nil)))))))))))))))))))))))))), fun ns hns => ?_⟩
  refine ⟨trivial, (by show 1 < 15; decide), ns, rfl, hns, ?_⟩
  show sSeq _ _ lawEnds (envL .no .no .no .no .no .no .no .no .no .no .no .no .no)
  refine seq_mid (P := fun ρ => ∃ n : Nat, Fig n ∧ ρ = envL (.fr (.int n)) .no .no .no .no .no .no .no .no .no .no .no .no) (fun R hR => ?_) ?_
  · walk_at "wk"
    refine ⟨by decide, by decide, fun r r0 r1 => ddIx_any (l := [.int 9, .int 9, .int 9, .int 60, .int 60, .int 300]) r0 (by show r < 6; omega) fun d hd => ?_⟩
    simp only [List.mem_cons, List.not_mem_nil, or_false] at hd
    rcases hd with rfl | rfl | rfl | rfl | rfl | rfl
    · exact hR _ ⟨9, .inl rfl, rfl⟩
    · exact hR _ ⟨9, .inl rfl, rfl⟩
    · exact hR _ ⟨9, .inl rfl, rfl⟩
    · exact hR _ ⟨60, .inr (.inl rfl), rfl⟩
    · exact hR _ ⟨60, .inr (.inl rfl), rfl⟩
    · exact hR _ ⟨300, .inr (.inr (.inl rfl)), rfl⟩
  rintro _ ⟨n0, fg0, rfl⟩
  refine seq_mid (P := fun ρ => ∃ n : Nat, Fig n ∧ ρ = envL (.fr (.int n)) .no .no .no .no .no .no .no .no .no .no .no .no) (fun R hR => ?_) ?_
  · walk_at "wk"
    refine ⟨by decide, fun r r0 r1 => ?_⟩
    walk_at "wk"
    by_cases z : r = 1
    · simp only [decide_eq_true z, if_true]
      exact hR _ ⟨1000, .inr (.inr (.inr rfl)), rfl⟩
    · simp only [decide_eq_false z, Bool.false_eq_true, if_false]
      exact hR _ ⟨n0, fg0, rfl⟩
  rintro _ ⟨n, fg, rfl⟩
  clear fg0
  obtain ⟨n1, n2⟩ := fig_le fg
  have en : ((n : Int)).toNat = n := by omega
  refine seq_mid (P := fun ρ => ∃ one, RatN n one ∧ ρ = envL (.fr (.int n)) (.fr one) .no .no .no .no .no .no .no .no .no .no .no) (fun R hR => ?_) ?_
  · walk_at "wk"
    exact ⟨by omega, by omega, fun d hd => hR _ ⟨d, by rwa [en] at hd, rfl⟩⟩
  rintro _ ⟨one, h1, rfl⟩
  refine seq_mid (P := fun ρ => ∃ two, RatN n two ∧ ρ = envL (.fr (.int n)) (.fr one) (.fr two) .no .no .no .no .no .no .no .no .no .no) (fun R hR => ?_) ?_
  · walk_at "wk"
    exact ⟨by omega, by omega, by rw [en]; exact h1, fun d hd => hR _ ⟨d, by rwa [en] at hd, rfl⟩⟩
  rintro _ ⟨two, h2, rfl⟩
  refine seq_mid (P := fun ρ => ∃ x y : Int, Dig 1000 x ∧ Dig 1000 y ∧ ρ = envL (.fr (.int n)) (.fr one) (.fr two) (.fr (.lst [.int x, .int y])) .no .no .no .no .no .no .no .no .no) (fun R hR => ?_) ?_
  · walk_at "wk"
    exact ⟨by rcases fg with rfl | rfl | rfl | rfl <;> decide, by omega, fun x y hx hy => hR _ ⟨x, y, hx, hy, rfl⟩⟩
  rintro _ ⟨x, y, hx, hy, rfl⟩
  refine seq_mid (P := fun ρ => ∃ l, ValOk n l ∧ ρ = envL (.fr (.int n)) (.fr one) (.fr two) (.fr (.lst [.int x, .int y])) (.fr (.lst l)) .no .no .no .no .no .no .no .no) (fun R hR => ?_) ?_
  · walk_at "wk"
    exact ⟨by omega, by omega, (by rcases fg with rfl | rfl | rfl | rfl <;> intro z <;> first | rfl | omega), by rw [en]; exact h1, fun l hl => hR _ ⟨l, by rwa [en] at hl, rfl⟩⟩
  rintro _ ⟨l, hv, rfl⟩
  obtain ⟨v1, v2⟩ := hv.rat fg
  refine seq_mid (P := fun ρ => ρ = envL (.fr (.int n)) (.fr one) (.fr two) (.fr (.lst [.int x, .int y])) (.fr (.lst l)) (.fr (.lst l)) .no .no .no .no .no .no .no) (fun R hR => ?_) ?_
  · walk_at "wk"
    exact hR _ rfl
  rintro _ rfl
  refine seq_mid (P := fun ρ => ρ = envL (.fr (.int n)) (.fr one) (.fr two) (.fr (.lst [.int x, .int y])) (.fr (.lst l)) (.fr (.lst l)) (.fr (.lst (asksL x y one two l))) .no .no .no .no .no .no) (fun R hR => ?_) ?_
  · walk_at "wk"
    refine ⟨by decide, compL_map (fun d => .tup [d, one, two]) _ _ (fun d hd Q q => ?_) (by rw [sizeLine_eq]; decide) ?_⟩
    · walk_at "wk"
      exact q
    · exact ⟨(by show 0 + 1 + 7 ≤ sizeLine; decide), (by show 7 + 1 + (0 + 1 + 1) ≤ sizeLine; decide), hR _ rfl⟩
  rintro _ rfl
  have ok := asks_ok fg hx hy h1 h2 hv
  have la : (asksL x y one two l).length = 10 := rfl
  generalize asksL x y one two l = asks at *
  refine seq_mid (P := fun ρ => ρ = envL (.fr (.int n)) (.fr one) (.fr two) (.fr (.lst [.int x, .int y])) (.fr (.lst l)) (.fr (.lst l)) (.fr (.lst asks)) (.ow []) .no .no .no .no .no) (fun R hR => ?_) ?_
  · walk_at "wk"
    exact hR _ rfl
  rintro _ rfl
  refine seq_mid (P := fun ρ => ∃ a t, ρ = envL (.fr (.int n)) (.fr one) (.fr two) (.fr (.lst [.int x, .int y])) (.fr (.lst l)) (.fr (.lst l)) (.fr (.lst asks)) (.ow (asks.map callOf)) a t .no .no .no) (fun R hR => ?_) ?_
  · walk_at "wk"
    refine forL_inv (P := fun i ρ => ∃ a t, ρ = envL (.fr (.int n)) (.fr one) (.fr two) (.fr (.lst [.int x, .int y])) (.fr (.lst l)) (.fr (.lst l)) (.fr (.lst asks)) (.ow ((asks.take i).map callOf)) a t .no .no .no) asks _ 0 ?_ ?_ ⟨.no, .no, rfl⟩
    · rintro i d ρ R' hi ⟨a, t, rfl⟩ hR'
      rw [Nat.zero_add] at hR' ⊢
      obtain ⟨hlt, ed⟩ := List.getElem?_eq_some_iff.mp hi
      obtain ⟨w, o, t', rfl, A, _⟩ := ok d (List.mem_of_getElem? hi)
      walk_at "wk"
      refine ⟨A, ?_⟩
      walk_at "wk"
      refine ⟨A, rfl, ?_⟩
      walk_at "wk"
      refine ⟨by rw [sizeLine_eq, List.length_map, List.length_take]; omega, hR' _ ⟨.fr (.tup [.int w, o, t']), .fr (callD w o t'), ?_⟩⟩
      rw [List.take_succ_eq_append_getElem hlt, List.map_append, ed]
      rfl
    · rintro ρ ⟨a, t, rfl⟩
      rw [Nat.zero_add, List.take_length]
      exact hR _ ⟨a, t, rfl⟩
  rintro _ ⟨a1, t1, rfl⟩
  refine seq_mid (P := fun ρ => ∃ a t b, ρ = envL (.fr (.int n)) (.fr one) (.fr two) (.fr (.lst [.int x, .int y])) (.fr (.lst l)) (.fr (.lst l)) (.fr (.lst asks)) (.ow (asks.map callOf)) a t b .no .no) (fun R hR => ?_) ?_
  · walk_at "wk"
    refine forL_inv (P := fun i ρ => ∃ a t b, ρ = envL (.fr (.int n)) (.fr one) (.fr two) (.fr (.lst [.int x, .int y])) (.fr (.lst l)) (.fr (.lst l)) (.fr (.lst asks)) (.ow (asks.map callOf)) a t b .no .no) asks _ 0 ?_ ?_ ⟨a1, t1, .no, rfl⟩
    · rintro i d ρ R' hi ⟨a, t, b, rfl⟩ hR'
      obtain ⟨w, o, t', rfl, A, h8⟩ := ok d (List.mem_of_getElem? hi)
      walk_at "wk"
      refine ⟨rfl, A, h8, fun o2 t2 A2 => ?_⟩
      walk_at "wk"
      refine ⟨A2, ?_⟩
      walk_at "wk"
      refine ⟨A2, rfl, ?_⟩
      walk_at "wk"
      exact hR' _ ⟨_, _, _, rfl⟩
    · rintro ρ ⟨a, t, b, rfl⟩
      exact hR _ ⟨a, t, b, rfl⟩
  rintro _ ⟨a2, t2, b2, rfl⟩
  refine seq_mid (P := fun ρ => ∃ a k, ρ = envL (.fr (.int n)) (.fr one) (.fr two) (.fr (.lst [.int x, .int y])) (.fr (.lst l)) (.fr (.lst l)) (.fr (.lst asks)) (.ow (asks.map callOf)) a t2 b2 k .no) (fun R hR => ?_) ?_
  · walk_at "wk"
    refine ⟨by omega, by omega, ?_⟩
    refine forL_inv (P := fun i ρ => ∃ a k, ρ = envL (.fr (.int n)) (.fr one) (.fr two) (.fr (.lst [.int x, .int y])) (.fr (.lst l)) (.fr (.lst l)) (.fr (.lst asks)) (.ow (asks.map callOf)) a t2 b2 k .no) _ _ 0 ?_ ?_ ⟨a2, .no, rfl⟩
    · rintro i d ρ R' hi ⟨a, k, rfl⟩ hR'
      obtain ⟨hj, rfl⟩ := rangeD_at hi
      have hj : i < asks.length := by omega
      have ej : (asks.length : Int) - 1 - (0 + (i : Int)) = ((asks.length - 1 - i : Nat) : Int) := by omega
      have hk : asks.length - 1 - i < asks.length := by omega
      obtain ⟨w, o, t', e, A, _⟩ := ok _ (List.getElem_mem hk)
      walk_at "wk"
      rw [ej]
      refine ⟨_, atI_nat (List.getElem?_eq_getElem hk), ?_⟩
      rw [e]
      walk_at "wk"
      refine ⟨A, ?_⟩
      refine ⟨callD w o t', atI_nat ?_, ?_⟩
      · rw [List.getElem?_map, List.getElem?_eq_getElem hk, e]
        rfl
      refine ⟨tree_call w o t', tree_call w o t', fun b hb => ?_⟩
      rw [hb.mpr rfl]
      walk_at "wk"
      exact hR' _ ⟨_, _, rfl⟩
    · rintro ρ ⟨a, k, rfl⟩
      exact hR _ ⟨a, k, rfl⟩
  rintro _ ⟨a3, k3, rfl⟩
  refine seq_mid (P := fun ρ => ρ = envL (.fr (.int n)) (.fr one) (.fr two) (.fr (.lst [.int x, .int y])) (.fr (.lst l)) (.fr (.lst l)) (.fr (.lst asks)) (.ow (asks.map callOf)) a3 t2 b2 k3 .no) (fun R hR => ?_) ?_
  · walk_at "wk"
    have tv := tree_vals (by omega) v2
    refine ⟨tv, tv, fun b hb => ?_⟩
    rw [hb.mpr rfl]
    walk_at "wk"
    exact hR _ rfl
  rintro _ rfl
  refine ⟨trivial, l, rfl, lf_vals v2, ?_⟩
  have e : thawD 6 l (envL (.fr (.int n)) (.fr one) (.fr two) (.fr (.lst [.int x, .int y])) (.fr (.lst l)) (.fr (.lst l)) (.fr (.lst asks)) (.ow (asks.map callOf)) a3 t2 b2 k3 .no) = [.no, .no, .fr (.int n), .fr one, .fr two, .no, .ow l, .no, .no, .no, thawS a3, thawS t2, thawS b2, thawS k3, .no] := by
    have o1 : thawS (.fr one) = .fr one := if_pos (lf_rat h1)
    have o2 : thawS (.fr two) = .fr two := if_pos (lf_rat h2)
    show [thawS .no, thawS (.fr .sto), thawS (.fr (.int n)), thawS (.fr one), thawS (.fr two), thawS (.fr (.lst [.int x, .int y])), .ow l, thawS (.fr (.lst l)), thawS (.fr (.lst asks)), thawS (.ow (asks.map callOf)), thawS a3, thawS t2, thawS b2, thawS k3, thawS .no] = _
    rw [o1, o2]
    rfl
  rw [e]
  generalize thawS a3 = a4
  generalize thawS t2 = t4
  generalize thawS b2 = b4
  generalize thawS k3 = k4
  have hl2 : (l ++ [two]).length ≤ 1000 := by
    rw [List.length_append, List.length_singleton]
    omega
  have v3 : ∀ d ∈ l ++ [two], ∃ m, m ≤ 1000 ∧ RatN m d := fun d hd => by
    rcases List.mem_append.mp hd with z | z
    · exact v2 d z
    · rw [List.mem_singleton.mp z]
      exact ⟨n, n2, h2⟩
  have A := askL8 hl2 v3 (values_sum2 fg hv h2)
  walk_at "wk"
  refine ⟨by rw [sizeLine_eq]; omega, A, ?_⟩
  refine ⟨A, rfl, ?_⟩
  walk_at "wk"
  by_cases h9 : (9 : Int) < (n : Int)
  · rw [decide_eq_true h9, if_pos rfl]
    rfl
  · rw [decide_eq_false h9, if_neg Bool.false_ne_true]
    have e9 : n = 9 := by
      rcases fg with rfl | rfl | rfl | rfl <;> first | rfl | (exact absurd (by decide) h9)
    subst e9
    exact ⟨h1, h2, rfl⟩
end
end My
namespace My
open PySem PySem.Spec PyProof.Rows L2
theorem cl_of {K : PySem.W.Frag} {C N : Addr} {nm q : Str} {bs bm : List Value} {sn : List Str} {sub : List Value} {ab : Bool} {col : Option Bool} {dd : Option Addr} {m0 m1 m2 m3 m5 : Option Value}
    (h : K.lookup C = some (excClassObj nm q C N bs bm true sn sub ab col dd m0 m1 m2 m3 m5 "ValueError.__new__")) : (PySem.W.clsIn K C).isSome = true := by
  unfold PySem.W.clsIn
  rw [h]
  rfl
theorem kcls_r {K : PySem.W.Frag} {C D : Addr} {v : Bool} (h1 : PySem.W.isClsIn K D = true) (h2 : PySem.W.typeIn K (.ref D) = some (.type "type")) (h : PySem.W.subIn K (.ref C) (.ref D) = some v) : PySem.W.kitCls K (.ref C) (.ref D) = some v := by
  unfold PySem.W.kitCls
  dsimp only
  rw [h2, show (PySem.W.clsIn K D).isSome = true from h1, h]
  rfl
theorem kit_tR {K : PySem.W.Frag} {C D : Addr} (h1 : PySem.W.isClsIn K D = true) (h2 : PySem.W.typeIn K (.ref D) = some (.type "type")) (h : PySem.W.subIn K (.ref C) (.ref D) = some true) : PySem.W.kitOne K (.ref C) (.ref D) = some true := by
  unfold PySem.W.kitOne
  split
  · rfl
  · exact kcls_r h1 h2 h
theorem kit_fR {K : PySem.W.Frag} {C D : Addr} (h0 : Nat.beq C D = false) (h1 : PySem.W.isClsIn K D = true) (h2 : PySem.W.typeIn K (.ref D) = some (.type "type")) (h : PySem.W.subIn K (.ref C) (.ref D) = some false) : PySem.W.kitOne K (.ref C) (.ref D) = some false := by
  unfold PySem.W.kitOne
  split
  · rename_i e
    cases beq_iff_eq.mp e
    rw [Nat.beq_refl] at h0
    cases h0
  · exact kcls_r h1 h2 h
theorem kit_tT {K : PySem.W.Frag} {C : Addr} (h : PySem.W.subIn K (.ref C) (.type "ValueError") = some true) : PySem.W.kitOne K (.ref C) (.type "ValueError") = some true := by
  unfold PySem.W.kitOne
  split
  · rfl
  · unfold PySem.W.kitCls
    dsimp only
    rw [show PySem.W.kitMeta "ValueError" = true from by kernel_rfl]
    exact h
theorem exm_t {K : PySem.W.Frag} {C D : Addr} (h0 : PySem.W.subIn K (.ref D) (.type "BaseException") = some true) (h1 : PySem.W.isClsIn K D = true) (h2 : PySem.W.typeIn K (.ref D) = some (.type "type")) (h : PySem.W.subIn K (.ref C) (.ref D) = some true) : PySem.W.exmOne K (.ref C) (.ref D) = some true := by
  unfold PySem.W.exmOne
  rw [h0]
  exact kcls_r h1 h2 h
theorem all_mk {l : PySem.W.OpenLaw} {w : World} {K : PySem.W.Frag} {h : Heap} {mg : Str → Option Value} {fa : Addr} (X : K.In h) (G : h.Ns mainGlobals mg) (hfa : mg "law" = some (.ref fa))
    {CFrameError CWrongKind COutOfBounds CRepeatedName CUnknownName CUnfitError CZeroDivisor CNegativeRoot CZeroBar CFlatMap CBadSteps CNotOneWay CNotHeld CNotFlat CNotCover CNotOwnStress CNotPicture CNotLift CNoReciprocal CNotMotion CNotAlike CNotCrank CNothingToUndo CNothingToRedo CUnsafe CBadText : Addr}
    {f_is_whole : Addr} {od_is_whole an_is_whole : Option Addr} {sl_is_whole : Array (Option Value)} {oc_is_whole kV_is_whole dc_is_whole pm_is_whole cd_is_whole ct_is_whole : Value}
    {f_divisor : Addr} {od_divisor an_divisor : Option Addr} {sl_divisor : Array (Option Value)} {oc_divisor kV_divisor dc_divisor pm_divisor cd_divisor ct_divisor : Value}
    {f_lowest : Addr} {od_lowest an_lowest : Option Addr} {sl_lowest : Array (Option Value)} {oc_lowest kV_lowest dc_lowest pm_lowest cd_lowest ct_lowest : Value}
    {f_sign_of : Addr} {od_sign_of an_sign_of : Option Addr} {sl_sign_of : Array (Option Value)} {oc_sign_of kV_sign_of dc_sign_of pm_sign_of cd_sign_of ct_sign_of : Value}
    {f_is_ratio_list : Addr} {od_is_ratio_list an_is_ratio_list : Option Addr} {sl_is_ratio_list : Array (Option Value)} {oc_is_ratio_list kV_is_ratio_list dc_is_ratio_list pm_is_ratio_list cd_is_ratio_list ct_is_ratio_list : Value}
    {f_need_ratio : Addr} {od_need_ratio an_need_ratio : Option Addr} {sl_need_ratio : Array (Option Value)} {oc_need_ratio kV_need_ratio dc_need_ratio pm_need_ratio cd_need_ratio ct_need_ratio : Value}
    {f_need_two : Addr} {od_need_two an_need_two : Option Addr} {sl_need_two : Array (Option Value)} {oc_need_two kV_need_two dc_need_two pm_need_two cd_need_two ct_need_two : Value}
    {f_is_ratio : Addr} {od_is_ratio an_is_ratio : Option Addr} {sl_is_ratio : Array (Option Value)} {oc_is_ratio kV_is_ratio dc_is_ratio pm_is_ratio cd_is_ratio ct_is_ratio : Value}
    {f_ratio : Addr} {od_ratio an_ratio : Option Addr} {sl_ratio : Array (Option Value)} {oc_ratio kV_ratio dc_ratio pm_ratio cd_ratio ct_ratio : Value}
    {T_ratio : Addr} {oT_ratio : Value} {dT_ratio : Option Addr} {nT_ratio : Nat} {sT_ratio : Array (Option Value)} {tkd : Tok}
    {f_add : Addr} {od_add an_add : Option Addr} {sl_add : Array (Option Value)} {oc_add kV_add dc_add pm_add cd_add ct_add : Value}
    {f_subtract : Addr} {od_subtract an_subtract : Option Addr} {sl_subtract : Array (Option Value)} {oc_subtract kV_subtract dc_subtract pm_subtract cd_subtract ct_subtract : Value}
    {f_multiply : Addr} {od_multiply an_multiply : Option Addr} {sl_multiply : Array (Option Value)} {oc_multiply kV_multiply dc_multiply pm_multiply cd_multiply ct_multiply : Value}
    {f_divide : Addr} {od_divide an_divide : Option Addr} {sl_divide : Array (Option Value)} {oc_divide kV_divide dc_divide pm_divide cd_divide ct_divide : Value}
    {f_negate : Addr} {od_negate an_negate : Option Addr} {sl_negate : Array (Option Value)} {oc_negate kV_negate dc_negate pm_negate cd_negate ct_negate : Value}
    {f_sign : Addr} {od_sign an_sign : Option Addr} {sl_sign : Array (Option Value)} {oc_sign kV_sign dc_sign pm_sign cd_sign ct_sign : Value}
    {f_compare : Addr} {od_compare an_compare : Option Addr} {sl_compare : Array (Option Value)} {oc_compare kV_compare dc_compare pm_compare cd_compare ct_compare : Value}
    {f_total : Addr} {od_total an_total : Option Addr} {sl_total : Array (Option Value)} {oc_total kV_total dc_total pm_total cd_total ct_total : Value}
    {f_store : Addr} {od_store an_store : Option Addr} {sl_store : Array (Option Value)} {oc_store kV_store dc_store pm_store cd_store ct_store : Value}
    {f_take : Addr} {od_take an_take : Option Addr} {sl_take : Array (Option Value)} {oc_take kV_take dc_take pm_take cd_take ct_take : Value}
    {f_edge : Addr} {od_edge an_edge : Option Addr} {sl_edge : Array (Option Value)} {oc_edge kV_edge dc_edge pm_edge cd_edge ct_edge : Value}
    {f_between : Addr} {od_between an_between : Option Addr} {sl_between : Array (Option Value)} {oc_between kV_between dc_between pm_between cd_between ct_between : Value}
    {f_tens : Addr} {od_tens an_tens : Option Addr} {sl_tens : Array (Option Value)} {oc_tens kV_tens dc_tens pm_tens cd_tens ct_tens : Value}
    {f_integer : Addr} {od_integer an_integer : Option Addr} {sl_integer : Array (Option Value)} {oc_integer kV_integer dc_integer pm_integer cd_integer ct_integer : Value}
    {f_low : Addr} {od_low an_low : Option Addr} {sl_low : Array (Option Value)} {oc_low kV_low dc_low pm_low cd_low ct_low : Value}
    {f_sgn : Addr} {od_sgn an_sgn : Option Addr} {sl_sgn : Array (Option Value)} {oc_sgn kV_sgn dc_sgn pm_sgn cd_sgn ct_sgn : Value}
    {f_small : Addr} {od_small an_small : Option Addr} {sl_small : Array (Option Value)} {oc_small kV_small dc_small pm_small cd_small ct_small : Value}
    {f_lratio : Addr} {od_lratio an_lratio : Option Addr} {sl_lratio : Array (Option Value)} {oc_lratio kV_lratio dc_lratio pm_lratio cd_lratio ct_lratio : Value}
    {f_not_ratio : Addr} {od_not_ratio an_not_ratio : Option Addr} {sl_not_ratio : Array (Option Value)} {oc_not_ratio kV_not_ratio dc_not_ratio pm_not_ratio cd_not_ratio ct_not_ratio : Value}
    {f_not_integer : Addr} {od_not_integer an_not_integer : Option Addr} {sl_not_integer : Array (Option Value)} {oc_not_integer kV_not_integer dc_not_integer pm_not_integer cd_not_integer ct_not_integer : Value}
    {f_same : Addr} {od_same an_same : Option Addr} {sl_same : Array (Option Value)} {oc_same kV_same dc_same pm_same cd_same ct_same : Value}
    {f_is_int : Addr} {od_is_int an_is_int : Option Addr} {sl_is_int : Array (Option Value)} {oc_is_int kV_is_int dc_is_int pm_is_int cd_is_int ct_is_int : Value}
    {f_lis_ratio : Addr} {od_lis_ratio an_lis_ratio : Option Addr} {sl_lis_ratio : Array (Option Value)} {oc_lis_ratio kV_lis_ratio dc_lis_ratio pm_lis_ratio cd_lis_ratio ct_lis_ratio : Value}
    {f_is_ratios : Addr} {od_is_ratios an_is_ratios : Option Addr} {sl_is_ratios : Array (Option Value)} {oc_is_ratios kV_is_ratios dc_is_ratios pm_is_ratios cd_is_ratios ct_is_ratios : Value}
    {f_refused : Addr} {od_refused an_refused : Option Addr} {sl_refused : Array (Option Value)} {oc_refused kV_refused dc_refused pm_refused cd_refused ct_refused : Value}
    {f_unfit : Addr} {od_unfit an_unfit : Option Addr} {sl_unfit : Array (Option Value)} {oc_unfit kV_unfit dc_unfit pm_unfit cd_unfit ct_unfit : Value}
    {f_call : Addr} {od_call an_call : Option Addr} {sl_call : Array (Option Value)} {oc_call kV_call dc_call pm_call cd_call ct_call : Value}
    {f_fault : Addr} {od_fault an_fault : Option Addr} {sl_fault : Array (Option Value)} {oc_fault kV_fault dc_fault pm_fault cd_fault ct_fault : Value}
    {f_fraction : Addr} {od_fraction an_fraction : Option Addr} {sl_fraction : Array (Option Value)} {oc_fraction kV_fraction dc_fraction pm_fraction cd_fraction ct_fraction : Value}
    {f_right : Addr} {od_right an_right : Option Addr} {sl_right : Array (Option Value)} {oc_right kV_right dc_right pm_right cd_right ct_right : Value}
    {f_as_due : Addr} {od_as_due an_as_due : Option Addr} {sl_as_due : Array (Option Value)} {oc_as_due kV_as_due dc_as_due pm_as_due cd_as_due ct_as_due : Value}
    {f_second : Addr} {od_second an_second : Option Addr} {sl_second : Array (Option Value)} {oc_second kV_second dc_second pm_second cd_second ct_second : Value}
    {f_whole_pair : Addr} {od_whole_pair an_whole_pair : Option Addr} {sl_whole_pair : Array (Option Value)} {oc_whole_pair kV_whole_pair dc_whole_pair pm_whole_pair cd_whole_pair ct_whole_pair : Value}
    {f_values : Addr} {od_values an_values : Option Addr} {sl_values : Array (Option Value)} {oc_values kV_values dc_values pm_values cd_values ct_values : Value}
    {f_bad_ask : Addr} {od_bad_ask an_bad_ask : Option Addr} {sl_bad_ask : Array (Option Value)} {oc_bad_ask kV_bad_ask dc_bad_ask pm_bad_ask cd_bad_ask ct_bad_ask : Value}
    {f_undone : Addr} {od_undone an_undone : Option Addr} {sl_undone : Array (Option Value)} {oc_undone kV_undone dc_undone pm_undone cd_undone ct_undone : Value}
    {f_law : Addr} {od_law an_law : Option Addr} {sl_law : Array (Option Value)} {oc_law kV_law dc_law pm_law cd_law ct_law : Value}
    {nmWrongKind qnWrongKind : Str} {NWrongKind : Addr} {bsWrongKind bmWrongKind : List Value} {snWrongKind : List Str} {subWrongKind : List Value} {abWrongKind : Bool} {colWrongKind : Option Bool} {ddWrongKind : Option Addr} {m0WrongKind m1WrongKind m2WrongKind m3WrongKind m5WrongKind : Option Value}
    {fiWrongKind : Addr} {odiWrongKind aniWrongKind : Option Addr} {sliWrongKind : Array (Option Value)} {ociWrongKind kViWrongKind dciWrongKind pmiWrongKind cdiWrongKind ctiWrongKind : Value}
    {nmZeroDivisor qnZeroDivisor : Str} {NZeroDivisor : Addr} {bsZeroDivisor bmZeroDivisor : List Value} {snZeroDivisor : List Str} {subZeroDivisor : List Value} {abZeroDivisor : Bool} {colZeroDivisor : Option Bool} {ddZeroDivisor : Option Addr} {m0ZeroDivisor m1ZeroDivisor m2ZeroDivisor m3ZeroDivisor m5ZeroDivisor : Option Value}
    {fiZeroDivisor : Addr} {odiZeroDivisor aniZeroDivisor : Option Addr} {sliZeroDivisor : Array (Option Value)} {ociZeroDivisor kViZeroDivisor dciZeroDivisor pmiZeroDivisor cdiZeroDivisor ctiZeroDivisor : Value}
    {TiZeroDivisor : Addr} {oTiZeroDivisor : Value} {dTiZeroDivisor : Option Addr} {nTiZeroDivisor : Nat} {sTiZeroDivisor : Array (Option Value)}
    {aNOUGHT : Addr} {dNNOUGHT : Option Addr} {nNNOUGHT : Nat} {sNNOUGHT : Array (Option Value)} {tk0NOUGHT tk1NOUGHT : Tok}
    (aFrameError : PySem.W.nsIn K mainGlobals "FrameError" = some (some (.ref CFrameError)))
    (aWrongKind : PySem.W.nsIn K mainGlobals "WrongKind" = some (some (.ref CWrongKind)))
    (aOutOfBounds : PySem.W.nsIn K mainGlobals "OutOfBounds" = some (some (.ref COutOfBounds)))
    (aRepeatedName : PySem.W.nsIn K mainGlobals "RepeatedName" = some (some (.ref CRepeatedName)))
    (aUnknownName : PySem.W.nsIn K mainGlobals "UnknownName" = some (some (.ref CUnknownName)))
    (aUnfitError : PySem.W.nsIn K mainGlobals "UnfitError" = some (some (.ref CUnfitError)))
    (aZeroDivisor : PySem.W.nsIn K mainGlobals "ZeroDivisor" = some (some (.ref CZeroDivisor)))
    (aNegativeRoot : PySem.W.nsIn K mainGlobals "NegativeRoot" = some (some (.ref CNegativeRoot)))
    (aZeroBar : PySem.W.nsIn K mainGlobals "ZeroBar" = some (some (.ref CZeroBar)))
    (aFlatMap : PySem.W.nsIn K mainGlobals "FlatMap" = some (some (.ref CFlatMap)))
    (aBadSteps : PySem.W.nsIn K mainGlobals "BadSteps" = some (some (.ref CBadSteps)))
    (aNotOneWay : PySem.W.nsIn K mainGlobals "NotOneWay" = some (some (.ref CNotOneWay)))
    (aNotHeld : PySem.W.nsIn K mainGlobals "NotHeld" = some (some (.ref CNotHeld)))
    (aNotFlat : PySem.W.nsIn K mainGlobals "NotFlat" = some (some (.ref CNotFlat)))
    (aNotCover : PySem.W.nsIn K mainGlobals "NotCover" = some (some (.ref CNotCover)))
    (aNotOwnStress : PySem.W.nsIn K mainGlobals "NotOwnStress" = some (some (.ref CNotOwnStress)))
    (aNotPicture : PySem.W.nsIn K mainGlobals "NotPicture" = some (some (.ref CNotPicture)))
    (aNotLift : PySem.W.nsIn K mainGlobals "NotLift" = some (some (.ref CNotLift)))
    (aNoReciprocal : PySem.W.nsIn K mainGlobals "NoReciprocal" = some (some (.ref CNoReciprocal)))
    (aNotMotion : PySem.W.nsIn K mainGlobals "NotMotion" = some (some (.ref CNotMotion)))
    (aNotAlike : PySem.W.nsIn K mainGlobals "NotAlike" = some (some (.ref CNotAlike)))
    (aNotCrank : PySem.W.nsIn K mainGlobals "NotCrank" = some (some (.ref CNotCrank)))
    (aNothingToUndo : PySem.W.nsIn K mainGlobals "NothingToUndo" = some (some (.ref CNothingToUndo)))
    (aNothingToRedo : PySem.W.nsIn K mainGlobals "NothingToRedo" = some (some (.ref CNothingToRedo)))
    (aUnsafe : PySem.W.nsIn K mainGlobals "Unsafe" = some (some (.ref CUnsafe)))
    (aBadText : PySem.W.nsIn K mainGlobals "BadText" = some (some (.ref CBadText)))
    (a_is_whole : PySem.W.nsIn K mainGlobals "is_whole" = some (some (.ref f_is_whole)))
    (l_is_whole : K.lookup f_is_whole = some ⟨oc_is_whole, od_is_whole, .func (PySem.W.fnOf "is_whole" "is_whole" (defArgs (topS 29)) (defBody (topS 29)) (defScope (topS 29)) .none kV_is_whole dc_is_whole pm_is_whole an_is_whole cd_is_whole ct_is_whole), sl_is_whole⟩)
    (c_is_whole : PySem.W.codeIn K cd_is_whole "is_whole" = true)
    (k_is_whole : PySem.W.keepIn K (.ref f_is_whole) = true)
    (a_divisor : PySem.W.nsIn K mainGlobals "divisor" = some (some (.ref f_divisor)))
    (l_divisor : K.lookup f_divisor = some ⟨oc_divisor, od_divisor, .func (PySem.W.fnOf "divisor" "divisor" (defArgs (topS 30)) (defBody (topS 30)) (defScope (topS 30)) .none kV_divisor dc_divisor pm_divisor an_divisor cd_divisor ct_divisor), sl_divisor⟩)
    (c_divisor : PySem.W.codeIn K cd_divisor "divisor" = true)
    (k_divisor : PySem.W.keepIn K (.ref f_divisor) = true)
    (a_lowest : PySem.W.nsIn K mainGlobals "lowest" = some (some (.ref f_lowest)))
    (l_lowest : K.lookup f_lowest = some ⟨oc_lowest, od_lowest, .func (PySem.W.fnOf "lowest" "lowest" (defArgs (topS 31)) (defBody (topS 31)) (defScope (topS 31)) .none kV_lowest dc_lowest pm_lowest an_lowest cd_lowest ct_lowest), sl_lowest⟩)
    (c_lowest : PySem.W.codeIn K cd_lowest "lowest" = true)
    (k_lowest : PySem.W.keepIn K (.ref f_lowest) = true)
    (a_sign_of : PySem.W.nsIn K mainGlobals "sign_of" = some (some (.ref f_sign_of)))
    (l_sign_of : K.lookup f_sign_of = some ⟨oc_sign_of, od_sign_of, .func (PySem.W.fnOf "sign_of" "sign_of" (defArgs (topS 32)) (defBody (topS 32)) (defScope (topS 32)) .none kV_sign_of dc_sign_of pm_sign_of an_sign_of cd_sign_of ct_sign_of), sl_sign_of⟩)
    (c_sign_of : PySem.W.codeIn K cd_sign_of "sign_of" = true)
    (k_sign_of : PySem.W.keepIn K (.ref f_sign_of) = true)
    (a_is_ratio_list : PySem.W.nsIn K mainGlobals "is_ratio_list" = some (some (.ref f_is_ratio_list)))
    (l_is_ratio_list : K.lookup f_is_ratio_list = some ⟨oc_is_ratio_list, od_is_ratio_list, .func (PySem.W.fnOf "is_ratio_list" "is_ratio_list" (defArgs (topS 33)) (defBody (topS 33)) (defScope (topS 33)) .none kV_is_ratio_list dc_is_ratio_list pm_is_ratio_list an_is_ratio_list cd_is_ratio_list ct_is_ratio_list), sl_is_ratio_list⟩)
    (c_is_ratio_list : PySem.W.codeIn K cd_is_ratio_list "is_ratio_list" = true)
    (k_is_ratio_list : PySem.W.keepIn K (.ref f_is_ratio_list) = true)
    (a_need_ratio : PySem.W.nsIn K mainGlobals "need_ratio" = some (some (.ref f_need_ratio)))
    (l_need_ratio : K.lookup f_need_ratio = some ⟨oc_need_ratio, od_need_ratio, .func (PySem.W.fnOf "need_ratio" "need_ratio" (defArgs (topS 34)) (defBody (topS 34)) (defScope (topS 34)) .none kV_need_ratio dc_need_ratio pm_need_ratio an_need_ratio cd_need_ratio ct_need_ratio), sl_need_ratio⟩)
    (c_need_ratio : PySem.W.codeIn K cd_need_ratio "need_ratio" = true)
    (k_need_ratio : PySem.W.keepIn K (.ref f_need_ratio) = true)
    (a_need_two : PySem.W.nsIn K mainGlobals "need_two" = some (some (.ref f_need_two)))
    (l_need_two : K.lookup f_need_two = some ⟨oc_need_two, od_need_two, .func (PySem.W.fnOf "need_two" "need_two" (defArgs (topS 35)) (defBody (topS 35)) (defScope (topS 35)) .none kV_need_two dc_need_two pm_need_two an_need_two cd_need_two ct_need_two), sl_need_two⟩)
    (c_need_two : PySem.W.codeIn K cd_need_two "need_two" = true)
    (k_need_two : PySem.W.keepIn K (.ref f_need_two) = true)
    (a_is_ratio : PySem.W.nsIn K mainGlobals "is_ratio" = some (some (.ref f_is_ratio)))
    (l_is_ratio : K.lookup f_is_ratio = some ⟨oc_is_ratio, od_is_ratio, .func (PySem.W.fnOf "is_ratio" "is_ratio" (defArgs (topS 36)) (defBody (topS 36)) (defScope (topS 36)) .none kV_is_ratio dc_is_ratio pm_is_ratio an_is_ratio cd_is_ratio ct_is_ratio), sl_is_ratio⟩)
    (c_is_ratio : PySem.W.codeIn K cd_is_ratio "is_ratio" = true)
    (k_is_ratio : PySem.W.keepIn K (.ref f_is_ratio) = true)
    (a_ratio : PySem.W.nsIn K mainGlobals "ratio" = some (some (.ref f_ratio)))
    (l_ratio : K.lookup f_ratio = some ⟨oc_ratio, od_ratio, .func (PySem.W.fnOf "ratio" "ratio" (defArgs (topS 37)) (defBody (topS 37)) (defScope (topS 37)) (.ref T_ratio) kV_ratio dc_ratio pm_ratio an_ratio cd_ratio ct_ratio), sl_ratio⟩)
    (d_ratio : K.lookup T_ratio = some ⟨oT_ratio, dT_ratio, .seq [.int 1 tkd].toArray nT_ratio, sT_ratio⟩)
    (c_ratio : PySem.W.codeIn K cd_ratio "ratio" = true)
    (k_ratio : PySem.W.keepIn K (.ref f_ratio) = true)
    (a_add : PySem.W.nsIn K mainGlobals "add" = some (some (.ref f_add)))
    (l_add : K.lookup f_add = some ⟨oc_add, od_add, .func (PySem.W.fnOf "add" "add" (defArgs (topS 38)) (defBody (topS 38)) (defScope (topS 38)) .none kV_add dc_add pm_add an_add cd_add ct_add), sl_add⟩)
    (c_add : PySem.W.codeIn K cd_add "add" = true)
    (k_add : PySem.W.keepIn K (.ref f_add) = true)
    (a_subtract : PySem.W.nsIn K mainGlobals "subtract" = some (some (.ref f_subtract)))
    (l_subtract : K.lookup f_subtract = some ⟨oc_subtract, od_subtract, .func (PySem.W.fnOf "subtract" "subtract" (defArgs (topS 39)) (defBody (topS 39)) (defScope (topS 39)) .none kV_subtract dc_subtract pm_subtract an_subtract cd_subtract ct_subtract), sl_subtract⟩)
    (c_subtract : PySem.W.codeIn K cd_subtract "subtract" = true)
    (k_subtract : PySem.W.keepIn K (.ref f_subtract) = true)
    (a_multiply : PySem.W.nsIn K mainGlobals "multiply" = some (some (.ref f_multiply)))
    (l_multiply : K.lookup f_multiply = some ⟨oc_multiply, od_multiply, .func (PySem.W.fnOf "multiply" "multiply" (defArgs (topS 40)) (defBody (topS 40)) (defScope (topS 40)) .none kV_multiply dc_multiply pm_multiply an_multiply cd_multiply ct_multiply), sl_multiply⟩)
    (c_multiply : PySem.W.codeIn K cd_multiply "multiply" = true)
    (k_multiply : PySem.W.keepIn K (.ref f_multiply) = true)
    (a_divide : PySem.W.nsIn K mainGlobals "divide" = some (some (.ref f_divide)))
    (l_divide : K.lookup f_divide = some ⟨oc_divide, od_divide, .func (PySem.W.fnOf "divide" "divide" (defArgs (topS 41)) (defBody (topS 41)) (defScope (topS 41)) .none kV_divide dc_divide pm_divide an_divide cd_divide ct_divide), sl_divide⟩)
    (c_divide : PySem.W.codeIn K cd_divide "divide" = true)
    (k_divide : PySem.W.keepIn K (.ref f_divide) = true)
    (a_negate : PySem.W.nsIn K mainGlobals "negate" = some (some (.ref f_negate)))
    (l_negate : K.lookup f_negate = some ⟨oc_negate, od_negate, .func (PySem.W.fnOf "negate" "negate" (defArgs (topS 42)) (defBody (topS 42)) (defScope (topS 42)) .none kV_negate dc_negate pm_negate an_negate cd_negate ct_negate), sl_negate⟩)
    (c_negate : PySem.W.codeIn K cd_negate "negate" = true)
    (k_negate : PySem.W.keepIn K (.ref f_negate) = true)
    (a_sign : PySem.W.nsIn K mainGlobals "sign" = some (some (.ref f_sign)))
    (l_sign : K.lookup f_sign = some ⟨oc_sign, od_sign, .func (PySem.W.fnOf "sign" "sign" (defArgs (topS 43)) (defBody (topS 43)) (defScope (topS 43)) .none kV_sign dc_sign pm_sign an_sign cd_sign ct_sign), sl_sign⟩)
    (c_sign : PySem.W.codeIn K cd_sign "sign" = true)
    (k_sign : PySem.W.keepIn K (.ref f_sign) = true)
    (a_compare : PySem.W.nsIn K mainGlobals "compare" = some (some (.ref f_compare)))
    (l_compare : K.lookup f_compare = some ⟨oc_compare, od_compare, .func (PySem.W.fnOf "compare" "compare" (defArgs (topS 44)) (defBody (topS 44)) (defScope (topS 44)) .none kV_compare dc_compare pm_compare an_compare cd_compare ct_compare), sl_compare⟩)
    (c_compare : PySem.W.codeIn K cd_compare "compare" = true)
    (k_compare : PySem.W.keepIn K (.ref f_compare) = true)
    (a_total : PySem.W.nsIn K mainGlobals "total" = some (some (.ref f_total)))
    (l_total : K.lookup f_total = some ⟨oc_total, od_total, .func (PySem.W.fnOf "total" "total" (defArgs (topS 45)) (defBody (topS 45)) (defScope (topS 45)) .none kV_total dc_total pm_total an_total cd_total ct_total), sl_total⟩)
    (c_total : PySem.W.codeIn K cd_total "total" = true)
    (k_total : PySem.W.keepIn K (.ref f_total) = true)
    (a_store : PySem.W.nsIn K mainGlobals "_law_store" = some (some (.ref f_store)))
    (l_store : K.lookup f_store = some ⟨oc_store, od_store, .func (PySem.W.fnOf "_law_store" "_law_store" (defArgs (topS 47)) (defBody (topS 47)) (defScope (topS 47)) .none kV_store dc_store pm_store an_store cd_store ct_store), sl_store⟩)
    (c_store : PySem.W.codeIn K cd_store "_law_store" = true)
    (k_store : PySem.W.keepIn K (.ref f_store) = true)
    (a_take : PySem.W.nsIn K mainGlobals "_law_take" = some (some (.ref f_take)))
    (l_take : K.lookup f_take = some ⟨oc_take, od_take, .func (PySem.W.fnOf "_law_take" "_law_take" (defArgs (topS 48)) (defBody (topS 48)) (defScope (topS 48)) .none kV_take dc_take pm_take an_take cd_take ct_take), sl_take⟩)
    (c_take : PySem.W.codeIn K cd_take "_law_take" = true)
    (k_take : PySem.W.keepIn K (.ref f_take) = true)
    (a_edge : PySem.W.nsIn K mainGlobals "_law_edge" = some (some (.ref f_edge)))
    (l_edge : K.lookup f_edge = some ⟨oc_edge, od_edge, .func (PySem.W.fnOf "_law_edge" "_law_edge" (defArgs (topS 49)) (defBody (topS 49)) (defScope (topS 49)) .none kV_edge dc_edge pm_edge an_edge cd_edge ct_edge), sl_edge⟩)
    (c_edge : PySem.W.codeIn K cd_edge "_law_edge" = true)
    (k_edge : PySem.W.keepIn K (.ref f_edge) = true)
    (a_between : PySem.W.nsIn K mainGlobals "_law_between" = some (some (.ref f_between)))
    (l_between : K.lookup f_between = some ⟨oc_between, od_between, .func (PySem.W.fnOf "_law_between" "_law_between" (defArgs (topS 50)) (defBody (topS 50)) (defScope (topS 50)) .none kV_between dc_between pm_between an_between cd_between ct_between), sl_between⟩)
    (c_between : PySem.W.codeIn K cd_between "_law_between" = true)
    (k_between : PySem.W.keepIn K (.ref f_between) = true)
    (a_tens : PySem.W.nsIn K mainGlobals "_law_tens" = some (some (.ref f_tens)))
    (l_tens : K.lookup f_tens = some ⟨oc_tens, od_tens, .func (PySem.W.fnOf "_law_tens" "_law_tens" (defArgs (topS 51)) (defBody (topS 51)) (defScope (topS 51)) .none kV_tens dc_tens pm_tens an_tens cd_tens ct_tens), sl_tens⟩)
    (c_tens : PySem.W.codeIn K cd_tens "_law_tens" = true)
    (k_tens : PySem.W.keepIn K (.ref f_tens) = true)
    (a_integer : PySem.W.nsIn K mainGlobals "_law_integer" = some (some (.ref f_integer)))
    (l_integer : K.lookup f_integer = some ⟨oc_integer, od_integer, .func (PySem.W.fnOf "_law_integer" "_law_integer" (defArgs (topS 52)) (defBody (topS 52)) (defScope (topS 52)) .none kV_integer dc_integer pm_integer an_integer cd_integer ct_integer), sl_integer⟩)
    (c_integer : PySem.W.codeIn K cd_integer "_law_integer" = true)
    (k_integer : PySem.W.keepIn K (.ref f_integer) = true)
    (a_low : PySem.W.nsIn K mainGlobals "_law_low" = some (some (.ref f_low)))
    (l_low : K.lookup f_low = some ⟨oc_low, od_low, .func (PySem.W.fnOf "_law_low" "_law_low" (defArgs (topS 53)) (defBody (topS 53)) (defScope (topS 53)) .none kV_low dc_low pm_low an_low cd_low ct_low), sl_low⟩)
    (c_low : PySem.W.codeIn K cd_low "_law_low" = true)
    (k_low : PySem.W.keepIn K (.ref f_low) = true)
    (a_sgn : PySem.W.nsIn K mainGlobals "_law_sgn" = some (some (.ref f_sgn)))
    (l_sgn : K.lookup f_sgn = some ⟨oc_sgn, od_sgn, .func (PySem.W.fnOf "_law_sgn" "_law_sgn" (defArgs (topS 54)) (defBody (topS 54)) (defScope (topS 54)) .none kV_sgn dc_sgn pm_sgn an_sgn cd_sgn ct_sgn), sl_sgn⟩)
    (c_sgn : PySem.W.codeIn K cd_sgn "_law_sgn" = true)
    (k_sgn : PySem.W.keepIn K (.ref f_sgn) = true)
    (a_small : PySem.W.nsIn K mainGlobals "_law_small" = some (some (.ref f_small)))
    (l_small : K.lookup f_small = some ⟨oc_small, od_small, .func (PySem.W.fnOf "_law_small" "_law_small" (defArgs (topS 55)) (defBody (topS 55)) (defScope (topS 55)) .none kV_small dc_small pm_small an_small cd_small ct_small), sl_small⟩)
    (c_small : PySem.W.codeIn K cd_small "_law_small" = true)
    (k_small : PySem.W.keepIn K (.ref f_small) = true)
    (a_lratio : PySem.W.nsIn K mainGlobals "_law_ratio" = some (some (.ref f_lratio)))
    (l_lratio : K.lookup f_lratio = some ⟨oc_lratio, od_lratio, .func (PySem.W.fnOf "_law_ratio" "_law_ratio" (defArgs (topS 56)) (defBody (topS 56)) (defScope (topS 56)) .none kV_lratio dc_lratio pm_lratio an_lratio cd_lratio ct_lratio), sl_lratio⟩)
    (c_lratio : PySem.W.codeIn K cd_lratio "_law_ratio" = true)
    (k_lratio : PySem.W.keepIn K (.ref f_lratio) = true)
    (a_not_ratio : PySem.W.nsIn K mainGlobals "_law_not_ratio" = some (some (.ref f_not_ratio)))
    (l_not_ratio : K.lookup f_not_ratio = some ⟨oc_not_ratio, od_not_ratio, .func (PySem.W.fnOf "_law_not_ratio" "_law_not_ratio" (defArgs (topS 57)) (defBody (topS 57)) (defScope (topS 57)) .none kV_not_ratio dc_not_ratio pm_not_ratio an_not_ratio cd_not_ratio ct_not_ratio), sl_not_ratio⟩)
    (c_not_ratio : PySem.W.codeIn K cd_not_ratio "_law_not_ratio" = true)
    (k_not_ratio : PySem.W.keepIn K (.ref f_not_ratio) = true)
    (a_not_integer : PySem.W.nsIn K mainGlobals "_law_not_integer" = some (some (.ref f_not_integer)))
    (l_not_integer : K.lookup f_not_integer = some ⟨oc_not_integer, od_not_integer, .func (PySem.W.fnOf "_law_not_integer" "_law_not_integer" (defArgs (topS 58)) (defBody (topS 58)) (defScope (topS 58)) .none kV_not_integer dc_not_integer pm_not_integer an_not_integer cd_not_integer ct_not_integer), sl_not_integer⟩)
    (c_not_integer : PySem.W.codeIn K cd_not_integer "_law_not_integer" = true)
    (k_not_integer : PySem.W.keepIn K (.ref f_not_integer) = true)
    (a_same : PySem.W.nsIn K mainGlobals "_law_same" = some (some (.ref f_same)))
    (l_same : K.lookup f_same = some ⟨oc_same, od_same, .func (PySem.W.fnOf "_law_same" "_law_same" (defArgs (topS 59)) (defBody (topS 59)) (defScope (topS 59)) .none kV_same dc_same pm_same an_same cd_same ct_same), sl_same⟩)
    (c_same : PySem.W.codeIn K cd_same "_law_same" = true)
    (k_same : PySem.W.keepIn K (.ref f_same) = true)
    (a_is_int : PySem.W.nsIn K mainGlobals "_law_is_int" = some (some (.ref f_is_int)))
    (l_is_int : K.lookup f_is_int = some ⟨oc_is_int, od_is_int, .func (PySem.W.fnOf "_law_is_int" "_law_is_int" (defArgs (topS 60)) (defBody (topS 60)) (defScope (topS 60)) .none kV_is_int dc_is_int pm_is_int an_is_int cd_is_int ct_is_int), sl_is_int⟩)
    (c_is_int : PySem.W.codeIn K cd_is_int "_law_is_int" = true)
    (k_is_int : PySem.W.keepIn K (.ref f_is_int) = true)
    (a_lis_ratio : PySem.W.nsIn K mainGlobals "_law_is_ratio" = some (some (.ref f_lis_ratio)))
    (l_lis_ratio : K.lookup f_lis_ratio = some ⟨oc_lis_ratio, od_lis_ratio, .func (PySem.W.fnOf "_law_is_ratio" "_law_is_ratio" (defArgs (topS 61)) (defBody (topS 61)) (defScope (topS 61)) .none kV_lis_ratio dc_lis_ratio pm_lis_ratio an_lis_ratio cd_lis_ratio ct_lis_ratio), sl_lis_ratio⟩)
    (c_lis_ratio : PySem.W.codeIn K cd_lis_ratio "_law_is_ratio" = true)
    (k_lis_ratio : PySem.W.keepIn K (.ref f_lis_ratio) = true)
    (a_is_ratios : PySem.W.nsIn K mainGlobals "_law_is_ratios" = some (some (.ref f_is_ratios)))
    (l_is_ratios : K.lookup f_is_ratios = some ⟨oc_is_ratios, od_is_ratios, .func (PySem.W.fnOf "_law_is_ratios" "_law_is_ratios" (defArgs (topS 62)) (defBody (topS 62)) (defScope (topS 62)) .none kV_is_ratios dc_is_ratios pm_is_ratios an_is_ratios cd_is_ratios ct_is_ratios), sl_is_ratios⟩)
    (c_is_ratios : PySem.W.codeIn K cd_is_ratios "_law_is_ratios" = true)
    (k_is_ratios : PySem.W.keepIn K (.ref f_is_ratios) = true)
    (a_refused : PySem.W.nsIn K mainGlobals "_law_refused" = some (some (.ref f_refused)))
    (l_refused : K.lookup f_refused = some ⟨oc_refused, od_refused, .func (PySem.W.fnOf "_law_refused" "_law_refused" (defArgs (topS 63)) (defBody (topS 63)) (defScope (topS 63)) .none kV_refused dc_refused pm_refused an_refused cd_refused ct_refused), sl_refused⟩)
    (c_refused : PySem.W.codeIn K cd_refused "_law_refused" = true)
    (k_refused : PySem.W.keepIn K (.ref f_refused) = true)
    (a_unfit : PySem.W.nsIn K mainGlobals "_law_unfit" = some (some (.ref f_unfit)))
    (l_unfit : K.lookup f_unfit = some ⟨oc_unfit, od_unfit, .func (PySem.W.fnOf "_law_unfit" "_law_unfit" (defArgs (topS 64)) (defBody (topS 64)) (defScope (topS 64)) .none kV_unfit dc_unfit pm_unfit an_unfit cd_unfit ct_unfit), sl_unfit⟩)
    (c_unfit : PySem.W.codeIn K cd_unfit "_law_unfit" = true)
    (k_unfit : PySem.W.keepIn K (.ref f_unfit) = true)
    (a_call : PySem.W.nsIn K mainGlobals "_law_call" = some (some (.ref f_call)))
    (l_call : K.lookup f_call = some ⟨oc_call, od_call, .func (PySem.W.fnOf "_law_call" "_law_call" (defArgs (topS 65)) (defBody (topS 65)) (defScope (topS 65)) .none kV_call dc_call pm_call an_call cd_call ct_call), sl_call⟩)
    (c_call : PySem.W.codeIn K cd_call "_law_call" = true)
    (k_call : PySem.W.keepIn K (.ref f_call) = true)
    (a_fault : PySem.W.nsIn K mainGlobals "_law_fault" = some (some (.ref f_fault)))
    (l_fault : K.lookup f_fault = some ⟨oc_fault, od_fault, .func (PySem.W.fnOf "_law_fault" "_law_fault" (defArgs (topS 66)) (defBody (topS 66)) (defScope (topS 66)) .none kV_fault dc_fault pm_fault an_fault cd_fault ct_fault), sl_fault⟩)
    (c_fault : PySem.W.codeIn K cd_fault "_law_fault" = true)
    (k_fault : PySem.W.keepIn K (.ref f_fault) = true)
    (a_fraction : PySem.W.nsIn K mainGlobals "_law_fraction" = some (some (.ref f_fraction)))
    (l_fraction : K.lookup f_fraction = some ⟨oc_fraction, od_fraction, .func (PySem.W.fnOf "_law_fraction" "_law_fraction" (defArgs (topS 67)) (defBody (topS 67)) (defScope (topS 67)) .none kV_fraction dc_fraction pm_fraction an_fraction cd_fraction ct_fraction), sl_fraction⟩)
    (c_fraction : PySem.W.codeIn K cd_fraction "_law_fraction" = true)
    (k_fraction : PySem.W.keepIn K (.ref f_fraction) = true)
    (a_right : PySem.W.nsIn K mainGlobals "_law_right" = some (some (.ref f_right)))
    (l_right : K.lookup f_right = some ⟨oc_right, od_right, .func (PySem.W.fnOf "_law_right" "_law_right" (defArgs (topS 68)) (defBody (topS 68)) (defScope (topS 68)) .none kV_right dc_right pm_right an_right cd_right ct_right), sl_right⟩)
    (c_right : PySem.W.codeIn K cd_right "_law_right" = true)
    (k_right : PySem.W.keepIn K (.ref f_right) = true)
    (a_as_due : PySem.W.nsIn K mainGlobals "_law_as_due" = some (some (.ref f_as_due)))
    (l_as_due : K.lookup f_as_due = some ⟨oc_as_due, od_as_due, .func (PySem.W.fnOf "_law_as_due" "_law_as_due" (defArgs (topS 69)) (defBody (topS 69)) (defScope (topS 69)) .none kV_as_due dc_as_due pm_as_due an_as_due cd_as_due ct_as_due), sl_as_due⟩)
    (c_as_due : PySem.W.codeIn K cd_as_due "_law_as_due" = true)
    (k_as_due : PySem.W.keepIn K (.ref f_as_due) = true)
    (a_second : PySem.W.nsIn K mainGlobals "_law_second" = some (some (.ref f_second)))
    (l_second : K.lookup f_second = some ⟨oc_second, od_second, .func (PySem.W.fnOf "_law_second" "_law_second" (defArgs (topS 70)) (defBody (topS 70)) (defScope (topS 70)) .none kV_second dc_second pm_second an_second cd_second ct_second), sl_second⟩)
    (c_second : PySem.W.codeIn K cd_second "_law_second" = true)
    (k_second : PySem.W.keepIn K (.ref f_second) = true)
    (a_whole_pair : PySem.W.nsIn K mainGlobals "_law_whole_pair" = some (some (.ref f_whole_pair)))
    (l_whole_pair : K.lookup f_whole_pair = some ⟨oc_whole_pair, od_whole_pair, .func (PySem.W.fnOf "_law_whole_pair" "_law_whole_pair" (defArgs (topS 71)) (defBody (topS 71)) (defScope (topS 71)) .none kV_whole_pair dc_whole_pair pm_whole_pair an_whole_pair cd_whole_pair ct_whole_pair), sl_whole_pair⟩)
    (c_whole_pair : PySem.W.codeIn K cd_whole_pair "_law_whole_pair" = true)
    (k_whole_pair : PySem.W.keepIn K (.ref f_whole_pair) = true)
    (a_values : PySem.W.nsIn K mainGlobals "_law_values" = some (some (.ref f_values)))
    (l_values : K.lookup f_values = some ⟨oc_values, od_values, .func (PySem.W.fnOf "_law_values" "_law_values" (defArgs (topS 72)) (defBody (topS 72)) (defScope (topS 72)) .none kV_values dc_values pm_values an_values cd_values ct_values), sl_values⟩)
    (c_values : PySem.W.codeIn K cd_values "_law_values" = true)
    (k_values : PySem.W.keepIn K (.ref f_values) = true)
    (a_bad_ask : PySem.W.nsIn K mainGlobals "_law_bad_ask" = some (some (.ref f_bad_ask)))
    (l_bad_ask : K.lookup f_bad_ask = some ⟨oc_bad_ask, od_bad_ask, .func (PySem.W.fnOf "_law_bad_ask" "_law_bad_ask" (defArgs (topS 73)) (defBody (topS 73)) (defScope (topS 73)) .none kV_bad_ask dc_bad_ask pm_bad_ask an_bad_ask cd_bad_ask ct_bad_ask), sl_bad_ask⟩)
    (c_bad_ask : PySem.W.codeIn K cd_bad_ask "_law_bad_ask" = true)
    (k_bad_ask : PySem.W.keepIn K (.ref f_bad_ask) = true)
    (a_undone : PySem.W.nsIn K mainGlobals "_law_undone" = some (some (.ref f_undone)))
    (l_undone : K.lookup f_undone = some ⟨oc_undone, od_undone, .func (PySem.W.fnOf "_law_undone" "_law_undone" (defArgs (topS 74)) (defBody (topS 74)) (defScope (topS 74)) .none kV_undone dc_undone pm_undone an_undone cd_undone ct_undone), sl_undone⟩)
    (c_undone : PySem.W.codeIn K cd_undone "_law_undone" = true)
    (k_undone : PySem.W.keepIn K (.ref f_undone) = true)
    (a_law : PySem.W.nsIn K mainGlobals "law" = some (some (.ref f_law)))
    (l_law : K.lookup f_law = some ⟨oc_law, od_law, .func (PySem.W.fnOf "law" "law" (defArgs (topS 75)) (defBody (topS 75)) (defScope (topS 75)) .none kV_law dc_law pm_law an_law cd_law ct_law), sl_law⟩)
    (c_law : PySem.W.codeIn K cd_law "law" = true)
    (k_law : PySem.W.keepIn K (.ref f_law) = true)
    (xLWrongKind : K.lookup CWrongKind = some (excClassObj nmWrongKind qnWrongKind CWrongKind NWrongKind bsWrongKind bmWrongKind true snWrongKind subWrongKind abWrongKind colWrongKind ddWrongKind m0WrongKind m1WrongKind m2WrongKind m3WrongKind m5WrongKind "ValueError.__new__"))
    (rvWrongKind : PySem.HandSPX.refsVE bmWrongKind = true)
    (saWrongKind : PySem.W.findIn K (.ref CWrongKind) "__setattr__" = some (some (.builtin "object.__setattr__")))
    (exWrongKind : PySem.W.subIn K (.ref CWrongKind) (.type "BaseException") = some true)
    (tyWrongKind : PySem.W.typeIn K (.ref CWrongKind) = some (.type "type"))
    (kcWrongKind : PySem.W.keepIn K (.ref CWrongKind) = true)
    (hgWrongKind : PySem.W.findIn K (.ref CWrongKind) "__getattribute__" = some (some (.builtin "BaseException.__getattribute__")))
    (hkWrongKind : PySem.W.findIn K (.ref CWrongKind) "__getattr__" = some none)
    (hdWrongKind : PySem.W.hasDictIn K CWrongKind = true)
    (haWrongKind : PySem.W.findIn K (.ref CWrongKind) "__class__" = some (some (.builtin "object.__class__")))
    (hmWrongKind : PySem.W.mroIn K CWrongKind (.type "object") = some true)
    (aiWrongKind : PySem.W.findIn K (.ref CWrongKind) "__init__" = some (some (.ref fiWrongKind)))
    (liWrongKind : K.lookup fiWrongKind = some ⟨ociWrongKind, odiWrongKind, .func (PySem.W.fnOf "__init__" "WrongKind.__init__" (defArgs (inClass (topS 2) 0)) (defBody (inClass (topS 2) 0)) (defScope (inClass (topS 2) 0)) .none kViWrongKind dciWrongKind pmiWrongKind aniWrongKind cdiWrongKind ctiWrongKind), sliWrongKind⟩)
    (ciWrongKind : PySem.W.codeIn K cdiWrongKind "WrongKind.__init__" = true)
    (kiWrongKind : PySem.W.keepIn K (.ref fiWrongKind) = true)
    (tiWrongKind : PySem.W.typeIn K (.ref fiWrongKind) = some (.type "function"))
    (nWrongKind_argument : PySem.W.findIn K (.ref CWrongKind) "argument" = some none)
    (kWrongKind_WrongKind : PySem.W.subIn K (.ref CWrongKind) (.ref CWrongKind) = some true)
    (kWrongKind_OutOfBounds : PySem.W.subIn K (.ref CWrongKind) (.ref COutOfBounds) = some false)
    (neWrongKind_OutOfBounds : Nat.beq CWrongKind COutOfBounds = false)
    (kWrongKind_RepeatedName : PySem.W.subIn K (.ref CWrongKind) (.ref CRepeatedName) = some false)
    (neWrongKind_RepeatedName : Nat.beq CWrongKind CRepeatedName = false)
    (kWrongKind_UnknownName : PySem.W.subIn K (.ref CWrongKind) (.ref CUnknownName) = some false)
    (neWrongKind_UnknownName : Nat.beq CWrongKind CUnknownName = false)
    (kWrongKind_Unsafe : PySem.W.subIn K (.ref CWrongKind) (.ref CUnsafe) = some false)
    (neWrongKind_Unsafe : Nat.beq CWrongKind CUnsafe = false)
    (kWrongKind_BadText : PySem.W.subIn K (.ref CWrongKind) (.ref CBadText) = some false)
    (neWrongKind_BadText : Nat.beq CWrongKind CBadText = false)
    (kWrongKind_UnfitError : PySem.W.subIn K (.ref CWrongKind) (.ref CUnfitError) = some false)
    (neWrongKind_UnfitError : Nat.beq CWrongKind CUnfitError = false)
    (kWrongKind_ZeroDivisor : PySem.W.subIn K (.ref CWrongKind) (.ref CZeroDivisor) = some false)
    (neWrongKind_ZeroDivisor : Nat.beq CWrongKind CZeroDivisor = false)
    (kWrongKind_NegativeRoot : PySem.W.subIn K (.ref CWrongKind) (.ref CNegativeRoot) = some false)
    (neWrongKind_NegativeRoot : Nat.beq CWrongKind CNegativeRoot = false)
    (kWrongKind_ZeroBar : PySem.W.subIn K (.ref CWrongKind) (.ref CZeroBar) = some false)
    (neWrongKind_ZeroBar : Nat.beq CWrongKind CZeroBar = false)
    (kWrongKind_FlatMap : PySem.W.subIn K (.ref CWrongKind) (.ref CFlatMap) = some false)
    (neWrongKind_FlatMap : Nat.beq CWrongKind CFlatMap = false)
    (kWrongKind_BadSteps : PySem.W.subIn K (.ref CWrongKind) (.ref CBadSteps) = some false)
    (neWrongKind_BadSteps : Nat.beq CWrongKind CBadSteps = false)
    (kWrongKind_NotOneWay : PySem.W.subIn K (.ref CWrongKind) (.ref CNotOneWay) = some false)
    (neWrongKind_NotOneWay : Nat.beq CWrongKind CNotOneWay = false)
    (kWrongKind_NotHeld : PySem.W.subIn K (.ref CWrongKind) (.ref CNotHeld) = some false)
    (neWrongKind_NotHeld : Nat.beq CWrongKind CNotHeld = false)
    (kWrongKind_NotFlat : PySem.W.subIn K (.ref CWrongKind) (.ref CNotFlat) = some false)
    (neWrongKind_NotFlat : Nat.beq CWrongKind CNotFlat = false)
    (kWrongKind_NotCover : PySem.W.subIn K (.ref CWrongKind) (.ref CNotCover) = some false)
    (neWrongKind_NotCover : Nat.beq CWrongKind CNotCover = false)
    (kWrongKind_NotOwnStress : PySem.W.subIn K (.ref CWrongKind) (.ref CNotOwnStress) = some false)
    (neWrongKind_NotOwnStress : Nat.beq CWrongKind CNotOwnStress = false)
    (kWrongKind_NotPicture : PySem.W.subIn K (.ref CWrongKind) (.ref CNotPicture) = some false)
    (neWrongKind_NotPicture : Nat.beq CWrongKind CNotPicture = false)
    (kWrongKind_NotLift : PySem.W.subIn K (.ref CWrongKind) (.ref CNotLift) = some false)
    (neWrongKind_NotLift : Nat.beq CWrongKind CNotLift = false)
    (kWrongKind_NoReciprocal : PySem.W.subIn K (.ref CWrongKind) (.ref CNoReciprocal) = some false)
    (neWrongKind_NoReciprocal : Nat.beq CWrongKind CNoReciprocal = false)
    (kWrongKind_NotMotion : PySem.W.subIn K (.ref CWrongKind) (.ref CNotMotion) = some false)
    (neWrongKind_NotMotion : Nat.beq CWrongKind CNotMotion = false)
    (kWrongKind_NotAlike : PySem.W.subIn K (.ref CWrongKind) (.ref CNotAlike) = some false)
    (neWrongKind_NotAlike : Nat.beq CWrongKind CNotAlike = false)
    (kWrongKind_NotCrank : PySem.W.subIn K (.ref CWrongKind) (.ref CNotCrank) = some false)
    (neWrongKind_NotCrank : Nat.beq CWrongKind CNotCrank = false)
    (kWrongKind_NothingToUndo : PySem.W.subIn K (.ref CWrongKind) (.ref CNothingToUndo) = some false)
    (neWrongKind_NothingToUndo : Nat.beq CWrongKind CNothingToUndo = false)
    (kWrongKind_NothingToRedo : PySem.W.subIn K (.ref CWrongKind) (.ref CNothingToRedo) = some false)
    (neWrongKind_NothingToRedo : Nat.beq CWrongKind CNothingToRedo = false)
    (kWrongKind_FrameError : PySem.W.subIn K (.ref CWrongKind) (.ref CFrameError) = some true)
    (kWrongKind_ValueError : PySem.W.subIn K (.ref CWrongKind) (.type "ValueError") = some true)
    (xLZeroDivisor : K.lookup CZeroDivisor = some (excClassObj nmZeroDivisor qnZeroDivisor CZeroDivisor NZeroDivisor bsZeroDivisor bmZeroDivisor true snZeroDivisor subZeroDivisor abZeroDivisor colZeroDivisor ddZeroDivisor m0ZeroDivisor m1ZeroDivisor m2ZeroDivisor m3ZeroDivisor m5ZeroDivisor "ValueError.__new__"))
    (rvZeroDivisor : PySem.HandSPX.refsVE bmZeroDivisor = true)
    (saZeroDivisor : PySem.W.findIn K (.ref CZeroDivisor) "__setattr__" = some (some (.builtin "object.__setattr__")))
    (exZeroDivisor : PySem.W.subIn K (.ref CZeroDivisor) (.type "BaseException") = some true)
    (tyZeroDivisor : PySem.W.typeIn K (.ref CZeroDivisor) = some (.type "type"))
    (kcZeroDivisor : PySem.W.keepIn K (.ref CZeroDivisor) = true)
    (hgZeroDivisor : PySem.W.findIn K (.ref CZeroDivisor) "__getattribute__" = some (some (.builtin "BaseException.__getattribute__")))
    (hkZeroDivisor : PySem.W.findIn K (.ref CZeroDivisor) "__getattr__" = some none)
    (hdZeroDivisor : PySem.W.hasDictIn K CZeroDivisor = true)
    (haZeroDivisor : PySem.W.findIn K (.ref CZeroDivisor) "__class__" = some (some (.builtin "object.__class__")))
    (hmZeroDivisor : PySem.W.mroIn K CZeroDivisor (.type "object") = some true)
    (aiZeroDivisor : PySem.W.findIn K (.ref CZeroDivisor) "__init__" = some (some (.ref fiZeroDivisor)))
    (liZeroDivisor : K.lookup fiZeroDivisor = some ⟨ociZeroDivisor, odiZeroDivisor, .func (PySem.W.fnOf "__init__" "UnfitError.__init__" (defArgs (inClass (topS 6) 0)) (defBody (inClass (topS 6) 0)) (defScope (inClass (topS 6) 0)) (.ref TiZeroDivisor) kViZeroDivisor dciZeroDivisor pmiZeroDivisor aniZeroDivisor cdiZeroDivisor ctiZeroDivisor), sliZeroDivisor⟩)
    (diZeroDivisor : K.lookup TiZeroDivisor = some ⟨oTiZeroDivisor, dTiZeroDivisor, .seq [.none].toArray nTiZeroDivisor, sTiZeroDivisor⟩)
    (ciZeroDivisor : PySem.W.codeIn K cdiZeroDivisor "UnfitError.__init__" = true)
    (kiZeroDivisor : PySem.W.keepIn K (.ref fiZeroDivisor) = true)
    (tiZeroDivisor : PySem.W.typeIn K (.ref fiZeroDivisor) = some (.type "function"))
    (nZeroDivisor_subject : PySem.W.findIn K (.ref CZeroDivisor) "subject" = some none)
    (kZeroDivisor_WrongKind : PySem.W.subIn K (.ref CZeroDivisor) (.ref CWrongKind) = some false)
    (neZeroDivisor_WrongKind : Nat.beq CZeroDivisor CWrongKind = false)
    (kZeroDivisor_OutOfBounds : PySem.W.subIn K (.ref CZeroDivisor) (.ref COutOfBounds) = some false)
    (neZeroDivisor_OutOfBounds : Nat.beq CZeroDivisor COutOfBounds = false)
    (kZeroDivisor_RepeatedName : PySem.W.subIn K (.ref CZeroDivisor) (.ref CRepeatedName) = some false)
    (neZeroDivisor_RepeatedName : Nat.beq CZeroDivisor CRepeatedName = false)
    (kZeroDivisor_UnknownName : PySem.W.subIn K (.ref CZeroDivisor) (.ref CUnknownName) = some false)
    (neZeroDivisor_UnknownName : Nat.beq CZeroDivisor CUnknownName = false)
    (kZeroDivisor_Unsafe : PySem.W.subIn K (.ref CZeroDivisor) (.ref CUnsafe) = some false)
    (neZeroDivisor_Unsafe : Nat.beq CZeroDivisor CUnsafe = false)
    (kZeroDivisor_BadText : PySem.W.subIn K (.ref CZeroDivisor) (.ref CBadText) = some false)
    (neZeroDivisor_BadText : Nat.beq CZeroDivisor CBadText = false)
    (kZeroDivisor_UnfitError : PySem.W.subIn K (.ref CZeroDivisor) (.ref CUnfitError) = some true)
    (kZeroDivisor_ZeroDivisor : PySem.W.subIn K (.ref CZeroDivisor) (.ref CZeroDivisor) = some true)
    (kZeroDivisor_NegativeRoot : PySem.W.subIn K (.ref CZeroDivisor) (.ref CNegativeRoot) = some false)
    (neZeroDivisor_NegativeRoot : Nat.beq CZeroDivisor CNegativeRoot = false)
    (kZeroDivisor_ZeroBar : PySem.W.subIn K (.ref CZeroDivisor) (.ref CZeroBar) = some false)
    (neZeroDivisor_ZeroBar : Nat.beq CZeroDivisor CZeroBar = false)
    (kZeroDivisor_FlatMap : PySem.W.subIn K (.ref CZeroDivisor) (.ref CFlatMap) = some false)
    (neZeroDivisor_FlatMap : Nat.beq CZeroDivisor CFlatMap = false)
    (kZeroDivisor_BadSteps : PySem.W.subIn K (.ref CZeroDivisor) (.ref CBadSteps) = some false)
    (neZeroDivisor_BadSteps : Nat.beq CZeroDivisor CBadSteps = false)
    (kZeroDivisor_NotOneWay : PySem.W.subIn K (.ref CZeroDivisor) (.ref CNotOneWay) = some false)
    (neZeroDivisor_NotOneWay : Nat.beq CZeroDivisor CNotOneWay = false)
    (kZeroDivisor_NotHeld : PySem.W.subIn K (.ref CZeroDivisor) (.ref CNotHeld) = some false)
    (neZeroDivisor_NotHeld : Nat.beq CZeroDivisor CNotHeld = false)
    (kZeroDivisor_NotFlat : PySem.W.subIn K (.ref CZeroDivisor) (.ref CNotFlat) = some false)
    (neZeroDivisor_NotFlat : Nat.beq CZeroDivisor CNotFlat = false)
    (kZeroDivisor_NotCover : PySem.W.subIn K (.ref CZeroDivisor) (.ref CNotCover) = some false)
    (neZeroDivisor_NotCover : Nat.beq CZeroDivisor CNotCover = false)
    (kZeroDivisor_NotOwnStress : PySem.W.subIn K (.ref CZeroDivisor) (.ref CNotOwnStress) = some false)
    (neZeroDivisor_NotOwnStress : Nat.beq CZeroDivisor CNotOwnStress = false)
    (kZeroDivisor_NotPicture : PySem.W.subIn K (.ref CZeroDivisor) (.ref CNotPicture) = some false)
    (neZeroDivisor_NotPicture : Nat.beq CZeroDivisor CNotPicture = false)
    (kZeroDivisor_NotLift : PySem.W.subIn K (.ref CZeroDivisor) (.ref CNotLift) = some false)
    (neZeroDivisor_NotLift : Nat.beq CZeroDivisor CNotLift = false)
    (kZeroDivisor_NoReciprocal : PySem.W.subIn K (.ref CZeroDivisor) (.ref CNoReciprocal) = some false)
    (neZeroDivisor_NoReciprocal : Nat.beq CZeroDivisor CNoReciprocal = false)
    (kZeroDivisor_NotMotion : PySem.W.subIn K (.ref CZeroDivisor) (.ref CNotMotion) = some false)
    (neZeroDivisor_NotMotion : Nat.beq CZeroDivisor CNotMotion = false)
    (kZeroDivisor_NotAlike : PySem.W.subIn K (.ref CZeroDivisor) (.ref CNotAlike) = some false)
    (neZeroDivisor_NotAlike : Nat.beq CZeroDivisor CNotAlike = false)
    (kZeroDivisor_NotCrank : PySem.W.subIn K (.ref CZeroDivisor) (.ref CNotCrank) = some false)
    (neZeroDivisor_NotCrank : Nat.beq CZeroDivisor CNotCrank = false)
    (kZeroDivisor_NothingToUndo : PySem.W.subIn K (.ref CZeroDivisor) (.ref CNothingToUndo) = some false)
    (neZeroDivisor_NothingToUndo : Nat.beq CZeroDivisor CNothingToUndo = false)
    (kZeroDivisor_NothingToRedo : PySem.W.subIn K (.ref CZeroDivisor) (.ref CNothingToRedo) = some false)
    (neZeroDivisor_NothingToRedo : Nat.beq CZeroDivisor CNothingToRedo = false)
    (kZeroDivisor_FrameError : PySem.W.subIn K (.ref CZeroDivisor) (.ref CFrameError) = some true)
    (kZeroDivisor_ValueError : PySem.W.subIn K (.ref CZeroDivisor) (.type "ValueError") = some true)
    (isWrongKind : PySem.W.isClsIn K CWrongKind = true)
    (tyOutOfBounds : PySem.W.typeIn K (.ref COutOfBounds) = some (.type "type"))
    (isOutOfBounds : PySem.W.isClsIn K COutOfBounds = true)
    (tyRepeatedName : PySem.W.typeIn K (.ref CRepeatedName) = some (.type "type"))
    (isRepeatedName : PySem.W.isClsIn K CRepeatedName = true)
    (tyUnknownName : PySem.W.typeIn K (.ref CUnknownName) = some (.type "type"))
    (isUnknownName : PySem.W.isClsIn K CUnknownName = true)
    (tyUnsafe : PySem.W.typeIn K (.ref CUnsafe) = some (.type "type"))
    (isUnsafe : PySem.W.isClsIn K CUnsafe = true)
    (tyBadText : PySem.W.typeIn K (.ref CBadText) = some (.type "type"))
    (isBadText : PySem.W.isClsIn K CBadText = true)
    (tyUnfitError : PySem.W.typeIn K (.ref CUnfitError) = some (.type "type"))
    (isUnfitError : PySem.W.isClsIn K CUnfitError = true)
    (isZeroDivisor : PySem.W.isClsIn K CZeroDivisor = true)
    (tyNegativeRoot : PySem.W.typeIn K (.ref CNegativeRoot) = some (.type "type"))
    (isNegativeRoot : PySem.W.isClsIn K CNegativeRoot = true)
    (tyZeroBar : PySem.W.typeIn K (.ref CZeroBar) = some (.type "type"))
    (isZeroBar : PySem.W.isClsIn K CZeroBar = true)
    (tyFlatMap : PySem.W.typeIn K (.ref CFlatMap) = some (.type "type"))
    (isFlatMap : PySem.W.isClsIn K CFlatMap = true)
    (tyBadSteps : PySem.W.typeIn K (.ref CBadSteps) = some (.type "type"))
    (isBadSteps : PySem.W.isClsIn K CBadSteps = true)
    (tyNotOneWay : PySem.W.typeIn K (.ref CNotOneWay) = some (.type "type"))
    (isNotOneWay : PySem.W.isClsIn K CNotOneWay = true)
    (tyNotHeld : PySem.W.typeIn K (.ref CNotHeld) = some (.type "type"))
    (isNotHeld : PySem.W.isClsIn K CNotHeld = true)
    (tyNotFlat : PySem.W.typeIn K (.ref CNotFlat) = some (.type "type"))
    (isNotFlat : PySem.W.isClsIn K CNotFlat = true)
    (tyNotCover : PySem.W.typeIn K (.ref CNotCover) = some (.type "type"))
    (isNotCover : PySem.W.isClsIn K CNotCover = true)
    (tyNotOwnStress : PySem.W.typeIn K (.ref CNotOwnStress) = some (.type "type"))
    (isNotOwnStress : PySem.W.isClsIn K CNotOwnStress = true)
    (tyNotPicture : PySem.W.typeIn K (.ref CNotPicture) = some (.type "type"))
    (isNotPicture : PySem.W.isClsIn K CNotPicture = true)
    (tyNotLift : PySem.W.typeIn K (.ref CNotLift) = some (.type "type"))
    (isNotLift : PySem.W.isClsIn K CNotLift = true)
    (tyNoReciprocal : PySem.W.typeIn K (.ref CNoReciprocal) = some (.type "type"))
    (isNoReciprocal : PySem.W.isClsIn K CNoReciprocal = true)
    (tyNotMotion : PySem.W.typeIn K (.ref CNotMotion) = some (.type "type"))
    (isNotMotion : PySem.W.isClsIn K CNotMotion = true)
    (tyNotAlike : PySem.W.typeIn K (.ref CNotAlike) = some (.type "type"))
    (isNotAlike : PySem.W.isClsIn K CNotAlike = true)
    (tyNotCrank : PySem.W.typeIn K (.ref CNotCrank) = some (.type "type"))
    (isNotCrank : PySem.W.isClsIn K CNotCrank = true)
    (tyNothingToUndo : PySem.W.typeIn K (.ref CNothingToUndo) = some (.type "type"))
    (isNothingToUndo : PySem.W.isClsIn K CNothingToUndo = true)
    (tyNothingToRedo : PySem.W.typeIn K (.ref CNothingToRedo) = some (.type "type"))
    (isNothingToRedo : PySem.W.isClsIn K CNothingToRedo = true)
    (tyFrameError : PySem.W.typeIn K (.ref CFrameError) = some (.type "type"))
    (isFrameError : PySem.W.isClsIn K CFrameError = true)
    (exFrameError : PySem.W.subIn K (.ref CFrameError) (.type "BaseException") = some true)
    (qNOUGHT : PySem.W.nsIn K mainGlobals "NOUGHT" = some (some (.ref aNOUGHT)))
    (lNNOUGHT : K.lookup aNOUGHT = some ⟨.type "tuple", dNNOUGHT, .seq [.int 0 tk0NOUGHT, .int 1 tk1NOUGHT].toArray nNNOUGHT, sNNOUGHT⟩)
    (hn : PySem.W.specialIn K (.builtin "object.__class__") "__get__" = some (some (.builtin "getset_descriptor.__get__")))
    (ht : PySem.W.takesIn K (.builtin "object.__class__") = some true)
    (z_len : PySem.W.nsIn K mainGlobals "len" = some none)
    (z_max : PySem.W.nsIn K mainGlobals "max" = some none)
    (z_min : PySem.W.nsIn K mainGlobals "min" = some none)
    (z_abs : PySem.W.nsIn K mainGlobals "abs" = some none)
    (z_int : PySem.W.nsIn K mainGlobals "int" = some none)
    (z_str : PySem.W.nsIn K mainGlobals "str" = some none)
    (z_bool : PySem.W.nsIn K mainGlobals "bool" = some none)
    (z_list : PySem.W.nsIn K mainGlobals "list" = some none)
    (z_tuple : PySem.W.nsIn K mainGlobals "tuple" = some none)
    (z_dict : PySem.W.nsIn K mainGlobals "dict" = some none)
    (z_isinstance : PySem.W.nsIn K mainGlobals "isinstance" = some none)
    (z_range : PySem.W.nsIn K mainGlobals "range" = some none)
    (z_all : PySem.W.nsIn K mainGlobals "all" = some none)
    (z_ValueError : PySem.W.nsIn K mainGlobals "ValueError" = some none)
    (dig : PySem.W.nsIn K cStatics "sys.int_max_str_digits" = some none) :
    ∃ fd : FuncData, (∀ (s : Shared) (v : Value), BindsTo s fd ⟨[v], []⟩ [("script", v)]) ∧ ∀ base : Heap, K.In base → base.Ns mainGlobals mg → FnOk l.prog w K mg base (L2N.CX l.prog w) 178 fa fd ["script"] (spLaw K) := by
  have e := hfa.symm.trans (PySem.W.mg_of X G a_law)
  cases e
  have F_is_whole := fun_mk (st := topS 29) l_is_whole c_is_whole k_is_whole
  have b_is_whole := F_is_whole.binds (ps := ["value"]) fun _ _ _ _ _ _ us hl => match us, hl with | [_], _ => rfl
  have F_divisor := fun_mk (st := topS 30) l_divisor c_divisor k_divisor
  have b_divisor := F_divisor.binds (ps := ["one", "other"]) fun _ _ _ _ _ _ us hl => match us, hl with | [_, _], _ => rfl
  have F_lowest := fun_mk (st := topS 31) l_lowest c_lowest k_lowest
  have b_lowest := F_lowest.binds (ps := ["top", "bottom"]) fun _ _ _ _ _ _ us hl => match us, hl with | [_, _], _ => rfl
  have F_sign_of := fun_mk (st := topS 32) l_sign_of c_sign_of k_sign_of
  have b_sign_of := F_sign_of.binds (ps := ["number"]) fun _ _ _ _ _ _ us hl => match us, hl with | [_], _ => rfl
  have F_is_ratio_list := fun_mk (st := topS 33) l_is_ratio_list c_is_ratio_list k_is_ratio_list
  have b_is_ratio_list := F_is_ratio_list.binds (ps := ["value"]) fun _ _ _ _ _ _ us hl => match us, hl with | [_], _ => rfl
  have F_need_ratio := fun_mk (st := topS 34) l_need_ratio c_need_ratio k_need_ratio
  have b_need_ratio := F_need_ratio.binds (ps := ["value", "argument"]) fun _ _ _ _ _ _ us hl => match us, hl with | [_, _], _ => rfl
  have F_need_two := fun_mk (st := topS 35) l_need_two c_need_two k_need_two
  have b_need_two := F_need_two.binds (ps := ["one", "other"]) fun _ _ _ _ _ _ us hl => match us, hl with | [_, _], _ => rfl
  have F_is_ratio := fun_mk (st := topS 36) l_is_ratio c_is_ratio k_is_ratio
  have b_is_ratio := F_is_ratio.binds (ps := ["value"]) fun _ _ _ _ _ _ us hl => match us, hl with | [_], _ => rfl
  have F_ratio : FunD K "ratio" "ratio" (defArgs (topS 37)) (defBody (topS 37)) (defScope (topS 37)) [.int 1] [] f_ratio _ := ⟨⟨_, _, _, _, _, _, _, _, _, _, rfl, l_ratio, c_ratio, .inr ⟨by simp, T_ratio, _, [.int 1 tkd], _, rfl, d_ratio, rfl, .cons ⟨tkd, rfl⟩ .nil⟩, .inl rfl⟩, k_ratio⟩
  obtain ⟨ds1_ratio, vd1_ratio, b1_ratio⟩ := F_ratio.binds1 (ps := ["numerator", "denominator"]) 2 1 (by simp) rfl fun _ _ _ _ _ _ _ us its h1 h2 => match us, its, h1, h2 with | [_, _], [_], _, _ => ⟨_, rfl, rfl⟩
  cases vd1_ratio
  obtain ⟨ds0_ratio, vd0_ratio, b0_ratio⟩ := F_ratio.binds1 (ps := ["numerator", "denominator"]) 1 0 (by simp) rfl fun _ _ _ _ _ _ _ us its h1 h2 => match us, its, h1, h2 with | [_], [_], _, _ => ⟨_, rfl, rfl⟩
  have F_add := fun_mk (st := topS 38) l_add c_add k_add
  have b_add := F_add.binds (ps := ["one", "other"]) fun _ _ _ _ _ _ us hl => match us, hl with | [_, _], _ => rfl
  have F_subtract := fun_mk (st := topS 39) l_subtract c_subtract k_subtract
  have b_subtract := F_subtract.binds (ps := ["one", "other"]) fun _ _ _ _ _ _ us hl => match us, hl with | [_, _], _ => rfl
  have F_multiply := fun_mk (st := topS 40) l_multiply c_multiply k_multiply
  have b_multiply := F_multiply.binds (ps := ["one", "other"]) fun _ _ _ _ _ _ us hl => match us, hl with | [_, _], _ => rfl
  have F_divide := fun_mk (st := topS 41) l_divide c_divide k_divide
  have b_divide := F_divide.binds (ps := ["one", "other"]) fun _ _ _ _ _ _ us hl => match us, hl with | [_, _], _ => rfl
  have F_negate := fun_mk (st := topS 42) l_negate c_negate k_negate
  have b_negate := F_negate.binds (ps := ["one"]) fun _ _ _ _ _ _ us hl => match us, hl with | [_], _ => rfl
  have F_sign := fun_mk (st := topS 43) l_sign c_sign k_sign
  have b_sign := F_sign.binds (ps := ["one"]) fun _ _ _ _ _ _ us hl => match us, hl with | [_], _ => rfl
  have F_compare := fun_mk (st := topS 44) l_compare c_compare k_compare
  have b_compare := F_compare.binds (ps := ["one", "other"]) fun _ _ _ _ _ _ us hl => match us, hl with | [_, _], _ => rfl
  have F_total := fun_mk (st := topS 45) l_total c_total k_total
  have b_total := F_total.binds (ps := ["values"]) fun _ _ _ _ _ _ us hl => match us, hl with | [_], _ => rfl
  have F_store := fun_mk (st := topS 47) l_store c_store k_store
  have b_store := F_store.binds (ps := ["script"]) fun _ _ _ _ _ _ us hl => match us, hl with | [_], _ => rfl
  have F_take := fun_mk (st := topS 48) l_take c_take k_take
  have b_take := F_take.binds (ps := ["store", "many"]) fun _ _ _ _ _ _ us hl => match us, hl with | [_, _], _ => rfl
  have F_edge := fun_mk (st := topS 49) l_edge c_edge k_edge
  have b_edge := F_edge.binds (ps := ["store", "many"]) fun _ _ _ _ _ _ us hl => match us, hl with | [_, _], _ => rfl
  have F_between := fun_mk (st := topS 50) l_between c_between k_between
  have b_between := F_between.binds (ps := ["store", "low", "high"]) fun _ _ _ _ _ _ us hl => match us, hl with | [_, _, _], _ => rfl
  have F_tens := fun_mk (st := topS 51) l_tens c_tens k_tens
  have b_tens := F_tens.binds (ps := ["figures"]) fun _ _ _ _ _ _ us hl => match us, hl with | [_], _ => rfl
  have F_integer := fun_mk (st := topS 52) l_integer c_integer k_integer
  have b_integer := F_integer.binds (ps := ["store", "figures"]) fun _ _ _ _ _ _ us hl => match us, hl with | [_, _], _ => rfl
  have F_low := fun_mk (st := topS 53) l_low c_low k_low
  have b_low := F_low.binds (ps := ["up", "down"]) fun _ _ _ _ _ _ us hl => match us, hl with | [_, _], _ => rfl
  have F_sgn := fun_mk (st := topS 54) l_sgn c_sgn k_sgn
  have b_sgn := F_sgn.binds (ps := ["one"]) fun _ _ _ _ _ _ us hl => match us, hl with | [_], _ => rfl
  have F_small := fun_mk (st := topS 55) l_small c_small k_small
  have b_small := F_small.binds (ps := ["store"]) fun _ _ _ _ _ _ us hl => match us, hl with | [_], _ => rfl
  have F_lratio := fun_mk (st := topS 56) l_lratio c_lratio k_lratio
  have b_lratio := F_lratio.binds (ps := ["store", "figures"]) fun _ _ _ _ _ _ us hl => match us, hl with | [_, _], _ => rfl
  have F_not_ratio := fun_mk (st := topS 57) l_not_ratio c_not_ratio k_not_ratio
  have b_not_ratio := F_not_ratio.binds (ps := ["store", "none_too"]) fun _ _ _ _ _ _ us hl => match us, hl with | [_, _], _ => rfl
  have F_not_integer := fun_mk (st := topS 58) l_not_integer c_not_integer k_not_integer
  have b_not_integer := F_not_integer.binds (ps := ["store"]) fun _ _ _ _ _ _ us hl => match us, hl with | [_], _ => rfl
  have F_same := fun_mk (st := topS 59) l_same c_same k_same
  have b_same := F_same.binds (ps := ["got", "due"]) fun _ _ _ _ _ _ us hl => match us, hl with | [_, _], _ => rfl
  have F_is_int := fun_mk (st := topS 60) l_is_int c_is_int k_is_int
  have b_is_int := F_is_int.binds (ps := ["thing"]) fun _ _ _ _ _ _ us hl => match us, hl with | [_], _ => rfl
  have F_lis_ratio := fun_mk (st := topS 61) l_lis_ratio c_lis_ratio k_lis_ratio
  have b_lis_ratio := F_lis_ratio.binds (ps := ["thing"]) fun _ _ _ _ _ _ us hl => match us, hl with | [_], _ => rfl
  have F_is_ratios := fun_mk (st := topS 62) l_is_ratios c_is_ratios k_is_ratios
  have b_is_ratios := F_is_ratios.binds (ps := ["thing", "many"]) fun _ _ _ _ _ _ us hl => match us, hl with | [_, _], _ => rfl
  have F_refused := fun_mk (st := topS 63) l_refused c_refused k_refused
  have b_refused := F_refused.binds (ps := ["e"]) fun _ _ _ _ _ _ us hl => match us, hl with | [_], _ => rfl
  have F_unfit := fun_mk (st := topS 64) l_unfit c_unfit k_unfit
  have b_unfit := F_unfit.binds (ps := ["e"]) fun _ _ _ _ _ _ us hl => match us, hl with | [_], _ => rfl
  have F_call := fun_mk (st := topS 65) l_call c_call k_call
  have b_call := F_call.binds (ps := ["way", "one", "two"]) fun _ _ _ _ _ _ us hl => match us, hl with | [_, _, _], _ => rfl
  have F_fault := fun_mk (st := topS 66) l_fault c_fault k_fault
  have b_fault := F_fault.binds (ps := ["way", "one", "two"]) fun _ _ _ _ _ _ us hl => match us, hl with | [_, _, _], _ => rfl
  have F_fraction := fun_mk (st := topS 67) l_fraction c_fraction k_fraction
  have b_fraction := F_fraction.binds (ps := ["way", "one", "two"]) fun _ _ _ _ _ _ us hl => match us, hl with | [_, _, _], _ => rfl
  have F_right := fun_mk (st := topS 68) l_right c_right k_right
  have b_right := F_right.binds (ps := ["way", "one", "two", "told"]) fun _ _ _ _ _ _ us hl => match us, hl with | [_, _, _, _], _ => rfl
  have F_as_due := fun_mk (st := topS 69) l_as_due c_as_due k_as_due
  have b_as_due := F_as_due.binds (ps := ["ask", "told"]) fun _ _ _ _ _ _ us hl => match us, hl with | [_, _], _ => rfl
  have F_second := fun_mk (st := topS 70) l_second c_second k_second
  have b_second := F_second.binds (ps := ["store", "one", "figures"]) fun _ _ _ _ _ _ us hl => match us, hl with | [_, _, _], _ => rfl
  have F_whole_pair := fun_mk (st := topS 71) l_whole_pair c_whole_pair k_whole_pair
  have b_whole_pair := F_whole_pair.binds (ps := ["store", "figures"]) fun _ _ _ _ _ _ us hl => match us, hl with | [_, _], _ => rfl
  have F_values := fun_mk (st := topS 72) l_values c_values k_values
  have b_values := F_values.binds (ps := ["store", "one", "figures"]) fun _ _ _ _ _ _ us hl => match us, hl with | [_, _, _], _ => rfl
  have F_bad_ask := fun_mk (st := topS 73) l_bad_ask c_bad_ask k_bad_ask
  have b_bad_ask := F_bad_ask.binds (ps := ["store", "way", "ask"]) fun _ _ _ _ _ _ us hl => match us, hl with | [_, _, _], _ => rfl
  have F_undone := fun_mk (st := topS 74) l_undone c_undone k_undone
  have b_undone := F_undone.binds (ps := ["one", "two"]) fun _ _ _ _ _ _ us hl => match us, hl with | [_, _], _ => rfl
  have F_law := fun_mk (st := topS 75) l_law c_law k_law
  have b_law := F_law.binds (ps := ["script"]) fun _ _ _ _ _ _ us hl => match us, hl with | [_], _ => rfl
  have FiWrongKind : FunD K "__init__" "WrongKind.__init__" (defArgs (inClass (topS 2) 0)) (defBody (inClass (topS 2) 0)) (defScope (inClass (topS 2) 0)) [] [] fiWrongKind _ := ⟨⟨_, _, _, _, _, _, _, _, _, _, rfl, liWrongKind, ciWrongKind, .inl ⟨rfl, rfl⟩, .inl rfl⟩, kiWrongKind⟩
  have b1iWrongKind := FiWrongKind.bindsN (ps := ["self", "argument"]) fun _ _ _ _ _ _ us hl => match us, hl with | [_, _], _ => rfl
  have FiZeroDivisor : FunD K "__init__" "UnfitError.__init__" (defArgs (inClass (topS 6) 0)) (defBody (inClass (topS 6) 0)) (defScope (inClass (topS 6) 0)) [.non] [] fiZeroDivisor _ := ⟨⟨_, _, _, _, _, _, _, _, _, _, rfl, liZeroDivisor, ciZeroDivisor, .inr ⟨by simp, TiZeroDivisor, _, [.none], _, rfl, diZeroDivisor, rfl, .cons rfl .nil⟩, .inl rfl⟩, kiZeroDivisor⟩
  obtain ⟨ds1iZeroDivisor, vd1iZeroDivisor, b1iZeroDivisor⟩ := FiZeroDivisor.binds1 (ps := ["self", "subject"]) 2 1 (by simp) rfl fun _ _ _ _ _ _ _ us its h1 h2 => match us, its, h1, h2 with | [_, _], [_], _, _ => ⟨_, rfl, rfl⟩
  cases vd1iZeroDivisor
  obtain ⟨ds0iZeroDivisor, vd0iZeroDivisor, b0iZeroDivisor⟩ := FiZeroDivisor.binds1 (ps := ["self", "subject"]) 1 0 (by simp) rfl fun _ _ _ _ _ _ _ us its h1 h2 => match us, its, h1, h2 with | [_], [_], _, _ => ⟨_, rfl, rfl⟩
  let T : Txt K mg := {
    dis_whole := ⟨f_is_whole, _, F_is_whole, b_is_whole, PySem.W.mg_of X G a_is_whole⟩
    ddivisor := ⟨f_divisor, _, F_divisor, b_divisor, PySem.W.mg_of X G a_divisor⟩
    dlowest := ⟨f_lowest, _, F_lowest, b_lowest, PySem.W.mg_of X G a_lowest⟩
    dsign_of := ⟨f_sign_of, _, F_sign_of, b_sign_of, PySem.W.mg_of X G a_sign_of⟩
    dis_ratio_list := ⟨f_is_ratio_list, _, F_is_ratio_list, b_is_ratio_list, PySem.W.mg_of X G a_is_ratio_list⟩
    dneed_ratio := ⟨f_need_ratio, _, F_need_ratio, b_need_ratio, PySem.W.mg_of X G a_need_ratio⟩
    dneed_two := ⟨f_need_two, _, F_need_two, b_need_two, PySem.W.mg_of X G a_need_two⟩
    dis_ratio := ⟨f_is_ratio, _, F_is_ratio, b_is_ratio, PySem.W.mg_of X G a_is_ratio⟩
    dratio := ⟨f_ratio, _, F_ratio, b1_ratio, ds0_ratio, vd0_ratio, b0_ratio, PySem.W.mg_of X G a_ratio⟩
    dadd := ⟨f_add, _, F_add, b_add, PySem.W.mg_of X G a_add⟩
    dsubtract := ⟨f_subtract, _, F_subtract, b_subtract, PySem.W.mg_of X G a_subtract⟩
    dmultiply := ⟨f_multiply, _, F_multiply, b_multiply, PySem.W.mg_of X G a_multiply⟩
    ddivide := ⟨f_divide, _, F_divide, b_divide, PySem.W.mg_of X G a_divide⟩
    dnegate := ⟨f_negate, _, F_negate, b_negate, PySem.W.mg_of X G a_negate⟩
    dsign := ⟨f_sign, _, F_sign, b_sign, PySem.W.mg_of X G a_sign⟩
    dcompare := ⟨f_compare, _, F_compare, b_compare, PySem.W.mg_of X G a_compare⟩
    dtotal := ⟨f_total, _, F_total, b_total, PySem.W.mg_of X G a_total⟩
    dstore := ⟨f_store, _, F_store, b_store, PySem.W.mg_of X G a_store⟩
    dtake := ⟨f_take, _, F_take, b_take, PySem.W.mg_of X G a_take⟩
    dedge := ⟨f_edge, _, F_edge, b_edge, PySem.W.mg_of X G a_edge⟩
    dbetween := ⟨f_between, _, F_between, b_between, PySem.W.mg_of X G a_between⟩
    dtens := ⟨f_tens, _, F_tens, b_tens, PySem.W.mg_of X G a_tens⟩
    dinteger := ⟨f_integer, _, F_integer, b_integer, PySem.W.mg_of X G a_integer⟩
    dlow := ⟨f_low, _, F_low, b_low, PySem.W.mg_of X G a_low⟩
    dsgn := ⟨f_sgn, _, F_sgn, b_sgn, PySem.W.mg_of X G a_sgn⟩
    dsmall := ⟨f_small, _, F_small, b_small, PySem.W.mg_of X G a_small⟩
    dlratio := ⟨f_lratio, _, F_lratio, b_lratio, PySem.W.mg_of X G a_lratio⟩
    dnot_ratio := ⟨f_not_ratio, _, F_not_ratio, b_not_ratio, PySem.W.mg_of X G a_not_ratio⟩
    dnot_integer := ⟨f_not_integer, _, F_not_integer, b_not_integer, PySem.W.mg_of X G a_not_integer⟩
    dsame := ⟨f_same, _, F_same, b_same, PySem.W.mg_of X G a_same⟩
    dis_int := ⟨f_is_int, _, F_is_int, b_is_int, PySem.W.mg_of X G a_is_int⟩
    dlis_ratio := ⟨f_lis_ratio, _, F_lis_ratio, b_lis_ratio, PySem.W.mg_of X G a_lis_ratio⟩
    dis_ratios := ⟨f_is_ratios, _, F_is_ratios, b_is_ratios, PySem.W.mg_of X G a_is_ratios⟩
    drefused := ⟨f_refused, _, F_refused, b_refused, PySem.W.mg_of X G a_refused⟩
    dunfit := ⟨f_unfit, _, F_unfit, b_unfit, PySem.W.mg_of X G a_unfit⟩
    dcall := ⟨f_call, _, F_call, b_call, PySem.W.mg_of X G a_call⟩
    dfault := ⟨f_fault, _, F_fault, b_fault, PySem.W.mg_of X G a_fault⟩
    dfraction := ⟨f_fraction, _, F_fraction, b_fraction, PySem.W.mg_of X G a_fraction⟩
    dright := ⟨f_right, _, F_right, b_right, PySem.W.mg_of X G a_right⟩
    das_due := ⟨f_as_due, _, F_as_due, b_as_due, PySem.W.mg_of X G a_as_due⟩
    dsecond := ⟨f_second, _, F_second, b_second, PySem.W.mg_of X G a_second⟩
    dwhole_pair := ⟨f_whole_pair, _, F_whole_pair, b_whole_pair, PySem.W.mg_of X G a_whole_pair⟩
    dvalues := ⟨f_values, _, F_values, b_values, PySem.W.mg_of X G a_values⟩
    dbad_ask := ⟨f_bad_ask, _, F_bad_ask, b_bad_ask, PySem.W.mg_of X G a_bad_ask⟩
    dundone := ⟨f_undone, _, F_undone, b_undone, PySem.W.mg_of X G a_undone⟩
    dlaw := ⟨fa, _, F_law, b_law, PySem.W.mg_of X G a_law⟩
    m_len := PySem.W.mg_none_of X G z_len
    m_max := PySem.W.mg_none_of X G z_max
    m_min := PySem.W.mg_none_of X G z_min
    m_abs := PySem.W.mg_none_of X G z_abs
    m_int := PySem.W.mg_none_of X G z_int
    m_str := PySem.W.mg_none_of X G z_str
    m_bool := PySem.W.mg_none_of X G z_bool
    m_list := PySem.W.mg_none_of X G z_list
    m_tuple := PySem.W.mg_none_of X G z_tuple
    m_dict := PySem.W.mg_none_of X G z_dict
    m_isinstance := PySem.W.mg_none_of X G z_isinstance
    m_range := PySem.W.mg_none_of X G z_range
    m_all := PySem.W.mg_none_of X G z_all
    m_ValueError := PySem.W.mg_none_of X G z_ValueError
    dig := dig
    aNOUGHT := aNOUGHT
    kNOUGHT := PySem.W.mg_of X G qNOUGHT
    vNOUGHT := fun so A => ⟨aNOUGHT, [.int 0, .int 1], rfl, (.inr ⟨_, _, nNNOUGHT, lNNOUGHT, rfl, rfl, (by show 2 ≤ sizeLine; decide), .cons ⟨tk0NOUGHT, rfl⟩ (.cons ⟨tk1NOUGHT, rfl⟩ .nil)⟩), .int 0, [.int 1], rfl, rfl, .int 1, [], rfl, rfl, rfl⟩
    cFrameError := ⟨CFrameError, PySem.W.mg_of X G aFrameError⟩
    cWrongKind := ⟨CWrongKind, PySem.W.mg_of X G aWrongKind, ⟨⟨nmWrongKind, qnWrongKind, NWrongKind, bsWrongKind, bmWrongKind, snWrongKind, subWrongKind, abWrongKind, colWrongKind, ddWrongKind, m0WrongKind, m1WrongKind, m2WrongKind, m3WrongKind, m5WrongKind, xLWrongKind, rvWrongKind⟩, saWrongKind, exWrongKind, tyWrongKind, kcWrongKind⟩, ⟨⟨hgWrongKind, hkWrongKind, exWrongKind, hdWrongKind, haWrongKind, hn, ht, hmWrongKind⟩, cl_of xLWrongKind⟩⟩
    cOutOfBounds := ⟨COutOfBounds, PySem.W.mg_of X G aOutOfBounds⟩
    cRepeatedName := ⟨CRepeatedName, PySem.W.mg_of X G aRepeatedName⟩
    cUnknownName := ⟨CUnknownName, PySem.W.mg_of X G aUnknownName⟩
    cUnfitError := ⟨CUnfitError, PySem.W.mg_of X G aUnfitError⟩
    cZeroDivisor := ⟨CZeroDivisor, PySem.W.mg_of X G aZeroDivisor, ⟨⟨nmZeroDivisor, qnZeroDivisor, NZeroDivisor, bsZeroDivisor, bmZeroDivisor, snZeroDivisor, subZeroDivisor, abZeroDivisor, colZeroDivisor, ddZeroDivisor, m0ZeroDivisor, m1ZeroDivisor, m2ZeroDivisor, m3ZeroDivisor, m5ZeroDivisor, xLZeroDivisor, rvZeroDivisor⟩, saZeroDivisor, exZeroDivisor, tyZeroDivisor, kcZeroDivisor⟩, ⟨⟨hgZeroDivisor, hkZeroDivisor, exZeroDivisor, hdZeroDivisor, haZeroDivisor, hn, ht, hmZeroDivisor⟩, cl_of xLZeroDivisor⟩⟩
    cNegativeRoot := ⟨CNegativeRoot, PySem.W.mg_of X G aNegativeRoot⟩
    cZeroBar := ⟨CZeroBar, PySem.W.mg_of X G aZeroBar⟩
    cFlatMap := ⟨CFlatMap, PySem.W.mg_of X G aFlatMap⟩
    cBadSteps := ⟨CBadSteps, PySem.W.mg_of X G aBadSteps⟩
    cNotOneWay := ⟨CNotOneWay, PySem.W.mg_of X G aNotOneWay⟩
    cNotHeld := ⟨CNotHeld, PySem.W.mg_of X G aNotHeld⟩
    cNotFlat := ⟨CNotFlat, PySem.W.mg_of X G aNotFlat⟩
    cNotCover := ⟨CNotCover, PySem.W.mg_of X G aNotCover⟩
    cNotOwnStress := ⟨CNotOwnStress, PySem.W.mg_of X G aNotOwnStress⟩
    cNotPicture := ⟨CNotPicture, PySem.W.mg_of X G aNotPicture⟩
    cNotLift := ⟨CNotLift, PySem.W.mg_of X G aNotLift⟩
    cNoReciprocal := ⟨CNoReciprocal, PySem.W.mg_of X G aNoReciprocal⟩
    cNotMotion := ⟨CNotMotion, PySem.W.mg_of X G aNotMotion⟩
    cNotAlike := ⟨CNotAlike, PySem.W.mg_of X G aNotAlike⟩
    cNotCrank := ⟨CNotCrank, PySem.W.mg_of X G aNotCrank⟩
    cNothingToUndo := ⟨CNothingToUndo, PySem.W.mg_of X G aNothingToUndo⟩
    cNothingToRedo := ⟨CNothingToRedo, PySem.W.mg_of X G aNothingToRedo⟩
    cUnsafe := ⟨CUnsafe, PySem.W.mg_of X G aUnsafe⟩
    cBadText := ⟨CBadText, PySem.W.mg_of X G aBadText⟩
    iWrongKind := ⟨fiWrongKind, _, FiWrongKind, b1iWrongKind, [], .nil, b1iWrongKind, aiWrongKind, tiWrongKind⟩
    zWrongKind := ⟨fun f hf => by rw [List.mem_singleton.mp hf]; exact nWrongKind_argument, ⟨⟨nmWrongKind, qnWrongKind, NWrongKind, bsWrongKind, bmWrongKind, snWrongKind, subWrongKind, abWrongKind, colWrongKind, ddWrongKind, m0WrongKind, m1WrongKind, m2WrongKind, m3WrongKind, m5WrongKind, xLWrongKind, rvWrongKind⟩, saWrongKind, exWrongKind, tyWrongKind, kcWrongKind⟩, mk1_da⟩
    kWrongKind_WrongKind := kit_tR isWrongKind tyWrongKind kWrongKind_WrongKind
    kWrongKind_OutOfBounds := kit_fR neWrongKind_OutOfBounds isOutOfBounds tyOutOfBounds kWrongKind_OutOfBounds
    kWrongKind_RepeatedName := kit_fR neWrongKind_RepeatedName isRepeatedName tyRepeatedName kWrongKind_RepeatedName
    kWrongKind_UnknownName := kit_fR neWrongKind_UnknownName isUnknownName tyUnknownName kWrongKind_UnknownName
    kWrongKind_Unsafe := kit_fR neWrongKind_Unsafe isUnsafe tyUnsafe kWrongKind_Unsafe
    kWrongKind_BadText := kit_fR neWrongKind_BadText isBadText tyBadText kWrongKind_BadText
    kWrongKind_UnfitError := kit_fR neWrongKind_UnfitError isUnfitError tyUnfitError kWrongKind_UnfitError
    kWrongKind_ZeroDivisor := kit_fR neWrongKind_ZeroDivisor isZeroDivisor tyZeroDivisor kWrongKind_ZeroDivisor
    kWrongKind_NegativeRoot := kit_fR neWrongKind_NegativeRoot isNegativeRoot tyNegativeRoot kWrongKind_NegativeRoot
    kWrongKind_ZeroBar := kit_fR neWrongKind_ZeroBar isZeroBar tyZeroBar kWrongKind_ZeroBar
    kWrongKind_FlatMap := kit_fR neWrongKind_FlatMap isFlatMap tyFlatMap kWrongKind_FlatMap
    kWrongKind_BadSteps := kit_fR neWrongKind_BadSteps isBadSteps tyBadSteps kWrongKind_BadSteps
    kWrongKind_NotOneWay := kit_fR neWrongKind_NotOneWay isNotOneWay tyNotOneWay kWrongKind_NotOneWay
    kWrongKind_NotHeld := kit_fR neWrongKind_NotHeld isNotHeld tyNotHeld kWrongKind_NotHeld
    kWrongKind_NotFlat := kit_fR neWrongKind_NotFlat isNotFlat tyNotFlat kWrongKind_NotFlat
    kWrongKind_NotCover := kit_fR neWrongKind_NotCover isNotCover tyNotCover kWrongKind_NotCover
    kWrongKind_NotOwnStress := kit_fR neWrongKind_NotOwnStress isNotOwnStress tyNotOwnStress kWrongKind_NotOwnStress
    kWrongKind_NotPicture := kit_fR neWrongKind_NotPicture isNotPicture tyNotPicture kWrongKind_NotPicture
    kWrongKind_NotLift := kit_fR neWrongKind_NotLift isNotLift tyNotLift kWrongKind_NotLift
    kWrongKind_NoReciprocal := kit_fR neWrongKind_NoReciprocal isNoReciprocal tyNoReciprocal kWrongKind_NoReciprocal
    kWrongKind_NotMotion := kit_fR neWrongKind_NotMotion isNotMotion tyNotMotion kWrongKind_NotMotion
    kWrongKind_NotAlike := kit_fR neWrongKind_NotAlike isNotAlike tyNotAlike kWrongKind_NotAlike
    kWrongKind_NotCrank := kit_fR neWrongKind_NotCrank isNotCrank tyNotCrank kWrongKind_NotCrank
    kWrongKind_NothingToUndo := kit_fR neWrongKind_NothingToUndo isNothingToUndo tyNothingToUndo kWrongKind_NothingToUndo
    kWrongKind_NothingToRedo := kit_fR neWrongKind_NothingToRedo isNothingToRedo tyNothingToRedo kWrongKind_NothingToRedo
    kWrongKind_FrameError := kit_tR isFrameError tyFrameError kWrongKind_FrameError
    kWrongKind_ValueError := kit_tT kWrongKind_ValueError
    xWrongKind := exm_t exFrameError isFrameError tyFrameError kWrongKind_FrameError
    iZeroDivisor := ⟨fiZeroDivisor, _, FiZeroDivisor, b1iZeroDivisor, ds0iZeroDivisor, vd0iZeroDivisor, b0iZeroDivisor, aiZeroDivisor, tiZeroDivisor⟩
    zZeroDivisor := ⟨fun f hf => by rw [List.mem_singleton.mp hf]; exact nZeroDivisor_subject, ⟨⟨nmZeroDivisor, qnZeroDivisor, NZeroDivisor, bsZeroDivisor, bmZeroDivisor, snZeroDivisor, subZeroDivisor, abZeroDivisor, colZeroDivisor, ddZeroDivisor, m0ZeroDivisor, m1ZeroDivisor, m2ZeroDivisor, m3ZeroDivisor, m5ZeroDivisor, xLZeroDivisor, rvZeroDivisor⟩, saZeroDivisor, exZeroDivisor, tyZeroDivisor, kcZeroDivisor⟩, mk1_da⟩
    kZeroDivisor_WrongKind := kit_fR neZeroDivisor_WrongKind isWrongKind tyWrongKind kZeroDivisor_WrongKind
    kZeroDivisor_OutOfBounds := kit_fR neZeroDivisor_OutOfBounds isOutOfBounds tyOutOfBounds kZeroDivisor_OutOfBounds
    kZeroDivisor_RepeatedName := kit_fR neZeroDivisor_RepeatedName isRepeatedName tyRepeatedName kZeroDivisor_RepeatedName
    kZeroDivisor_UnknownName := kit_fR neZeroDivisor_UnknownName isUnknownName tyUnknownName kZeroDivisor_UnknownName
    kZeroDivisor_Unsafe := kit_fR neZeroDivisor_Unsafe isUnsafe tyUnsafe kZeroDivisor_Unsafe
    kZeroDivisor_BadText := kit_fR neZeroDivisor_BadText isBadText tyBadText kZeroDivisor_BadText
    kZeroDivisor_UnfitError := kit_tR isUnfitError tyUnfitError kZeroDivisor_UnfitError
    kZeroDivisor_ZeroDivisor := kit_tR isZeroDivisor tyZeroDivisor kZeroDivisor_ZeroDivisor
    kZeroDivisor_NegativeRoot := kit_fR neZeroDivisor_NegativeRoot isNegativeRoot tyNegativeRoot kZeroDivisor_NegativeRoot
    kZeroDivisor_ZeroBar := kit_fR neZeroDivisor_ZeroBar isZeroBar tyZeroBar kZeroDivisor_ZeroBar
    kZeroDivisor_FlatMap := kit_fR neZeroDivisor_FlatMap isFlatMap tyFlatMap kZeroDivisor_FlatMap
    kZeroDivisor_BadSteps := kit_fR neZeroDivisor_BadSteps isBadSteps tyBadSteps kZeroDivisor_BadSteps
    kZeroDivisor_NotOneWay := kit_fR neZeroDivisor_NotOneWay isNotOneWay tyNotOneWay kZeroDivisor_NotOneWay
    kZeroDivisor_NotHeld := kit_fR neZeroDivisor_NotHeld isNotHeld tyNotHeld kZeroDivisor_NotHeld
    kZeroDivisor_NotFlat := kit_fR neZeroDivisor_NotFlat isNotFlat tyNotFlat kZeroDivisor_NotFlat
    kZeroDivisor_NotCover := kit_fR neZeroDivisor_NotCover isNotCover tyNotCover kZeroDivisor_NotCover
    kZeroDivisor_NotOwnStress := kit_fR neZeroDivisor_NotOwnStress isNotOwnStress tyNotOwnStress kZeroDivisor_NotOwnStress
    kZeroDivisor_NotPicture := kit_fR neZeroDivisor_NotPicture isNotPicture tyNotPicture kZeroDivisor_NotPicture
    kZeroDivisor_NotLift := kit_fR neZeroDivisor_NotLift isNotLift tyNotLift kZeroDivisor_NotLift
    kZeroDivisor_NoReciprocal := kit_fR neZeroDivisor_NoReciprocal isNoReciprocal tyNoReciprocal kZeroDivisor_NoReciprocal
    kZeroDivisor_NotMotion := kit_fR neZeroDivisor_NotMotion isNotMotion tyNotMotion kZeroDivisor_NotMotion
    kZeroDivisor_NotAlike := kit_fR neZeroDivisor_NotAlike isNotAlike tyNotAlike kZeroDivisor_NotAlike
    kZeroDivisor_NotCrank := kit_fR neZeroDivisor_NotCrank isNotCrank tyNotCrank kZeroDivisor_NotCrank
    kZeroDivisor_NothingToUndo := kit_fR neZeroDivisor_NothingToUndo isNothingToUndo tyNothingToUndo kZeroDivisor_NothingToUndo
    kZeroDivisor_NothingToRedo := kit_fR neZeroDivisor_NothingToRedo isNothingToRedo tyNothingToRedo kZeroDivisor_NothingToRedo
    kZeroDivisor_FrameError := kit_tR isFrameError tyFrameError kZeroDivisor_FrameError
    kZeroDivisor_ValueError := kit_tT kZeroDivisor_ValueError
    xZeroDivisor := exm_t exFrameError isFrameError tyFrameError kZeroDivisor_FrameError
  }
  exact ⟨PySem.W.fnOf "law" "law" (defArgs (topS 75)) (defBody (topS 75)) (defScope (topS 75)) .none kV_law dc_law pm_law an_law cd_law ct_law, fun s v => .of_eq rfl, fun base _ _ => ok_law T⟩
theorem walk {l : PySem.W.OpenLaw} {q : Program} {loose : List Str} {XP : (Str → Option Value) → Heap → Prop} {YP : World → Heap → Prop} {d : DefRec} {K : Params → PySem.W.Frag} (hn : l.most = some 63) (hdf : d.params.defaults = [])
    (hY : ∀ (w : World) (h : Heap), YP w h → (K w.params).In h)
    (F : ∀ (w : World) (mg : Str → Option Value) (fa : Addr) (h : Heap), (K w.params).In h → h.Ns mainGlobals mg → mg d.name = some (.ref fa) →
      ∃ fd : FuncData, (∀ (s : Shared) (u : Value), BindsTo s fd ⟨[u], []⟩ [("script", u)]) ∧ ∀ base : Heap, (K w.params).In base → base.Ns mainGlobals mg → FnOk l.prog w (K w.params) mg base (L2N.CX l.prog w) 178 fa fd ["script"] (spLaw (K w.params))) :
    PySem.W.WalkO q loose XP YP l.row.toRowW d [] (fun f vs => PySem.call f vs) :=
  L2.walk_of (n := 63) (k := 178) (x := "script") (CX := fun w => L2N.CX l.prog w) (sp := fun w => spLaw (K w.params)) hn (by decide) hdf ⟨rfl, by decide, by decide⟩ hY F (fun _ _ a ns hl _ hS => ⟨a, ns, rfl, hS, hl, fun _ => rfl⟩) fun w H s e s' z => by
    obtain ⟨_, _, _, _, _, _, _, _, _, _, _, _, z⟩ := z
    exact z
end My
open PySem PySem.W PyProof.Rows in
set_option maxRecDepth 100000 in
set_option maxHeartbeats 0 in
theorem PySem.Challenge.cw_standframes_k00_sums_in_lowest_terms_holds : PySem.Challenge.rw_standframes_k00_sums_in_lowest_terms.Holds := by
  w_on; o_law; k_head; (case hw => w_witness2)
  k_fill
  refine My.walk (l := PySem.Challenge.rw_standframes_k00_sums_in_lowest_terms) rfl rfl (fun w h Y => PySem.W.kIn_of Y) ?F
  case F =>
    intro w mg fa h KX G hmg
    refine' My.all_mk KX G hmg ?aFrameError ?aWrongKind ?aOutOfBounds ?aRepeatedName ?aUnknownName ?aUnfitError ?aZeroDivisor ?aNegativeRoot ?aZeroBar ?aFlatMap ?aBadSteps ?aNotOneWay ?aNotHeld ?aNotFlat ?aNotCover ?aNotOwnStress ?aNotPicture ?aNotLift ?aNoReciprocal ?aNotMotion ?aNotAlike ?aNotCrank ?aNothingToUndo ?aNothingToRedo ?aUnsafe ?aBadText ?a_is_whole ?l_is_whole ?c_is_whole ?k_is_whole ?a_divisor ?l_divisor ?c_divisor ?k_divisor ?a_lowest ?l_lowest ?c_lowest ?k_lowest ?a_sign_of ?l_sign_of ?c_sign_of ?k_sign_of ?a_is_ratio_list ?l_is_ratio_list ?c_is_ratio_list ?k_is_ratio_list ?a_need_ratio ?l_need_ratio ?c_need_ratio ?k_need_ratio ?a_need_two ?l_need_two ?c_need_two ?k_need_two ?a_is_ratio ?l_is_ratio ?c_is_ratio ?k_is_ratio ?a_ratio ?l_ratio ?d_ratio ?c_ratio ?k_ratio ?a_add ?l_add ?c_add ?k_add ?a_subtract ?l_subtract ?c_subtract ?k_subtract ?a_multiply ?l_multiply ?c_multiply ?k_multiply ?a_divide ?l_divide ?c_divide ?k_divide ?a_negate ?l_negate ?c_negate ?k_negate ?a_sign ?l_sign ?c_sign ?k_sign ?a_compare ?l_compare ?c_compare ?k_compare ?a_total ?l_total ?c_total ?k_total ?a_store ?l_store ?c_store ?k_store ?a_take ?l_take ?c_take ?k_take ?a_edge ?l_edge ?c_edge ?k_edge ?a_between ?l_between ?c_between ?k_between ?a_tens ?l_tens ?c_tens ?k_tens ?a_integer ?l_integer ?c_integer ?k_integer ?a_low ?l_low ?c_low ?k_low ?a_sgn ?l_sgn ?c_sgn ?k_sgn ?a_small ?l_small ?c_small ?k_small ?a_lratio ?l_lratio ?c_lratio ?k_lratio ?a_not_ratio ?l_not_ratio ?c_not_ratio ?k_not_ratio ?a_not_integer ?l_not_integer ?c_not_integer ?k_not_integer ?a_same ?l_same ?c_same ?k_same ?a_is_int ?l_is_int ?c_is_int ?k_is_int ?a_lis_ratio ?l_lis_ratio ?c_lis_ratio ?k_lis_ratio ?a_is_ratios ?l_is_ratios ?c_is_ratios ?k_is_ratios ?a_refused ?l_refused ?c_refused ?k_refused ?a_unfit ?l_unfit ?c_unfit ?k_unfit ?a_call ?l_call ?c_call ?k_call ?a_fault ?l_fault ?c_fault ?k_fault ?a_fraction ?l_fraction ?c_fraction ?k_fraction ?a_right ?l_right ?c_right ?k_right ?a_as_due ?l_as_due ?c_as_due ?k_as_due ?a_second ?l_second ?c_second ?k_second ?a_whole_pair ?l_whole_pair ?c_whole_pair ?k_whole_pair ?a_values ?l_values ?c_values ?k_values ?a_bad_ask ?l_bad_ask ?c_bad_ask ?k_bad_ask ?a_undone ?l_undone ?c_undone ?k_undone ?a_law ?l_law ?c_law ?k_law ?xLWrongKind ?rvWrongKind ?saWrongKind ?exWrongKind ?tyWrongKind ?kcWrongKind ?hgWrongKind ?hkWrongKind ?hdWrongKind ?haWrongKind ?hmWrongKind ?aiWrongKind ?liWrongKind ?ciWrongKind ?kiWrongKind ?tiWrongKind ?nWrongKind_argument ?kWrongKind_WrongKind ?kWrongKind_OutOfBounds ?neWrongKind_OutOfBounds ?kWrongKind_RepeatedName ?neWrongKind_RepeatedName ?kWrongKind_UnknownName ?neWrongKind_UnknownName ?kWrongKind_Unsafe ?neWrongKind_Unsafe ?kWrongKind_BadText ?neWrongKind_BadText ?kWrongKind_UnfitError ?neWrongKind_UnfitError ?kWrongKind_ZeroDivisor ?neWrongKind_ZeroDivisor ?kWrongKind_NegativeRoot ?neWrongKind_NegativeRoot ?kWrongKind_ZeroBar ?neWrongKind_ZeroBar ?kWrongKind_FlatMap ?neWrongKind_FlatMap ?kWrongKind_BadSteps ?neWrongKind_BadSteps ?kWrongKind_NotOneWay ?neWrongKind_NotOneWay ?kWrongKind_NotHeld ?neWrongKind_NotHeld ?kWrongKind_NotFlat ?neWrongKind_NotFlat ?kWrongKind_NotCover ?neWrongKind_NotCover ?kWrongKind_NotOwnStress ?neWrongKind_NotOwnStress ?kWrongKind_NotPicture ?neWrongKind_NotPicture ?kWrongKind_NotLift ?neWrongKind_NotLift ?kWrongKind_NoReciprocal ?neWrongKind_NoReciprocal ?kWrongKind_NotMotion ?neWrongKind_NotMotion ?kWrongKind_NotAlike ?neWrongKind_NotAlike ?kWrongKind_NotCrank ?neWrongKind_NotCrank ?kWrongKind_NothingToUndo ?neWrongKind_NothingToUndo ?kWrongKind_NothingToRedo ?neWrongKind_NothingToRedo ?kWrongKind_FrameError ?kWrongKind_ValueError ?xLZeroDivisor ?rvZeroDivisor ?saZeroDivisor ?exZeroDivisor ?tyZeroDivisor ?kcZeroDivisor ?hgZeroDivisor ?hkZeroDivisor ?hdZeroDivisor ?haZeroDivisor ?hmZeroDivisor ?aiZeroDivisor ?liZeroDivisor ?diZeroDivisor ?ciZeroDivisor ?kiZeroDivisor ?tiZeroDivisor ?nZeroDivisor_subject ?kZeroDivisor_WrongKind ?neZeroDivisor_WrongKind ?kZeroDivisor_OutOfBounds ?neZeroDivisor_OutOfBounds ?kZeroDivisor_RepeatedName ?neZeroDivisor_RepeatedName ?kZeroDivisor_UnknownName ?neZeroDivisor_UnknownName ?kZeroDivisor_Unsafe ?neZeroDivisor_Unsafe ?kZeroDivisor_BadText ?neZeroDivisor_BadText ?kZeroDivisor_UnfitError ?kZeroDivisor_ZeroDivisor ?kZeroDivisor_NegativeRoot ?neZeroDivisor_NegativeRoot ?kZeroDivisor_ZeroBar ?neZeroDivisor_ZeroBar ?kZeroDivisor_FlatMap ?neZeroDivisor_FlatMap ?kZeroDivisor_BadSteps ?neZeroDivisor_BadSteps ?kZeroDivisor_NotOneWay ?neZeroDivisor_NotOneWay ?kZeroDivisor_NotHeld ?neZeroDivisor_NotHeld ?kZeroDivisor_NotFlat ?neZeroDivisor_NotFlat ?kZeroDivisor_NotCover ?neZeroDivisor_NotCover ?kZeroDivisor_NotOwnStress ?neZeroDivisor_NotOwnStress ?kZeroDivisor_NotPicture ?neZeroDivisor_NotPicture ?kZeroDivisor_NotLift ?neZeroDivisor_NotLift ?kZeroDivisor_NoReciprocal ?neZeroDivisor_NoReciprocal ?kZeroDivisor_NotMotion ?neZeroDivisor_NotMotion ?kZeroDivisor_NotAlike ?neZeroDivisor_NotAlike ?kZeroDivisor_NotCrank ?neZeroDivisor_NotCrank ?kZeroDivisor_NothingToUndo ?neZeroDivisor_NothingToUndo ?kZeroDivisor_NothingToRedo ?neZeroDivisor_NothingToRedo ?kZeroDivisor_FrameError ?kZeroDivisor_ValueError ?isWrongKind ?tyOutOfBounds ?isOutOfBounds ?tyRepeatedName ?isRepeatedName ?tyUnknownName ?isUnknownName ?tyUnsafe ?isUnsafe ?tyBadText ?isBadText ?tyUnfitError ?isUnfitError ?isZeroDivisor ?tyNegativeRoot ?isNegativeRoot ?tyZeroBar ?isZeroBar ?tyFlatMap ?isFlatMap ?tyBadSteps ?isBadSteps ?tyNotOneWay ?isNotOneWay ?tyNotHeld ?isNotHeld ?tyNotFlat ?isNotFlat ?tyNotCover ?isNotCover ?tyNotOwnStress ?isNotOwnStress ?tyNotPicture ?isNotPicture ?tyNotLift ?isNotLift ?tyNoReciprocal ?isNoReciprocal ?tyNotMotion ?isNotMotion ?tyNotAlike ?isNotAlike ?tyNotCrank ?isNotCrank ?tyNothingToUndo ?isNothingToUndo ?tyNothingToRedo ?isNothingToRedo ?tyFrameError ?isFrameError ?exFrameError ?qNOUGHT ?lNNOUGHT ?hn ?ht ?z_len ?z_max ?z_min ?z_abs ?z_int ?z_str ?z_bool ?z_list ?z_tuple ?z_dict ?z_isinstance ?z_range ?z_all ?z_ValueError ?dig
    (case aFrameError => k_is)
    (case aWrongKind => k_is)
    (case aOutOfBounds => k_is)
    (case aRepeatedName => k_is)
    (case aUnknownName => k_is)
    (case aUnfitError => k_is)
    (case aZeroDivisor => k_is)
    (case aNegativeRoot => k_is)
    (case aZeroBar => k_is)
    (case aFlatMap => k_is)
    (case aBadSteps => k_is)
    (case aNotOneWay => k_is)
    (case aNotHeld => k_is)
    (case aNotFlat => k_is)
    (case aNotCover => k_is)
    (case aNotOwnStress => k_is)
    (case aNotPicture => k_is)
    (case aNotLift => k_is)
    (case aNoReciprocal => k_is)
    (case aNotMotion => k_is)
    (case aNotAlike => k_is)
    (case aNotCrank => k_is)
    (case aNothingToUndo => k_is)
    (case aNothingToRedo => k_is)
    (case aUnsafe => k_is)
    (case aBadText => k_is)
    (case a_is_whole => k_is)
    (case l_is_whole => k_is)
    (case c_is_whole => k_is)
    (case k_is_whole => k_is)
    (case a_divisor => k_is)
    (case l_divisor => k_is)
    (case c_divisor => k_is)
    (case k_divisor => k_is)
    (case a_lowest => k_is)
    (case l_lowest => k_is)
    (case c_lowest => k_is)
    (case k_lowest => k_is)
    (case a_sign_of => k_is)
    (case l_sign_of => k_is)
    (case c_sign_of => k_is)
    (case k_sign_of => k_is)
    (case a_is_ratio_list => k_is)
    (case l_is_ratio_list => k_is)
    (case c_is_ratio_list => k_is)
    (case k_is_ratio_list => k_is)
    (case a_need_ratio => k_is)
    (case l_need_ratio => k_is)
    (case c_need_ratio => k_is)
    (case k_need_ratio => k_is)
    (case a_need_two => k_is)
    (case l_need_two => k_is)
    (case c_need_two => k_is)
    (case k_need_two => k_is)
    (case a_is_ratio => k_is)
    (case l_is_ratio => k_is)
    (case c_is_ratio => k_is)
    (case k_is_ratio => k_is)
    (case a_ratio => k_is)
    (case l_ratio => k_is)
    (case d_ratio => k_is)
    (case c_ratio => k_is)
    (case k_ratio => k_is)
    (case a_add => k_is)
    (case l_add => k_is)
    (case c_add => k_is)
    (case k_add => k_is)
    (case a_subtract => k_is)
    (case l_subtract => k_is)
    (case c_subtract => k_is)
    (case k_subtract => k_is)
    (case a_multiply => k_is)
    (case l_multiply => k_is)
    (case c_multiply => k_is)
    (case k_multiply => k_is)
    (case a_divide => k_is)
    (case l_divide => k_is)
    (case c_divide => k_is)
    (case k_divide => k_is)
    (case a_negate => k_is)
    (case l_negate => k_is)
    (case c_negate => k_is)
    (case k_negate => k_is)
    (case a_sign => k_is)
    (case l_sign => k_is)
    (case c_sign => k_is)
    (case k_sign => k_is)
    (case a_compare => k_is)
    (case l_compare => k_is)
    (case c_compare => k_is)
    (case k_compare => k_is)
    (case a_total => k_is)
    (case l_total => k_is)
    (case c_total => k_is)
    (case k_total => k_is)
    (case a_store => k_is)
    (case l_store => k_is)
    (case c_store => k_is)
    (case k_store => k_is)
    (case a_take => k_is)
    (case l_take => k_is)
    (case c_take => k_is)
    (case k_take => k_is)
    (case a_edge => k_is)
    (case l_edge => k_is)
    (case c_edge => k_is)
    (case k_edge => k_is)
    (case a_between => k_is)
    (case l_between => k_is)
    (case c_between => k_is)
    (case k_between => k_is)
    (case a_tens => k_is)
    (case l_tens => k_is)
    (case c_tens => k_is)
    (case k_tens => k_is)
    (case a_integer => k_is)
    (case l_integer => k_is)
    (case c_integer => k_is)
    (case k_integer => k_is)
    (case a_low => k_is)
    (case l_low => k_is)
    (case c_low => k_is)
    (case k_low => k_is)
    (case a_sgn => k_is)
    (case l_sgn => k_is)
    (case c_sgn => k_is)
    (case k_sgn => k_is)
    (case a_small => k_is)
    (case l_small => k_is)
    (case c_small => k_is)
    (case k_small => k_is)
    (case a_lratio => k_is)
    (case l_lratio => k_is)
    (case c_lratio => k_is)
    (case k_lratio => k_is)
    (case a_not_ratio => k_is)
    (case l_not_ratio => k_is)
    (case c_not_ratio => k_is)
    (case k_not_ratio => k_is)
    (case a_not_integer => k_is)
    (case l_not_integer => k_is)
    (case c_not_integer => k_is)
    (case k_not_integer => k_is)
    (case a_same => k_is)
    (case l_same => k_is)
    (case c_same => k_is)
    (case k_same => k_is)
    (case a_is_int => k_is)
    (case l_is_int => k_is)
    (case c_is_int => k_is)
    (case k_is_int => k_is)
    (case a_lis_ratio => k_is)
    (case l_lis_ratio => k_is)
    (case c_lis_ratio => k_is)
    (case k_lis_ratio => k_is)
    (case a_is_ratios => k_is)
    (case l_is_ratios => k_is)
    (case c_is_ratios => k_is)
    (case k_is_ratios => k_is)
    (case a_refused => k_is)
    (case l_refused => k_is)
    (case c_refused => k_is)
    (case k_refused => k_is)
    (case a_unfit => k_is)
    (case l_unfit => k_is)
    (case c_unfit => k_is)
    (case k_unfit => k_is)
    (case a_call => k_is)
    (case l_call => k_is)
    (case c_call => k_is)
    (case k_call => k_is)
    (case a_fault => k_is)
    (case l_fault => k_is)
    (case c_fault => k_is)
    (case k_fault => k_is)
    (case a_fraction => k_is)
    (case l_fraction => k_is)
    (case c_fraction => k_is)
    (case k_fraction => k_is)
    (case a_right => k_is)
    (case l_right => k_is)
    (case c_right => k_is)
    (case k_right => k_is)
    (case a_as_due => k_is)
    (case l_as_due => k_is)
    (case c_as_due => k_is)
    (case k_as_due => k_is)
    (case a_second => k_is)
    (case l_second => k_is)
    (case c_second => k_is)
    (case k_second => k_is)
    (case a_whole_pair => k_is)
    (case l_whole_pair => k_is)
    (case c_whole_pair => k_is)
    (case k_whole_pair => k_is)
    (case a_values => k_is)
    (case l_values => k_is)
    (case c_values => k_is)
    (case k_values => k_is)
    (case a_bad_ask => k_is)
    (case l_bad_ask => k_is)
    (case c_bad_ask => k_is)
    (case k_bad_ask => k_is)
    (case a_undone => k_is)
    (case l_undone => k_is)
    (case c_undone => k_is)
    (case k_undone => k_is)
    (case a_law => k_is)
    (case l_law => k_is)
    (case c_law => k_is)
    (case k_law => k_is)
    (case xLWrongKind => k_is)
    (case rvWrongKind => first | rfl | decide +kernel | kernel_rfl)
    (case saWrongKind => k_is)
    (case exWrongKind => k_is)
    (case tyWrongKind => k_is)
    (case kcWrongKind => k_is)
    (case hgWrongKind => k_is)
    (case hkWrongKind => k_is)
    (case hdWrongKind => k_is)
    (case haWrongKind => k_is)
    (case hmWrongKind => k_is)
    (case aiWrongKind => k_is)
    (case liWrongKind => k_is)
    (case ciWrongKind => k_is)
    (case kiWrongKind => k_is)
    (case tiWrongKind => k_is)
    (case nWrongKind_argument => k_is)
    (case kWrongKind_WrongKind => k_is)
    (case kWrongKind_OutOfBounds => k_is)
    (case neWrongKind_OutOfBounds => rfl)
    (case kWrongKind_RepeatedName => k_is)
    (case neWrongKind_RepeatedName => rfl)
    (case kWrongKind_UnknownName => k_is)
    (case neWrongKind_UnknownName => rfl)
    (case kWrongKind_Unsafe => k_is)
    (case neWrongKind_Unsafe => rfl)
    (case kWrongKind_BadText => k_is)
    (case neWrongKind_BadText => rfl)
    (case kWrongKind_UnfitError => k_is)
    (case neWrongKind_UnfitError => rfl)
    (case kWrongKind_ZeroDivisor => k_is)
    (case neWrongKind_ZeroDivisor => rfl)
    (case kWrongKind_NegativeRoot => k_is)
    (case neWrongKind_NegativeRoot => rfl)
    (case kWrongKind_ZeroBar => k_is)
    (case neWrongKind_ZeroBar => rfl)
    (case kWrongKind_FlatMap => k_is)
    (case neWrongKind_FlatMap => rfl)
    (case kWrongKind_BadSteps => k_is)
    (case neWrongKind_BadSteps => rfl)
    (case kWrongKind_NotOneWay => k_is)
    (case neWrongKind_NotOneWay => rfl)
    (case kWrongKind_NotHeld => k_is)
    (case neWrongKind_NotHeld => rfl)
    (case kWrongKind_NotFlat => k_is)
    (case neWrongKind_NotFlat => rfl)
    (case kWrongKind_NotCover => k_is)
    (case neWrongKind_NotCover => rfl)
    (case kWrongKind_NotOwnStress => k_is)
    (case neWrongKind_NotOwnStress => rfl)
    (case kWrongKind_NotPicture => k_is)
    (case neWrongKind_NotPicture => rfl)
    (case kWrongKind_NotLift => k_is)
    (case neWrongKind_NotLift => rfl)
    (case kWrongKind_NoReciprocal => k_is)
    (case neWrongKind_NoReciprocal => rfl)
    (case kWrongKind_NotMotion => k_is)
    (case neWrongKind_NotMotion => rfl)
    (case kWrongKind_NotAlike => k_is)
    (case neWrongKind_NotAlike => rfl)
    (case kWrongKind_NotCrank => k_is)
    (case neWrongKind_NotCrank => rfl)
    (case kWrongKind_NothingToUndo => k_is)
    (case neWrongKind_NothingToUndo => rfl)
    (case kWrongKind_NothingToRedo => k_is)
    (case neWrongKind_NothingToRedo => rfl)
    (case kWrongKind_FrameError => k_is)
    (case kWrongKind_ValueError => k_is)
    (case xLZeroDivisor => k_is)
    (case rvZeroDivisor => first | rfl | decide +kernel | kernel_rfl)
    (case saZeroDivisor => k_is)
    (case exZeroDivisor => k_is)
    (case tyZeroDivisor => k_is)
    (case kcZeroDivisor => k_is)
    (case hgZeroDivisor => k_is)
    (case hkZeroDivisor => k_is)
    (case hdZeroDivisor => k_is)
    (case haZeroDivisor => k_is)
    (case hmZeroDivisor => k_is)
    (case aiZeroDivisor => k_is)
    (case liZeroDivisor => k_is)
    (case diZeroDivisor => k_is)
    (case ciZeroDivisor => k_is)
    (case kiZeroDivisor => k_is)
    (case tiZeroDivisor => k_is)
    (case nZeroDivisor_subject => k_is)
    (case kZeroDivisor_WrongKind => k_is)
    (case neZeroDivisor_WrongKind => rfl)
    (case kZeroDivisor_OutOfBounds => k_is)
    (case neZeroDivisor_OutOfBounds => rfl)
    (case kZeroDivisor_RepeatedName => k_is)
    (case neZeroDivisor_RepeatedName => rfl)
    (case kZeroDivisor_UnknownName => k_is)
    (case neZeroDivisor_UnknownName => rfl)
    (case kZeroDivisor_Unsafe => k_is)
    (case neZeroDivisor_Unsafe => rfl)
    (case kZeroDivisor_BadText => k_is)
    (case neZeroDivisor_BadText => rfl)
    (case kZeroDivisor_UnfitError => k_is)
    (case kZeroDivisor_ZeroDivisor => k_is)
    (case kZeroDivisor_NegativeRoot => k_is)
    (case neZeroDivisor_NegativeRoot => rfl)
    (case kZeroDivisor_ZeroBar => k_is)
    (case neZeroDivisor_ZeroBar => rfl)
    (case kZeroDivisor_FlatMap => k_is)
    (case neZeroDivisor_FlatMap => rfl)
    (case kZeroDivisor_BadSteps => k_is)
    (case neZeroDivisor_BadSteps => rfl)
    (case kZeroDivisor_NotOneWay => k_is)
    (case neZeroDivisor_NotOneWay => rfl)
    (case kZeroDivisor_NotHeld => k_is)
    (case neZeroDivisor_NotHeld => rfl)
    (case kZeroDivisor_NotFlat => k_is)
    (case neZeroDivisor_NotFlat => rfl)
    (case kZeroDivisor_NotCover => k_is)
    (case neZeroDivisor_NotCover => rfl)
    (case kZeroDivisor_NotOwnStress => k_is)
    (case neZeroDivisor_NotOwnStress => rfl)
    (case kZeroDivisor_NotPicture => k_is)
    (case neZeroDivisor_NotPicture => rfl)
    (case kZeroDivisor_NotLift => k_is)
    (case neZeroDivisor_NotLift => rfl)
    (case kZeroDivisor_NoReciprocal => k_is)
    (case neZeroDivisor_NoReciprocal => rfl)
    (case kZeroDivisor_NotMotion => k_is)
    (case neZeroDivisor_NotMotion => rfl)
    (case kZeroDivisor_NotAlike => k_is)
    (case neZeroDivisor_NotAlike => rfl)
    (case kZeroDivisor_NotCrank => k_is)
    (case neZeroDivisor_NotCrank => rfl)
    (case kZeroDivisor_NothingToUndo => k_is)
    (case neZeroDivisor_NothingToUndo => rfl)
    (case kZeroDivisor_NothingToRedo => k_is)
    (case neZeroDivisor_NothingToRedo => rfl)
    (case kZeroDivisor_FrameError => k_is)
    (case kZeroDivisor_ValueError => k_is)
    (case isWrongKind => k_is)
    (case tyOutOfBounds => k_is)
    (case isOutOfBounds => k_is)
    (case tyRepeatedName => k_is)
    (case isRepeatedName => k_is)
    (case tyUnknownName => k_is)
    (case isUnknownName => k_is)
    (case tyUnsafe => k_is)
    (case isUnsafe => k_is)
    (case tyBadText => k_is)
    (case isBadText => k_is)
    (case tyUnfitError => k_is)
    (case isUnfitError => k_is)
    (case isZeroDivisor => k_is)
    (case tyNegativeRoot => k_is)
    (case isNegativeRoot => k_is)
    (case tyZeroBar => k_is)
    (case isZeroBar => k_is)
    (case tyFlatMap => k_is)
    (case isFlatMap => k_is)
    (case tyBadSteps => k_is)
    (case isBadSteps => k_is)
    (case tyNotOneWay => k_is)
    (case isNotOneWay => k_is)
    (case tyNotHeld => k_is)
    (case isNotHeld => k_is)
    (case tyNotFlat => k_is)
    (case isNotFlat => k_is)
    (case tyNotCover => k_is)
    (case isNotCover => k_is)
    (case tyNotOwnStress => k_is)
    (case isNotOwnStress => k_is)
    (case tyNotPicture => k_is)
    (case isNotPicture => k_is)
    (case tyNotLift => k_is)
    (case isNotLift => k_is)
    (case tyNoReciprocal => k_is)
    (case isNoReciprocal => k_is)
    (case tyNotMotion => k_is)
    (case isNotMotion => k_is)
    (case tyNotAlike => k_is)
    (case isNotAlike => k_is)
    (case tyNotCrank => k_is)
    (case isNotCrank => k_is)
    (case tyNothingToUndo => k_is)
    (case isNothingToUndo => k_is)
    (case tyNothingToRedo => k_is)
    (case isNothingToRedo => k_is)
    (case tyFrameError => k_is)
    (case isFrameError => k_is)
    (case exFrameError => k_is)
    (case qNOUGHT => k_is)
    (case lNNOUGHT => k_is)
    (case hn => k_is)
    (case ht => k_is)
    (case z_len => k_is)
    (case z_max => k_is)
    (case z_min => k_is)
    (case z_abs => k_is)
    (case z_int => k_is)
    (case z_str => k_is)
    (case z_bool => k_is)
    (case z_list => k_is)
    (case z_tuple => k_is)
    (case z_dict => k_is)
    (case z_isinstance => k_is)
    (case z_range => k_is)
    (case z_all => k_is)
    (case z_ValueError => k_is)
    (case dig => k_is)
