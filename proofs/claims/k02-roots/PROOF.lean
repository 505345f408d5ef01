import PyProof.Rows.All
import Wide.All
import OpenK.AllK
import Wide.FinOn
import HandS.ForMost
import HandS.ForExc
import HandS.Wide
import HandS.IsInst
import HandS.More
import HandS.Evl
import HandS.ExcCtx
import HandS.HotCalls
import HandS.ExcInit
import HandS.ExcInitHot
import HandS.ExcIs
import HandS.ExcField
import KE.KExcIs
import HandS.Replace
import HandS.ReplaceLit
import HandS.ReplaceList
import HandS.Text
import HandS.Style
import KE.IntText
import PyProof.Rows.Digits
import PyProof.Rows.CountFlat
import HandS.ExcValue
import HandS.TupAny
import HandS.CallSlots
import HandS.Hot
import PyProof.Rows.RuleB_pow
import HandS.WideBits
import HandS.Defaults
import KE.IntTextLaws
import PySem.Challenge.RW_standframes_k02_roots_and_their_signs
set_option Elab.async false
set_option linter.all false
set_option maxRecDepth 100000
set_option maxHeartbeats 8000000
namespace My
open PySem PySem.Spec PyProof.Rows L2
/-! ### heaps: all but the store -/
structure Sx (s : Addr) (H H' : Hp) : Prop where
  kp : ∀ b o, b ≠ s → H b = some o → H' b = some o
  ce : ∀ L xs, H s = some (.lst (.ref L :: xs)) → ∃ ys, H' s = some (.lst (.ref L :: ys))
theorem Sx.refl (s : Addr) (H : Hp) : Sx s H H := ⟨fun _ _ _ h => h, fun _ xs h => ⟨xs, h⟩⟩
theorem Sx.trans {s : Addr} {H H1 H2 : Hp} (a : Sx s H H1) (b : Sx s H1 H2) : Sx s H H2 := ⟨fun c o n h => b.kp c o n (a.kp c o n h), fun L xs h => by
  obtain ⟨ys, e⟩ := a.ce L xs h
  exact b.ce L ys e⟩
theorem Sx.of {s : Addr} {H H' : Hp} (a : Same H H') : Sx s H H' := ⟨fun c o _ h => a c o h, fun _ xs h => ⟨xs, a _ _ h⟩⟩
theorem Sx.new {s p : Addr} {H : Hp} {o : HO} (h : H p = none) : Sx s H (upd H p o) := Sx.of fun b u e => by
  rw [upd_ne (ne_of_none e h)]
  exact e
/-- a thing that was not there at first is changed -/
theorem Sx.mut {s p : Addr} {H H' : Hp} {o : HO} (x : Sx s H H') (h : H p = none) : Sx s H (upd H' p o) := ⟨fun b u n e => by
  rw [upd_ne (ne_of_none e h)]
  exact x.kp b u n e, fun L xs e => by
  rw [upd_ne (ne_of_none e h)]
  exact x.ce L xs e⟩
theorem Sx.self {s : Addr} {H H' : Hp} {xs : List V} {j : Nat} {v : V} (x : Sx s H H') (hs : H' s = some (.lst xs)) (j0 : j ≠ 0) : Sx s H (upd H' s (.lst (xs.set j v))) := ⟨fun b u n e => by
  rw [upd_ne n]
  exact x.kp b u n e, fun L zs e => by
  obtain ⟨ys, e2⟩ := x.ce L zs e
  rw [hs] at e2
  cases e2
  cases j with
  | zero => exact absurd rfl j0
  | succ j => exact ⟨ys.set j v, by rw [upd_same]; rfl⟩⟩
theorem Sx.sq {K : PySem.W.Frag} {s a : Addr} {H H' : Hp} {xs : List V} (x : Sx s H H') (n : a ≠ s) (h : SqL K H a xs) : SqL K H' a xs := by
  rcases h with (h | ⟨o, h⟩) | h
  · exact .inl (.inl (x.kp _ _ n h))
  · exact .inl (.inr ⟨o, x.kp _ _ n h⟩)
  · exact .inr h
theorem same_new {H : Hp} {p : Addr} {o : HO} (h : H p = none) : Same H (upd H p o) := fun b x e => by
  rw [upd_ne (ne_of_none e h)]
  exact e
/-! ### readings by name -/
def rIsN : R2 := fun x y H Q => y = .non ∧ Q (.bl (decide (x = .non))) H
def rNotN : R2 := fun x y H Q => y = .non ∧ Q (.bl (!decide (x = .non))) H
def rAddS : R2 := fun x y H Q => ∃ i j, x = .str i ∧ y = .str j ∧ i.length + j.length ≤ sizeLine ∧ Q (.str (i ++ j)) H
def rInt1 : List V → Hp → VK → Prop := fun xs H Q => (∃ i, xs = [.int i] ∧ Q (.int i) H) ∨ ∃ k, xs = [.bl k] ∧ Q (.int (if k then 1 else 0)) H
def rMaxQ : List V → Hp → VK → Prop := fun xs H Q => ∃ i j, xs = [.int i, .int j] ∧ Q (.int (if j > i then j else i)) H
def rMinQ : List V → Hp → VK → Prop := fun xs H Q => ∃ i j, xs = [.int i, .int j] ∧ Q (.int (if j < i then j else i)) H
def rAbsQ : List V → Hp → VK → Prop := fun xs H Q => ∃ i, xs = [.int i] ∧ Q (.int (if i < 0 then -i else i)) H
def rLenQ (K : PySem.W.Frag) : List V → Hp → VK → Prop := fun xs H Q => ∃ p ys, xs = [.ref p] ∧ (SqL K H p ys ∨ SqT K H p ys) ∧ Q (.int ys.length) H
def rLenSQ : List V → Hp → VK → Prop := fun xs H Q => ∃ z, xs = [.str z] ∧ z.length ≤ sizeLine ∧ Q (.int z.length) H
def rListQ (K : PySem.W.Frag) : List V → Hp → VK → Prop := fun xs H Q => ∃ p ys, xs = [.ref p] ∧ (SqL K H p ys ∨ SqT K H p ys) ∧ ∀ l, H l = none → Q (.ref l) (upd H l (.lst ys))
def rIsBQ : R2 := fun x y H Q => ∃ b, y = .bl b ∧ Q (.bl (decide (x = .bl b))) H
section
variable {X : Cx}
theorem o_isN : OpR X (compareOp .Is) rIsN := op_isN
theorem o_notN : OpR X (compareOp .IsNot) rNotN := op_notN
theorem o_isB : OpR X (compareOp .Is) rIsBQ := by
  intro pins s σ H x y v u Q I rx ry h
  obtain ⟨b, rfl, q⟩ := h
  cases (show u = Value.bool b from ry)
  by_cases e : x = .bl b
  · subst e
    cases (show v = Value.bool b from rx)
    exact wpAny_is_self rfl ⟨.bl true, H, I, rfl, by simpa using q⟩
  · have ne : v ≠ Value.bool b := by
      intro z
      subst z
      cases x with
      | bl a =>
        have z : Value.bool b = Value.bool a := rx
        cases z
        exact e rfl
      | non => cases (show Value.bool b = Value.none from rx)
      | ref a => cases (show Value.bool b = Value.ref a from rx)
      | ty n => cases (show Value.bool b = Value.type n from rx)
      | int i => obtain ⟨t, z⟩ := rx; cases z
      | str i => obtain ⟨t, z⟩ := rx; cases z
      | byt i => obtain ⟨t, z⟩ := rx; cases z
      | flt i => obtain ⟨t, z⟩ := rx; cases z
    refine wpAny_is_other ?_ ne ⟨.bl false, H, I, rfl, by simpa [e] using q⟩
    cases x <;> first
      | (cases rx; rfl)
      | (obtain ⟨t, rfl⟩ := rx; rfl)
theorem o_addS : OpR X (binaryOp .Add) rAddS := op_add_str
theorem c_int1 : CallR X (.type "int") rInt1 := call_int1
theorem c_max2 (hc : X.calm = true) : CallR X (.builtin "max") rMaxQ := call_max2 hc
theorem c_min2 (hc : X.calm = true) : CallR X (.builtin "min") rMinQ := call_min2 hc
theorem c_abs : CallR X (.builtin "abs") rAbsQ := call_abs
theorem c_len : CallR X (.builtin "len") (rLenQ X.K) := call_len_seq
theorem c_lenS : CallR X (.builtin "len") rLenSQ := call_len_str
theorem c_list : CallR X (.type "list") (rListQ X.K) := call_list_of
end
/-! ### steps of readings -/
section
variable {σ : L2.St} {H : Hp} {Q : VK} {D : Ends} {te ta tb : TE} {t u : TS}
theorem g_seq (h : t { D with nx := u D } σ H) : tSeq t u D σ H := h
theorem g_asg {g : TG} (h : te σ H fun x H1 => g x σ H1 D.nx) : tAsg te g D σ H := h
theorem g_name {i : Nat} {v : V} {R : L2.St → Hp → Prop} (h : R (σ.set i (some v)) H) : gName i v σ H R := h
theorem g_sub {to ti : TE} {ts : TSet} {v : V} {R : L2.St → Hp → Prop} (h : to σ H fun o H1 => ti σ H1 fun i H2 => ts o i v H2 fun H3 => R σ H3) : gSub to ti ts v σ H R := h
theorem g_ret (h : te σ H D.rt) : tRet te D σ H := h
theorem g_drop (h : te σ H fun _ H1 => D.nx σ H1) : tDrop te D σ H := h
theorem g_if {c : TT} (h : c σ H fun b H1 => if b = true then t D σ H1 else u D σ H1) : tIfS c t u D σ H := h
theorem g_next (h : D.nx σ H) : tNext D σ H := h
theorem g_var {i : Nat} {v : V} (e : σ[i]? = some (some v)) (h : Q v H) : tVar i σ H Q := ⟨v, e, h⟩
theorem g_c {v : V} (h : Q v H) : tC v σ H Q := h
theorem g_op {r : R2} (h : ta σ H fun x H1 => tb σ H1 fun y H2 => r x y H2 Q) : tOp r ta tb σ H Q := h
theorem g_un {r : V → Hp → VK → Prop} (h : ta σ H fun x H1 => r x H1 Q) : tUn r ta σ H Q := h
theorem g_I0 {g : Int → Int → V} {i j : Int} (h : Q (g i j) H) : rI0 g (.int i) (.int j) H Q := ⟨i, j, rfl, rfl, h⟩
theorem g_I {C : Int → Int → Prop} {g : Int → Int → V} {i j : Int} (c : C i j) (h : Q (g i j) H) : rI C g (.int i) (.int j) H Q := ⟨i, j, rfl, rfl, c, h⟩
theorem g_pow9 (h : Q (.int 1000000000) H) : rI CPow (fun i j => V.int (i ^ j.toNat)) (.int 10) (.int 9) H Q := ⟨10, 9, rfl, rfl, by unfold CPow; decide, h⟩
theorem g_pow18 (h : Q (.int 1000000000000000000) H) : rI CPow (fun i j => V.int (i ^ j.toNat)) (.int 10) (.int 18) H Q := ⟨10, 18, rfl, rfl, by unfold CPow; decide, h⟩
theorem g_U {g : Int → V} {i : Int} (h : Q (g i) H) : rU g (.int i) H Q := ⟨i, rfl, h⟩
theorem g_eq {x y : V} (s : scal x y = true) (h : Q (.bl (decide (x = y))) H) : rEq x y H Q := ⟨s, h⟩
theorem g_ne {x y : V} (s : scal x y = true) (h : Q (.bl (!decide (x = y))) H) : rNe x y H Q := ⟨s, h⟩
theorem g_test {R : Bool → Hp → Prop} (h : te σ H fun x H' => ∃ k, x = .bl k ∧ R k H') : tTest te σ H R := h
theorem g_tB {R : Bool → Hp → Prop} (h : te σ H fun x H' => ∃ k, x = .bl k ∧ R k H') : tB te σ H R := h
theorem g_bl {k : Bool} {R : Bool → Prop} (h : R k) : ∃ k', V.bl k = .bl k' ∧ R k' := ⟨k, rfl, h⟩
theorem g_cut {Mid : L2.St → Hp → Prop} (h : t { D with nx := Mid } σ H) (h2 : ∀ σ' H', Mid σ' H' → u D σ' H') : Evl.tCut t u D σ H := ⟨Mid, h, h2⟩
theorem g_isN {x : V} (h : Q (.bl (decide (x = .non))) H) : rIsN x .non H Q := ⟨rfl, h⟩
theorem g_notN {x : V} (h : Q (.bl (!decide (x = .non))) H) : rNotN x .non H Q := ⟨rfl, h⟩
theorem g_addS {x y : Str} (hl : x.length + y.length ≤ sizeLine) (h : Q (.str (x ++ y)) H) : rAddS (.str x) (.str y) H Q := ⟨x, y, rfl, rfl, hl, h⟩
theorem g_int1 {i : Int} (h : Q (.int i) H) : rInt1 [.int i] H Q := .inl ⟨i, rfl, h⟩
theorem g_intb {k : Bool} (h : Q (.int (if k = true then 1 else 0)) H) : rInt1 [.bl k] H Q := .inr ⟨k, rfl, h⟩
theorem g_max2 {i j : Int} (h : Q (.int (if j > i then j else i)) H) : rMaxQ [.int i, .int j] H Q := ⟨i, j, rfl, h⟩
theorem g_min2 {i j : Int} (h : Q (.int (if j < i then j else i)) H) : rMinQ [.int i, .int j] H Q := ⟨i, j, rfl, h⟩
theorem g_abs {i : Int} (h : Q (.int (if i < 0 then -i else i)) H) : rAbsQ [.int i] H Q := ⟨i, rfl, h⟩
theorem g_lenL {K : PySem.W.Frag} {p : Addr} {xs : List V} (hs : SqL K H p xs) (h : Q (.int xs.length) H) : rLenQ K [.ref p] H Q := ⟨p, xs, rfl, .inl hs, h⟩
theorem g_lenT {K : PySem.W.Frag} {p : Addr} {xs : List V} (hs : SqT K H p xs) (h : Q (.int xs.length) H) : rLenQ K [.ref p] H Q := ⟨p, xs, rfl, .inr hs, h⟩
theorem g_lenS {z : Str} (hl : z.length ≤ sizeLine) (h : Q (.int z.length) H) : rLenSQ [.str z] H Q := ⟨z, rfl, hl, h⟩
theorem g_ixT {K : PySem.W.Frag} {p : Addr} {xs : List V} {i : Int} {v : V} (hs : SqT K H p xs) (ha : atI xs i = some v) (h : Q v H) : rIxT K (.ref p) (.int i) H Q := ⟨p, xs, i, v, rfl, rfl, hs, ha, h⟩
theorem g_ixS {z : Str} {i : Int} {c : Nat} (hl : z.length ≤ sizeLine) (ha : atI z.cps.toList i = some c) (h : Q (.str ⟨#[c]⟩) H) : rIxS (.str z) (.int i) H Q := ⟨z, i, c, rfl, rfl, hl, ha, h⟩
theorem g_tup {tt : TA} (h : tt σ H fun xs H1 => xs.length ≤ sizeLine ∧ ∀ p, H1 p = none → Q (.ref p) (upd H1 p (.tup xs))) : tTup tt σ H Q := h
theorem g_lst {tt : TA} (h : tt σ H fun xs H1 => xs.length ≤ sizeLine ∧ ∀ p, H1 p = none → Q (.ref p) (upd H1 p (.lst xs))) : tLst tt σ H Q := h
theorem g_andV (h : ta σ H fun x H1 => ∃ c, x = .bl c ∧ if c = true then tb σ H1 Q else Q (.bl false) H1) : tAndV ta tb σ H Q := h
theorem g_orV (h : ta σ H fun x H1 => ∃ c, x = .bl c ∧ if c = true then Q (.bl true) H1 else tb σ H1 Q) : tOrV ta tb σ H Q := h
theorem g_notV (h : ta σ H fun x H1 => ∃ c, x = .bl c ∧ Q (.bl (!c)) H1) : tNotV ta σ H Q := h
/-- a cell of the store is set: H0 the heap at the entry -/
theorem g_st {K : PySem.W.Frag} {H0 : Hp} {s L : Addr} {xs cs : List V} {k : Int} {v : V} {j : Nat} {R : Hp → Prop} (hs : H s = some (.lst xs)) (hL : SqL K H L cs) (ne : L ≠ s) (x0 : Sx s H0 H) (hj : ixN xs.length k = some j) (j0 : j ≠ 0)
    (h : ∀ H1, H1 s = some (.lst (xs.set j v)) → SqL K H1 L cs → Sx s H0 H1 → R H1) : rSetL (.ref s) (.int k) v H R :=
  ⟨s, xs, k, j, rfl, rfl, hs, hj, h _ upd_same (Sx.sq ((Sx.refl s H).self hs j0) ne hL) (x0.self hs j0)⟩
theorem g_and {c d : TT} {R : Bool → Hp → Prop} (h : c σ H fun b H1 => if b = true then d σ H1 R else R false H1) : tAnd c d σ H R := h
theorem g_or {c d : TT} {R : Bool → Hp → Prop} (h : c σ H fun b H1 => if b = true then R true H1 else d σ H1 R) : tOr c d σ H R := h
theorem g_not {c : TT} {R : Bool → Hp → Prop} (h : c σ H fun b H1 => R (!b) H1) : tNot c σ H R := h
theorem g_nil {R : List V → Hp → Prop} (h : R [] H) : tNil σ H R := h
theorem g_cons {tr : TA} {R : List V → Hp → Prop} (h : ta σ H fun x H1 => tr σ H1 fun xs H2 => R (x :: xs) H2) : tCons ta tr σ H R := h
theorem g_callB {r : List V → Hp → VK → Prop} {tt : TA} (h : tt σ H fun vs H1 => r vs H1 Q) : tCB r tt σ H Q := h
theorem g_call {sp : Sp} {dvs : List V} {E : XK} {tt : TA} (h : tt σ H fun vs H1 => sp (vs ++ dvs) H1 Q E) : tCall sp dvs E tt σ H Q := h
theorem g_ixL {K : PySem.W.Frag} {p : Addr} {xs : List V} {i : Int} {v : V} (hs : SqL K H p xs) (ha : atI xs i = some v) (h : Q v H) : rIxL K (.ref p) (.int i) H Q := ⟨p, xs, i, v, rfl, rfl, hs, ha, h⟩
theorem g_setL {p : Addr} {xs : List V} {k : Int} {v : V} {j : Nat} {R : Hp → Prop} (hs : H p = some (.lst xs)) (hj : ixN xs.length k = some j) (h : R (upd H p (.lst (xs.set j v)))) : rSetL (.ref p) (.int k) v H R := ⟨p, xs, k, j, rfl, rfl, hs, hj, h⟩
theorem g_ite {b : Bool} {A B : Prop} (h1 : b = true → A) (h2 : b = false → B) : if b = true then A else B := by
  cases b with
  | true => exact h1 rfl
  | false => exact h2 rfl
theorem g_iteT {b : Bool} {A B : Prop} (e : b = true) (h : A) : if b = true then A else B := by
  subst e
  exact h
theorem g_iteF {b : Bool} {A B : Prop} (e : b = false) (h : B) : if b = true then A else B := by
  subst e
  exact iteF h
theorem g_isB {x : V} {b : Bool} (h : Q (.bl (decide (x = .bl b))) H) : rIsBQ x (.bl b) H Q := ⟨b, rfl, h⟩
theorem g_or3 {K : PySem.W.Frag} {p : Addr} {xs : List V} {i : Int} {v : V} (hs : SqL K H p xs ∨ SqT K H p xs) (ha : atI xs i = some v) (h : Q v H) : rIx K (.ref p) (.int i) H Q := by
  rcases hs with hs | hs
  · exact .inl ⟨p, xs, i, v, rfl, rfl, hs, ha, h⟩
  · exact .inr (.inl ⟨p, xs, i, v, rfl, rfl, hs, ha, h⟩)
theorem g_for {wi : TI} {g : TG} {tb : TS} (h : wi σ H fun J H1 => ∃ W : Nat → Nat → L2.St → Hp → Prop, (∃ m, W 0 m σ H1) ∧ ∀ i m σ H, W i m σ H →
    (J.stop i H ∧ D.nx σ H) ∨ (J.go i H ∧ ∃ N : L2.St → Hp → Prop, (∀ σ' H', N σ' H' → ∃ m', m' < m ∧ W (i + 1) m' σ' H') ∧ ∀ x H', J.yld i H x H' → g x σ H' fun σ2 H2 => tb { D with nx := N, ct := N, bk := D.nx } σ2 H2)) : tFor wi g tb D σ H := h
theorem g_rng1 {ta : TA} {R : It → Hp → Prop} (h : ta σ H fun vs H1 => ∃ j : Int, vs = [.int j] ∧ -(2 ^ 62) ≤ j ∧ j < 2 ^ 62 ∧ R (Itr 0 j.toNat) H1) : iRng1 ta σ H R := h
theorem g_rng2 {ta : TA} {R : It → Hp → Prop} (h : ta σ H fun vs H1 => ∃ i j : Int, vs = [.int i, .int j] ∧ (-(2 ^ 62) ≤ i ∧ i < 2 ^ 62 ∧ -(2 ^ 62) ≤ j ∧ j < 2 ^ 62) ∧ R (Itr i (j - i).toNat) H1) : iRng2 ta σ H R := h
theorem g_iList {K : PySem.W.Frag} {tl : TE} {R : It → Hp → Prop} (h : tl σ H fun x H1 => ∃ a, x = .ref a ∧ (∃ xs, SqL K H1 a xs) ∧ R (Itl K a) H1) : iList K tl σ H R := h
theorem g_break (h : D.bk σ H) : tBreak D σ H := h
theorem g_cont (h : D.ct σ H) : tCont D σ H := h
theorem g_retN (h : D.rt .non H) : tRetN D σ H := h
end
theorem dec_int {i j : Int} : decide (V.int i = V.int j) = decide (i = j) := by
  by_cases h : i = j
  · rw [h, decide_eq_true rfl, decide_eq_true rfl]
  · rw [decide_eq_false h, decide_eq_false fun e => h (V.int.inj e)]
theorem bt_len : bootBuiltins "len" = some (.builtin "len") := by decide +kernel
theorem bt_max : bootBuiltins "max" = some (.builtin "max") := by decide +kernel
theorem bt_min : bootBuiltins "min" = some (.builtin "min") := by decide +kernel
theorem bt_abs : bootBuiltins "abs" = some (.builtin "abs") := by decide +kernel
theorem bt_isinstance : bootBuiltins "isinstance" = some (.builtin "isinstance") := by decide +kernel
theorem bt_int : bootBuiltins "int" = some (.type "int") := by decide +kernel
theorem bt_str : bootBuiltins "str" = some (.type "str") := by decide +kernel
theorem bt_bool : bootBuiltins "bool" = some (.type "bool") := by decide +kernel
theorem bt_list : bootBuiltins "list" = some (.type "list") := by decide +kernel
theorem bt_tuple : bootBuiltins "tuple" = some (.type "tuple") := by decide +kernel
theorem bt_dict : bootBuiltins "dict" = some (.type "dict") := by decide +kernel
theorem atI_map {α : Type} (g : α → V) (xs : List α) (i : Int) (d : α) (h0 : 0 ≤ i) (h1 : i < xs.length) : atI (xs.map g) i = some (g (xs.getD i.toNat d)) := by
  obtain ⟨j, rfl⟩ : ∃ j : Nat, i = j := ⟨i.toNat, by omega⟩
  have hj : j < xs.length := by omega
  unfold atI ixN
  rw [if_pos h0, if_pos (by rw [List.length_map]; exact h1)]
  simp [hj]
theorem dint_t {i j : Int} (h : decide (V.int i = V.int j) = true) : i = j := V.int.inj (of_decide_eq_true h)
theorem dint_f {i j : Int} (h : decide (V.int i = V.int j) = false) : i ≠ j := fun e => of_decide_eq_false h (by rw [e])
/-- a def of the top -/
structure Df (K : PySem.W.Frag) (mg : Str → Option Value) (x : Str) (st : Stmt) (ps : List Str) where
  f : Addr
  fd : FuncData
  F : Fun K x x st f fd
  b : Binds K fd ps []
  g : mg x = some (.ref f)
/-! ### the store -/
def StL (L : Addr) (p a b c d : Int) : List V := [.ref L, .int p, .int a, .int b, .int c, .int d]
structure StOk (K : PySem.W.Frag) (H : Hp) (s : Addr) (L : Addr) (ns : List Int) (p a b c d : Int) : Prop where
  at_ : H s = some (.lst (StL L p a b c d))
  ne : L ≠ s
  cells : SqL K H L (ns.map V.int)
  p0 : 0 ≤ p
  a0 : 0 ≤ a
  b0 : 0 ≤ b
  c0 : 0 ≤ c
  c1 : c < 2305843009213693951
  len : ns.length ≤ 63
def Store (K : PySem.W.Frag) (H : Hp) (s : Addr) : Prop := ∃ L ns p a b c d, StOk K H s L ns p a b c d
theorem Store.there {K : PySem.W.Frag} {H : Hp} {s : Addr} (h : Store K H s) : ∃ xs, H s = some (.lst xs) := by
  obtain ⟨L, ns, p, a, b, c, d, h⟩ := h
  exact ⟨_, h.at_⟩
theorem Store.free {K : PySem.W.Frag} {s l : Addr} {H H' : Hp} (st : Store K H' s) (x : Sx s H H') (h : H' l = none) : H l = none := by
  cases e : H l with
  | none => rfl
  | some o =>
    obtain ⟨xs, hs⟩ := st.there
    have n : l ≠ s := fun z => by
      rw [z, hs] at h
      cases h
    rw [x.kp l o n e] at h
    cases h
theorem Store.ne {K : PySem.W.Frag} {s l : Addr} {H : Hp} (st : Store K H s) (h : H l = none) : l ≠ s := fun z => by
  obtain ⟨xs, hs⟩ := st.there
  rw [z, hs] at h
  cases h
theorem Store.same {K : PySem.W.Frag} {s : Addr} {H H' : Hp} (st : Store K H s) (x : Same H H') : Store K H' s := by
  obtain ⟨L, ns, p, a, b, c, d, h⟩ := st
  exact ⟨L, ns, p, a, b, c, d, ⟨x _ _ h.at_, h.ne, Sx.sq (Sx.of x) h.ne h.cells, h.p0, h.a0, h.b0, h.c0, h.c1, h.len⟩⟩
/-- what was not there at first is changed: the store stays a store -/
theorem Store.mut {K : PySem.W.Frag} {s l : Addr} {H H' : Hp} {o : HO} (st0 : Store K H s) (x : Sx s H H') (st : Store K H' s) (h : H l = none) : Store K (upd H' l o) s := by
  obtain ⟨L0, ns0, p0, a0, b0, c0, d0, h0⟩ := st0
  obtain ⟨L, ns, p, a, b, c, d, h1⟩ := st
  obtain ⟨ys, e⟩ := x.ce L0 _ h0.at_
  have e2 : L = L0 := by
    have e3 := h1.at_
    rw [e] at e3
    cases e3
    rfl
  subst e2
  have nl : s ≠ l := fun z => by
    have q := h0.at_
    rw [z, h] at q
    cases q
  have q := h0.cells
  by_cases hk : L = l
  · subst hk
    rcases q with (q | ⟨o2, q⟩) | q
    · rw [h] at q
      cases q
    · rw [h] at q
      cases q
    · exact ⟨L, ns0, p, a, b, c, d, ⟨by rw [upd_ne nl]; exact h1.at_, h1.ne, .inr q, h1.p0, h1.a0, h1.b0, h1.c0, h1.c1, h0.len⟩⟩
  · refine ⟨L, ns, p, a, b, c, d, ⟨by rw [upd_ne nl]; exact h1.at_, h1.ne, ?_, h1.p0, h1.a0, h1.b0, h1.c0, h1.c1, h1.len⟩⟩
    rcases h1.cells with (r | ⟨o2, r⟩) | r
    · exact .inl (.inl (by rw [upd_ne hk]; exact r))
    · exact .inl (.inr ⟨o2, by rw [upd_ne hk]; exact r⟩)
    · exact .inr r
/-- the widest draw -/
def BIG : Int := 2 ^ 5000
theorem big_div {i m : Int} (h0 : 0 < m) (h : m < BIG) : CDivW i m := wide_div (b := 5000) h0 (by unfold BIG at h; omega) (by decide) (by decide)
/-- a draw: below many, and nothing else has changed -/
def spTake (K : PySem.W.Frag) (B : Int) : Sp := fun vs H Q _ => ∃ (s : Addr) (many : Int), vs = [.ref s, .int many] ∧ Store K H s ∧ many ≤ B ∧ many < BIG ∧
  ∀ (r : Int) (H' : Hp), 0 ≤ r → (r = 0 ∨ r < many) → Sx s H H' → Store K H' s → Q (.int r) H'
def topS (i : Nat) : Stmt := PySem.Challenge.pw_standframes_k02_roots_and_their_signs.main.body.getD i (.Pass ⟨0, 0, 0, 0⟩)
end My
namespace My
open PySem PySem.Spec PyProof.Rows L2
/-! ### raising: an own class whose __init__ is a def; the context of what is raised is None -/
section
variable {X : Cx}
theorem pmkN {CXc : CXT} {nm : Str} {C fI : Addr} {lv : Nat} {fdI : FuncData} {psI : List Str} {spI : Sp} {ds : List Value} {dvs : List V} {e : Expr} {es : List Expr} {ta : TA} {p pos : Pos} (T : OexC X.K C)
    (iC : PySem.W.findIn X.K (.ref C) "__init__" = some (some (.ref fI))) (tI : PySem.W.typeIn X.K (.ref fI) = some (.type "function"))
    (FI : FnOk X.prog X.w X.K X.mg X.base CXc lv fI fdI psI spI) (room : Room (lv + 1) X.A) (bnd : Binds X.K fdI psI ds) (dfl : Vals dvs ds) (px : Passes CXc X (fun _ _ _ => False)) (gl : Gl X nm) (gm : X.mg nm = some (.ref C)) (args : PA X (e :: es) ta)
    (nd : (nm == ("__debug__" : Str)) = false := by decide) (st1 : starEach (e :: es) X.env = (false, eval e X.env) :: starEach es X.env := by rfl) (st2 : (backTo pos (starEach es X.env)).any (·.1) = false := by rfl) :
    L2N.PMk X (.Call (.Name nm p) (e :: es) [] pos) (tMkO C spI dvs ta) := by
  intro pins s σ H Q I rd
  have T' := T.cls
  obtain ⟨n0, n1, n2, n3, n4, n5, n6, n7, n8, n9, j0, j1, j2, j3, j5, lkC, rfs⟩ := T'
  refine wpAny_Call_Name_kw (ld_glob I gl gm ?_ nd)
  refine PySem.W.callWith_K (h₀ := X.base) I.ok.mod.kin T.kC (thn (args.run pos pins s σ H _ I rd) fun us s1 hh => ?_) st1 st2
  obtain ⟨vs, H1, I1, rel, sz, rd1⟩ := hh
  refine ⟨I1.kIn, ?_⟩
  show wpAny _ _ (call (.ref C) us) _ _ _
  obtain ⟨hp, gn, dr, tk, os⟩ := s1
  generalize en : hp.objs.size + 1 = nx at *
  have le : hp.objs.size ≤ nx := by omega
  have fresh : H1 nx = none := I1.hok.fresh le
  have rd2 := rd1 nx fresh
  have keep : ∀ b o, hp.get? b = some o → ((hp.push (PySem.W.kdv_tup us)).push (PySem.HandSPX.excO C hp.objs.size)).get? b = some o :=
    fun b o z => Heap.get?_push_of_some _ (Heap.get?_push_of_some _ z)
  have there : ((hp.push (PySem.W.kdv_tup us)).push (PySem.HandSPX.excO C hp.objs.size)).get? nx = some (PySem.HandSPX.excO C hp.objs.size) := by
    rw [← en]
    heap_get
  have I2 := I1.laid (t' := tk) (a := nx) (o := exo nx C none) (h' := (hp.push (PySem.W.kdv_tup us)).push (PySem.HandSPX.excO C hp.objs.size)) keep le (exo_ok there)
  have rel2 : Vals (V.ref nx :: (vs ++ dvs)) (Value.ref nx :: (us ++ ds)) := .cons rfl (rel.append dfl)
  have hlen : (Value.ref nx :: us ++ ds).length = psI.length := by
    have q := rel2.length
    rw [FI.len _ _ _ _ rd2] at q
    exact q.symm
  have few : us.length ≤ sizeLine := by
    have q := Paired.length rel
    rw [← q, sizeLine_eq]
    omega
  refine wpAny_call ?_
  refine PySem.HandSPX.call_own F.excBase_ValueError (fun Y => PySem.HandSPX.refsVE_contains Y n4 rfs) (I1.kIn _ _ lkC) (PySem.W.looks_findIn I1.kIn iC) (fun self => PySem.W.bind_fn I1.kIn self tI) few ?_
  rw [en]
  refine codeAny_mono (FI.run _ X.stack _ _ ⟨Value.ref nx :: us, []⟩ (Value.ref nx :: (us ++ ds)) _ _ (fun _ _ _ => False) (room.make C us []) (I2.env0.make C us []) (bnd _ (Value.ref nx :: us) I2.kIn hlen) rel2 rd2) fun r s' back => ?_
  cases r with
  | error er => exact px pins σ _ _ er s' I2 back
  | ok fl =>
    cases fl with
    | next => exact back.elim
    | brk => exact back.elim
    | cont => exact back.elim
    | ret u =>
      obtain ⟨v, H2, os2, bare2, un2, hok2, rv, ev, d, fs, ea, ed, hd1, q2⟩ := back
      subst ev
      obtain ⟨h2, g2, d2, t2, os'⟩ := s'
      obtain ⟨t0, G, J, kG, ge, hoe, na⟩ := mk_end0 (d2 := d2) (t2 := t2) I1 le keep un2 hok2 os2 bare2 ea ed hd1
      exact ⟨rv, nx, _, _, ⟨G, g2, d2, t2, os'⟩, _, .ref C, some d, rfl, J, kG, ge, hoe, ⟨rfl, rfl, fun ws hw => by cases hw; rfl⟩, rfl, rfl, na, rfl, bare2, raises_own T.exC T.tyC, q2⟩
/-! ### what may be asked of an exception that is pinned -/
/-- the class facts of its class at C -/
structure XC (K : PySem.W.Frag) (C : Addr) : Prop where
  e : ExcC K C
  cl : (PySem.W.clsIn K C).isSome = true
/-- e.n -/
def tXg (K : PySem.W.Frag) (a : Addr) (cls : Value) (d : Option Addr) (n : Str) (te : TE) : TE := fun σ H Q => te σ H fun x H1 => x = .ref a ∧ ∃ (C dd : Addr) (fs : List (Str × V)) (v : V),
  cls = .ref C ∧ XC K C ∧ PySem.W.findIn K (.ref C) n = some none ∧ d = some dd ∧ H1 dd = some (.xd fs) ∧ fs.lookup n = some v ∧ Q v H1
theorem pe_xg {a : Addr} {oe : Obj} {cls : Value} {d : Option Addr} {e : Expr} {te : TE} {pos : Pos} {n : Str} (hp : (a, oe) ∈ X.pn) (hz : oe.cls = cls ∧ oe.dict = d) (hf : ∃ vs, oe.data = .fields vs) (he : PE X e te)
    (hb : attributeBase e n X.env (eval e X.env) = eval e X.env := by rfl) : PE X (.Attribute e n pos) (tXg X.K a cls d n te) := by
  refine ⟨fun pins s σ H Q I rd => attr_of hb (thn (he.run pins s σ H _ I rd) fun u s1 hh => ?_)⟩
  obtain ⟨x, H1, I1, rx, ex, C, dd, fs, v, ec, T, no, ed, ea, l, q⟩ := hh
  subst ex ec ed
  cases (show u = Value.ref a from rx)
  have there := (I1.pin (a, oe) (List.mem_append_left _ hp)).1
  obtain ⟨ws, hd⟩ := hf
  obtain ⟨mA, hns, rel⟩ := (show ObjOk X.prog X.w H1 s1.heap dd (.xd fs) from I1.hok dd _ ea)
  obtain ⟨od, ho, hl⟩ := lookIn_ns hns
  obtain ⟨u', hu, ru⟩ := RelO.some_of (v := v) (o := mA n) (by rw [← l]; exact rel n)
  have J : PySem.W.InstAt s1.heap a oe C (some od) := ⟨there, hz.1, by unfold PySem.W.notCls; rw [hd] <;> rfl, by rw [hz.2]; exact ho⟩
  exact HandSPX.exc_get I1.kIn J T.e.hg T.e.hk T.e.hs (PySem.W.findObj_own T.e.hd no rfl (by rw [hl, hu])) (handed_of ru) ⟨v, H1, I1.tok _, ru, q⟩
/-- isinstance(e, c) of it -/
def rIsP (K : PySem.W.Frag) (a : Addr) (cls : Value) (d : Option Addr) : List V → Hp → VK → Prop := fun xs H Q => ∃ (C dd : Addr) (fs : List (Str × V)) (c : V) (cv : Value) (b : Bool),
  xs = [.ref a, c] ∧ cls = .ref C ∧ XC K C ∧ d = some dd ∧ H dd = some (.xd fs) ∧ ClsV c cv ∧ PySem.W.kitOne K (.ref C) cv = some b ∧ Q (.bl b) H
theorem c_isP {a : Addr} {oe : Obj} {cls : Value} {d : Option Addr} (hp : (a, oe) ∈ X.pn) (hz : oe.cls = cls ∧ oe.dict = d) (hf : ∃ vs, oe.data = .fields vs) : CallR X (.builtin "isinstance") (rIsP X.K a cls d) := by
  intro pins s σ H xs us Q I r rd
  obtain ⟨C, dd, fs, c, cv, b, ex, ec, T, ed, ea, kc, kb, q⟩ := rd
  subst ex ec ed
  obtain ⟨u1, u2, rfl, r1, r2⟩ := vals2 r
  cases (show u1 = Value.ref a from r1)
  have e2 := kc.eq r2
  subst e2
  have there := (I.pin (a, oe) (List.mem_append_left _ hp)).1
  obtain ⟨ws, hd⟩ := hf
  obtain ⟨mA, hns, rel⟩ := (show ObjOk X.prog X.w H s.heap dd (.xd fs) from I.hok dd _ ea)
  obtain ⟨od, ho, hl⟩ := lookIn_ns hns
  have J : PySem.W.InstAt s.heap a oe C (some od) := ⟨there, hz.1, by unfold PySem.W.notCls; rw [hd] <;> rfl, by rw [hz.2]; exact ho⟩
  exact PySem.W.kia_one (PySem.W.kitx_exc T.cl T.e.hg T.e.hk T.e.hs T.e.ha T.e.hn T.e.ht T.e.hm) I.kIn J kb (fun z => nomatch z) fun tk => ⟨.bl b, H, I.kept (t' := tk) fun _ _ z => z, rfl, q⟩
end
/-! ### a def that is called with the exception that is handled -/
open L2H in
/-- as L2H.FnH, the promise told of the pinned exception -/
structure FnE (P : Program) (w : World) (K : PySem.W.Frag) (mg : Str → Option Value) (base : Heap) (lv : Nat) (f : Addr) (fd : FuncData) (ps : List Str) (sp : Addr × Obj → Sp) : Prop where
  few : ∀ q vs H Q E, sp q vs H Q E → vs.length = ps.length
  go : ∀ (q : Addr × Obj) (A : Around) (outer : List Env) (s : Shared) (H : Hp) (args : Args) (us : List Value) (vs : List V) (Q : VK) (E : XK),
    RoomH lv A → Hot1 A q → PinOk outer H s q → Env0 P w K mg base A outer s H → BindsTo s fd args (ps.zip us) → Vals vs us → sp q vs H Q E → codeAny (model P w) A (.call (.ref f) args) (CR CX0 outer P w H s Q E) s
section
variable {P : Program} {w : World} {K : PySem.W.Frag} {mg : Str → Option Value} {base : Heap}
open L2H in
theorem Df.okE {x : Str} {st : Stmt} {N ps : List Str} {lv : Nat} {sp : Addr × Obj → Sp} (D : Df K mg x st ps) (S : FnScope N ps (defScope st)) (len : ∀ q vs H Q E, sp q vs H Q E → vs.length = ps.length)
    (body : ∀ (q : Addr × Obj) (cdv : Value) (A : Around) (outer : List Env) (s : Shared) (H : Hp) (vs : List V) (Q : VK) (E : XK), Hot1 A q → RoomH lv (A.deeper (envOfC x (defScope st) s.heap.objs.size D.f cdv)) → sp q vs H Q E →
      ∃ t, PSs (cxH CX0 P w K mg base N x (defScope st) D.f cdv A outer s H E q).nox (defBody st) t ∧ t { nx := fun _ H' => Q .non H', rt := Q } (L2.start N vs) H) :
    FnE P w K mg base (lv + 1) D.f D.fd ps sp := by
  obtain ⟨f, fd, F, bnd, gl⟩ := D
  obtain ⟨oc, od, kV, doc, pm, an, cdv, ct, osl, e, lk, hcd⟩ := F.ex
  have e : fd = _ := e
  subst e
  refine ⟨len, fun q A outer s H args us vs Q E room hot pin e0 hb rel rd => ?_⟩
  have hl := len _ _ _ _ _ rd
  have keep : ∀ b o, base.get? b = some o → s.heap.get? b = some o := fun b o z => (e0.bs b o z).1
  have KX : K.In s.heap := e0.mod.kin.keeps keep
  have lim : s.heap.NoLimit := e0.mod.nolimit.keeps keep
  have kinds : ∀ y ∈ ps.zip us, (defScope st).names.lookup y.1 = some .local ∨ ((defScope st).names.lookup y.1 = some .cell ∧ ((cellsFrom (s.heap.objs.size + 1) (defScope st).names []).lookup y.1).isSome = true) := by
    rintro ⟨n, v⟩ hy
    rcases S.par n (List.of_mem_zip hy).1 with z | z
    · exact .inl z
    · exact .inr ⟨z, PySem.W.cellsFrom_some _ _ _ (.inl z)⟩
  refine codeAny_call_function room.depth (KX _ _ lk) rfl S.co S.gen rfl (PySem.W.codeRec_of KX hcd) (hb _ _ _ _ ?_)
  refine wpAny_newFunctionEnv_cells S.kind kinds fun env he s1 y => ?_
  subst he
  refine ⟨lim.keeps y.toInCall.keep, codeAny_func ?_⟩
  obtain ⟨t, ht, hq⟩ := body q cdv A outer s H vs Q E hot (room.deeper _) rd
  have I := inv_startH (CX := CX0) (E := E) S pin e0 hl rel y
  refine wpAny_mono (ht.nox.run [] s1 (L2.start N vs) H _ I hq) (fun fl s' hs => ?_) fun _ _ z => z
  cases fl with
  | brk => exact (hs.choose_spec.choose_spec.2).elim
  | cont => exact (hs.choose_spec.choose_spec.2).elim
  | ret u =>
    obtain ⟨v, _, H', J, rv, z⟩ := hs
    exact ⟨v, H', J.os, J.bare, J.base, J.hok, rv, z⟩
  | next =>
    obtain ⟨_, H', J, z⟩ := hs
    exact ⟨V.non, H', J.os, J.bare, J.base, J.hok, rfl, z⟩
end
section
variable {X : Cx}
open L2H in
theorem pe_callE {lv : Nat} {f a : Addr} {oe : Obj} {fd : FuncData} {ps : List Str} {sp : Addr × Obj → Sp} {nm : Str} {p pos : Pos} {e : Expr} {es : List Expr} {t : TA} (F : FnE X.prog X.w X.K X.mg X.base lv f fd ps sp) (room : RoomH lv X.A) (hot : Hot1 X.A (a, oe)) (hp : (a, oe) ∈ X.pn)
    (gl : Gl X nm) (gm : X.mg nm = some (.ref f)) (kp : PySem.W.keepIn X.K (.ref f) = true) (bnd : Binds X.K fd ps []) (args : PA X (e :: es) t) (nd : (nm == ("__debug__" : Str)) = false := by decide)
    (st1 : starEach (e :: es) X.env = (false, eval e X.env) :: starEach es X.env := by rfl) (st2 : (backTo pos (starEach es X.env)).any (·.1) = false := by rfl) : PE X (.Call (.Name nm p) (e :: es) [] pos) (tCallS (sp (a, oe)) (fun _ => E0) t) := by
  refine ⟨fun pins s σ H Q I rd => wpAny_Call_Name_kw (ld_glob I gl gm ?_ nd)⟩
  refine PySem.W.callWith_K (h₀ := X.base) I.ok.mod.kin kp (thn (args.run pos pins s σ H _ I rd) fun us s1 hh => ?_) st1 st2
  obtain ⟨vs, H1, I1, rel, q⟩ := hh
  refine ⟨I1.kIn, ?_⟩
  have hl : us.length = ps.length := by
    rw [← rel.length]
    exact F.few _ _ _ _ _ q
  have b := bnd s1 us I1.kIn (by rw [List.append_nil]; exact hl)
  rw [List.append_nil] at b
  have P1 := I1.pin (a, oe) (List.mem_append_left _ hp)
  have pin : PinOk X.stack H1 s1 (a, oe) := ⟨P1.1, P1.2.1, fun hm => (List.mem_cons.mp (I1.stkSub a hm)).elim P1.2.2.1 P1.2.2.2.1, P1.2.2.2.2⟩
  refine wpAny_call (codeAny_mono (F.go (a, oe) X.A X.stack s1 H1 ⟨us, []⟩ us vs Q _ room hot pin I1.env0 b rel q) fun r s' back => ?_)
  cases r with
  | error z => exact back.elim
  | ok fl =>
    cases fl with
    | ret u => exact I1.after back
    | next => exact back.elim
    | brk => exact back.elim
    | cont => exact back.elim
end
/-! ### defs that raise -/
section
variable {P : Program} {w : World} {K : PySem.W.Frag} {mg : Str → Option Value} {base : Heap}
theorem Df.okN {x : Str} {st : Stmt} {N ps : List Str} {lv : Nat} {sp : Sp} (D : Df K mg x st ps) (S : FnScope N ps (defScope st)) (len : ∀ vs H Q E, sp vs H Q E → vs.length = ps.length)
    (body : ∀ (cdv : Value) (A : Around) (outer : List Env) (s : Shared) (H : Hp) (vs : List V) (Q : VK) (E : XK), Room lv (A.deeper (envOfC x (defScope st) s.heap.objs.size D.f cdv)) → sp vs H Q E →
      ∃ t, PSs (cxOf (L2N.CX P w) P w K mg base N x (defScope st) D.f cdv A outer s H E) (defBody st) t ∧ t { nx := fun _ H' => Q .non H', rt := Q } (L2.start N vs) H) :
    FnOk P w K mg base (L2N.CX P w) (lv + 1) D.f D.fd ps sp := by
  obtain ⟨f, fd, F, bnd, gl⟩ := D
  obtain ⟨oc, od, kV, doc, pm, an, cdv, ct, osl, e, lk, hcd⟩ := F.ex
  have e : fd = _ := e
  subst e
  exact fn_of lk hcd S len fun A outer s H vs Q E room rd => body cdv A outer s H vs Q E room rd
/-- around a body nothing is let out -/
theorem takesN0 {X : Cx} : L2N.Takes X (fun _ _ _ _ => False) := fun _ _ z => by
  obtain ⟨_, _, _, _, _, _, _, _, _, _, _, _, _, _, _, _, z⟩ := z
  exact z.elim
end
end My
namespace My
open PySem PySem.Spec PyProof.Rows L2
/-! ### the digits' limit -/
theorem none_of_k {K : PySem.W.Frag} {h : Heap} {a : Addr} {m : Str → Option Value} {n : Str} (X : K.In h) (G : h.Ns a m) (e : PySem.W.nsIn K a n = some none) : m n = none := by
  obtain ⟨o, es, ep, ho, hd, _, hf⟩ := G
  unfold PySem.W.nsIn at e
  split at e
  · rename_i c d es' n' sl lk
    have two := ho.symm.trans (X _ _ lk)
    cases two
    cases hd
    split at e
    · cases e
    · rename_i none_
      rw [← hf]
      unfold nsFind findBy
      rw [← Array.find?_toList, none_]
      rfl
  · cases e
def NoDig (K : PySem.W.Frag) : Prop := PySem.W.nsIn K cStatics "sys.int_max_str_digits" = some none
theorem noDigits {X : Cx} {pins : List (Addr × Obj)} {σ : L2.St} {H : Hp} {s : Shared} (nd : NoDig X.K) (I : Inv X pins σ H s) : s.heap.NoDigits := by
  obtain ⟨mc, a, b⟩ := I.nolimit
  exact ⟨mc, a, none_of_k I.kIn a nd⟩
/-! ### int of a longer text -/
theorem wp_long {M : Model} {A : Around} {E : Value → Shared → Prop} {s : Shared} {Q : Value → Shared → Prop} {v : Value} {text : List Nat} {n : Int} (nd : s.heap.NoDigits)
    (hs : ¬ (text.takeWhile (· != 0)).length ≤ 640) (hr : (int_private% "readNumeral") 4300 10 (text.takeWhile (· != 0)) = (int_private% "Numeral.value") n)
    (ha : ((text.takeWhile (· != 0)).length == text.length) = true) (h : Q (.int n s.toks) { s with toks := s.toks + 1 }) :
    wpAny M A ((int_private% "intFromText") v text 10) Q E s := by
  obtain ⟨mc, hns, hno⟩ := nd
  obtain ⟨hp, g, d, tk, os⟩ := s
  repeat (any_goals (first
    | assumption
    | (with_reducible refine wpAny_ite_false (decide_eq_false hs) ?_)
    | (with_reducible refine wpAny_ite_true (decide_eq_true ha) ?_)
    | (with_reducible refine wpAny_nsGet hns ?_; rw [hno])
    | wp_step))
  all_goals (rw [hr]; dsimp only)
  repeat (any_goals (first
    | assumption
    | (with_reducible refine wpAny_ite_true (decide_eq_true ha) ?_)
    | wp_step))
structure Hold (p : Prop) : Prop where
  out : p
theorem meets_long {x : PySem.Str} {u : Tok} {n : Int} (hz : x.length ≤ sizeLine) (hl : ¬ (PySem.numSeenOf x).length ≤ 640) (hn : PySem.intText? x = some n) :
    Meets (Builtin.«int.__new__» ⟨[.type "int", .str x u], []⟩) (fun _ R s => s.heap.NoDigits ∧ R (.ok (.ret (.int n s.toks))) { s with toks := s.toks + 1 }) :=
  .of_wp fun prog w A R s h => by
    obtain ⟨nd, h⟩ := h
    have f1 := PySem.F.conv_sub_int
    have f2 := PySem.F.madeHere_int
    have f3 := PySem.W.KIN.str_int
    have f4 := PySem.W.KIN.str_idx
    have f5 := PySem.W.KIN.str_trunc
    have f6 : typeOf (.str x u) = pure (.type "str") := rfl
    have two : (int_private% "readNumeral") 4300 10 (PySem.numSeenOf x) = (int_private% "Numeral.value") n ∧ ((PySem.numSeenOf x).length == (PySem.numTextOf x).length) = true := by
      rcases PySem.read4300 x hz with ⟨m, h1, h2, h3⟩ | ⟨h1, _⟩
      · rw [hn] at h1
        cases h1
        exact ⟨h3, h2⟩
      · rw [hn] at h1
        cases h1
    have hk := Hold.mk (And.intro nd (And.intro hl two))
    obtain ⟨hp, g, d, tk, os⟩ := s
    clear nd hl two hn
    repeat (any_goals (first
      | assumption
      | ((with_reducible show wpAny _ _ ((int_private% "intFromText") _ _ _) _ _ _); refine wp_long hk.out.1 hk.out.2.1 hk.out.2.2.1 hk.out.2.2.2 ?_)
      | wp_step))
    all_goals first | exact ⟨_, rfl, h⟩ | skip
/-- int of a text of at most 4300 digits -/
def rIntS (K : PySem.W.Frag) : List V → Hp → VK → Prop := fun xs H Q => ∃ a n, xs = [.str a] ∧ PySem.intText? a = some n ∧ a.length ≤ sizeLine ∧ (PySem.numSeenOf a).length = a.length ∧ NoDig K ∧ Q (.int n) H
theorem c_intS {X : Cx} : CallR X (.type "int") (rIntS X.K) := by
  intro pins s σ H xs us Q I rs h
  obtain ⟨a, n, rfl, hn, hl, hsn, nd, h⟩ := h
  cases rs with
  | cons r1 rs =>
    cases rs
    obtain ⟨t, rfl⟩ := r1
    have fin : ∀ t', EP X pins σ Q (.int n t') { s with toks := s.toks + 1 } := fun t' => ⟨.int n, H, I.tok _, ⟨_, rfl⟩, h⟩
    by_cases h6 : a.length ≤ 640
    · exact PySem.W.KIN.call_text hn h6 (fin _)
    · exact call_int_1 (meets_long hl (by rw [hsn]; exact h6) hn) ⟨noDigits nd I, rfl, fin _⟩
/-! ### text * int -/
def rMulS : R2 := fun x y H Q => ∃ z n, x = .str z ∧ y = .int n ∧ 0 ≤ n ∧ n ≤ 100000 ∧ z.length ≤ 100 ∧ Q (.str (PySem.Txt.mul z n)) H
theorem o_mulS {X : Cx} : OpR X (binaryOp .Mult) rMulS := by
  intro pins s σ H x y v u Q I rx ry h
  obtain ⟨z, n, rfl, rfl, h0, h1, h2, h⟩ := h
  obtain ⟨t, rfl⟩ := (show ∃ t, v = Value.str z t from rx)
  obtain ⟨t', rfl⟩ := (show ∃ t, u = Value.int n t from ry)
  refine PySem.SB.mul ⟨by simp; omega, fun a _ => ?_, fun a _ => ?_⟩ fun t2 k => ⟨.str (PySem.Txt.mul z n), H, I.tok _, ⟨t2, rfl⟩, h⟩
  · have hq : (100000 : Int) ≤ (2 ^ 63 - 1) / n := (Int.le_ediv_iff_mul_le (by omega)).mpr (by omega)
    omega
  · have e : z.length * n.toNat ≤ 100 * 100000 := Nat.mul_le_mul h2 (by omega)
    unfold Builtin.Str.tooLong
    refine decide_eq_false ?_
    rw [sizeLine_eq]
    omega
/-! ### how often a truth value stands in a list of such -/
def rCntB (K : PySem.W.Frag) : V → List V → Hp → VK → Prop := fun x xs H Q => ∃ (a : Addr) (bs : List Bool) (k : Bool), x = .ref a ∧ xs = [.bl k] ∧ SqL K H a (bs.map V.bl) ∧ Q (.int (countIn (.bool k) (bs.map PyData.bool))) H
theorem reads_bools {h : Heap} : ∀ {bs : List Bool} {vs : List Value}, Vals (bs.map V.bl) vs → ReadsAll h vs (bs.map PyData.bool) []
  | [], _, r => by cases r; exact .nil
  | b :: bs, _, r => by
    cases r with
    | cons r1 r2 =>
      cases r1
      exact .cons (as := []) (by constructor) (reads_bools r2)
theorem all_bools (bs : List Bool) : (bs.map PyData.bool).all Shape.bool.has = true := by
  rw [List.all_map, List.all_eq_true]
  intro x _
  rfl
theorem mt_cntB {X : Cx} : MtR X "list.count" (rCntB X.K) := by
  intro pins s σ H x xs v us Q I rx rs h
  obtain ⟨a, bs, k, rfl, rfl, hq, h⟩ := h
  cases (show v = Value.ref a from rx)
  cases rs with
  | cons r1 r2 =>
    cases r2
    cases r1
    obtain ⟨its, rv, pl, hz⟩ := I.list hq
    exact count_list_bools pl.isList (reads_bools (h := s.heap) rv) (all_bools bs) ⟨.int _, H, I.tok _, ⟨_, rfl⟩, h⟩
/-! ### replace: a token must be out -/
def PE1 (X : Cx) (e : Expr) (t : TE) : Prop := ∀ (pins : List (Addr × Obj)) (s : Shared) (σ : L2.St) (H : Hp) (Q : VK), Inv X pins σ H s → t σ H Q →
  wpAny (model X.prog X.w) X.A (eval e X.env) (fun u s' => 1 ≤ s'.toks ∧ EP X pins σ Q u s') X.xe s
def PA1 (X : Cx) (es : List Expr) (t : TA) : Prop := ∀ (pos : Pos) (pins : List (Addr × Obj)) (s : Shared) (σ : L2.St) (H : Hp) (Q : List V → Hp → Prop), Inv X pins σ H s → t σ H Q →
  wpAny (model X.prog X.w) X.A (spliced (backTo pos (starEach es X.env))) (fun us s' => 1 ≤ s'.toks ∧ AP X pins σ Q us s') X.xe s
section
variable {X : Cx}
theorem PE1.pe {e : Expr} {t : TE} (h : PE1 X e t) : PE X e t := ⟨fun pins s σ H Q I q => thn (h pins s σ H Q I q) fun _ _ z => z.2⟩
theorem drop_toks {α : Type} {M : Model} {A : Around} {t : Sem α} {Q : α → Shared → Prop} {E : Value → Shared → Prop} {s : Shared} {n : Nat} (hn : n ≤ s.toks) (h : wpAny M A t Q E s) :
    wpAny M A t (fun a s' => n ≤ s'.toks ∧ Q a s') E s := wpAny_mono (wpAny_toks_of hn h) (fun _ _ z => z) fun _ _ z => z.2
theorem pe1_intL {op : Operator} {r : R2} {b : Expr} {tb : TE} {i : Int} {j : Nat} {cp pos : Pos} (ho : OpR X (binaryOp op) r) (hb : PE X b tb) : PE1 X (.BinOp (.Constant (.int i) j cp) op b pos) (tOp r (tC (.int i)) tb) := by
  intro pins s σ H Q I h
  refine wpAny_BinOp (wpAny_Constant_int ?_)
  refine thn (drop_toks (n := 1) (by show 1 ≤ s.toks + 1; omega) (hb.run pins _ σ H _ (I.tok _) h)) fun u s1 hh => ?_
  obtain ⟨h1, y, H1, I1, ry, q⟩ := hh
  exact drop_toks h1 (ho pins s1 σ H1 (.int i) y _ u Q I1 ⟨_, rfl⟩ ry q)
theorem pa1_head {e : Expr} {es : List Expr} {te : TE} {t : TA} (ha : PE1 X e te) (hr : PA X es t) (hs : starEach (e :: es) X.env = (false, eval e X.env) :: starEach es X.env := by rfl) : PA1 X (e :: es) (tCons te t) := by
  intro pos pins s σ H Q I h
  rw [hs]
  refine Calls.spliced_cons (thn (ha pins s σ H _ I h) fun u s1 hh => ?_)
  obtain ⟨h1, x, H1, I1, r1, q1⟩ := hh
  exact thn (drop_toks h1 (hr.run pos pins s1 σ H1 _ I1 q1)) fun us s2 ⟨h2, xs, H2, I2, r2, q2⟩ => ⟨h2, x :: xs, H2, I2, .cons r1 r2, q2⟩
theorem pa1_tail {e : Expr} {es : List Expr} {te : TE} {t : TA} (ha : PE X e te) (hr : PA1 X es t) (hs : starEach (e :: es) X.env = (false, eval e X.env) :: starEach es X.env := by rfl) : PA1 X (e :: es) (tCons te t) := by
  intro pos pins s σ H Q I h
  rw [hs]
  refine Calls.spliced_cons (thn (ha.run pins s σ H _ I h) fun u s1 hh => ?_)
  obtain ⟨x, H1, I1, r1, q1⟩ := hh
  exact thn (hr pos pins s1 σ H1 _ I1 q1) fun us s2 ⟨h2, xs, H2, I2, r2, q2⟩ => ⟨h2, x :: xs, H2, I2, .cons r1 r2, q2⟩
theorem pe1_call {CX : CXT} {lv : Nat} {f : Addr} {fd : FuncData} {ps : List Str} {sp : Sp} {E : XK} {nm : Str} {p pos : Pos} {e : Expr} {es : List Expr} {t : TA} (F : FnOk X.prog X.w X.K X.mg X.base CX lv f fd ps sp) (hr : Room lv X.A) (hg : Gl X nm) (hm : X.mg nm = some (.ref f)) (hk : PySem.W.keepIn X.K (.ref f) = true)
    (hb : Binds X.K fd ps []) (hx : Passes CX X E) (ha : PA1 X (e :: es) t) (nd : (nm == ("__debug__" : Str)) = false := by decide) (st1 : starEach (e :: es) X.env = (false, eval e X.env) :: starEach es X.env := by rfl)
    (st2 : (backTo pos (starEach es X.env)).any (·.1) = false := by rfl) : PE1 X (.Call (.Name nm p) (e :: es) [] pos) (tCall sp [] E t) := by
  intro pins s σ H Q I h
  refine wpAny_Call_Name_kw (ld_glob I hg hm ?_ nd)
  refine PySem.W.callWith_K (h₀ := X.base) I.ok.mod.kin hk (thn (ha pos pins s σ H _ I h) fun us s1 hh => ?_) st1 st2
  obtain ⟨h1, vs, H1, I1, r, q⟩ := hh
  exact ⟨I1.kIn, drop_toks h1 (run_fn F hr hb .nil hx I1 r q)⟩
def tRepl (y z : Str) (to : TE) : TE := fun σ H Q => to σ H fun v H1 => ∃ x, v = .str x ∧ x.length + (x.length + 1) * z.length ≤ 16777216 ∧ Q (.str (PySem.Txt.replace x y z)) H1
theorem pe1_repl {o : Expr} {to : TE} {y z : Str} {j k : Nat} {c0 c1 apos pos : Pos} (ho : PE1 X o to) (hyz : (y == z) = false := by decide)
    (hst : starEach [.Constant (.str y) j c0, .Constant (.str z) k c1] X.env = [(false, eval (.Constant (.str y) j c0) X.env), (false, eval (.Constant (.str z) k c1) X.env)] := by rfl)
    (hbase : attributeBase o "replace" X.env (eval o X.env) = eval o X.env := by rfl) (hline : (apos.endLine == pos.line) = true := by rfl) :
    PE1 X (.Call (.Attribute o "replace" apos) [.Constant (.str y) j c0, .Constant (.str z) k c1] [] pos) (tRepl y z to) := by
  intro pins s σ H Q I h
  refine PySem.Call_method2 hbase hst hline (thn (ho pins s σ H _ I h) fun v s1 q => ?_)
  obtain ⟨h1, v', H1, I1, r1, x, rfl, hb, q⟩ := q
  obtain ⟨tx, rfl⟩ := (show ∃ t, v = Value.str x t from r1)
  refine ⟨"str", _, PySem.F.plainAttrs_str, PySem.F.slot_str_replace, PySem.F.type_str_replace, typeIs_str _ _ _, (fun _ e => nomatch e), Calls.callWith_builtin rfl (Calls.evalArgs_plain (Calls.spliced_cons ?_))⟩
  refine Calls.Constant_str (Calls.spliced_cons (Calls.Constant_str (Calls.spliced_nil ?_)))
  refine drop_toks (n := 1) (by show 1 ≤ s1.toks + 1 + 1; omega) ?_
  refine PySem.SC.replace ?_ ?_ ?_ hyz hb fun t' k => ⟨.str (PySem.Txt.replace x y z), H1, I1.tok k, ⟨t', rfl⟩, q⟩
  · show s1.toks ≠ 0
    omega
  · show s1.toks + 1 ≠ 0
    omega
  · show s1.toks ≠ s1.toks + 1
    omega
end
end My
namespace My
open PySem PySem.Spec PyProof.Rows L2
/-! ### data: what stands at a value, without addresses -/
inductive D where
  | non | bl (b : Bool) | int (i : Int) | str (x : Str) | tup (l : List D) | lst (l : List D) | dct (ks vs : List D) | ins (C : Addr) (fs : List Str) (vs : List D) | scr (ns : List Int) | sto | exc (a : Addr) | err (C : Addr) (fs : List Str) (vs : List D)
def kD : Key → D
  | .inl i => .int i
  | .inr x => .str x
def tD (l : List Key) : D := .tup (l.map kD)
/-- a dict at a with the keys ks, the values us -/
def DicV (H : Hp) (a : Addr) (ks : List D) (us : List V) : Prop :=
  (∃ kvs : List (Key × V), H a = some (.dK kvs) ∧ ks = kvs.map (fun p => kD p.1) ∧ us = kvs.map (·.2)) ∨
  (∃ kvs : List (List Key × V), H a = some (.dT kvs) ∧ ks = kvs.map (fun p => tD p.1) ∧ us = kvs.map (·.2))
/-- one heap within another -/
abbrev Sub (H H' : Hp) : Prop := ∀ b o, H b = some o → H' b = some o
/-- an exception at a, not raised: of the class at C, its fields -/
def ErrAt (H : Hp) (a C : Addr) (fs : List Str) (us : List V) : Prop :=
  (∃ dx, H a = some (exo a C (some dx)) ∧ H dx = some (exd dx (fs.zip us)) ∧ us.length = fs.length) ∨ (fs = [] ∧ us = [] ∧ H a = some (ExO (.ref C) a))
mutual
/-- at v stands the data d -/
def Da (K : PySem.W.Frag) (so : Option Addr) (H : Hp) : D → V → Prop
  | .non, v => v = .non
  | .bl b, v => v = .bl b
  | .int i, v => v = .int i
  | .str x, v => v = .str x
  | .tup l, v => ∃ a xs, v = .ref a ∧ SqT K H a xs ∧ DaL K so H l xs
  | .lst l, v => ∃ a xs, v = .ref a ∧ H a = some (.lst xs) ∧ DaL K so H l xs
  | .dct ks vs, v => ∃ a us, v = .ref a ∧ DicV H a ks us ∧ DaL K so H vs us
  | .ins C fs vs, v => ∃ a dx us, v = .ref a ∧ H a = some (.ins C dx (fs.zip us)) ∧ H dx = some (.own a) ∧ us.length = fs.length ∧ DaL K so H vs us
  | .scr ns, v => ∃ a, v = .ref a ∧ SqL K H a (ns.map V.int)
  | .sto, v => ∃ a, v = .ref a ∧ so = some a
  | .exc a, v => v = .ref a
  | .err C fs vs, v => ∃ a us, v = .ref a ∧ ErrAt H a C fs us ∧ DaL K so H vs us
def DaL (K : PySem.W.Frag) (so : Option Addr) (H : Hp) : List D → List V → Prop
  | [], xs => xs = []
  | d :: l, xs => ∃ x r, xs = x :: r ∧ Da K so H d x ∧ DaL K so H l r
end
theorem Sub.sqT {K : PySem.W.Frag} {H H' : Hp} {a : Addr} {xs : List V} (x : Sub H H') (h : SqT K H a xs) : SqT K H' a xs := by
  rcases h with (h | ⟨o, h⟩) | h
  · exact .inl (.inl (x _ _ h))
  · exact .inl (.inr ⟨o, x _ _ h⟩)
  · exact .inr h
theorem Sub.sqL {K : PySem.W.Frag} {H H' : Hp} {a : Addr} {xs : List V} (x : Sub H H') (h : SqL K H a xs) : SqL K H' a xs := by
  rcases h with (h | ⟨o, h⟩) | h
  · exact .inl (.inl (x _ _ h))
  · exact .inl (.inr ⟨o, x _ _ h⟩)
  · exact .inr h
theorem Sub.dic {H H' : Hp} {a : Addr} {ks : List D} {us : List V} (x : Sub H H') (h : DicV H a ks us) : DicV H' a ks us := by
  rcases h with ⟨kvs, h, e⟩ | ⟨kvs, h, e⟩
  · exact .inl ⟨kvs, x _ _ h, e⟩
  · exact .inr ⟨kvs, x _ _ h, e⟩
theorem Sub.err {H H' : Hp} {a C : Addr} {fs : List Str} {us : List V} (x : Sub H H') (h : ErrAt H a C fs us) : ErrAt H' a C fs us := by
  rcases h with ⟨dx, h1, h2, h3⟩ | ⟨h1, h2, h3⟩
  · exact .inl ⟨dx, x _ _ h1, x _ _ h2, h3⟩
  · exact .inr ⟨h1, h2, x _ _ h3⟩
mutual
theorem Da.mono {K : PySem.W.Frag} {so : Option Addr} {H H' : Hp} (x : Sub H H') : ∀ (d : D) (v : V), Da K so H d v → Da K so H' d v
  | .non, _, h => h
  | .bl _, _, h => h
  | .int _, _, h => h
  | .str _, _, h => h
  | .tup l, _, ⟨a, xs, e, h, q⟩ => ⟨a, xs, e, Sub.sqT x h, DaL.mono x l xs q⟩
  | .lst l, _, ⟨a, xs, e, h, q⟩ => ⟨a, xs, e, x _ _ h, DaL.mono x l xs q⟩
  | .dct ks vs, _, ⟨a, us, e, h, q⟩ => ⟨a, us, e, Sub.dic x h, DaL.mono x vs us q⟩
  | .ins C fs vs, _, ⟨a, dx, us, e, h, h2, l, q⟩ => ⟨a, dx, us, e, x _ _ h, x _ _ h2, l, DaL.mono x vs us q⟩
  | .scr ns, _, ⟨a, e, h⟩ => ⟨a, e, Sub.sqL x h⟩
  | .sto, _, h => h
  | .exc _, _, h => h
  | .err C fs vs, _, ⟨a, us, e, h, q⟩ => ⟨a, us, e, Sub.err x h, DaL.mono x vs us q⟩
theorem DaL.mono {K : PySem.W.Frag} {so : Option Addr} {H H' : Hp} (x : Sub H H') : ∀ (l : List D) (xs : List V), DaL K so H l xs → DaL K so H' l xs
  | [], _, h => h
  | d :: l, _, ⟨v, r, e, h, q⟩ => ⟨v, r, e, Da.mono x d v h, DaL.mono x l r q⟩
end
section
variable {K : PySem.W.Frag} {so : Option Addr} {H : Hp}
theorem DaL.len : ∀ {l : List D} {xs : List V}, DaL K so H l xs → xs.length = l.length
  | [], _, h => by
    have e : _ = _ := h
    rw [e]
    rfl
  | d :: l, _, ⟨v, r, e, h, q⟩ => by
    rw [e, List.length_cons, List.length_cons, q.len]
theorem DaL.get : ∀ {l : List D} {xs : List V} {i : Nat} {d : D}, DaL K so H l xs → l[i]? = some d → ∃ v, xs[i]? = some v ∧ Da K so H d v
  | [], _, _, _, _, e => by simp at e
  | c :: l, _, 0, d, ⟨v, r, e1, h, q⟩, e => by
    have e2 : c = d := by simpa using e
    subst e2
    exact ⟨v, by rw [e1]; rfl, h⟩
  | c :: l, _, i + 1, d, ⟨v, r, e1, h, q⟩, e => by
    obtain ⟨z, h1, h2⟩ := q.get (i := i) (d := d) (by simpa using e)
    exact ⟨z, by rw [e1]; simpa using h1, h2⟩
theorem DaL.back : ∀ {l : List D} {xs : List V} {i : Nat} {v : V}, DaL K so H l xs → xs[i]? = some v → ∃ d, l[i]? = some d ∧ Da K so H d v := fun {l xs i v} q e => by
  have hi : i < xs.length := (List.getElem?_eq_some_iff.mp e).1
  rw [q.len] at hi
  obtain ⟨w, h1, h2⟩ := q.get (List.getElem?_eq_getElem hi)
  have e2 : v = w := Option.some.inj (e.symm.trans h1)
  subst e2
  exact ⟨_, List.getElem?_eq_getElem hi, h2⟩
theorem DaL.app : ∀ {l m : List D} {xs ys : List V}, DaL K so H l xs → DaL K so H m ys → DaL K so H (l ++ m) (xs ++ ys)
  | [], _, _, _, h, q => by
    have e : _ = _ := h
    rw [e]
    exact q
  | d :: l, m, _, ys, ⟨v, r, e, h, z⟩, q => ⟨v, r ++ ys, by rw [e]; rfl, h, z.app q⟩
theorem DaL.one {d : D} {v : V} (h : Da K so H d v) : DaL K so H [d] [v] := ⟨v, [], rfl, h, rfl⟩
theorem DaL.set : ∀ {l : List D} {xs : List V} (j : Nat) {d : D} {v : V}, DaL K so H l xs → Da K so H d v → DaL K so H (l.set j d) (xs.set j v)
  | [], _, _, _, _, h, _ => by
    have e : _ = _ := h
    rw [e]
    exact rfl
  | c :: l, _, 0, d, v, ⟨w, r, e, h, q⟩, z => ⟨v, r, by rw [e]; rfl, z, q⟩
  | c :: l, _, j + 1, d, v, ⟨w, r, e, h, q⟩, z => ⟨w, r.set j v, by rw [e]; rfl, h, q.set j z⟩
theorem DaL.drop : ∀ {l : List D} {xs : List V} (n : Nat), DaL K so H l xs → DaL K so H (l.drop n) (xs.drop n)
  | _, _, 0, h => h
  | [], _, n + 1, h => by
    have e : _ = _ := h
    rw [e]
    exact rfl
  | c :: l, _, n + 1, ⟨w, r, e, h, q⟩ => by
    rw [e]
    exact q.drop n
theorem DaL.take : ∀ {l : List D} {xs : List V} (n : Nat), DaL K so H l xs → DaL K so H (l.take n) (xs.take n)
  | _, _, 0, h => by
    rw [List.take_zero, List.take_zero]
    exact rfl
  | [], _, n + 1, h => by
    have e : _ = _ := h
    rw [e]
    exact rfl
  | c :: l, _, n + 1, ⟨w, r, e, h, q⟩ => ⟨w, r.take n, by rw [e]; rfl, h, q.take n⟩
theorem DaL.atI {l : List D} {xs : List V} {i : Int} {d : D} (q : DaL K so H l xs) (e : L2.atI l i = some d) : ∃ v, L2.atI xs i = some v ∧ Da K so H d v := by
  unfold L2.atI at e ⊢
  rw [q.len]
  cases h : ixN l.length i with
  | none =>
    rw [h] at e
    cases e
  | some j =>
    rw [h] at e
    exact q.get e
end
/-! ### the two heaps: A what is frozen, H all -/
/-- the store at s: a list of the script's copy and five ints -/
def StoOk (K : PySem.W.Frag) (A H : Hp) (s : Addr) : Prop := A s = none ∧ ∃ (L : Addr) (ns : List Int) (p a b c d : Int), H s = some (.lst (StL L p a b c d)) ∧ A L = some (.lst (ns.map V.int)) ∧ 0 ≤ p ∧ 0 ≤ a ∧ 0 ≤ b ∧ 0 ≤ c ∧ c < 2305843009213693951 ∧ ns.length ≤ 63
structure Good (K : PySem.W.Frag) (so : Option Addr) (A H : Hp) : Prop where
  sub : Sub A H
  st : ∀ s, so = some s → StoOk K A H s
/-- from (A, H) to (A', H'): what was there is kept but for the store; what is frozen now was so, or is new -/
structure Ext (K : PySem.W.Frag) (so : Option Addr) (A H A' H' : Hp) : Prop where
  good : Good K so A' H'
  mono : Sub A A'
  kept : ∀ b o, so ≠ some b → H b = some o → H' b = some o
  new : ∀ b o, A' b = some o → A b = some o ∨ H b = none
section
variable {K : PySem.W.Frag} {so : Option Addr} {A H A1 H1 A2 H2 : Hp}
theorem Ext.refl (g : Good K so A H) : Ext K so A H A H := ⟨g, fun _ _ h => h, fun _ _ _ h => h, fun _ _ h => .inl h⟩
theorem Ext.trans (x : Ext K so A H A1 H1) (y : Ext K so A1 H1 A2 H2) : Ext K so A H A2 H2 := by
  refine ⟨y.good, fun b o h => y.mono b o (x.mono b o h), fun b o n h => y.kept b o n (x.kept b o n h), fun b o h => ?_⟩
  rcases y.new b o h with z | z
  · exact x.new b o z
  · cases e : H b with
    | none => exact .inr rfl
    | some u =>
      by_cases n : so = some b
      · have := (y.good.st b n).1
        rw [h] at this
        cases this
      · rw [x.kept b u n e] at z
        cases z
theorem Ext.da (x : Ext K so A H A1 H1) {d : D} {v : V} (h : Da K so A d v) : Da K so A1 d v := Da.mono x.mono d v h
theorem Ext.daL (x : Ext K so A H A1 H1) {d : List D} {v : List V} (h : DaL K so A d v) : DaL K so A1 d v := DaL.mono x.mono d v h
theorem Good.da (g : Good K so A H) {d : D} {v : V} (h : Da K so A d v) : Da K so H d v := Da.mono g.sub d v h
theorem Good.daL (g : Good K so A H) {d : List D} {v : List V} (h : DaL K so A d v) : DaL K so H d v := DaL.mono g.sub d v h
theorem Good.ne (g : Good K so A H) {p s : Addr} (h : H p = none) (e : so = some s) : p ≠ s := fun z => by
  obtain ⟨_, L, ns, p', a, b, c, d, h2, _⟩ := g.st s e
  rw [← z, h] at h2
  cases h2
/-- a new object, frozen -/
theorem Ext.laid (g : Good K so A H) {p : Addr} {o : HO} (h : H p = none) : Ext K so A H (upd A p o) (upd H p o) := by
  have ap : A p = none := by
    cases e : A p with
    | none => rfl
    | some u =>
      rw [g.sub p u e] at h
      cases h
  refine ⟨⟨fun b u e => ?_, fun s e => ?_⟩, fun b u e => ?_, fun b u n e => ?_, fun b u e => ?_⟩
  · by_cases z : b = p
    · subst z
      rw [upd_same] at e ⊢
      exact e
    · rw [upd_ne z] at e ⊢
      exact g.sub b u e
  · obtain ⟨h1, L, ns, p', a, b, c, d, h2, h3, r⟩ := g.st s e
    have n := g.ne h e
    exact ⟨by rw [upd_ne (Ne.symm n)]; exact h1, L, ns, p', a, b, c, d, by rw [upd_ne (Ne.symm n)]; exact h2, by rw [upd_ne (ne_of_none h3 ap)]; exact h3, r⟩
  · rw [upd_ne (ne_of_none e ap)]
    exact e
  · rw [upd_ne (ne_of_none e h)]
    exact e
  · by_cases z : b = p
    · subst z
      exact .inr h
    · rw [upd_ne z] at e
      exact .inl e
/-- a new object, not frozen -/
theorem Ext.open_ (g : Good K so A H) {p : Addr} {o : HO} (h : H p = none) : Ext K so A H A (upd H p o) := by
  refine ⟨⟨fun b u e => ?_, fun s e => ?_⟩, fun b u e => e, fun b u n e => ?_, fun b u e => .inl e⟩
  · rw [upd_ne (ne_of_none (g.sub b u e) h)]
    exact g.sub b u e
  · obtain ⟨h1, L, ns, p', a, b, c, d, h2, h3, r⟩ := g.st s e
    have n := g.ne h e
    exact ⟨h1, L, ns, p', a, b, c, d, by rw [upd_ne (Ne.symm n)]; exact h2, h3, r⟩
  · rw [upd_ne (ne_of_none e h)]
    exact e
theorem Ext.fresh (x : Ext K so A H A1 H1) {p : Addr} (h : H1 p = none) : H p = none := by
  cases e : H p with
  | none => rfl
  | some u =>
    by_cases n : so = some p
    · exact absurd rfl (x.good.ne h n)
    · rw [x.kept p u n e] at h
      cases h
/-- an own object is changed (it was not there at first, it is not frozen) -/
theorem Ext.mut (x : Ext K so A H A1 H1) {a : Addr} {o : HO} (h : H a = none) (h1 : A1 a = none) (hs : so ≠ some a) : Ext K so A H A1 (upd H1 a o) := by
  refine ⟨⟨fun b u e => ?_, fun s e => ?_⟩, x.mono, fun b u n e => ?_, x.new⟩
  · rw [upd_ne (ne_of_none e h1)]
    exact x.good.sub b u e
  · obtain ⟨h2, L, ns, p', a', b, c, d, h3, h4, r⟩ := x.good.st s e
    have n : s ≠ a := fun z => hs (by rw [e, z])
    exact ⟨h2, L, ns, p', a', b, c, d, by rw [upd_ne n]; exact h3, h4, r⟩
  · rw [upd_ne (ne_of_none e h)]
    exact x.kept b u n e
/-- an own object is frozen -/
theorem Ext.frz (x : Ext K so A H A1 H1) {a : Addr} {o : HO} (h : H a = none) (h1 : A1 a = none) (h2 : H1 a = some o) (hs : so ≠ some a) : Ext K so A H (upd A1 a o) H1 := by
  refine ⟨⟨fun b u e => ?_, fun s e => ?_⟩, fun b u e => ?_, x.kept, fun b u e => ?_⟩
  · by_cases z : b = a
    · subst z
      rw [upd_same] at e
      rw [← e]
      exact h2
    · rw [upd_ne z] at e
      exact x.good.sub b u e
  · obtain ⟨h3, L, ns, p', a', b, c, d, h4, h5, r⟩ := x.good.st s e
    have n : s ≠ a := fun z => hs (by rw [e, z])
    exact ⟨by rw [upd_ne n]; exact h3, L, ns, p', a', b, c, d, h4, by rw [upd_ne (ne_of_none h5 h1)]; exact h5, r⟩
  · rw [upd_ne (ne_of_none (x.mono b u e) h1)]
    exact x.mono b u e
  · by_cases z : b = a
    · subst z
      exact .inr h
    · rw [upd_ne z] at e
      exact x.new b u e
end
/-! ### slots -/
inductive Sl where
  | no | fr (d : D) | ow (l : List D) | od (ks vs : List D)
abbrev DEnv := List Sl
/-- is it owned -/
def Sl.own : Sl → Bool
  | .ow _ => true
  | .od _ _ => true
  | _ => false
def SlOk (K : PySem.W.Frag) (so : Option Addr) (Hi A H : Hp) : Sl → Option V → Prop
  | .no, _ => True
  | .fr d, o => ∃ v, o = some v ∧ Da K so A d v
  | .ow l, o => ∃ a xs, o = some (.ref a) ∧ H a = some (.lst xs) ∧ A a = none ∧ Hi a = none ∧ so ≠ some a ∧ DaL K so A l xs
  | .od ks vs, o => ∃ a us, o = some (.ref a) ∧ DicV H a ks us ∧ A a = none ∧ Hi a = none ∧ so ≠ some a ∧ DaL K so A vs us
structure EnvOk (K : PySem.W.Frag) (so : Option Addr) (Hi A H : Hp) (σ : L2.St) (ρ : DEnv) : Prop where
  len : σ.length = ρ.length
  ok : ∀ (i : Nat) (sl : Sl), ρ[i]? = some sl → ∃ o, σ[i]? = some o ∧ SlOk K so Hi A H sl o
  dj : ∀ (i j : Nat) (sl sl' : Sl) (a : Addr), i ≠ j → ρ[i]? = some sl → ρ[j]? = some sl' → sl.own = true → sl'.own = true → σ[i]? = some (some (.ref a)) → σ[j]? = some (some (.ref a)) → False
section
variable {K : PySem.W.Frag} {so : Option Addr} {Hi A H A1 H1 : Hp} {σ : L2.St} {ρ : DEnv}
theorem DicV.there {a : Addr} {ks : List D} {us : List V} (h : DicV H a ks us) : ∃ o, H a = some o := by
  rcases h with ⟨_, h, _⟩ | ⟨_, h, _⟩ <;> exact ⟨_, h⟩
theorem DicV.ext {a : Addr} {ks : List D} {us : List V} (h : DicV H a ks us) (k : ∀ o : HO, H a = some o → H1 a = some o) : DicV H1 a ks us := by
  rcases h with ⟨kvs, h, e⟩ | ⟨kvs, h, e⟩
  · exact .inl ⟨kvs, k _ h, e⟩
  · exact .inr ⟨kvs, k _ h, e⟩
theorem Ext.unfrozen (x : Ext K so A H A1 H1) {a : Addr} {o : HO} (h : A a = none) (h2 : H a = some o) : A1 a = none := by
  cases e : A1 a with
  | none => rfl
  | some u =>
    rcases x.new a u e with z | z
    · rw [h] at z
      cases z
    · rw [h2] at z
      cases z
theorem SlOk.ext (x : Ext K so A H A1 H1) : ∀ {sl : Sl} {o : Option V}, SlOk K so Hi A H sl o → SlOk K so Hi A1 H1 sl o
  | .no, _, h => h
  | .fr d, _, ⟨v, e, h⟩ => ⟨v, e, x.da h⟩
  | .ow l, _, ⟨a, xs, e, h, na, ni, ns, q⟩ => ⟨a, xs, e, x.kept a _ ns h, x.unfrozen na h, ni, ns, x.daL q⟩
  | .od ks vs, _, ⟨a, us, e, h, na, ni, ns, q⟩ => ⟨a, us, e, h.ext (fun o z => x.kept a o ns z), (let ⟨_, z⟩ := h.there; x.unfrozen na z), ni, ns, x.daL q⟩
theorem EnvOk.ext (x : Ext K so A H A1 H1) (h : EnvOk K so Hi A H σ ρ) : EnvOk K so Hi A1 H1 σ ρ :=
  ⟨h.len, fun i sl e => let ⟨o, e2, q⟩ := h.ok i sl e; ⟨o, e2, q.ext x⟩, h.dj⟩
/-- a slot is set: to a value, to what is told of it -/
theorem EnvOk.set {i : Nat} {sl : Sl} {v : V} (h : EnvOk K so Hi A H σ ρ) (q : SlOk K so Hi A H sl (some v))
    (d : sl.own = true → ∀ (j : Nat) (sl' : Sl) (a : Addr), v = .ref a → i ≠ j → ρ[j]? = some sl' → sl'.own = true → σ[j]? = some (some (.ref a)) → False) : EnvOk K so Hi A H (σ.set i (some v)) (ρ.set i sl) := by
  refine ⟨by rw [List.length_set, List.length_set]; exact h.len, fun j sl' e => ?_, fun j k sl1 sl2 a n e1 e2 o1 o2 s1 s2 => ?_⟩
  · by_cases z : i = j
    · subst z
      by_cases hi : i < ρ.length
      · rw [List.getElem?_set_self hi] at e
        cases e
        exact ⟨_, List.getElem?_set_self (by rw [h.len]; exact hi), q⟩
      · rw [List.getElem?_eq_none (by rw [List.length_set]; omega)] at e
        cases e
    · rw [List.getElem?_set_ne z] at e
      rw [List.getElem?_set_ne z]
      exact h.ok j sl' e
  · by_cases z : i = j
    · subst z
      rw [List.getElem?_set_ne n] at e2 s2
      by_cases hi : i < ρ.length
      · rw [List.getElem?_set_self hi] at e1
        rw [List.getElem?_set_self (by rw [h.len]; exact hi)] at s1
        cases e1
        cases s1
        exact d o1 k sl2 a rfl n e2 o2 s2
      · rw [List.getElem?_eq_none (by rw [List.length_set]; omega)] at e1
        cases e1
    · by_cases z2 : i = k
      · subst z2
        rw [List.getElem?_set_ne (Ne.symm n)] at e1 s1
        by_cases hi : i < ρ.length
        · rw [List.getElem?_set_self hi] at e2
          rw [List.getElem?_set_self (by rw [h.len]; exact hi)] at s2
          cases e2
          cases s2
          exact d o2 j sl1 a rfl (Ne.symm n) e1 o1 s1
        · rw [List.getElem?_eq_none (by rw [List.length_set]; omega)] at e2
          cases e2
      · rw [List.getElem?_set_ne z] at e1 s1
        rw [List.getElem?_set_ne z2] at e2 s2
        exact h.dj j k sl1 sl2 a n e1 e2 o1 o2 s1 s2
theorem EnvOk.setFr {i : Nat} {d : D} {v : V} (h : EnvOk K so Hi A H σ ρ) (q : Da K so A d v) : EnvOk K so Hi A H (σ.set i (some v)) (ρ.set i (.fr d)) :=
  h.set ⟨v, rfl, q⟩ fun z => by cases z
theorem SlOk.there {sl : Sl} {a : Addr} (h : SlOk K so Hi A H sl (some (.ref a))) (o : sl.own = true) : ∃ u, H a = some u := by
  cases sl with
  | no => cases o
  | fr d => cases o
  | ow l =>
    obtain ⟨a', xs, e, h, _⟩ := h
    cases e
    exact ⟨_, h⟩
  | od ks vs =>
    obtain ⟨a', us, e, h, _⟩ := h
    cases e
    exact h.there
/-- a new list is owned by slot i -/
theorem EnvOk.setOw {i : Nat} {p : Addr} {l : List D} {xs : List V} {Ai : Hp} (x : Ext K so Ai Hi A H) (h : EnvOk K so Hi A H σ ρ) (hp : H p = none) (q : DaL K so A l xs) :
    EnvOk K so Hi A (upd H p (.lst xs)) (σ.set i (some (.ref p))) (ρ.set i (.ow l)) := by
  have ap : A p = none := by
    cases e : A p with
    | none => rfl
    | some u =>
      rw [x.good.sub p u e] at hp
      cases hp
  refine EnvOk.set (h.ext (Ext.open_ x.good hp)) ⟨p, xs, rfl, upd_same, ap, x.fresh hp, fun z => x.good.ne hp z rfl, q⟩ fun _ j sl' a e n e2 o2 s2 => ?_
  cases e
  obtain ⟨o, e3, z⟩ := h.ok j sl' e2
  rw [s2] at e3
  cases e3
  obtain ⟨u, z⟩ := z.there o2
  rw [hp] at z
  cases z
/-- the object of an owned slot is changed -/
theorem EnvOk.mutOw {i : Nat} {a : Addr} {sl sl' : Sl} {o : HO} (h : EnvOk K so Hi A H σ ρ) (ho : sl.own = true) (e : ρ[i]? = some sl) (es : σ[i]? = some (some (.ref a))) (q : SlOk K so Hi A (upd H a o) sl' (some (.ref a))) : EnvOk K so Hi A (upd H a o) σ (ρ.set i sl') := by
  have hi : i < ρ.length := (List.getElem?_eq_some_iff.mp e).1
  have oth : ∀ (j : Nat) (sl2 : Sl), i ≠ j → ρ[j]? = some sl2 → ∃ o', σ[j]? = some o' ∧ SlOk K so Hi A (upd H a o) sl2 o' := fun j sl2 n e2 => by
    obtain ⟨o2, e3, z⟩ := h.ok j sl2 e2
    refine ⟨o2, e3, ?_⟩
    cases sl2 with
    | no => exact z
    | fr d => exact z
    | ow l =>
      obtain ⟨a2, xs, ea, ha, r⟩ := z
      have na : a2 ≠ a := fun w => h.dj i j _ _ a n e e2 ho rfl es (by rw [e3, ea, w])
      exact ⟨a2, xs, ea, by rw [upd_ne na]; exact ha, r⟩
    | od ks vs =>
      obtain ⟨a2, xs, ea, ha, r⟩ := z
      have na : a2 ≠ a := fun w => h.dj i j _ _ a n e e2 ho rfl es (by rw [e3, ea, w])
      exact ⟨a2, xs, ea, ha.ext fun o' w => by rw [upd_ne na]; exact w, r⟩
  refine ⟨by rw [List.length_set]; exact h.len, fun j sl2 e2 => ?_, fun j k sl1 sl2 b n e1 e2 o1 o2 s1 s2 => ?_⟩
  · by_cases z : i = j
    · subst z
      rw [List.getElem?_set_self hi] at e2
      cases e2
      exact ⟨_, es, q⟩
    · rw [List.getElem?_set_ne z] at e2
      exact oth j sl2 z e2
  · have look : ∀ (m : Nat) (sl3 : Sl), (ρ.set i sl')[m]? = some sl3 → sl3.own = true → ∃ sl4, ρ[m]? = some sl4 ∧ sl4.own = true := fun m sl3 em om => by
      by_cases z : i = m
      · subst z
        exact ⟨_, e, ho⟩
      · rw [List.getElem?_set_ne z] at em
        exact ⟨_, em, om⟩
    obtain ⟨t1, f1, g1⟩ := look j sl1 e1 o1
    obtain ⟨t2, f2, g2⟩ := look k sl2 e2 o2
    exact h.dj j k t1 t2 b n f1 f2 g1 g2 s1 s2
/-- less is told -/
theorem EnvOk.weak {ρ' : DEnv} (h : EnvOk K so Hi A H σ ρ) (hl : ρ'.length = ρ.length) (w : ∀ (i : Nat) (sl : Sl), ρ'[i]? = some sl → sl = .no ∨ ρ[i]? = some sl) : EnvOk K so Hi A H σ ρ' := by
  refine ⟨h.len.trans hl.symm, fun i sl e => ?_, fun i j sl sl' a n e1 e2 o1 o2 s1 s2 => ?_⟩
  · rcases w i sl e with z | z
    · subst z
      have hi : i < ρ'.length := (List.getElem?_eq_some_iff.mp e).1
      have hs : i < σ.length := by rw [h.len, ← hl]; exact hi
      exact ⟨σ[i], List.getElem?_eq_getElem hs, trivial⟩
    · exact h.ok i sl z
  · rcases w i sl e1 with z | z
    · subst z
      cases o1
    · rcases w j sl' e2 with z2 | z2
      · subst z2
        cases o2
      · exact h.dj i j sl sl' a n z z2 o1 o2 s1 s2
end
end My
namespace My
open PySem PySem.Spec PyProof.Rows L2
/-! ### readings over data -/
structure XD where
  C : Addr
  fs : List Str
  vs : List D
structure Gx where
  so : Option Addr
  Ai : Hp
  Hi : Hp
abbrev DE := DEnv → (D → Prop) → (XD → Prop) → Prop
abbrev DT := DEnv → (Bool → Prop) → (XD → Prop) → Prop
abbrev DL := DEnv → (List D → Prop) → (XD → Prop) → Prop
abbrev EXT := L2.St → XK
structure Stt (K : PySem.W.Frag) (g : Gx) (A H : Hp) (σ : L2.St) (ρ : DEnv) : Prop where
  x : Ext K g.so g.Ai g.Hi A H
  e : EnvOk K g.so g.Hi A H σ ρ
def Cont (K : PySem.W.Frag) (so : Option Addr) (A H : Hp) (Qd : D → Prop) (Q : VK) : Prop := ∀ d v A' H', Ext K so A H A' H' → Da K so A' d v → Qd d → Q v H'
def ContT (K : PySem.W.Frag) (so : Option Addr) (A H : Hp) (Qd : Bool → Prop) (Q : Bool → Hp → Prop) : Prop := ∀ b A' H', Ext K so A H A' H' → Qd b → Q b H'
def ContA (K : PySem.W.Frag) (so : Option Addr) (A H : Hp) (Qd : List D → Prop) (Q : List V → Hp → Prop) : Prop := ∀ ds vs A' H', Ext K so A H A' H' → DaL K so A' ds vs → Qd ds → Q vs H'
def ContN (K : PySem.W.Frag) (so : Option Addr) (A H : Hp) (Qd : List D → Prop) (Q : VK) : Prop := ∀ l xs p A' H', Ext K so A H A' H' → H' p = none → DaL K so A' l xs → Qd l → Q (.ref p) (upd H' p (.lst xs))
def ContX (K : PySem.W.Frag) (so : Option Addr) (A H : Hp) (Ed : XD → Prop) (E : XK) : Prop := ∀ x dx A' H' us, Ext K so A H A' H' → H dx = none → H' dx = some (.xd (x.fs.zip us)) → us.length = x.fs.length → DaL K so A' x.vs us → Ed x → E (.ref x.C) (some dx) H'
def lE (K : PySem.W.Frag) (g : Gx) (EX : EXT) (r : DE) : TE := fun σ H Q => ∃ A ρ Qd Ed, Stt K g A H σ ρ ∧ r ρ Qd Ed ∧ Cont K g.so A H Qd Q ∧ ContX K g.so A H Ed (EX σ)
def lT (K : PySem.W.Frag) (g : Gx) (EX : EXT) (r : DT) : TT := fun σ H Q => ∃ A ρ Qd Ed, Stt K g A H σ ρ ∧ r ρ Qd Ed ∧ ContT K g.so A H Qd Q ∧ ContX K g.so A H Ed (EX σ)
def lA (K : PySem.W.Frag) (g : Gx) (EX : EXT) (r : DL) : TA := fun σ H Q => ∃ A ρ Qd Ed, Stt K g A H σ ρ ∧ r ρ Qd Ed ∧ ContA K g.so A H Qd Q ∧ ContX K g.so A H Ed (EX σ)
def lN (K : PySem.W.Frag) (g : Gx) (EX : EXT) (r : DL) : TE := fun σ H Q => ∃ A ρ Qd Ed, Stt K g A H σ ρ ∧ r ρ Qd Ed ∧ ContN K g.so A H Qd Q ∧ ContX K g.so A H Ed (EX σ)
structure PD (X : Cx) (g : Gx) (EX : EXT) (e : Expr) (r : DE) : Prop where
  pe : PE X e (lE X.K g EX r)
structure PDT (X : Cx) (g : Gx) (EX : EXT) (e : Expr) (r : DT) : Prop where
  pt : PT X e (lT X.K g EX r)
structure PDW (X : Cx) (g : Gx) (EX : EXT) (e : Expr) (r : DT) : Prop where
  pw : PW X e (lT X.K g EX r)
structure PDA (X : Cx) (g : Gx) (EX : EXT) (es : List Expr) (r : DL) : Prop where
  pa : PA X es (lA X.K g EX r)
/-- an expression whose value is a new list -/
structure PDN (X : Cx) (g : Gx) (EX : EXT) (e : Expr) (r : DL) : Prop where
  pe : PE X e (lN X.K g EX r)
theorem _root_.L2.PE.imp {X : Cx} {e : Expr} {t t' : TE} (h : PE X e t) (w : ∀ σ H Q, t' σ H Q → t σ H Q) : PE X e t' := ⟨fun pins s σ H Q I q => h.run pins s σ H Q I (w σ H Q q)⟩
theorem _root_.L2.PT.imp {X : Cx} {e : Expr} {t t' : TT} (h : PT X e t) (w : ∀ σ H Q, t' σ H Q → t σ H Q) : PT X e t' := ⟨fun pins s σ H Q I q => h.run pins s σ H Q I (w σ H Q q)⟩
theorem _root_.L2.PW.imp {X : Cx} {e : Expr} {t t' : TT} (h : PW X e t) (w : ∀ σ H Q, t' σ H Q → t σ H Q) : PW X e t' := ⟨fun wh pins s σ H Q I q => h.run wh pins s σ H Q I (w σ H Q q)⟩
theorem _root_.L2.PA.imp {X : Cx} {es : List Expr} {t t' : TA} (h : PA X es t) (w : ∀ σ H Q, t' σ H Q → t σ H Q) : PA X es t' := ⟨fun pos pins s σ H Q I q => h.run pos pins s σ H Q I (w σ H Q q)⟩
theorem Stt.good {K : PySem.W.Frag} {g : Gx} {A H : Hp} {σ : L2.St} {ρ : DEnv} (S : Stt K g A H σ ρ) : Good K g.so A H := S.x.good
theorem Stt.ext {K : PySem.W.Frag} {g : Gx} {A H A1 H1 : Hp} {σ : L2.St} {ρ : DEnv} (S : Stt K g A H σ ρ) (x : Ext K g.so A H A1 H1) : Stt K g A1 H1 σ ρ := ⟨S.x.trans x, S.e.ext x⟩
section
variable {K : PySem.W.Frag} {so : Option Addr} {A H A1 H1 : Hp}
theorem Cont.ext {Qd : D → Prop} {Q : VK} (c : Cont K so A H Qd Q) (x : Ext K so A H A1 H1) : Cont K so A1 H1 Qd Q := fun d v A' H' y => c d v A' H' (x.trans y)
theorem ContT.ext {Qd : Bool → Prop} {Q : Bool → Hp → Prop} (c : ContT K so A H Qd Q) (x : Ext K so A H A1 H1) : ContT K so A1 H1 Qd Q := fun b A' H' y => c b A' H' (x.trans y)
theorem ContA.ext {Qd : List D → Prop} {Q : List V → Hp → Prop} (c : ContA K so A H Qd Q) (x : Ext K so A H A1 H1) : ContA K so A1 H1 Qd Q := fun d v A' H' y => c d v A' H' (x.trans y)
theorem ContN.ext {Qd : List D → Prop} {Q : VK} (c : ContN K so A H Qd Q) (x : Ext K so A H A1 H1) : ContN K so A1 H1 Qd Q := fun l xs p A' H' y => c l xs p A' H' (x.trans y)
theorem ContX.ext {Ed : XD → Prop} {E : XK} (c : ContX K so A H Ed E) (x : Ext K so A H A1 H1) : ContX K so A1 H1 Ed E := fun z dx A' H' us y n => c z dx A' H' us (x.trans y) (x.fresh n)
/-- an end where nothing has changed -/
theorem Cont.now {Qd : D → Prop} {Q : VK} {d : D} {v : V} (c : Cont K so A H Qd Q) (g : Good K so A H) (h : Da K so A d v) (q : Qd d) : Q v H := c d v A H (Ext.refl g) h q
theorem Cont.nowI {Qd : D → Prop} {Q : VK} {i : Int} (c : Cont K so A H Qd Q) (g : Good K so A H) (q : Qd (.int i)) : Q (.int i) H := c.now (d := .int i) g rfl q
theorem Cont.nowB {Qd : D → Prop} {Q : VK} {i : Bool} (c : Cont K so A H Qd Q) (g : Good K so A H) (q : Qd (.bl i)) : Q (.bl i) H := c.now (d := .bl i) g rfl q
theorem Cont.nowS {Qd : D → Prop} {Q : VK} {i : Str} (c : Cont K so A H Qd Q) (g : Good K so A H) (q : Qd (.str i)) : Q (.str i) H := c.now (d := .str i) g rfl q
theorem Cont.nowN {Qd : D → Prop} {Q : VK} (c : Cont K so A H Qd Q) (g : Good K so A H) (q : Qd .non) : Q .non H := c.now (d := .non) g rfl q
theorem Cont.newL {Qd : D → Prop} {Q : VK} (c : Cont K so A H Qd Q) : ContN K so A H (fun l => Qd (.lst l)) Q := fun l xs p A' H' x hp da q => by
  have y := Ext.laid (o := .lst xs) x.good hp
  exact c (.lst l) (.ref p) _ _ (x.trans y) ⟨p, xs, rfl, upd_same, DaL.mono y.mono _ _ da⟩ q
/-- a new tuple -/
theorem Cont.tup {Qd : D → Prop} {Q : VK} {l : List D} {xs : List V} {p : Addr} (c : Cont K so A H Qd Q) (g : Good K so A H) (hp : H p = none) (da : DaL K so A l xs) (q : Qd (.tup l)) : Q (.ref p) (upd H p (.tup xs)) := by
  have y := Ext.laid (o := .tup xs) g hp
  exact c (.tup l) (.ref p) _ _ y ⟨p, xs, rfl, SqT.of upd_same, DaL.mono y.mono _ _ da⟩ q
end
theorem outT {A B : Prop} (h : if true = true then A else B) : A := by simpa using h
theorem outF {A B : Prop} (h : if false = true then A else B) : B := by simpa using h
/-! ### names, constants -/
def rdS (o : Option Sl) (Q : D → Prop) : Prop := match o with
  | some (.fr d) => Q d
  | _ => False
def dVar (i : Nat) : DE := fun ρ Q _ => rdS ρ[i]? Q
def dC (d : D) : DE := fun _ Q _ => Q d
def dNew (r : DL) : DE := fun ρ Q E => r ρ (fun l => Q (.lst l)) E
section
variable {X : Cx} {g : Gx} {EX : EXT} {e a b : Expr} {es : List Expr} {ra rb : DE} {pos : Pos}
theorem pd_var {i : Nat} (h : PE X e (tVar i)) : PD X g EX e (dVar i) := ⟨h.imp fun σ H Q q => by
  obtain ⟨A, ρ, Qd, Ed, S, q, c, cx⟩ := q
  unfold dVar rdS at q
  split at q
  · rename_i d e
    obtain ⟨o, e2, v, e3, da⟩ := S.e.ok _ _ e
    exact ⟨v, by rw [e2, e3], c.now S.good da q⟩
  · exact q.elim⟩
theorem pd_c {v : V} {d : D} (h : PE X e (tC v)) (hd : ∀ so A, Da X.K so A d v) : PD X g EX e (dC d) := ⟨h.imp fun σ H Q q => by
  obtain ⟨A, ρ, Qd, Ed, S, q, c, cx⟩ := q
  exact c.now S.good (hd _ _) q⟩
theorem pd_int {i j p} : PD X g EX (.Constant (.int i) j p) (dC (.int i)) := pd_c pe_int fun _ _ => rfl
theorem pd_bl {i j p} : PD X g EX (.Constant (.bool i) j p) (dC (.bl i)) := pd_c pe_bl fun _ _ => rfl
theorem pd_non {j p} : PD X g EX (.Constant .none j p) (dC .non) := pd_c pe_non fun _ _ => rfl
theorem pd_str {i j p} : PD X g EX (.Constant (.str i) j p) (dC (.str i)) := pd_c pe_str fun _ _ => rfl
theorem pd_new {r : DL} (h : PDN X g EX e r) : PD X g EX e (dNew r) := ⟨h.pe.imp fun σ H Q q => by
  obtain ⟨A, ρ, Qd, Ed, S, q, c, cx⟩ := q
  exact ⟨A, ρ, _, Ed, S, q, c.newL, cx⟩⟩
/-! ### operators -/
abbrev D2 := D → D → (D → Prop) → Prop
def OpL (K : PySem.W.Frag) (r2 : R2) (rr : D2) : Prop := ∀ so A H x y v u Qd Q, Good K so A H → Da K so A x v → Da K so A y u → rr x y Qd → Cont K so A H Qd Q → r2 v u H Q
def dOp (rr : D2) (ra rb : DE) : DE := fun ρ Q E => ra ρ (fun x => rb ρ (fun y => rr x y Q) E) E
theorem lE_op {r2 : R2} {rr : D2} (hl : OpL X.K r2 rr) {σ : L2.St} {H : Hp} {Q : VK} (h : lE X.K g EX (dOp rr ra rb) σ H Q) : tOp r2 (lE X.K g EX ra) (lE X.K g EX rb) σ H Q := by
  obtain ⟨A, ρ, Qd, Ed, S, h, c, cx⟩ := h
  refine ⟨A, ρ, fun x => rb ρ (fun y => rr x y Qd) Ed, Ed, S, h, fun d v A1 H1 x1 da q => ?_, cx⟩
  refine ⟨A1, ρ, fun y => rr d y Qd, Ed, S.ext x1, q, fun d2 v2 A2 H2 x2 da2 q2 => ?_, cx.ext x1⟩
  exact hl g.so A2 H2 d d2 v v2 Qd Q x2.good (x2.da da) da2 q2 ((c.ext x1).ext x2)
theorem pd_op {op : Operator} {r2 : R2} {rr : D2} (ho : OpR X (binaryOp op) r2) (hl : OpL X.K r2 rr) (ha : PD X g EX a ra) (hb : PD X g EX b rb) : PD X g EX (.BinOp a op b pos) (dOp rr ra rb) :=
  ⟨(pe_op ho ha.pe hb.pe).imp fun σ H Q h => lE_op hl h⟩
theorem pd_cmp {op : CmpOp} {r2 : R2} {rr : D2} (ho : OpR X (compareOp op) r2) (hl : OpL X.K r2 rr) (ha : PD X g EX a ra) (hb : PD X g EX b rb) (hm : behindInMarks op b = false) : PD X g EX (.Compare a [op] [b] pos) (dOp rr ra rb) :=
  ⟨(pe_cmpR ho ha.pe hb.pe hm).imp fun σ H Q h => lE_op hl h⟩
theorem pd_ix {r2 : R2} {rr : D2} (hr : IxR X r2) (hl : OpL X.K r2 rr) (ha : PD X g EX a ra) (hb : PD X g EX b rb) (hs : PlainIx b) : PD X g EX (.Subscript a b pos) (dOp rr ra rb) :=
  ⟨(pe_ix hr ha.pe hb.pe hs).imp fun σ H Q h => lE_op hl h⟩
/-- the value is a bool -/
def onB (d : D) (Q : Bool → Prop) : Prop := match d with
  | .bl k => Q k
  | _ => False
theorem onB.out {K : PySem.W.Frag} {so : Option Addr} {A : Hp} {d : D} {v : V} {Q : Bool → Prop} (h : onB d Q) (da : Da K so A d v) : ∃ k, v = .bl k ∧ Q k := by
  unfold onB at h
  split at h
  · exact ⟨_, da, h⟩
  · exact h.elim
def qB (r : DE) : DT := fun ρ Q E => r ρ (fun d => onB d Q) E
theorem lT_B {r : DE} {t : TE} {σ : L2.St} {H : Hp} {Q : Bool → Hp → Prop} (w : ∀ Q, lE X.K g EX r σ H Q → t σ H Q) (h : lT X.K g EX (qB r) σ H Q) : tTest t σ H Q := by
  obtain ⟨A, ρ, Qd, Ed, S, h, c, cx⟩ := h
  refine w _ ⟨A, ρ, _, Ed, S, h, fun d v A1 H1 x1 da q => ?_, cx⟩
  obtain ⟨k, rfl, q⟩ := q.out da
  exact ⟨k, rfl, c k A1 H1 x1 q⟩
theorem pdt_cmp {op : CmpOp} {r2 : R2} {rr : D2} (ho : OpR X (compareOp op) r2) (hl : OpL X.K r2 rr) (ha : PD X g EX a ra) (hb : PD X g EX b rb) (hm : behindInMarks op b = false) : PDT X g EX (.Compare a [op] [b] pos) (qB (dOp rr ra rb)) :=
  ⟨(pt_cmpR ho ha.pe hb.pe hm).imp fun σ H Q h => lT_B (fun Q h => lE_op hl h) h⟩
def dChain (rr rr' : D2) (ra rb rc : DE) : DE := fun ρ Q E => ra ρ (fun x => rb ρ (fun y => rr x y fun z => onB z fun k => if k = true then rc ρ (fun z => rr' y z Q) E else Q (.bl false)) E) E
theorem lE_chain {c : Expr} {rc : DE} {r2 r2' : R2} {rr rr' : D2} (hl : OpL X.K r2 rr) (hl' : OpL X.K r2' rr') {σ : L2.St} {H : Hp} {Q : VK} (h : lE X.K g EX (dChain rr rr' ra rb rc) σ H Q) : tChain r2 r2' (lE X.K g EX ra) (lE X.K g EX rb) (lE X.K g EX rc) σ H Q := by
  obtain ⟨A, ρ, Qd, Ed, S, h, c, cx⟩ := h
  refine ⟨A, ρ, _, Ed, S, h, fun d v A1 H1 x1 da q => ?_, cx⟩
  refine ⟨A1, ρ, _, Ed, S.ext x1, q, fun d2 v2 A2 H2 x2 da2 q2 => ?_, cx.ext x1⟩
  refine hl g.so A2 H2 d d2 v v2 _ _ x2.good (x2.da da) da2 q2 fun z w A3 H3 x3 da3 q3 => ?_
  obtain ⟨k, rfl, q3⟩ := q3.out da3
  refine ⟨k, rfl, ?_⟩
  cases k with
  | true =>
    refine iteT ⟨A3, ρ, _, Ed, ((S.ext x1).ext x2).ext x3, outT q3, fun d4 v4 A4 H4 x4 da4 q4 => ?_, ((cx.ext x1).ext x2).ext x3⟩
    exact hl' g.so A4 H4 d2 d4 v2 v4 _ _ x4.good (x4.da (x3.da da2)) da4 q4 (((c.ext x1).ext x2).ext x3 |>.ext x4)
  | false =>
    refine iteF ?_
    exact c (.bl false) _ A3 H3 ((x1.trans x2).trans x3) rfl (outF q3)
/-! ### tests -/
def qAnd (t u : DT) : DT := fun ρ Q E => t ρ (fun k => if k = true then u ρ Q E else Q false) E
def qOr (t u : DT) : DT := fun ρ Q E => t ρ (fun k => if k = true then Q true else u ρ Q E) E
def qNot (t : DT) : DT := fun ρ Q E => t ρ (fun k => Q (!k)) E
variable {tA tB' : DT} {rest : List Expr}
theorem PDW.t (h : PDW X g EX e tA) : PDT X g EX e tA := ⟨h.pw.pt⟩
theorem pdw_and1 (ha : PDT X g EX a tA) : PDW X g EX (.BoolOp .And [a] pos) tA := ⟨pw_and1 ha.pt⟩
theorem pdw_or1 (ha : PDT X g EX a tA) : PDW X g EX (.BoolOp .Or [a] pos) tA := ⟨pw_or1 ha.pt⟩
theorem pdw_and (ha : PDT X g EX a tA) (hb : PDW X g EX (.BoolOp .And (b :: rest) pos) tB') : PDW X g EX (.BoolOp .And (a :: b :: rest) pos) (qAnd tA tB') := ⟨(pw_and ha.pt hb.pw).imp fun σ H Q h => by
  obtain ⟨A, ρ, Qd, Ed, S, h, c, cx⟩ := h
  refine ⟨A, ρ, _, Ed, S, h, fun k A1 H1 x1 q => ?_, cx⟩
  cases k with
  | true => exact iteT ⟨A1, ρ, _, Ed, S.ext x1, outT q, c.ext x1, cx.ext x1⟩
  | false => exact iteF (c false A1 H1 x1 (outF q))⟩
theorem pdw_or (ha : PDT X g EX a tA) (hb : PDW X g EX (.BoolOp .Or (b :: rest) pos) tB') : PDW X g EX (.BoolOp .Or (a :: b :: rest) pos) (qOr tA tB') := ⟨(pw_or ha.pt hb.pw).imp fun σ H Q h => by
  obtain ⟨A, ρ, Qd, Ed, S, h, c, cx⟩ := h
  refine ⟨A, ρ, _, Ed, S, h, fun k A1 H1 x1 q => ?_, cx⟩
  cases k with
  | true => exact iteT (c true A1 H1 x1 (outT q))
  | false => exact iteF ⟨A1, ρ, _, Ed, S.ext x1, outF q, c.ext x1, cx.ext x1⟩⟩
theorem pdt_not (ha : PDT X g EX a tA) : PDT X g EX (.UnaryOp .Not a pos) (qNot tA) := ⟨(pt_not ha.pt).imp fun σ H Q h => by
  obtain ⟨A, ρ, Qd, Ed, S, h, c, cx⟩ := h
  exact ⟨A, ρ, _, Ed, S, h, fun k A1 H1 x1 q => c (!k) A1 H1 x1 q, cx⟩⟩
/-- truth -/
def truD (d : D) (Q : Bool → Prop) : Prop := match d with
  | .non => Q false
  | .bl k => Q k
  | .int i => Q (i != 0)
  | .str y => y.length ≤ sizeLine ∧ Q ((y.length : Int) != 0)
  | .tup l => Q (!l.isEmpty)
  | .lst l => Q (!l.isEmpty)
  | _ => False
def qTru (r : DE) : DT := fun ρ Q E => r ρ (fun d => truD d Q) E
theorem empty_len {α β : Type} {xs : List α} {ys : List β} (h : xs.length = ys.length) : xs.isEmpty = ys.isEmpty := by
  cases xs <;> cases ys <;> first | rfl | cases h
theorem truD.out {K : PySem.W.Frag} {so : Option Addr} {A H : Hp} {d : D} {v : V} {Q : Bool → Prop} (gd : Good K so A H) (h : truD d Q) (da : Da K so A d v) : ∃ k, TruV K v H k ∧ Q k := by
  cases d with
  | non => exact ⟨_, by cases da; exact rfl, h⟩
  | bl k => exact ⟨_, by cases da; exact rfl, h⟩
  | int i => exact ⟨_, by cases da; exact rfl, h⟩
  | str y => exact ⟨_, by cases da; exact ⟨h.1, rfl⟩, h.2⟩
  | tup l =>
    obtain ⟨p, xs, e, hs, q⟩ := da
    subst e
    exact ⟨_, .inr (.inl ⟨xs, Sub.sqT gd.sub hs, by rw [empty_len q.len]⟩), h⟩
  | lst l =>
    obtain ⟨p, xs, e, hs, q⟩ := da
    subst e
    exact ⟨_, .inl ⟨xs, SqL.of (gd.sub _ _ hs), by rw [empty_len q.len]⟩, h⟩
  | _ => exact h.elim
theorem pdt_tru (ha : PD X g EX a ra) (he : ∀ whole, isTrue a X.env whole = (do let v ← whole; standAt a.pos; holding [v] (truthy v)) := by intro _; rfl) : PDT X g EX a (qTru ra) := ⟨(pt_truth ha.pe he).imp fun σ H Q h => by
  obtain ⟨A, ρ, Qd, Ed, S, h, c, cx⟩ := h
  refine ⟨A, ρ, _, Ed, S, h, fun d v A1 H1 x1 da q => ?_, cx⟩
  obtain ⟨k, t, q⟩ := q.out x1.good da
  exact ⟨k, t, c k A1 H1 x1 q⟩⟩
def dIf (c : DT) (ra rb : DE) : DE := fun ρ Q E => c ρ (fun k => if k = true then ra ρ Q E else rb ρ Q E) E
theorem pd_if {c : Expr} (hc : PDT X g EX c tA) (ha : PD X g EX a ra) (hb : PD X g EX b rb) : PD X g EX (.IfExp c a b pos) (dIf tA ra rb) := ⟨(pe_ifExp hc.pt ha.pe hb.pe).imp fun σ H Q h => by
  obtain ⟨A, ρ, Qd, Ed, S, h, c, cx⟩ := h
  refine ⟨A, ρ, _, Ed, S, h, fun k A1 H1 x1 q => ?_, cx⟩
  cases k with
  | true => exact iteT ⟨A1, ρ, _, Ed, S.ext x1, outT q, c.ext x1, cx.ext x1⟩
  | false => exact iteF ⟨A1, ρ, _, Ed, S.ext x1, outF q, c.ext x1, cx.ext x1⟩⟩
/-- and, or, not as values of bools -/
def dAnd (ra rb : DE) : DE := fun ρ Q E => ra ρ (fun x => onB x fun k => if k = true then rb ρ Q E else Q (.bl false)) E
def dOr (ra rb : DE) : DE := fun ρ Q E => ra ρ (fun x => onB x fun k => if k = true then Q (.bl true) else rb ρ Q E) E
def dNot (ra : DE) : DE := fun ρ Q E => ra ρ (fun x => onB x fun k => Q (.bl (!k))) E
theorem pd_one {op} (h : PD X g EX a ra) : PD X g EX (.BoolOp op [a] pos) ra := ⟨pe_one h.pe⟩
theorem pd_and (ha : PD X g EX a ra) (hb : PD X g EX (.BoolOp .And (b :: rest) pos) rb) : PD X g EX (.BoolOp .And (a :: b :: rest) pos) (dAnd ra rb) := ⟨(pe_and ha.pe hb.pe).imp fun σ H Q h => by
  obtain ⟨A, ρ, Qd, Ed, S, h, c, cx⟩ := h
  refine ⟨A, ρ, _, Ed, S, h, fun d v A1 H1 x1 da q => ?_, cx⟩
  obtain ⟨k, rfl, q⟩ := q.out da
  refine ⟨k, rfl, ?_⟩
  cases k with
  | true => exact iteT ⟨A1, ρ, _, Ed, S.ext x1, outT q, c.ext x1, cx.ext x1⟩
  | false => exact iteF (c (.bl false) _ A1 H1 x1 rfl (outF q))⟩
theorem pd_or (ha : PD X g EX a ra) (hb : PD X g EX (.BoolOp .Or (b :: rest) pos) rb) : PD X g EX (.BoolOp .Or (a :: b :: rest) pos) (dOr ra rb) := ⟨(pe_or ha.pe hb.pe).imp fun σ H Q h => by
  obtain ⟨A, ρ, Qd, Ed, S, h, c, cx⟩ := h
  refine ⟨A, ρ, _, Ed, S, h, fun d v A1 H1 x1 da q => ?_, cx⟩
  obtain ⟨k, rfl, q⟩ := q.out da
  refine ⟨k, rfl, ?_⟩
  cases k with
  | true => exact iteT (c (.bl true) _ A1 H1 x1 rfl (outT q))
  | false => exact iteF ⟨A1, ρ, _, Ed, S.ext x1, outF q, c.ext x1, cx.ext x1⟩⟩
theorem pd_not (ha : PD X g EX a ra) : PD X g EX (.UnaryOp .Not a pos) (dNot ra) := ⟨(pe_not ha.pe).imp fun σ H Q h => by
  obtain ⟨A, ρ, Qd, Ed, S, h, c, cx⟩ := h
  refine ⟨A, ρ, _, Ed, S, h, fun d v A1 H1 x1 da q => ?_, cx⟩
  obtain ⟨k, rfl, q⟩ := q.out da
  exact ⟨k, rfl, c (.bl (!k)) _ A1 H1 x1 rfl q⟩⟩
def dUn (f : D → (D → Prop) → Prop) (ra : DE) : DE := fun ρ Q E => ra ρ (fun x => f x Q) E
def ddNeg (d : D) (Q : D → Prop) : Prop := match d with
  | .int i => Q (.int (-i))
  | _ => False
theorem pd_neg (ha : PD X g EX a ra) : PD X g EX (.UnaryOp .USub a pos) (dUn ddNeg ra) := ⟨(pe_un un_neg ha.pe).imp fun σ H Q h => by
  obtain ⟨A, ρ, Qd, Ed, S, h, c, cx⟩ := h
  refine ⟨A, ρ, _, Ed, S, h, fun d v A1 H1 x1 da q => ?_, cx⟩
  have q : ddNeg d Qd := q
  unfold ddNeg at q
  split at q
  · exact ⟨_, da, c (.int _) _ A1 H1 x1 rfl q⟩
  · exact q.elim⟩
/-! ### lists of arguments, displays -/
def lNil : DL := fun _ Q _ => Q []
def lCons (r : DE) (t : DL) : DL := fun ρ Q E => r ρ (fun d => t ρ (fun l => Q (d :: l)) E) E
variable {r : DE} {t : DL}
theorem pda_nil : PDA X g EX [] lNil := ⟨pa_nil.imp fun σ H Q h => by
  obtain ⟨A, ρ, Qd, Ed, S, h, c, cx⟩ := h
  exact c [] [] A H (Ext.refl S.good) rfl h⟩
theorem pda_cons (ha : PD X g EX e r) (hr : PDA X g EX es t) (hs : starEach (e :: es) X.env = (false, eval e X.env) :: starEach es X.env := by rfl) : PDA X g EX (e :: es) (lCons r t) := ⟨(pa_cons ha.pe hr.pa hs).imp fun σ H Q h => by
  obtain ⟨A, ρ, Qd, Ed, S, h, c, cx⟩ := h
  refine ⟨A, ρ, _, Ed, S, h, fun d v A1 H1 x1 da q => ?_, cx⟩
  refine ⟨A1, ρ, _, Ed, S.ext x1, q, fun ds vs A2 H2 x2 das q2 => ?_, cx.ext x1⟩
  exact c (d :: ds) (v :: vs) A2 H2 (x1.trans x2) ⟨v, vs, rfl, x2.da da, das⟩ q2⟩
def dTup (t : DL) : DE := fun ρ Q E => t ρ (fun l => l.length ≤ sizeLine ∧ Q (.tup l)) E
def nLst (t : DL) : DL := fun ρ Q E => t ρ (fun l => l.length ≤ sizeLine ∧ Q l) E
theorem pd_tup {x1} (h : PDA X g EX es t) : PD X g EX (.Tuple es x1 pos) (dTup t) := ⟨(pe_tup h.pa).imp fun σ H Q h => by
  obtain ⟨A, ρ, Qd, Ed, S, h, c, cx⟩ := h
  refine ⟨A, ρ, _, Ed, S, h, fun ds vs A1 H1 x1 das q => ?_, cx⟩
  exact ⟨by rw [das.len]; exact q.1, fun p hp => (c.ext x1).tup x1.good hp das q.2⟩⟩
theorem pdn_lst (h : PDA X g EX es t) : PDN X g EX (.List es pos) (nLst t) := ⟨(pe_lst h.pa).imp fun σ H Q h => by
  obtain ⟨A, ρ, Qd, Ed, S, h, c, cx⟩ := h
  refine ⟨A, ρ, _, Ed, S, h, fun ds vs A1 H1 x1 das q => ?_, cx⟩
  exact ⟨by rw [das.len]; exact q.1, fun p hp => c ds vs p A1 H1 x1 hp das q.2⟩⟩
end
end My
namespace My
open PySem PySem.Spec PyProof.Rows L2
/-! ### operators over data -/
def CDivZ (_ j : Int) : Prop := j ≠ 0 ∧ j.natAbs.log2 < 9000
theorem op_fdivZ {X : Cx} : OpR X (binaryOp .FloorDiv) (rI CDivZ fun i j => .int (i.fdiv j)) := opI fun _ _ _ _ _ _ _ hc q => floordiv_int hc.1 q (.inl (PyProof.noPylong_of_log2 hc.2))
def ddI (C : Int → Int → Prop) (f : Int → Int → D) : D2 := fun x y Q => match x, y with
  | .int i, .int j => C i j ∧ Q (f i j)
  | _, _ => False
theorem ol_I {K : PySem.W.Frag} {C : Int → Int → Prop} {f : Int → Int → D} {h : Int → Int → V} (hf : ∀ i j so A, Da K so A (f i j) (h i j)) : OpL K (rI C h) (ddI C f) := by
  intro so A H x y v u Qd Q gd dx dy q c
  unfold ddI at q
  split at q
  · exact ⟨_, _, dx, dy, q.1, c.now gd (hf _ _ _ _) q.2⟩
  · exact q.elim
def ddI0 (f : Int → Int → D) : D2 := fun x y Q => match x, y with
  | .int i, .int j => Q (f i j)
  | _, _ => False
theorem ol_I0 {K : PySem.W.Frag} {f : Int → Int → D} {h : Int → Int → V} (hf : ∀ i j so A, Da K so A (f i j) (h i j)) : OpL K (rI0 h) (ddI0 f) := by
  intro so A H x y v u Qd Q gd dx dy q c
  unfold ddI0 at q
  split at q
  · exact ⟨_, _, dx, dy, c.now gd (hf _ _ _ _) q⟩
  · exact q.elim
/-- x + y -/
def ddAdd : D2 := fun x y Q => match x, y with
  | .int i, .int j => Q (.int (i + j))
  | .str i, .str j => i.length + j.length ≤ sizeLine ∧ Q (.str (i ++ j))
  | .tup l, .tup m => l ≠ [] ∧ l.length + m.length ≤ sizeLine ∧ Q (.tup (l ++ m))
  | .lst l, .lst m => l.length + m.length ≤ sizeLine ∧ Q (.lst (l ++ m))
  | _, _ => False
def rAdd4 (K : PySem.W.Frag) : R2 := fun x y H Q => rI0 (fun i j => .int (i + j)) x y H Q ∨ rAddS x y H Q ∨ rCatT K x y H Q ∨ rCat x y H Q
theorem oo_add {X : Cx} : OpR X (binaryOp .Add) (rAdd4 X.K) := op_add.or (o_addS.or (op_catT.or op_cat))
theorem ol_add {K : PySem.W.Frag} : OpL K (rAdd4 K) ddAdd := by
  intro so A H x y v u Qd Q gd dx dy q c
  unfold ddAdd at q
  split at q
  · exact .inl ⟨_, _, dx, dy, c.nowI gd q⟩
  · exact .inr (.inl ⟨_, _, dx, dy, q.1, c.nowS gd q.2⟩)
  · obtain ⟨a, xs, rfl, hs, qa⟩ := dx
    obtain ⟨b, ys, rfl, ht, qb⟩ := dy
    refine .inr (.inr (.inl ⟨a, b, xs, ys, rfl, rfl, Sub.sqT gd.sub hs, Sub.sqT gd.sub ht, fun e => q.1 ?_, by rw [qa.len, qb.len]; exact q.2.1, fun e => ?_, fun e p hp => c.tup gd hp (qa.app qb) q.2.2⟩))
    · have z := qa.len
      rw [e] at z
      exact List.eq_nil_of_length_eq_zero z.symm
    · have z := qb.len
      rw [e] at z
      have z := List.eq_nil_of_length_eq_zero z.symm
      subst z
      have q := q.2.2
      rw [List.append_nil] at q
      exact c.now (d := .tup _) gd ⟨a, xs, rfl, hs, qa⟩ q
  · obtain ⟨a, xs, rfl, hs, qa⟩ := dx
    obtain ⟨b, ys, rfl, ht, qb⟩ := dy
    exact .inr (.inr (.inr ⟨a, b, xs, ys, rfl, rfl, gd.sub _ _ hs, gd.sub _ _ ht, by rw [qa.len, qb.len]; exact q.1, fun p hp => c.newL _ _ p A H (Ext.refl gd) hp (qa.app qb) q.2⟩))
  · exact q.elim
theorem ol_sub {K : PySem.W.Frag} : OpL K (rI0 fun i j => .int (i - j)) (ddI0 fun i j => .int (i - j)) := ol_I0 fun _ _ _ _ => rfl
theorem ol_mul {K : PySem.W.Frag} : OpL K (rI CMulW fun i j => .int (i * j)) (ddI CMulW fun i j => .int (i * j)) := ol_I fun _ _ _ _ => rfl
theorem ol_fdiv {K : PySem.W.Frag} : OpL K (rI CDivZ fun i j => .int (i.fdiv j)) (ddI CDivZ fun i j => .int (i.fdiv j)) := ol_I fun _ _ _ _ => rfl
theorem ol_mod {K : PySem.W.Frag} : OpL K (rI (fun _ j => j ≠ 0) fun i j => .int (i.fmod j)) (ddI (fun _ j => j ≠ 0) fun i j => .int (i.fmod j)) := ol_I fun _ _ _ _ => rfl
theorem ol_pow {K : PySem.W.Frag} : OpL K (rI CPow fun i j => .int (i ^ j.toNat)) (ddI CPow fun i j => .int (i ^ j.toNat)) := ol_I fun _ _ _ _ => rfl
theorem ol_lt {K : PySem.W.Frag} : OpL K (rI0 fun i j => .bl (decide (i < j))) (ddI0 fun i j => .bl (decide (i < j))) := ol_I0 fun _ _ _ _ => rfl
theorem ol_le {K : PySem.W.Frag} : OpL K (rI0 fun i j => .bl (decide (i ≤ j))) (ddI0 fun i j => .bl (decide (i ≤ j))) := ol_I0 fun _ _ _ _ => rfl
theorem ol_gt {K : PySem.W.Frag} : OpL K (rI0 fun i j => .bl (decide (j < i))) (ddI0 fun i j => .bl (decide (j < i))) := ol_I0 fun _ _ _ _ => rfl
theorem ol_ge {K : PySem.W.Frag} : OpL K (rI0 fun i j => .bl (decide (j ≤ i))) (ddI0 fun i j => .bl (decide (j ≤ i))) := ol_I0 fun _ _ _ _ => rfl
/-- is None, is True: y is the constant -/
def isNonD : D → Bool
  | .non => true
  | _ => false
def isBlD (b : Bool) : D → Bool
  | .bl c => c == b
  | _ => false
theorem Da.isN {K : PySem.W.Frag} {so : Option Addr} {A : Hp} {d : D} {v : V} (h : Da K so A d v) : decide (v = .non) = isNonD d := by
  cases d with
  | non => cases h; rfl
  | bl _ => cases h; rfl
  | int _ => cases h; rfl
  | str _ => cases h; rfl
  | tup _ => obtain ⟨_, _, rfl, _⟩ := h; rfl
  | lst _ => obtain ⟨_, _, rfl, _⟩ := h; rfl
  | dct _ _ => obtain ⟨_, _, rfl, _⟩ := h; rfl
  | ins _ _ _ => obtain ⟨_, _, _, rfl, _⟩ := h; rfl
  | scr _ => obtain ⟨_, rfl, _⟩ := h; rfl
  | sto => obtain ⟨_, rfl, _⟩ := h; rfl
  | exc _ => cases h; rfl
  | err _ _ _ => obtain ⟨_, _, rfl, _⟩ := h; rfl
theorem Da.isB {K : PySem.W.Frag} {so : Option Addr} {A : Hp} {d : D} {v : V} {b : Bool} (h : Da K so A d v) : decide (v = .bl b) = isBlD b d := by
  cases d with
  | bl c =>
    cases h
    show decide (V.bl c = V.bl b) = (c == b)
    exact dec_bl
  | non => cases h; rfl
  | int _ => cases h; rfl
  | str _ => cases h; rfl
  | tup _ => obtain ⟨_, _, rfl, _⟩ := h; rfl
  | lst _ => obtain ⟨_, _, rfl, _⟩ := h; rfl
  | dct _ _ => obtain ⟨_, _, rfl, _⟩ := h; rfl
  | ins _ _ _ => obtain ⟨_, _, _, rfl, _⟩ := h; rfl
  | scr _ => obtain ⟨_, rfl, _⟩ := h; rfl
  | sto => obtain ⟨_, rfl, _⟩ := h; rfl
  | exc _ => cases h; rfl
  | err _ _ _ => obtain ⟨_, _, rfl, _⟩ := h; rfl
def ddIsN (neg : Bool) : D2 := fun x y Q => match y with
  | .non => Q (.bl (neg != isNonD x))
  | _ => False
theorem ol_isN {K : PySem.W.Frag} : OpL K rIsN (ddIsN false) := by
  intro so A H x y v u Qd Q gd dx dy q c
  unfold ddIsN at q
  split at q
  · refine ⟨dy, ?_⟩
    rw [dx.isN]
    exact c.nowB gd (by simpa using q)
  · exact q.elim
theorem ol_notN {K : PySem.W.Frag} : OpL K rNotN (ddIsN true) := by
  intro so A H x y v u Qd Q gd dx dy q c
  unfold ddIsN at q
  split at q
  · refine ⟨dy, ?_⟩
    rw [dx.isN]
    exact c.nowB gd (by simpa using q)
  · exact q.elim
def ddIsB : D2 := fun x y Q => match y with
  | .bl b => Q (.bl (isBlD b x))
  | _ => False
theorem ol_isB {K : PySem.W.Frag} : OpL K rIsBQ ddIsB := by
  intro so A H x y v u Qd Q gd dx dy q c
  unfold ddIsB at q
  split at q
  · refine ⟨_, dy, ?_⟩
    rw [dx.isB]
    exact c.nowB gd q
  · exact q.elim
/-! ### == -/
mutual
def pyD : D → Option PyData
  | .non => some .none
  | .bl b => some (.bool b)
  | .int i => some (.int i)
  | .str x => some (.str x)
  | .tup l => (pyL l).map .tuple
  | .lst l => (pyL l).map .list
  | _ => none
def pyL : List D → Option (List PyData)
  | [] => some []
  | d :: l => (pyD d).bind fun x => (pyL l).map fun r => x :: r
end
mutual
theorem Da.py {K : PySem.W.Frag} {so : Option Addr} {A : Hp} : ∀ (d : D) (v : V) (z : PyData), Da K so A d v → pyD d = some z → Dp K A v z
  | .non, _, _, h, e => by cases h; cases e; exact .non
  | .bl b, _, _, h, e => by cases h; cases e; exact .bl _
  | .int b, _, _, h, e => by cases h; cases e; exact .int _
  | .str b, _, _, h, e => by cases h; cases e; exact .str _
  | .tup l, _, _, ⟨a, xs, e1, hs, q⟩, e => by
    subst e1
    unfold pyD at e
    cases h : pyL l with
    | none =>
      rw [h] at e
      cases e
    | some r =>
      rw [h] at e
      cases e
      exact .tup hs (DaL.py l xs r q h)
  | .lst l, _, _, ⟨a, xs, e1, hs, q⟩, e => by
    subst e1
    unfold pyD at e
    cases h : pyL l with
    | none =>
      rw [h] at e
      cases e
    | some r =>
      rw [h] at e
      cases e
      exact .lst (SqL.of hs) (DaL.py l xs r q h)
  | .dct _ _, _, _, _, e => by cases e
  | .ins _ _ _, _, _, _, e => by cases e
  | .scr _, _, _, _, e => by cases e
  | .sto, _, _, _, e => by cases e
  | .exc _, _, _, _, e => by cases e
  | .err _ _ _, _, _, _, e => by cases e
theorem DaL.py {K : PySem.W.Frag} {so : Option Addr} {A : Hp} : ∀ (l : List D) (vs : List V) (zs : List PyData), DaL K so A l vs → pyL l = some zs → DpAll K A vs zs
  | [], _, _, h, e => by
    have h : _ = _ := h
    subst h
    cases e
    exact .nil
  | d :: l, _, _, ⟨x, r, e1, h, q⟩, e => by
    subst e1
    unfold pyL at e
    cases h1 : pyD d with
    | none =>
      rw [h1] at e
      cases e
    | some z =>
      rw [h1] at e
      cases h2 : pyL l with
      | none =>
        rw [h2] at e
        cases e
      | some zs =>
        rw [h2] at e
        cases e
        exact .cons (Da.py d x z h h1) (DaL.py l r zs q h2)
end
def ddEqP (neg : Bool) : D2 := fun x y Q => ∃ a b, pyD x = some a ∧ pyD y = some b ∧ SeqAt.shaped a = true ∧ SeqAt.shaped b = true ∧ Q (.bl (neg != PyData.eqv a b))
def ddEq (neg : Bool) : D2 := fun x y Q => match x, y with
  | .int i, .int j => Q (.bl (neg != decide (i = j)))
  | .str i, .str j => Q (.bl (neg != decide (i = j)))
  | .bl i, .bl j => Q (.bl (neg != decide (i = j)))
  | .non, .non => Q (.bl (!neg))
  | x, y => ddEqP neg x y Q
def rEq2 (K : PySem.W.Frag) : R2 := fun x y H Q => rEq x y H Q ∨ rEqD K x y H Q
def rNe2 (K : PySem.W.Frag) : R2 := fun x y H Q => rNe x y H Q ∨ rNeD K x y H Q
theorem oo_eq {X : Cx} (hu : X.A.units + 64 < cLine) : OpR X (compareOp .Eq) (rEq2 X.K) := op_eq.or (op_eqD hu)
theorem oo_ne {X : Cx} (hu : X.A.units + 64 < cLine) : OpR X (compareOp .NotEq) (rNe2 X.K) := op_ne.or (op_neD hu)
theorem ol_eq {K : PySem.W.Frag} : OpL K (rEq2 K) (ddEq false) := by
  intro so A H x y v u Qd Q gd dx dy q c
  unfold ddEq at q
  split at q
  · have dx : v = _ := dx
    have dy : u = _ := dy
    subst dx dy
    refine .inl ⟨rfl, c.nowB gd ?_⟩
    rw [L2.dec_int, Bool.beq_eq_decide_eq]
    simpa using q
  · have dx : v = _ := dx
    have dy : u = _ := dy
    subst dx dy
    refine .inl ⟨rfl, c.nowB gd ?_⟩
    rw [dec_str, Bool.beq_eq_decide_eq]
    simpa using q
  · have dx : v = _ := dx
    have dy : u = _ := dy
    subst dx dy
    refine .inl ⟨rfl, c.nowB gd ?_⟩
    rw [dec_bl, Bool.beq_eq_decide_eq]
    simpa using q
  · have dx : v = _ := dx
    have dy : u = _ := dy
    subst dx dy
    exact .inl ⟨rfl, c.nowB gd q⟩
  · obtain ⟨a, b, h1, h2, s1, s2, q⟩ := q
    exact .inr ⟨a, b, (gd.da dx).py _ _ _ h1, (gd.da dy).py _ _ _ h2, s1, s2, c.nowB gd (by simpa using q)⟩
theorem ol_ne {K : PySem.W.Frag} : OpL K (rNe2 K) (ddEq true) := by
  intro so A H x y v u Qd Q gd dx dy q c
  unfold ddEq at q
  split at q
  · have dx : v = _ := dx
    have dy : u = _ := dy
    subst dx dy
    refine .inl ⟨rfl, c.nowB gd ?_⟩
    rw [L2.dec_int, Bool.beq_eq_decide_eq]
    simpa using q
  · have dx : v = _ := dx
    have dy : u = _ := dy
    subst dx dy
    refine .inl ⟨rfl, c.nowB gd ?_⟩
    rw [dec_str, Bool.beq_eq_decide_eq]
    simpa using q
  · have dx : v = _ := dx
    have dy : u = _ := dy
    subst dx dy
    refine .inl ⟨rfl, c.nowB gd ?_⟩
    rw [dec_bl, Bool.beq_eq_decide_eq]
    simpa using q
  · have dx : v = _ := dx
    have dy : u = _ := dy
    subst dx dy
    exact .inl ⟨rfl, c.nowB gd q⟩
  · obtain ⟨a, b, h1, h2, s1, s2, q⟩ := q
    exact .inr ⟨a, b, (gd.da dx).py _ _ _ h1, (gd.da dy).py _ _ _ h2, s1, s2, c.nowB gd (by simpa using q)⟩
/-! ### items -/
def ddIx : D2 := fun x y Q => match x, y with
  | .tup l, .int i => ∃ d, atI l i = some d ∧ Q d
  | .lst l, .int i => ∃ d, atI l i = some d ∧ Q d
  | .str z, .int i => z.length ≤ sizeLine ∧ ∃ c, atI z.cps.toList i = some c ∧ Q (.str ⟨#[c]⟩)
  | _, _ => False
theorem ol_ix {K : PySem.W.Frag} : OpL K (rIx K) ddIx := by
  intro so A H x y v u Qd Q gd dx dy q c
  unfold ddIx at q
  split at q
  · obtain ⟨a, xs, rfl, hs, qa⟩ := dx
    obtain ⟨d, e, q⟩ := q
    obtain ⟨w, e2, dw⟩ := qa.atI e
    exact .inr (.inl ⟨a, xs, _, w, rfl, dy, Sub.sqT gd.sub hs, e2, c.now gd dw q⟩)
  · obtain ⟨a, xs, rfl, hs, qa⟩ := dx
    obtain ⟨d, e, q⟩ := q
    obtain ⟨w, e2, dw⟩ := qa.atI e
    exact .inl ⟨a, xs, _, w, rfl, dy, SqL.of (gd.sub _ _ hs), e2, c.now gd dw q⟩
  · obtain ⟨hz, cc, e, q⟩ := q
    exact .inr (.inr ⟨_, _, cc, dx, dy, hz, e, c.nowS gd q⟩)
  · exact q.elim
/-! ### calls of built-ins -/
abbrev DCall := List D → (D → Prop) → Prop
def CallL (K : PySem.W.Frag) (r : List V → Hp → VK → Prop) (rr : DCall) : Prop := ∀ so A H ds vs Qd Q, Good K so A H → DaL K so A ds vs → rr ds Qd → Cont K so A H Qd Q → r vs H Q
def dCB (rr : DCall) (t : DL) : DE := fun ρ Q E => t ρ (fun ds => rr ds Q) E
section
variable {X : Cx} {g : Gx} {EX : EXT} {e a b : Expr} {es : List Expr} {ra rb : DE} {pos p : Pos} {t : DL} {id T : String} {x : Str}
theorem pd_callB {r : List V → Hp → VK → Prop} {rr : DCall} (hc : CallR X (.builtin id) r) (hl : CallL X.K r rr) (hg : Gl X x) (hm : X.mg x = none) (hv : bootBuiltins x = some (.builtin id)) (ha : PDA X g EX (e :: es) t) (hn : x ≠ "__name__" := by decide) (hdb : (x == ("__debug__" : Str)) = false := by decide)
    (he : starEach (e :: es) X.env = (false, eval e X.env) :: starEach es X.env := by rfl) (hpl : (backTo pos (starEach es X.env)).any (·.1) = false := by rfl) : PD X g EX (.Call (.Name x p) (e :: es) [] pos) (dCB rr t) :=
  ⟨(pe_callB hc hg hm hv ha.pa hn hdb he hpl).imp fun σ H Q h => by
  obtain ⟨A, ρ, Qd, Ed, S, h, c, cx⟩ := h
  refine ⟨A, ρ, _, Ed, S, h, fun ds vs A1 H1 x1 das q => ?_, cx⟩
  exact hl g.so A1 H1 ds vs Qd Q x1.good das q (c.ext x1)⟩
theorem pd_callTy {r : List V → Hp → VK → Prop} {rr : DCall} (hc : CallR X (.type T) r) (hl : CallL X.K r rr) (hg : Gl X x) (hm : X.mg x = none) (hv : bootBuiltins x = some (.type T)) (ha : PDA X g EX (e :: es) t) (hn : x ≠ "__name__" := by decide) (hdb : (x == ("__debug__" : Str)) = false := by decide)
    (he : starEach (e :: es) X.env = (false, eval e X.env) :: starEach es X.env := by rfl) (hpl : (backTo pos (starEach es X.env)).any (·.1) = false := by rfl) : PD X g EX (.Call (.Name x p) (e :: es) [] pos) (dCB rr t) :=
  ⟨(pe_callTy hc hg hm hv ha.pa hn hdb he hpl).imp fun σ H Q h => by
  obtain ⟨A, ρ, Qd, Ed, S, h, c, cx⟩ := h
  refine ⟨A, ρ, _, Ed, S, h, fun ds vs A1 H1 x1 das q => ?_, cx⟩
  exact hl g.so A1 H1 ds vs Qd Q x1.good das q (c.ext x1)⟩
end
/-- len -/
def ddLen : DCall := fun ds Q => match ds with
  | [.tup l] => Q (.int l.length)
  | [.lst l] => Q (.int l.length)
  | [.str z] => z.length ≤ sizeLine ∧ Q (.int z.length)
  | _ => False
theorem DaL.one' {K : PySem.W.Frag} {so : Option Addr} {A : Hp} {d : D} {vs : List V} (h : DaL K so A [d] vs) : ∃ v, vs = [v] ∧ Da K so A d v := by
  obtain ⟨v, r, e, dv, e2⟩ := h
  have e2 : r = [] := e2
  subst e2
  exact ⟨v, e, dv⟩
theorem DaL.two' {K : PySem.W.Frag} {so : Option Addr} {A : Hp} {d d2 : D} {vs : List V} (h : DaL K so A [d, d2] vs) : ∃ v w, vs = [v, w] ∧ Da K so A d v ∧ Da K so A d2 w := by
  obtain ⟨v, r, e, dv, h2⟩ := h
  obtain ⟨w, rfl, dw⟩ := DaL.one' h2
  exact ⟨v, w, e, dv, dw⟩
def rLen2 (K : PySem.W.Frag) : List V → Hp → VK → Prop := fun xs H Q => rLenQ K xs H Q ∨ rLenSQ xs H Q
theorem oo_len {X : Cx} : CallR X (.builtin "len") (rLen2 X.K) := c_len.or c_lenS
theorem cl_len {K : PySem.W.Frag} : CallL K (rLen2 K) ddLen := by
  intro so A H ds vs Qd Q gd da q c
  unfold ddLen at q
  split at q
  · obtain ⟨v, rfl, a, xs, rfl, hs, qa⟩ := da.one'
    exact .inl ⟨a, xs, rfl, .inr (Sub.sqT gd.sub hs), by rw [qa.len]; exact c.nowI gd q⟩
  · obtain ⟨v, rfl, a, xs, rfl, hs, qa⟩ := da.one'
    exact .inl ⟨a, xs, rfl, .inl (SqL.of (gd.sub _ _ hs)), by rw [qa.len]; exact c.nowI gd q⟩
  · obtain ⟨v, rfl, dv⟩ := da.one'
    have dv : v = _ := dv
    subst dv
    exact .inr ⟨_, rfl, q.1, c.nowI gd q.2⟩
  · exact q.elim
/-- int, abs, max, min of ints -/
def ddInt1 : DCall := fun ds Q => match ds with
  | [.int i] => Q (.int i)
  | [.bl k] => Q (.int (if k = true then 1 else 0))
  | _ => False
theorem cl_int1 {K : PySem.W.Frag} : CallL K rInt1 ddInt1 := by
  intro so A H ds vs Qd Q gd da q c
  unfold ddInt1 at q
  split at q
  · obtain ⟨v, rfl, dv⟩ := da.one'
    have dv : v = _ := dv
    subst dv
    exact .inl ⟨_, rfl, c.nowI gd q⟩
  · obtain ⟨v, rfl, dv⟩ := da.one'
    have dv : v = _ := dv
    subst dv
    exact .inr ⟨_, rfl, c.nowI gd q⟩
  · exact q.elim
def ddAbs : DCall := fun ds Q => match ds with
  | [.int i] => Q (.int (if i < 0 then -i else i))
  | _ => False
theorem cl_abs {K : PySem.W.Frag} : CallL K rAbsQ ddAbs := by
  intro so A H ds vs Qd Q gd da q c
  unfold ddAbs at q
  split at q
  · obtain ⟨v, rfl, dv⟩ := da.one'
    have dv : v = _ := dv
    subst dv
    exact ⟨_, rfl, c.nowI gd q⟩
  · exact q.elim
def ddMM (f : Int → Int → Int) : DCall := fun ds Q => match ds with
  | [.int i, .int j] => Q (.int (f i j))
  | _ => False
theorem cl_max2 {K : PySem.W.Frag} : CallL K rMaxQ (ddMM fun i j => if j > i then j else i) := by
  intro so A H ds vs Qd Q gd da q c
  unfold ddMM at q
  split at q
  · obtain ⟨v, w, rfl, dv, dw⟩ := da.two'
    have dv : v = _ := dv
    have dw : w = _ := dw
    subst dv dw
    exact ⟨_, _, rfl, c.nowI gd q⟩
  · exact q.elim
theorem cl_min2 {K : PySem.W.Frag} : CallL K rMinQ (ddMM fun i j => if j < i then j else i) := by
  intro so A H ds vs Qd Q gd da q c
  unfold ddMM at q
  split at q
  · obtain ⟨v, w, rfl, dv, dw⟩ := da.two'
    have dv : v = _ := dv
    have dw : w = _ := dw
    subst dv dw
    exact ⟨_, _, rfl, c.nowI gd q⟩
  · exact q.elim
/-- tuple(x) -/
def ddTuple : DCall := fun ds Q => match ds with
  | [.tup l] => Q (.tup l)
  | [.lst l] => Q (.tup l)
  | _ => False
def rTupleQ (K : PySem.W.Frag) : List V → Hp → VK → Prop := fun xs H Q => ∃ p ys, xs = [.ref p] ∧ ((SqL K H p ys ∧ ∀ l, H l = none → Q (.ref l) (upd H l (.tup ys))) ∨ (SqT K H p ys ∧ Q (.ref p) H))
theorem oo_tuple {X : Cx} : CallR X (.type "tuple") (rTupleQ X.K) := call_tuple_of
theorem cl_tuple {K : PySem.W.Frag} : CallL K (rTupleQ K) ddTuple := by
  intro so A H ds vs Qd Q gd da q c
  unfold ddTuple at q
  split at q
  · obtain ⟨v, rfl, a, xs, rfl, hs, qa⟩ := da.one'
    exact ⟨a, xs, rfl, .inr ⟨Sub.sqT gd.sub hs, c.now (d := .tup _) gd ⟨a, xs, rfl, hs, qa⟩ q⟩⟩
  · obtain ⟨v, rfl, a, xs, rfl, hs, qa⟩ := da.one'
    exact ⟨a, xs, rfl, .inl ⟨SqL.of (gd.sub _ _ hs), fun p hp => c.tup gd hp qa q⟩⟩
  · exact q.elim
/-- list(x): a new list -/
def nCB (rr : List D → (List D → Prop) → Prop) (t : DL) : DL := fun ρ Q E => t ρ (fun ds => rr ds Q) E
def nnList : List D → (List D → Prop) → Prop := fun ds Q => match ds with
  | [.tup l] => Q l
  | [.lst l] => Q l
  | [.scr ns] => Q (ns.map D.int)
  | _ => False
theorem daL_ints {K : PySem.W.Frag} {so : Option Addr} {A : Hp} : ∀ ns : List Int, DaL K so A (ns.map D.int) (ns.map V.int)
  | [] => rfl
  | n :: ns => ⟨.int n, ns.map V.int, rfl, rfl, daL_ints ns⟩
section
variable {X : Cx} {g : Gx} {EX : EXT} {e a b : Expr} {es : List Expr} {ra rb : DE} {pos p : Pos} {t : DL}
theorem pdn_list (hg : Gl X "list") (hm : X.mg "list" = none) (ha : PDA X g EX (e :: es) t)
    (he : starEach (e :: es) X.env = (false, eval e X.env) :: starEach es X.env := by rfl) (hpl : (backTo pos (starEach es X.env)).any (·.1) = false := by rfl) : PDN X g EX (.Call (.Name "list" p) (e :: es) [] pos) (nCB nnList t) :=
  ⟨(pe_callTy c_list hg hm bt_list ha.pa (by decide) (by decide) he hpl).imp fun σ H Q h => by
  obtain ⟨A, ρ, Qd, Ed, S, h, c, cx⟩ := h
  refine ⟨A, ρ, _, Ed, S, h, fun ds vs A1 H1 x1 das q => ?_, cx⟩
  have q : nnList ds Qd := q
  unfold nnList at q
  split at q
  · obtain ⟨v, rfl, a, xs, rfl, hs, qa⟩ := das.one'
    exact ⟨a, xs, rfl, .inr (Sub.sqT x1.good.sub hs), fun l hl => c _ xs l A1 H1 x1 hl qa q⟩
  · obtain ⟨v, rfl, a, xs, rfl, hs, qa⟩ := das.one'
    exact ⟨a, xs, rfl, .inl (SqL.of (x1.good.sub _ _ hs)), fun l hl => c _ xs l A1 H1 x1 hl qa q⟩
  · obtain ⟨v, rfl, a, rfl, hs⟩ := das.one'
    exact ⟨a, _, rfl, .inl (Sub.sqL x1.good.sub hs), fun l hl => c _ _ l A1 H1 x1 hl (daL_ints _) q⟩
  · exact q.elim⟩
end
end My
namespace My
open PySem PySem.Spec PyProof.Rows L2
/-! ### isinstance of built-in types -/
def isIn (d : D) (T : String) : Bool := match d with
  | .bl _ => T == "bool" || T == "int"
  | .int _ => T == "int"
  | .str _ => T == "str"
  | .tup _ => T == "tuple"
  | .lst _ => T == "list"
  | .dct _ _ => T == "dict"
  | _ => false
/-- plain data -/
def plainD : D → Bool
  | .ins _ _ _ => false
  | .scr _ => false
  | .sto => false
  | .exc _ => false
  | .err _ _ _ => false
  | _ => true
def tyN : D → String
  | .non => "NoneType"
  | .bl _ => "bool"
  | .int _ => "int"
  | .str _ => "str"
  | .dct _ _ => "dict"
  | .tup _ => "tuple"
  | _ => "list"
theorem sqT_ty {K : PySem.W.Frag} {H : Hp} {a : Addr} {xs : List V} (h : SqT K H a xs) : TyX K H (.ref a) (.type "tuple") := by
  rcases h with (h | ⟨o, h⟩) | ⟨o, its, n, hk, hc, _⟩
  · exact .base (.tup h)
  · exact .fTuple h
  · exact .kTuple hk hc
theorem Da.ty {K : PySem.W.Frag} {so : Option Addr} {A H : Hp} {d : D} {v : V} (gd : Good K so A H) (da : Da K so A d v) (p : plainD d = true) : TyX K H v (.type (tyN d)) := by
  cases d with
  | non =>
    have da : v = _ := da
    subst da
    exact .base .non
  | bl b =>
    have da : v = _ := da
    subst da
    exact .base (.bl b)
  | int b =>
    have da : v = _ := da
    subst da
    exact .base (.int b)
  | str b =>
    have da : v = _ := da
    subst da
    exact .base (.str b)
  | dct ks vs =>
    obtain ⟨a, us, e, h, _⟩ := da
    subst e
    rcases h with ⟨kvs, h, _⟩ | ⟨kvs, h, _⟩
    · exact .base (.dK (gd.sub _ _ h))
    · exact .base (.dT (gd.sub _ _ h))
  | tup l =>
    obtain ⟨a, xs, e, h, _⟩ := da
    subst e
    exact sqT_ty (Sub.sqT gd.sub h)
  | lst l =>
    obtain ⟨a, xs, e, h, _⟩ := da
    subst e
    exact .base (.lst (gd.sub _ _ h))
  | ins _ _ _ => cases p
  | scr _ => cases p
  | sto => cases p
  | exc _ => cases p
  | err _ _ _ => cases p
theorem k_NoneType_int : kitB "NoneType" "int" = some false := by decide +kernel
theorem k_NoneType_str : kitB "NoneType" "str" = some false := by decide +kernel
theorem k_NoneType_bool : kitB "NoneType" "bool" = some false := by decide +kernel
theorem k_NoneType_list : kitB "NoneType" "list" = some false := by decide +kernel
theorem k_NoneType_tuple : kitB "NoneType" "tuple" = some false := by decide +kernel
theorem k_NoneType_dict : kitB "NoneType" "dict" = some false := by decide +kernel
theorem k_bool_int : kitB "bool" "int" = some true := by decide +kernel
theorem k_bool_str : kitB "bool" "str" = some false := by decide +kernel
theorem k_bool_bool : kitB "bool" "bool" = some true := by decide +kernel
theorem k_bool_list : kitB "bool" "list" = some false := by decide +kernel
theorem k_bool_tuple : kitB "bool" "tuple" = some false := by decide +kernel
theorem k_bool_dict : kitB "bool" "dict" = some false := by decide +kernel
theorem k_int_int : kitB "int" "int" = some true := by decide +kernel
theorem k_int_str : kitB "int" "str" = some false := by decide +kernel
theorem k_int_bool : kitB "int" "bool" = some false := by decide +kernel
theorem k_int_list : kitB "int" "list" = some false := by decide +kernel
theorem k_int_tuple : kitB "int" "tuple" = some false := by decide +kernel
theorem k_int_dict : kitB "int" "dict" = some false := by decide +kernel
theorem k_str_int : kitB "str" "int" = some false := by decide +kernel
theorem k_str_str : kitB "str" "str" = some true := by decide +kernel
theorem k_str_bool : kitB "str" "bool" = some false := by decide +kernel
theorem k_str_list : kitB "str" "list" = some false := by decide +kernel
theorem k_str_tuple : kitB "str" "tuple" = some false := by decide +kernel
theorem k_str_dict : kitB "str" "dict" = some false := by decide +kernel
theorem k_dict_int : kitB "dict" "int" = some false := by decide +kernel
theorem k_dict_str : kitB "dict" "str" = some false := by decide +kernel
theorem k_dict_bool : kitB "dict" "bool" = some false := by decide +kernel
theorem k_dict_list : kitB "dict" "list" = some false := by decide +kernel
theorem k_dict_tuple : kitB "dict" "tuple" = some false := by decide +kernel
theorem k_dict_dict : kitB "dict" "dict" = some true := by decide +kernel
theorem k_tuple_int : kitB "tuple" "int" = some false := by decide +kernel
theorem k_tuple_str : kitB "tuple" "str" = some false := by decide +kernel
theorem k_tuple_bool : kitB "tuple" "bool" = some false := by decide +kernel
theorem k_tuple_list : kitB "tuple" "list" = some false := by decide +kernel
theorem k_tuple_tuple : kitB "tuple" "tuple" = some true := by decide +kernel
theorem k_tuple_dict : kitB "tuple" "dict" = some false := by decide +kernel
theorem k_list_int : kitB "list" "int" = some false := by decide +kernel
theorem k_list_str : kitB "list" "str" = some false := by decide +kernel
theorem k_list_bool : kitB "list" "bool" = some false := by decide +kernel
theorem k_list_list : kitB "list" "list" = some true := by decide +kernel
theorem k_list_tuple : kitB "list" "tuple" = some false := by decide +kernel
theorem k_list_dict : kitB "list" "dict" = some false := by decide +kernel
/-- what is asked of a type's name -/
structure TyQ (T : String) : Prop where
  h : ∀ d : D, plainD d = true → kitB (tyN d) T = some (isIn d T)
theorem tq_int : TyQ "int" := ⟨fun d p => match d, p with
  | .non, _ => k_NoneType_int
  | .bl _, _ => k_bool_int
  | .int _, _ => k_int_int
  | .str _, _ => k_str_int
  | .dct _ _, _ => k_dict_int
  | .tup _, _ => k_tuple_int
  | .lst _, _ => k_list_int⟩
theorem tq_str : TyQ "str" := ⟨fun d p => match d, p with
  | .non, _ => k_NoneType_str
  | .bl _, _ => k_bool_str
  | .int _, _ => k_int_str
  | .str _, _ => k_str_str
  | .dct _ _, _ => k_dict_str
  | .tup _, _ => k_tuple_str
  | .lst _, _ => k_list_str⟩
theorem tq_bool : TyQ "bool" := ⟨fun d p => match d, p with
  | .non, _ => k_NoneType_bool
  | .bl _, _ => k_bool_bool
  | .int _, _ => k_int_bool
  | .str _, _ => k_str_bool
  | .dct _ _, _ => k_dict_bool
  | .tup _, _ => k_tuple_bool
  | .lst _, _ => k_list_bool⟩
theorem tq_list : TyQ "list" := ⟨fun d p => match d, p with
  | .non, _ => k_NoneType_list
  | .bl _, _ => k_bool_list
  | .int _, _ => k_int_list
  | .str _, _ => k_str_list
  | .dct _ _, _ => k_dict_list
  | .tup _, _ => k_tuple_list
  | .lst _, _ => k_list_list⟩
theorem tq_tuple : TyQ "tuple" := ⟨fun d p => match d, p with
  | .non, _ => k_NoneType_tuple
  | .bl _, _ => k_bool_tuple
  | .int _, _ => k_int_tuple
  | .str _, _ => k_str_tuple
  | .dct _ _, _ => k_dict_tuple
  | .tup _, _ => k_tuple_tuple
  | .lst _, _ => k_list_tuple⟩
theorem tq_dict : TyQ "dict" := ⟨fun d p => match d, p with
  | .non, _ => k_NoneType_dict
  | .bl _, _ => k_bool_dict
  | .int _, _ => k_int_dict
  | .str _, _ => k_str_dict
  | .dct _ _, _ => k_dict_dict
  | .tup _, _ => k_tuple_dict
  | .lst _, _ => k_list_dict⟩
def ddIsi (T : String) (d : D) (Q : D → Prop) : Prop := plainD d = true ∧ Q (.bl (isIn d T))
section
variable {X : Cx} {g : Gx} {EX : EXT} {e a b : Expr} {es : List Expr} {ra rb : DE} {pos p : Pos} {t : DL} {T : String}
theorem pd_isi (hg : Gl X "isinstance") (hm : X.mg "isinstance" = none) (ha : PD X g EX a ra) (hb : PE X b (tC (.ty T))) (hT : TyQ T)
    (he : starEach [a, b] X.env = (false, eval a X.env) :: starEach [b] X.env := by rfl) (hs : starEach [b] X.env = (false, eval b X.env) :: starEach [] X.env := by rfl) (hpl : (backTo pos (starEach [b] X.env)).any (·.1) = false := by rfl) :
    PD X g EX (.Call (.Name "isinstance" p) [a, b] [] pos) (dUn (ddIsi T) ra) :=
  ⟨(pe_callB call_isi hg hm bt_isinstance (pa_cons ha.pe (pa_cons hb pa_nil hs) he) (by decide) (by decide) he hpl).imp fun σ H Q h => by
  obtain ⟨A, ρ, Qd, Ed, S, h, c, cx⟩ := h
  refine ⟨A, ρ, _, Ed, S, h, fun d v A1 H1 x1 da q => ?_, cx⟩
  have q : ddIsi T d Qd := q
  exact ⟨v, .ty T, _, _, _, rfl, .ty T, da.ty x1.good q.1, kit_ty (hT.h d q.1), (c.ext x1).nowB x1.good q.2⟩⟩
end
/-! ### what a def promises, over data -/
abbrev DF := List D → (D → Prop) → (XD → Prop) → Prop
def spD (K : PySem.W.Frag) (n : Nat) (m : DF) : Sp := fun vs H Q E => ∃ so A ds Qd Ed, Good K so A H ∧ ds.length = n ∧ DaL K so A ds vs ∧ m ds Qd Ed ∧ Cont K so A H Qd Q ∧ ContX K so A H Ed E
theorem spD_len {K : PySem.W.Frag} {n : Nat} {m : DF} : ∀ vs H Q E, spD K n m vs H Q E → vs.length = n := fun vs H Q E ⟨_, _, _, _, _, _, h, da, _⟩ => by rw [da.len, h]
def dCall (n : Nat) (m : DF) (dd : List D) (t : DL) : DE := fun ρ Q E => t ρ (fun ds => (ds ++ dd).length = n ∧ m (ds ++ dd) Q E) E
section
variable {X : Cx} {g : Gx} {EX : EXT} {e a b : Expr} {es : List Expr} {ra rb : DE} {pos p : Pos} {t : DL} {lv : Nat} {f : Addr} {fd : FuncData} {ps : List Str} {m : DF} {x : Str} {CX : CXT}
theorem pd_call (F : FnOk X.prog X.w X.K X.mg X.base CX lv f fd ps (spD X.K ps.length m)) (hr : Room lv X.A) (hg : Gl X x) (hm : X.mg x = some (.ref f)) (hk : PySem.W.keepIn X.K (.ref f) = true) (hb : Binds X.K fd ps []) (hx : ∀ σ, PassesAt CX X σ (EX σ))
    (ha : PDA X g EX (e :: es) t) (hdb : (x == ("__debug__" : Str)) = false := by decide) (he : starEach (e :: es) X.env = (false, eval e X.env) :: starEach es X.env := by rfl) (hpl : (backTo pos (starEach es X.env)).any (·.1) = false := by rfl) :
    PD X g EX (.Call (.Name x p) (e :: es) [] pos) (dCall ps.length m [] t) := ⟨(pe_callS F hr hg hm hk hb hx ha.pa hdb he hpl).imp fun σ H Q h => by
  obtain ⟨A, ρ, Qd, Ed, S, h, c, cx⟩ := h
  refine ⟨A, ρ, _, Ed, S, h, fun ds vs A1 H1 x1 das q => ?_, cx⟩
  obtain ⟨hl, q⟩ := q
  rw [List.append_nil] at hl q
  exact ⟨g.so, A1, ds, Qd, Ed, x1.good, hl, das, q, c.ext x1, cx.ext x1⟩⟩
/-- with default arguments -/
theorem pd_callD {dds : List D} {dvs : List V} {dus : List Value} (F : FnOk X.prog X.w X.K X.mg X.base CX lv f fd ps (spD X.K ps.length m)) (hr : Room lv X.A) (hg : Gl X x) (hm : X.mg x = some (.ref f)) (hk : PySem.W.keepIn X.K (.ref f) = true) (hb : Binds X.K fd ps dus) (hv : Vals dvs dus)
    (hd : ∀ so A, DaL X.K so A dds dvs) (hx : ∀ σ, PassesAt CX X σ (EX σ))
    (ha : PDA X g EX (e :: es) t) (hdb : (x == ("__debug__" : Str)) = false := by decide) (he : starEach (e :: es) X.env = (false, eval e X.env) :: starEach es X.env := by rfl) (hpl : (backTo pos (starEach es X.env)).any (·.1) = false := by rfl) :
    PD X g EX (.Call (.Name x p) (e :: es) [] pos) (dCall ps.length m dds t) := ⟨(pe_callSD F hr hg hm hk hb hv hx ha.pa hdb he hpl).imp fun σ H Q h => by
  obtain ⟨A, ρ, Qd, Ed, S, h, c, cx⟩ := h
  refine ⟨A, ρ, _, Ed, S, h, fun ds vs A1 H1 x1 das q => ?_, cx⟩
  obtain ⟨hl, q⟩ := q
  exact ⟨g.so, A1, ds ++ dds, Qd, Ed, x1.good, hl, das.app (hd _ _), q, c.ext x1, cx.ext x1⟩⟩
end
theorem passN0 {X : Cx} {P : Program} {w : World} (σ : L2.St) : PassesAt (L2N.CX P w) X σ (fun _ _ _ => False) := fun _ _ _ _ _ _ c => by
  obtain ⟨_, _, _, _, _, _, _, _, _, _, _, _, z⟩ := c
  exact z.elim
theorem pass00 {X : Cx} (E : EXT) (σ : L2.St) : PassesAt CX0 X σ (E σ) := fun _ _ _ _ _ _ c => c.elim
/-! ### statements -/
structure DEnds where
  nx : DEnv → Prop
  rt : D → Prop
  bk : DEnv → Prop
  ct : DEnv → Prop
  ex : XD → Prop
  fr : Prop := False
abbrev DS := DEnds → DEnv → Prop
structure EndsOk (K : PySem.W.Frag) (g : Gx) (EX : EXT) (n : Nat) (B : Hp) (DD : DEnds) (De : Ends) : Prop where
  nx : ∀ A H σ ρ, Stt K g A H σ ρ → ρ.length = n → Sub B A → DD.nx ρ → De.nx σ H
  rt : ∀ A H d v, Ext K g.so g.Ai g.Hi A H → Da K g.so A d v → DD.rt d → De.rt v H
  bk : ∀ A H σ ρ, Stt K g A H σ ρ → ρ.length = n → Sub B A → DD.bk ρ → De.bk σ H
  ct : ∀ A H σ ρ, Stt K g A H σ ρ → ρ.length = n → Sub B A → DD.ct ρ → De.ct σ H
  ex : ∀ σ, σ.length = n → ContX K g.so g.Ai g.Hi DD.ex (EX σ)
  fr : DD.fr → ∀ H, De.rt (.bl true) H
def lS (K : PySem.W.Frag) (g : Gx) (EX : EXT) (r : DS) : TS := fun De σ H => ∃ A ρ DD, Stt K g A H σ ρ ∧ r DD ρ ∧ EndsOk K g EX ρ.length A DD De
structure PDS (X : Cx) (g : Gx) (EX : EXT) (st : Stmt) (r : DS) : Prop where
  ps : PS X st (lS X.K g EX r)
structure PDSs (X : Cx) (g : Gx) (EX : EXT) (st : List Stmt) (r : DS) : Prop where
  pss : PSs X st (lS X.K g EX r)
theorem _root_.L2.PS.imp {X : Cx} {st : Stmt} {t t' : TS} (h : PS X st t) (w : ∀ De σ H, t' De σ H → t De σ H) : PS X st t' := ⟨fun pins s σ H D I q => h.run pins s σ H D I (w D σ H q)⟩
theorem _root_.L2.PSs.imp {X : Cx} {st : List Stmt} {t t' : TS} (h : PSs X st t) (w : ∀ De σ H, t' De σ H → t De σ H) : PSs X st t' := ⟨fun pins s σ H D I q => h.run pins s σ H D I (w D σ H q)⟩
theorem Sub.rfl' {A : Hp} : Sub A A := fun _ _ h => h
theorem Sub.trans {A B C : Hp} (x : Sub A B) (y : Sub B C) : Sub A C := fun b o h => y b o (x b o h)
theorem EndsOk.up {K : PySem.W.Frag} {g : Gx} {EX : EXT} {n : Nat} {B B' : Hp} {DD : DEnds} {De : Ends} (k : EndsOk K g EX n B DD De) (x : Sub B B') : EndsOk K g EX n B' DD De :=
  ⟨fun A H σ ρ S l sb => k.nx A H σ ρ S l (x.trans sb), k.rt, fun A H σ ρ S l sb => k.bk A H σ ρ S l (x.trans sb), fun A H σ ρ S l sb => k.ct A H σ ρ S l (x.trans sb), k.ex, k.fr⟩
theorem EndsOk.cx {K : PySem.W.Frag} {g : Gx} {EX : EXT} {B : Hp} {DD : DEnds} {De : Ends} {A H : Hp} {σ : L2.St} {ρ : DEnv} (k : EndsOk K g EX ρ.length B DD De) (S : Stt K g A H σ ρ) : ContX K g.so A H DD.ex (EX σ) := (k.ex σ S.e.len).ext S.x
theorem Stt.setFr {K : PySem.W.Frag} {g : Gx} {A H : Hp} {σ : L2.St} {ρ : DEnv} {i : Nat} {d : D} {v : V} (S : Stt K g A H σ ρ) (q : Da K g.so A d v) : Stt K g A H (σ.set i (some v)) (ρ.set i (.fr d)) := ⟨S.x, S.e.setFr q⟩
theorem Stt.setOw {K : PySem.W.Frag} {g : Gx} {A H : Hp} {σ : L2.St} {ρ : DEnv} {i : Nat} {p : Addr} {l : List D} {xs : List V} (S : Stt K g A H σ ρ) (hp : H p = none) (q : DaL K g.so A l xs) : Stt K g A (upd H p (.lst xs)) (σ.set i (some (.ref p))) (ρ.set i (.ow l)) :=
  ⟨S.x.trans (Ext.open_ S.good hp), S.e.setOw S.x hp q⟩
section
variable {X : Cx} {g : Gx} {EX : EXT} {e a b : Expr} {es : List Expr} {r ra rb : DE} {pos p : Pos} {t : DL} {st : Stmt} {rest : List Stmt} {rs rs' : DS}
def sSkip : DS := fun DD ρ => DD.nx ρ
def sSeq (r u : DS) : DS := fun DD ρ => r { DD with nx := u DD } ρ
theorem pds_nil : PDSs X g EX [] sSkip := ⟨pss_nil.imp fun De σ H h => by
  obtain ⟨A, ρ, DD, S, h, k⟩ := h
  exact k.nx A H σ ρ S rfl Sub.rfl' h⟩
theorem pds_cons (h1 : PDS X g EX st rs) (h2 : PDSs X g EX rest rs') : PDSs X g EX (st :: rest) (sSeq rs rs') := ⟨(pss_cons h1.ps h2.pss).imp fun De σ H h => by
  obtain ⟨A, ρ, DD, S, h, k⟩ := h
  refine ⟨A, ρ, { DD with nx := rs' DD }, S, h, ⟨fun A1 H1 σ1 ρ1 S1 l sb q => ⟨A1, ρ1, DD, S1, q, by rw [l]; exact k.up sb⟩, k.rt, k.bk, k.ct, k.ex, k.fr⟩⟩⟩
theorem pds_one (h1 : PDS X g EX st rs) : PDSs X g EX [st] rs := ⟨pss_one h1.ps⟩
theorem pds_pass : PDS X g EX (.Pass pos) sSkip := ⟨ps_pass.imp fun De σ H h => by
  obtain ⟨A, ρ, DD, S, h, k⟩ := h
  exact k.nx A H σ ρ S rfl Sub.rfl' h⟩
def sBreak : DS := fun DD ρ => DD.bk ρ
def sCont : DS := fun DD ρ => DD.ct ρ
theorem pds_break : PDS X g EX (.Break pos) sBreak := ⟨ps_break.imp fun De σ H h => by
  obtain ⟨A, ρ, DD, S, h, k⟩ := h
  exact k.bk A H σ ρ S rfl Sub.rfl' h⟩
theorem pds_cont : PDS X g EX (.Continue pos) sCont := ⟨ps_continue.imp fun De σ H h => by
  obtain ⟨A, ρ, DD, S, h, k⟩ := h
  exact k.ct A H σ ρ S rfl Sub.rfl' h⟩
theorem pds_doc {x j pos'} : PDS X g EX (.Expr (.Constant (.str x) j pos') pos) sSkip := ⟨ps_doc.imp fun De σ H h => by
  obtain ⟨A, ρ, DD, S, h, k⟩ := h
  exact k.nx A H σ ρ S rfl Sub.rfl' h⟩
def sExpr (r : DE) : DS := fun DD ρ => r ρ (fun _ => DD.nx ρ) DD.ex
theorem pds_expr (he : PD X g EX e r) (hs : swapsWith e none pos.line X.env = pure false := by rfl) : PDS X g EX (.Expr e pos) (sExpr r) := ⟨(ps_expr he.pe hs).imp fun De σ H h => by
  obtain ⟨A, ρ, DD, S, h, k⟩ := h
  exact ⟨A, ρ, _, _, S, h, fun d v A1 H1 x1 da q => k.nx A1 H1 σ ρ (S.ext x1) rfl x1.mono q, k.cx S⟩⟩
def sRet (r : DE) : DS := fun DD ρ => r ρ DD.rt DD.ex
theorem pds_ret (he : PD X g EX e r) : PDS X g EX (.Return (some e) pos) (sRet r) := ⟨(ps_ret he.pe).imp fun De σ H h => by
  obtain ⟨A, ρ, DD, S, h, k⟩ := h
  exact ⟨A, ρ, _, _, S, h, fun d v A1 H1 x1 da q => k.rt A1 H1 d v (S.x.trans x1) da q, k.cx S⟩⟩
def sRetN : DS := fun DD _ => DD.rt .non
theorem pds_retN : PDS X g EX (.Return none pos) sRetN := ⟨ps_retN.imp fun De σ H h => by
  obtain ⟨A, ρ, DD, S, h, k⟩ := h
  exact k.rt A H .non .non S.x rfl h⟩
def sIf (c : DT) (r u : DS) : DS := fun DD ρ => c ρ (fun b => if b = true then r DD ρ else u DD ρ) DD.ex
theorem pds_if {c : Expr} {x y : List Stmt} {tc : DT} (hc : PDT X g EX c tc) (ha : PDSs X g EX x rs) (hb : PDSs X g EX y rs') : PDS X g EX (.If c x y pos) (sIf tc rs rs') := ⟨(ps_if hc.pt ha.pss hb.pss).imp fun De σ H h => by
  obtain ⟨A, ρ, DD, S, h, k⟩ := h
  refine ⟨A, ρ, _, _, S, h, fun b A1 H1 x1 q => ?_, k.cx S⟩
  cases b with
  | true => exact iteT ⟨A1, ρ, DD, S.ext x1, outT q, k.up x1.mono⟩
  | false => exact iteF ⟨A1, ρ, DD, S.ext x1, outF q, k.up x1.mono⟩⟩
def sNever : DS := fun _ _ => False
theorem pds_never : PDSs X g EX rest sNever := ⟨pss_never.imp fun De σ H h => by
  obtain ⟨A, ρ, DD, S, h, k⟩ := h
  exact h⟩
/-! ### targets -/
abbrev DG := D → DEnv → (DEnv → Prop) → Prop
abbrev DGs := List D → DEnv → (DEnv → Prop) → Prop
def lG (K : PySem.W.Frag) (g : Gx) (r : DG) : TG := fun v σ H R => ∃ A ρ d Rd, Stt K g A H σ ρ ∧ Da K g.so A d v ∧ r d ρ Rd ∧ ∀ σ' ρ', Stt K g A H σ' ρ' → ρ'.length = ρ.length → Rd ρ' → R σ' H
def lGs (K : PySem.W.Frag) (g : Gx) (r : DGs) : TGs := fun vs σ H R => ∃ A ρ ds Rd, Stt K g A H σ ρ ∧ DaL K g.so A ds vs ∧ r ds ρ Rd ∧ ∀ σ' ρ', Stt K g A H σ' ρ' → ρ'.length = ρ.length → Rd ρ' → R σ' H
structure PDG (X : Cx) (g : Gx) (e : Expr) (r : DG) : Prop where
  pg : PG X e (lG X.K g r)
structure PDGs (X : Cx) (g : Gx) (es : List Expr) (r : DGs) : Prop where
  pgs : PGs X es (lGs X.K g r)
theorem _root_.L2.PG.imp {X : Cx} {e : Expr} {t t' : TG} (h : PG X e t) (w : ∀ v σ H R, t' v σ H R → t v σ H R) : PG X e t' := ⟨fun pins s σ H v u Q I r q => h.run pins s σ H v u Q I r (w v σ H Q q)⟩
theorem _root_.L2.PGs.imp {X : Cx} {e : List Expr} {t t' : TGs} (h : PGs X e t) (w : ∀ v σ H R, t' v σ H R → t v σ H R) : PGs X e t' := ⟨fun pins s σ H v u Q I r q => h.run pins s σ H v u Q I r (w v σ H Q q)⟩
def gdName (i : Nat) : DG := fun d ρ R => R (ρ.set i (.fr d))
theorem pdg_name {i : Nat} (h : PG X e (gName i)) : PDG X g e (gdName i) := ⟨h.imp fun v σ H R q => by
  obtain ⟨A, ρ, d, Rd, S, da, q, k⟩ := q
  exact k _ _ (S.setFr da) (List.length_set ..) q⟩
def gdNil : DGs := fun ds ρ R => ds = [] ∧ R ρ
def gdCons (t : DG) (u : DGs) : DGs := fun ds ρ R => match ds with
  | d :: r => t d ρ fun ρ' => u r ρ' R
  | [] => False
theorem pdgs_nil : PDGs X g [] gdNil := ⟨pgs_nil.imp fun v σ H R q => by
  obtain ⟨A, ρ, ds, Rd, S, da, q, k⟩ := q
  obtain ⟨rfl, q⟩ := q
  exact ⟨da, k _ _ S rfl q⟩⟩
theorem pdgs_cons {gr : DG} {gu : DGs} (h1 : PDG X g e gr) (h2 : PDGs X g es gu) (hs : (assignEach (e :: es) X.env).map (·.2) = assign e X.env :: (assignEach es X.env).map (·.2) := by rfl) : PDGs X g (e :: es) (gdCons gr gu) := ⟨(pgs_cons h1.pg h2.pgs hs).imp fun v σ H R q => by
  obtain ⟨A, ρ, ds, Rd, S, da, q, k⟩ := q
  cases ds with
  | nil => exact q.elim
  | cons d dr =>
    obtain ⟨x, xr, e1, d1, d2⟩ := da
    subst e1
    refine ⟨x, xr, rfl, A, ρ, d, _, S, d1, q, fun σ1 ρ1 S1 l q1 => ?_⟩
    exact ⟨A, ρ1, dr, Rd, S1, d2, q1, fun σ2 ρ2 S2 l2 q2 => k σ2 ρ2 S2 (l2.trans l) q2⟩⟩
def gdTup (n : Nat) (u : DGs) : DG := fun d ρ R => match d with
  | .tup l => l.length = n ∧ u l ρ R
  | _ => False
theorem pdg_tup {gu : DGs} {n k : Nat} (hc : X.calm = true) (h : PDGs X g es gu) (hn : (assignEach es X.env).length = n := by rfl) (hst : (assignEach es X.env).findIdx? (·.1) = none := by rfl) : PDG X g (.Tuple es k pos) (gdTup n gu) := ⟨(pg_tup hc h.pgs hn hst).imp fun v σ H R q => by
  obtain ⟨A, ρ, d, Rd, S, da, q, k⟩ := q
  unfold gdTup at q
  split at q
  · obtain ⟨a, xs, rfl, hs, qa⟩ := da
    exact ⟨a, xs, rfl, Sub.sqT S.good.sub hs, by rw [qa.len]; exact q.1, A, ρ, _, Rd, S, qa, q.2, k⟩
  · exact q.elim⟩
def sAsg (r : DE) (gr : DG) : DS := fun DD ρ => r ρ (fun d => gr d ρ DD.nx) DD.ex
theorem pds_asg {tg : Expr} {gr : DG} (he : PD X g EX e r) (hg : PDG X g tg gr) (hs : swapsWithSole [tg] e pos.line X.env = pure false := by rfl) (hw : swappedStores [tg] e X.env = pure none := by rfl)
    (h1 : (assignEach [tg] X.env).map (·.2) = [assign tg X.env] := by rfl) : PDS X g EX (.Assign [tg] e pos) (sAsg r gr) := ⟨(ps_asg he.pe hg.pg hs hw h1).imp fun De σ H h => by
  obtain ⟨A, ρ, DD, S, h, k⟩ := h
  refine ⟨A, ρ, _, _, S, h, fun d v A1 H1 x1 da q => ?_, k.cx S⟩
  exact ⟨A1, ρ, d, _, S.ext x1, da, q, fun σ' ρ' S' l q' => k.nx A1 H1 σ' ρ' S' l x1.mono q'⟩⟩
theorem pds_set {i : Nat} {x : Str} {p' : Pos} (hN : X.N.Nodup) (hi : X.N[i]? = some x) (hx : Loc X.env.scope x) (he : PD X g EX e r) (hs : swapsWith e (some (.Name x p')) pos.line X.env = pure false := by rfl) (hf : X.fn x = true ∨ X.env.scope.names.lookup x = some .local := by first | exact .inl rfl | exact .inr rfl | assumption) :
    PDS X g EX (.Assign [.Name x p'] e pos) (sAsg r (gdName i)) := ⟨(ps_set hN hi hx he.pe hs hf).imp fun De σ H h => by
  obtain ⟨A, ρ, DD, S, h, k⟩ := h
  refine ⟨A, ρ, _, _, S, h, fun d v A1 H1 x1 da q => ?_, k.cx S⟩
  exact k.nx A1 H1 _ _ ((S.ext x1).setFr da) (List.length_set ..) x1.mono q⟩
/-- name = a new list, owned -/
def sSetN (i : Nat) (r : DL) : DS := fun DD ρ => r ρ (fun l => DD.nx (ρ.set i (.ow l))) DD.ex
theorem pds_setN {i : Nat} {x : Str} {p' : Pos} {rn : DL} (hN : X.N.Nodup) (hi : X.N[i]? = some x) (hx : Loc X.env.scope x) (he : PDN X g EX e rn) (hs : swapsWith e (some (.Name x p')) pos.line X.env = pure false := by rfl) (hf : X.fn x = true ∨ X.env.scope.names.lookup x = some .local := by first | exact .inl rfl | exact .inr rfl | assumption) :
    PDS X g EX (.Assign [.Name x p'] e pos) (sSetN i rn) := ⟨(ps_set hN hi hx he.pe hs hf).imp fun De σ H h => by
  obtain ⟨A, ρ, DD, S, h, k⟩ := h
  refine ⟨A, ρ, _, _, S, h, fun l xs p A1 H1 x1 hp da q => ?_, k.cx S⟩
  exact k.nx _ _ _ _ ((S.ext x1).setOw hp da) (List.length_set ..) x1.mono q⟩
def sPar (i j : Nat) (t : DL) : DS := fun DD ρ => t ρ (fun ds => match ds with
  | [a, b] => DD.nx ((ρ.set i (.fr a)).set j (.fr b))
  | _ => False) DD.ex
theorem pds_par {i j : Nat} {x y : Str} {px py pt : Pos} {kt k2 pt2} (hc : X.calm = true) (hN : X.N.Nodup) (hi : X.N[i]? = some x) (hj : X.N[j]? = some y) (hij : i ≠ j)
    (hx : X.env.scope.names.lookup x = some .local) (hy : X.env.scope.names.lookup y = some .local) (ha : PDA X g EX [a, b] t)
    (hw : swappedStores [.Tuple [.Name x px, .Name y py] kt pt] (.Tuple [a, b] k2 pt2) X.env = pure (some [x, y]))
    (hs : swapsWithSole [.Tuple [.Name x px, .Name y py] kt pt] (.Tuple [a, b] k2 pt2) pos.line X.env = pure false := by rfl) :
    PDS X g EX (.Assign [.Tuple [.Name x px, .Name y py] kt pt] (.Tuple [a, b] k2 pt2) pos) (sPar i j t) := ⟨(ps_par hc hN hi hj hij hx hy ha.pa hw hs).imp fun De σ H h => by
  obtain ⟨A, ρ, DD, S, h, k⟩ := h
  refine ⟨A, ρ, _, _, S, h, fun ds vs A1 H1 x1 das q => ?_, k.cx S⟩
  dsimp only at q
  split at q
  · obtain ⟨v, w, rfl, dv, dw⟩ := das.two'
    exact ⟨v, w, rfl, k.nx A1 H1 _ _ (((S.ext x1).setFr dv).setFr dw) (by rw [List.length_set, List.length_set]) x1.mono q⟩
  · exact q.elim⟩
end
end My
namespace My
open PySem PySem.Spec PyProof.Rows L2
/-! ### a def -/
def startD (N : List Str) (ds : List D) : DEnv := ds.map Sl.fr ++ List.replicate (N.length - ds.length) .no
theorem startOk {K : PySem.W.Frag} {so : Option Addr} {A H : Hp} {N : List Str} : ∀ {ds : List D} {vs : List V}, Good K so A H → DaL K so A ds vs → EnvOk K so H A H (L2.start N vs) (startD N ds) := by
  intro ds vs gd da
  have hl := da.len
  refine ⟨?_, fun i sl e => ?_, fun i j sl sl' a n e1 e2 o1 o2 s1 s2 => ?_⟩
  · unfold L2.start startD
    rw [List.length_append, List.length_append, List.length_map, List.length_map, List.length_replicate, List.length_replicate, hl]
  · unfold startD at e
    by_cases hi : i < ds.length
    · rw [List.getElem?_append_left (by rw [List.length_map]; exact hi), List.getElem?_map, List.getElem?_eq_getElem hi] at e
      cases e
      obtain ⟨v, e3, dv⟩ := da.get (List.getElem?_eq_getElem hi)
      refine ⟨some v, ?_, v, rfl, dv⟩
      unfold L2.start
      rw [List.getElem?_append_left (by rw [List.length_map, hl]; exact hi), List.getElem?_map, e3]
      rfl
    · rw [List.getElem?_append_right (by rw [List.length_map]; omega), List.length_map] at e
      have hz : sl = .no := by
        have := List.getElem?_eq_some_iff.mp e
        obtain ⟨h1, h2⟩ := this
        rw [List.getElem_replicate] at h2
        exact h2.symm
      subst hz
      have hn : i - ds.length < N.length - ds.length := by
        have := (List.getElem?_eq_some_iff.mp e).1
        rw [List.length_replicate] at this
        exact this
      refine ⟨none, ?_, trivial⟩
      unfold L2.start
      rw [List.getElem?_append_right (by rw [List.length_map, hl]; omega), List.length_map, hl, List.getElem?_replicate, if_pos hn]
  · have noOwn : ∀ (k : Nat) (sl : Sl), (startD N ds)[k]? = some sl → sl.own = false := fun k sl e => by
      unfold startD at e
      by_cases hi : k < ds.length
      · rw [List.getElem?_append_left (by rw [List.length_map]; exact hi), List.getElem?_map, List.getElem?_eq_getElem hi] at e
        cases e
        rfl
      · rw [List.getElem?_append_right (by rw [List.length_map]; omega)] at e
        obtain ⟨h1, h2⟩ := List.getElem?_eq_some_iff.mp e
        rw [List.getElem_replicate] at h2
        rw [← h2]
        rfl
    rw [noOwn i sl e1] at o1
    cases o1
section
variable {P : Program} {w : World} {K : PySem.W.Frag} {mg : Str → Option Value} {base : Heap}
theorem Df.okD {x : Str} {st : Stmt} {N ps : List Str} {lv : Nat} {m : DF} (D : Df K mg x st ps) (S : FnScope N ps (defScope st))
    (body : ∀ (cdv : Value) (A : Around) (outer : List PySem.Env) (s : Shared) (H : Hp) (E : XK) (so : Option Addr) (A0 : Hp), Room lv (A.deeper (envOfC x (defScope st) s.heap.objs.size D.f cdv)) →
      L2N.Takes (cxOf (L2N.CX P w) P w K mg base N x (defScope st) D.f cdv A outer s H E) (fun c d _ H => E c d H) →
      PassesOwn (model P w) (A.deeper (envOfC x (defScope st) s.heap.objs.size D.f cdv)) (envOfC x (defScope st) s.heap.objs.size D.f cdv) (cxOf (L2N.CX P w) P w K mg base N x (defScope st) D.f cdv A outer s H E).xe →
      ∃ r, PDSs (cxOf (L2N.CX P w) P w K mg base N x (defScope st) D.f cdv A outer s H E) ⟨so, A0, H⟩ (fun _ => E) (defBody st) r ∧
        ∀ ds Qd Ed, ds.length = ps.length → m ds Qd Ed → r ⟨fun _ => Qd .non, Qd, fun _ => False, fun _ => False, Ed, False⟩ (startD N ds)) :
    FnOk P w K mg base (L2N.CX P w) (lv + 1) D.f D.fd ps (spD K ps.length m) := by
  refine D.okN S spD_len fun cdv A outer s H vs Q E room rd => ?_
  obtain ⟨so, A0, ds, Qd, Ed, gd, hl, da, h, c, cx⟩ := rd
  obtain ⟨r, hr, k⟩ := body cdv A outer s H E so A0 room (L2N.takes_of rfl rfl rfl rfl) PassesOwn.leaving
  refine ⟨_, hr.pss, A0, startD N ds, ⟨fun _ => Qd .non, Qd, fun _ => False, fun _ => False, Ed, False⟩, ⟨Ext.refl gd, startOk gd da⟩, k ds Qd Ed hl h, ⟨fun A1 H1 σ ρ S1 _ _ q => ?_, fun A1 H1 d v x1 d1 q => c d v A1 H1 x1 d1 q, fun _ _ _ _ _ _ _ q => q.elim, fun _ _ _ _ _ _ _ q => q.elim, fun σ _ => cx, fun z => z.elim⟩⟩
  exact c .non .non A1 H1 S1.x rfl q
end
/-! ### loops -/
/-- the turns of J go over ds -/
structure Turns (K : PySem.W.Frag) (so : Option Addr) (A : Hp) (J : It) (ds : List D) : Prop where
  go : ∀ (A' H' : Hp), Sub A A' → Good K so A' H' → ∀ i d, ds[i]? = some d → J.go i H' ∧ ∀ x H2, J.yld i H' x H2 → ∃ A2, Ext K so A' H' A2 H2 ∧ Da K so A2 d x
  stop : ∀ (A' H' : Hp), Sub A A' → Good K so A' H' → J.stop ds.length H'
def lI (K : PySem.W.Frag) (g : Gx) (EX : EXT) (r : DL) : TI := fun σ H R => ∃ A ρ Qd Ed, Stt K g A H σ ρ ∧ r ρ Qd Ed ∧ ContX K g.so A H Ed (EX σ) ∧ ∀ ds J A' H', Ext K g.so A H A' H' → Turns K g.so A' J ds → Qd ds → R J H'
structure PDI (X : Cx) (g : Gx) (EX : EXT) (tg iter : Expr) (r : DL) : Prop where
  pi : PI X tg iter (lI X.K g EX r)
theorem _root_.L2.PI.imp {X : Cx} {tg it : Expr} {t t' : TI} (h : PI X tg it t) (w : ∀ σ H R, t' σ H R → t σ H R) : PI X tg it t' := ⟨fun pins s σ H R I q => h.run pins s σ H R I (w σ H R q)⟩
theorem turns_list {K : PySem.W.Frag} {so : Option Addr} {A : Hp} {a : Addr} {xs : List V} {ds : List D} (h : SqL K A a xs) (q : DaL K so A ds xs) : Turns K so A (Itl K a) ds := by
  refine ⟨fun A' H' sb gd i d e => ?_, fun A' H' sb gd => ⟨xs, Sub.sqL gd.sub (Sub.sqL sb h), by rw [q.len]; exact Nat.le_refl _⟩⟩
  obtain ⟨v, e2, dv⟩ := q.get e
  have hs := Sub.sqL gd.sub (Sub.sqL sb h)
  refine ⟨⟨xs, v, hs, e2⟩, fun x H2 y => ?_⟩
  obtain ⟨e3, y⟩ := y
  subst e3
  have z := y xs hs
  rw [e2] at z
  cases z
  exact ⟨A', Ext.refl gd, Da.mono sb _ _ dv⟩
theorem turns_tup {K : PySem.W.Frag} {so : Option Addr} {A : Hp} {a : Addr} {xs : List V} {ds : List D} (h : SqT K A a xs) (q : DaL K so A ds xs) : Turns K so A (Itt K a) ds := by
  refine ⟨fun A' H' sb gd i d e => ?_, fun A' H' sb gd => ⟨xs, Sub.sqT gd.sub (Sub.sqT sb h), by rw [q.len]; exact Nat.le_refl _⟩⟩
  obtain ⟨v, e2, dv⟩ := q.get e
  have hs := Sub.sqT gd.sub (Sub.sqT sb h)
  refine ⟨⟨xs, v, hs, e2⟩, fun x H2 y => ?_⟩
  obtain ⟨e3, y⟩ := y
  subst e3
  have z := y xs hs
  rw [e2] at z
  cases z
  exact ⟨A', Ext.refl gd, Da.mono sb _ _ dv⟩
def rangeD (lo : Int) (n : Nat) : List D := (List.range n).map fun i => .int (lo + (i : Nat))
theorem turns_range {K : PySem.W.Frag} {so : Option Addr} {A : Hp} {lo : Int} {n : Nat} : Turns K so A (Itr lo n) (rangeD lo n) := by
  refine ⟨fun A' H' sb gd i d e => ?_, fun A' H' sb gd => ?_⟩
  · unfold rangeD at e
    rw [List.getElem?_map] at e
    have hi : i < n := by
      cases h : (List.range n)[i]? with
      | none =>
        rw [h] at e
        cases e
      | some j =>
        have := (List.getElem?_eq_some_iff.mp h).1
        rw [List.length_range] at this
        exact this
    rw [List.getElem?_range hi] at e
    cases e
    refine ⟨hi, fun x H2 y => ?_⟩
    obtain ⟨rfl, rfl⟩ := y
    exact ⟨A', Ext.refl gd, rfl⟩
  · unfold rangeD
    rw [List.length_map, List.length_range]
    exact Nat.le_refl _
/-- enumerate of a list -/
def enumD : Nat → List D → List D
  | _, [] => []
  | k, d :: l => .tup [.int (k : Nat), d] :: enumD (k + 1) l
theorem enumD_len : ∀ (l : List D) (k : Nat), (enumD k l).length = l.length
  | [], _ => rfl
  | d :: l, k => by
    show (enumD (k + 1) l).length + 1 = l.length + 1
    rw [enumD_len l]
theorem enumD_get : ∀ (l : List D) (k i : Nat), (enumD k l)[i]? = l[i]?.map fun d => .tup [.int ((k + i : Nat) : Int), d]
  | [], _, _ => rfl
  | d :: l, k, 0 => rfl
  | d :: l, k, i + 1 => by
    show (enumD (k + 1) l)[i]? = _
    rw [enumD_get l (k + 1) i]
    show _ = l[i]?.map _
    have e : k + 1 + i = k + (i + 1) := by omega
    rw [e]
theorem turns_enum {K : PySem.W.Frag} {so : Option Addr} {A : Hp} {a : Addr} {xs : List V} {ds : List D} (h : SqL K A a xs) (q : DaL K so A ds xs) : Turns K so A (Ite K a) (enumD 0 ds) := by
  refine ⟨fun A' H' sb gd i d e => ?_, fun A' H' sb gd => ⟨xs, Sub.sqL gd.sub (Sub.sqL sb h), by rw [q.len, enumD_len]; exact Nat.le_refl _⟩⟩
  rw [enumD_get, Nat.zero_add] at e
  cases hd : ds[i]? with
  | none =>
    rw [hd] at e
    cases e
  | some c =>
    rw [hd] at e
    cases e
    obtain ⟨v, e2, dv⟩ := q.get hd
    have hs := Sub.sqL gd.sub (Sub.sqL sb h)
    refine ⟨⟨xs, v, hs, e2⟩, fun x H2 y => ?_⟩
    obtain ⟨T, x', rfl, hT, rfl, y⟩ := y
    have z := y xs hs
    rw [e2] at z
    cases z
    have x1 := Ext.laid (o := .tup [.int (i : Nat), v]) gd hT
    exact ⟨_, x1, T, _, rfl, SqT.of upd_same, .int (i : Nat), [v], rfl, rfl, v, [], rfl, x1.da (Da.mono sb _ _ dv), rfl⟩
def zipD : List D → List D → List D
  | d :: l, c :: m => .tup [d, c] :: zipD l m
  | _, _ => []
theorem zipD_get : ∀ (l m : List D) (i : Nat) (d : D), (zipD l m)[i]? = some d → ∃ x y, l[i]? = some x ∧ m[i]? = some y ∧ d = .tup [x, y]
  | [], _, _, _, e => by simp [zipD] at e
  | _ :: _, [], _, _, e => by simp [zipD] at e
  | x :: l, y :: m, 0, d, e => by
    simp [zipD] at e
    exact ⟨x, y, rfl, rfl, e.symm⟩
  | x :: l, y :: m, i + 1, d, e => by
    obtain ⟨a, b, h1, h2, h3⟩ := zipD_get l m i d (by simpa [zipD] using e)
    exact ⟨a, b, by simpa using h1, by simpa using h2, h3⟩
theorem zipD_len : ∀ (l m : List D), l.length ≤ (zipD l m).length ∨ m.length ≤ (zipD l m).length
  | [], _ => .inl (Nat.zero_le _)
  | _ :: _, [] => .inr (Nat.zero_le _)
  | x :: l, y :: m => by
    rcases zipD_len l m with h | h
    · exact .inl (Nat.succ_le_succ h)
    · exact .inr (Nat.succ_le_succ h)
theorem turns_zip {K : PySem.W.Frag} {so : Option Addr} {A : Hp} {a b : Addr} {xs ys : List V} {ds es : List D} (h : SqL K A a xs) (h2 : SqL K A b ys) (q : DaL K so A ds xs) (q2 : DaL K so A es ys) : Turns K so A (Itz K a b) (zipD ds es) := by
  refine ⟨fun A' H' sb gd i d e => ?_, fun A' H' sb gd => ⟨xs, ys, Sub.sqL gd.sub (Sub.sqL sb h), Sub.sqL gd.sub (Sub.sqL sb h2), by rw [q.len, q2.len]; exact zipD_len _ _⟩⟩
  obtain ⟨c1, c2, g1, g2, rfl⟩ := zipD_get _ _ _ _ e
  obtain ⟨v, e2, dv⟩ := q.get g1
  obtain ⟨u, e3, du⟩ := q2.get g2
  have hs := Sub.sqL gd.sub (Sub.sqL sb h)
  have hs2 := Sub.sqL gd.sub (Sub.sqL sb h2)
  refine ⟨⟨xs, ys, v, u, hs, hs2, e2, e3⟩, fun x H2 y => ?_⟩
  obtain ⟨T, x', y', rfl, hT, rfl, z1, z2⟩ := y
  have w1 := z1 xs hs
  rw [e2] at w1
  cases w1
  have w2 := z2 ys hs2
  rw [e3] at w2
  cases w2
  have x1 := Ext.laid (o := .tup [v, u]) gd hT
  exact ⟨_, x1, T, _, rfl, SqT.of upd_same, v, [u], rfl, x1.da (Da.mono sb _ _ dv), u, [], rfl, x1.da (Da.mono sb _ _ du), rfl⟩
/-- what a value is walked as -/
def onL (d : D) (Q : List D → Prop) : Prop := match d with
  | .lst l => Q l
  | _ => False
def onT (d : D) (Q : List D → Prop) : Prop := match d with
  | .tup l => Q l
  | _ => False
def iL (r : DE) : DL := fun ρ Q E => r ρ (fun d => onL d Q) E
def iT (r : DE) : DL := fun ρ Q E => r ρ (fun d => onT d Q) E
def iR1 (t : DL) : DL := fun ρ Q E => t ρ (fun ds => match ds with
  | [.int j] => j < 2 ^ 62 ∧ -(2 ^ 62) ≤ j ∧ Q (rangeD 0 j.toNat)
  | _ => False) E
def iR2 (t : DL) : DL := fun ρ Q E => t ρ (fun ds => match ds with
  | [.int i, .int j] => (-(2 ^ 62) ≤ i ∧ i < 2 ^ 62 ∧ -(2 ^ 62) ≤ j ∧ j < 2 ^ 62) ∧ Q (rangeD i (j - i).toNat)
  | _ => False) E
def iEn (t : DL) : DL := fun ρ Q E => t ρ (fun ds => match ds with
  | [.lst l] => Q (enumD 0 l)
  | _ => False) E
def iZp (t : DL) : DL := fun ρ Q E => t ρ (fun ds => match ds with
  | [.lst l, .lst m] => Q (zipD l m)
  | _ => False) E
section
variable {X : Cx} {g : Gx} {EX : EXT} {e a b tg iter : Expr} {es : List Expr} {r ra rb : DE} {pos p : Pos} {t ri : DL} {st : Stmt} {body : List Stmt} {rs rs' : DS} {gr : DG}
theorem pdi_list (h : PD X g EX e r) : PDI X g EX tg e (iL r) := ⟨(pi_list h.pe).imp fun σ H R q => by
  obtain ⟨A, ρ, Qd, Ed, S, q, cx, k⟩ := q
  refine ⟨A, ρ, _, Ed, S, q, fun d v A1 H1 x1 da q => ?_, cx⟩
  have q : onL d Qd := q
  unfold onL at q
  split at q
  · obtain ⟨p, xs, rfl, hs, qa⟩ := da
    exact ⟨p, rfl, ⟨xs, SqL.of (x1.good.sub _ _ hs)⟩, k _ _ A1 H1 x1 (turns_list (SqL.of hs) qa) q⟩
  · exact q.elim⟩
theorem pdi_tup (h : PD X g EX e r) : PDI X g EX tg e (iT r) := ⟨(pi_tup h.pe).imp fun σ H R q => by
  obtain ⟨A, ρ, Qd, Ed, S, q, cx, k⟩ := q
  refine ⟨A, ρ, _, Ed, S, q, fun d v A1 H1 x1 da q => ?_, cx⟩
  have q : onT d Qd := q
  unfold onT at q
  split at q
  · obtain ⟨p, xs, rfl, hs, qa⟩ := da
    exact ⟨p, rfl, ⟨xs, Sub.sqT x1.good.sub hs⟩, k _ _ A1 H1 x1 (turns_tup hs qa) q⟩
  · exact q.elim⟩
theorem pdi_range1 (hg : Gl X "range") (hm : X.mg "range" = none) (ha : PDA X g EX [a] t) (hs : starEach [a] X.env = [(false, eval a X.env)] := by rfl) : PDI X g EX tg (.Call (.Name "range" p) [a] [] pos) (iR1 t) := ⟨(pi_range1 hg hm ha.pa hs).imp fun σ H R q => by
  obtain ⟨A, ρ, Qd, Ed, S, q, cx, k⟩ := q
  refine ⟨A, ρ, _, Ed, S, q, fun ds vs A1 H1 x1 das q => ?_, cx⟩
  dsimp only at q
  split at q
  · obtain ⟨v, rfl, dv⟩ := das.one'
    have dv : v = _ := dv
    subst dv
    exact ⟨_, rfl, q.2.1, q.1, k _ _ A1 H1 x1 turns_range q.2.2⟩
  · exact q.elim⟩
theorem pdi_range2 (hg : Gl X "range") (hm : X.mg "range" = none) (ha : PDA X g EX [a, b] t) (hs : starEach [a, b] X.env = [(false, eval a X.env), (false, eval b X.env)] := by rfl) (hs2 : starEach [b] X.env = [(false, eval b X.env)] := by rfl) : PDI X g EX tg (.Call (.Name "range" p) [a, b] [] pos) (iR2 t) := ⟨(pi_range2 hg hm ha.pa hs hs2).imp fun σ H R q => by
  obtain ⟨A, ρ, Qd, Ed, S, q, cx, k⟩ := q
  refine ⟨A, ρ, _, Ed, S, q, fun ds vs A1 H1 x1 das q => ?_, cx⟩
  dsimp only at q
  split at q
  · obtain ⟨v, w, rfl, dv, dw⟩ := das.two'
    have dv : v = _ := dv
    have dw : w = _ := dw
    subst dv dw
    exact ⟨_, _, rfl, q.1, k _ _ A1 H1 x1 turns_range q.2⟩
  · exact q.elim⟩
theorem pdi_enum {elts : List Expr} {kk : Nat} {tpos : Pos} (hg : Gl X "enumerate") (hm : X.mg "enumerate" = none) (ha : PDA X g EX [e] t) (hs : starEach [e] X.env = [(false, eval e X.env)] := by rfl) : PDI X g EX (.Tuple elts kk tpos) (.Call (.Name "enumerate" p) [e] [] pos) (iEn t) := ⟨(pi_enum hg hm ha.pa hs).imp fun σ H R q => by
  obtain ⟨A, ρ, Qd, Ed, S, q, cx, k⟩ := q
  refine ⟨A, ρ, _, Ed, S, q, fun ds vs A1 H1 x1 das q => ?_, cx⟩
  dsimp only at q
  split at q
  · obtain ⟨v, rfl, a', xs, rfl, hs', qa⟩ := das.one'
    exact ⟨a', xs, rfl, SqL.of (x1.good.sub _ _ hs'), k _ _ A1 H1 x1 (turns_enum (SqL.of hs') qa) q⟩
  · exact q.elim⟩
theorem pdi_zip {elts : List Expr} {kk : Nat} {tpos : Pos} (hg : Gl X "zip") (hm : X.mg "zip" = none) (ha : PDA X g EX [a, b] t)
    (hs : starEach [a, b] X.env = (false, eval a X.env) :: starEach [b] X.env := by rfl) (hpl : (backTo pos (starEach [b] X.env)).any (·.1) = false := by rfl) : PDI X g EX (.Tuple elts kk tpos) (.Call (.Name "zip" p) [a, b] [] pos) (iZp t) := ⟨(pi_zip hg hm ha.pa hs hpl).imp fun σ H R q => by
  obtain ⟨A, ρ, Qd, Ed, S, q, cx, k⟩ := q
  refine ⟨A, ρ, _, Ed, S, q, fun ds vs A1 H1 x1 das q => ?_, cx⟩
  dsimp only at q
  split at q
  · obtain ⟨v, r1, e1, ⟨a', xs, e2, ha', qa⟩, r2⟩ := das
    obtain ⟨u, e3, ⟨b', ys, e4, hb', qb⟩⟩ := DaL.one' r2
    subst e1 e2 e3 e4
    exact ⟨a', b', xs, ys, rfl, SqL.of (x1.good.sub _ _ ha'), SqL.of (x1.good.sub _ _ hb'), k _ _ A1 H1 x1 (turns_zip (SqL.of ha') (SqL.of hb') qa qb) q⟩
  · exact q.elim⟩
/-- for: over the data, one after another -/
def forL (gr : DG) (body : DS) (DD : DEnds) : List D → DEnv → Prop
  | [], ρ => DD.nx ρ
  | d :: ds, ρ => gr d ρ fun ρ1 => body { DD with nx := forL gr body DD ds, ct := forL gr body DD ds, bk := DD.nx } ρ1
def sFor (ri : DL) (gr : DG) (body : DS) : DS := fun DD ρ => ri ρ (fun ds => forL gr body DD ds ρ) DD.ex
theorem pds_for (hp : PassesOwn (model X.prog X.w) X.A X.env X.xe) (hc : X.calm = true) (hi : PDI X g EX tg iter ri) (hg : PDG X g tg gr) (hb : PDSs X g EX body rs)
    (hs : ∀ x, foldedSetIterable iter X.env x = pure x := by intro _; rfl) : PDS X g EX (.For tg iter body [] pos) (sFor ri gr rs) := ⟨(ps_for hp hc hi.pi hg.pg hb.pss hs).imp fun De σ H h => by
  obtain ⟨A, ρ, DD, S, h, k⟩ := h
  refine ⟨A, ρ, _, _, S, h, k.cx S, fun ds J A1 H1 x1 T q => ?_⟩
  refine ⟨fun i m σ' H' => ∃ A' ρ', Stt X.K g A' H' σ' ρ' ∧ Sub A1 A' ∧ ρ'.length = ρ.length ∧ m + i = ds.length ∧ forL gr rs DD (ds.drop i) ρ', ⟨ds.length, A1, ρ, S.ext x1, fun _ _ z => z, rfl, rfl, q⟩, ?_⟩
  rintro i m σ2 H2 ⟨A2, ρ2, S2, sb, l2, hm, q2⟩
  cases hd : ds[i]? with
  | none =>
    have hi : ds.length ≤ i := List.getElem?_eq_none_iff.mp hd
    have e : i = ds.length := by omega
    subst e
    rw [List.drop_length] at q2
    exact .inl ⟨T.stop A2 H2 sb S2.good, k.nx A2 H2 σ2 ρ2 S2 l2 (x1.mono.trans sb) q2⟩
  | some d =>
    have hi : i < ds.length := (List.getElem?_eq_some_iff.mp hd).1
    have ed : ds.drop i = d :: ds.drop (i + 1) := by
      rw [List.drop_eq_getElem_cons hi]
      rw [List.getElem?_eq_getElem hi] at hd
      cases hd
      rfl
    rw [ed] at q2
    obtain ⟨go, yl⟩ := T.go A2 H2 sb S2.good i d hd
    refine .inr ⟨go, fun σ' H' => ∃ A' ρ', Stt X.K g A' H' σ' ρ' ∧ Sub A1 A' ∧ ρ'.length = ρ.length ∧ forL gr rs DD (ds.drop (i + 1)) ρ', fun σ' H' ⟨A', ρ', S', sb', l', q'⟩ => ⟨m - 1, by omega, A', ρ', S', sb', l', by omega, q'⟩, fun x H3 y => ?_⟩
    obtain ⟨A3, x3, da⟩ := yl x H3 y
    refine ⟨A3, ρ2, d, _, S2.ext x3, da, q2, fun σ4 ρ4 S4 l4 q4 => ?_⟩
    have sb3 := sb.trans x3.mono
    refine ⟨A3, ρ4, _, S4, q4, ⟨fun A5 H5 σ5 ρ5 S5 l5 sb5 q5 => ⟨A5, ρ5, S5, sb3.trans sb5, (l5.trans l4).trans l2, q5⟩, k.rt, fun A5 H5 σ5 ρ5 S5 l5 sb5 q5 => k.nx A5 H5 σ5 ρ5 S5 ((l5.trans l4).trans l2) (x1.mono.trans (sb3.trans sb5)) q5,
      fun A5 H5 σ5 ρ5 S5 l5 sb5 q5 => ⟨A5, ρ5, S5, sb3.trans sb5, (l5.trans l4).trans l2, q5⟩, fun σ5 h5 => k.ex σ5 (h5.trans (l4.trans l2)), k.fr⟩⟩⟩
/-- while -/
def sWhile (c : DT) (body : DS) : DS := fun DD ρ => ∃ W : Nat → DEnv → Prop, (∃ m, W m ρ) ∧ ∀ m ρ, W m ρ → c ρ (fun b => if b = true then ∃ N : DEnv → Prop, (∀ ρ', N ρ' → ∃ m', m' < m ∧ W m' ρ') ∧ body { DD with nx := N, ct := N, bk := DD.nx } ρ else DD.nx ρ) DD.ex
theorem pds_while {c : Expr} {tc : DT} (hp : PassesOwn (model X.prog X.w) X.A X.env X.xe) (hc : PDT X g EX c tc) (hb : PDSs X g EX body rs) : PDS X g EX (.While c body [] pos) (sWhile tc rs) := ⟨(ps_while hp hc.pt hb.pss).imp fun De σ H h => by
  obtain ⟨A, ρ, DD, S, ⟨W, ⟨m0, w0⟩, turn⟩, k⟩ := h
  refine ⟨fun m σ' H' => ∃ A' ρ', Stt X.K g A' H' σ' ρ' ∧ Sub A A' ∧ ρ'.length = ρ.length ∧ W m ρ', ⟨m0, A, ρ, S, Sub.rfl', rfl, w0⟩, ?_⟩
  rintro m σ1 H1 ⟨A1, ρ1, S1, sb1, l1, w1⟩
  refine ⟨A1, ρ1, _, _, S1, turn m ρ1 w1, fun b A2 H2 x2 q => ?_, (k.ex σ1 (S1.e.len.trans l1)).ext S1.x⟩
  have S2 := S1.ext x2
  have sb2 := sb1.trans x2.mono
  cases b with
  | true =>
    obtain ⟨N, hN, q⟩ := outT q
    refine iteT ⟨fun σ' H' => ∃ A' ρ', Stt X.K g A' H' σ' ρ' ∧ Sub A A' ∧ ρ'.length = ρ.length ∧ N ρ', fun σ' H' ⟨A', ρ', S', sb', l', n'⟩ => ?_, A2, ρ1, _, S2, q, ?_⟩
    · obtain ⟨m', lt, w'⟩ := hN ρ' n'
      exact ⟨m', lt, A', ρ', S', sb', l', w'⟩
    · exact ⟨fun A5 H5 σ5 ρ5 S5 l5 sb5 q5 => ⟨A5, ρ5, S5, sb2.trans sb5, l5.trans l1, q5⟩, k.rt, fun A5 H5 σ5 ρ5 S5 l5 sb5 q5 => k.nx A5 H5 σ5 ρ5 S5 (l5.trans l1) (sb2.trans sb5) q5,
        fun A5 H5 σ5 ρ5 S5 l5 sb5 q5 => ⟨A5, ρ5, S5, sb2.trans sb5, l5.trans l1, q5⟩, fun σ5 h5 => k.ex σ5 (h5.trans l1), k.fr⟩
  | false => exact iteF (k.nx A2 H2 σ1 ρ1 S2 l1 sb2 (outF q))⟩
end
end My
namespace My
open PySem PySem.Spec PyProof.Rows L2
/-! ### owned lists: read, changed, frozen -/
def owS (o : Option Sl) (Q : List D → Prop) : Prop := match o with
  | some (.ow l) => Q l
  | _ => False
theorem owS.out {o : Option Sl} {Q : List D → Prop} (h : owS o Q) : ∃ l, o = some (.ow l) ∧ Q l := by
  unfold owS at h
  split at h
  · exact ⟨_, rfl, h⟩
  · exact h.elim
theorem EnvOk.ow {K : PySem.W.Frag} {so : Option Addr} {Hi A H : Hp} {σ : L2.St} {ρ : DEnv} {i : Nat} {l : List D} (h : EnvOk K so Hi A H σ ρ) (e : ρ[i]? = some (.ow l)) :
    ∃ a xs, σ[i]? = some (some (.ref a)) ∧ H a = some (.lst xs) ∧ A a = none ∧ Hi a = none ∧ so ≠ some a ∧ DaL K so A l xs := by
  obtain ⟨o, e2, a, xs, e3, r⟩ := h.ok i _ e
  exact ⟨a, xs, by rw [e2, e3], r⟩
/-- slot i's list is another one now -/
theorem Stt.mutOw {K : PySem.W.Frag} {g : Gx} {A H : Hp} {σ : L2.St} {ρ : DEnv} {i : Nat} {a : Addr} {l m : List D} {ys : List V} (S : Stt K g A H σ ρ) (e : ρ[i]? = some (.ow l)) (es : σ[i]? = some (some (.ref a)))
    (ha : A a = none) (hi : g.Hi a = none) (hs : g.so ≠ some a) (q : DaL K g.so A m ys) : Stt K g A (upd H a (.lst ys)) σ (ρ.set i (.ow m)) :=
  ⟨S.x.mut hi ha hs, S.e.mutOw (sl := .ow l) rfl e es ⟨a, ys, rfl, upd_same, ha, hi, hs, q⟩⟩
theorem Stt.frz {K : PySem.W.Frag} {g : Gx} {A H : Hp} {σ : L2.St} {ρ : DEnv} {i : Nat} {l : List D} (S : Stt K g A H σ ρ) (e : ρ[i]? = some (.ow l)) : ∃ A', Sub A A' ∧ Stt K g A' H σ (ρ.set i (.fr (.lst l))) := by
  obtain ⟨a, xs, es, ha, na, ni, ns, q⟩ := S.e.ow e
  have x1 := S.x.frz ni na ha ns
  have sb : Sub A (upd A a (.lst xs)) := fun b o h => by
    rw [upd_ne (ne_of_none h na)]
    exact h
  refine ⟨_, sb, x1, ⟨by rw [List.length_set]; exact S.e.len, fun j sl ej => ?_, fun j k sl1 sl2 b n e1 e2 o1 o2 s1 s2 => ?_⟩⟩
  · by_cases z : i = j
    · subst z
      have hi : i < ρ.length := (List.getElem?_eq_some_iff.mp e).1
      rw [List.getElem?_set_self hi] at ej
      cases ej
      exact ⟨_, es, .ref a, rfl, a, xs, rfl, upd_same, DaL.mono sb _ _ q⟩
    · rw [List.getElem?_set_ne z] at ej
      obtain ⟨o, e2, ok⟩ := S.e.ok j sl ej
      refine ⟨o, e2, ?_⟩
      cases sl with
      | no => exact trivial
      | fr d =>
        obtain ⟨v, e3, dv⟩ := ok
        exact ⟨v, e3, Da.mono sb _ _ dv⟩
      | ow m =>
        obtain ⟨a2, ys, e3, h2, n2, i2, s2, q2⟩ := ok
        have na2 : a2 ≠ a := fun w => S.e.dj i j _ _ a z e ej rfl rfl es (by rw [e2, e3, w])
        exact ⟨a2, ys, e3, h2, by rw [upd_ne na2]; exact n2, i2, s2, DaL.mono sb _ _ q2⟩
      | od ks vs =>
        obtain ⟨a2, ys, e3, h2, n2, i2, s2, q2⟩ := ok
        have na2 : a2 ≠ a := fun w => S.e.dj i j _ _ a z e ej rfl rfl es (by rw [e2, e3, w])
        exact ⟨a2, ys, e3, h2, by rw [upd_ne na2]; exact n2, i2, s2, DaL.mono sb _ _ q2⟩
  · have look : ∀ (m : Nat) (sl3 : Sl), (ρ.set i (.fr (.lst l)))[m]? = some sl3 → sl3.own = true → ρ[m]? = some sl3 := fun m sl3 em om => by
      by_cases z : i = m
      · subst z
        have hi : i < ρ.length := (List.getElem?_eq_some_iff.mp e).1
        rw [List.getElem?_set_self hi] at em
        cases em
        cases om
      · rw [List.getElem?_set_ne z] at em
        exact em
    exact S.e.dj j k sl1 sl2 b n (look _ _ e1 o1) (look _ _ e2 o2) o1 o2 s1 s2
section
variable {X : Cx} {g : Gx} {EX : EXT} {e a b tg iter : Expr} {es : List Expr} {r ra rb : DE} {pos p apos : Pos} {t ri : DL} {st : Stmt} {body rest : List Stmt} {rs rs' : DS} {gr : DG}
/-- a step that is no statement: slot i is frozen -/
def sFrz (i : Nat) (r : DS) : DS := fun DD ρ => owS ρ[i]? fun l => r DD (ρ.set i (.fr (.lst l)))
theorem pds_frz (i : Nat) (h : PDSs X g EX rest rs) : PDSs X g EX rest (sFrz i rs) := ⟨h.pss.imp fun De σ H q => by
  obtain ⟨A, ρ, DD, S, q, k⟩ := q
  obtain ⟨l, e, q⟩ := q.out
  obtain ⟨A1, sb, S1⟩ := S.frz e
  exact ⟨A1, _, DD, S1, q, by rw [List.length_set]; exact k.up sb⟩⟩
/-- x.append(e), x owned -/
def sApp (i : Nat) (r : DE) : DS := fun DD ρ => owS ρ[i]? fun l => r ρ (fun d => l.length < sizeLine ∧ DD.nx (ρ.set i (.ow (l ++ [d])))) DD.ex
theorem pds_app {i : Nat} {o : Expr} (ho : PE X o (tVar i)) (he : PD X g EX e r)
    (hbase : attributeBase o "append" X.env (eval o X.env) = eval o X.env) (hline : (apos.endLine == pos.line) = true)
    (hfew : ((backTo pos (starEach [e] X.env)).all (fun x => !x.1) && (backToKw pos (keywordEach [] X.env)).all (fun x => x.1.isSome)
      && decide ([e].length + ([] : List Keyword).length + (if ([] : List Keyword).isEmpty then 0 else 1) < 30)) = true)
    (hs : starEach [e] X.env = (false, eval e X.env) :: starEach [] X.env) (hpl : (backTo pos (starEach [] X.env)).any (·.1) = false) {pos' : Pos} (hw : swapsWith (.Call (.Attribute o "append" apos) [e] [] pos) none pos'.line X.env = pure false) :
    PDS X g EX (.Expr (.Call (.Attribute o "append" apos) [e] [] pos) pos') (sApp i r) := ⟨(ps_expr (pe_bm PySem.F.plainAttrs_list PySem.F.slot_list_append PySem.F.type_list_append mt_append ho (pa_cons he.pe pa_nil hs) hbase hfew hline hs hpl) hw).imp fun De σ H q => by
  obtain ⟨A, ρ, DD, S, q, k⟩ := q
  obtain ⟨l, el, q⟩ := q.out
  obtain ⟨a, xs, es, ha, na, ni, ns, qa⟩ := S.e.ow el
  refine ⟨.ref a, es, .inl ⟨rfl, xs, SqL.of ha⟩, A, ρ, _, _, S, q, fun d v A1 H1 x1 da q => ?_, k.cx S⟩
  have S1 := S.ext x1
  refine ⟨a, xs, v, rfl, rfl, x1.kept a _ ns ha, by rw [qa.len]; exact q.1, ?_⟩
  exact k.nx A1 _ σ _ (S1.mutOw el es (x1.unfrozen na ha) ni ns ((x1.daL qa).app (DaL.one da))) (List.length_set ..) x1.mono q.2⟩
/-- x.insert(i, e), x owned -/
def sIns (i : Nat) (t : DL) : DS := fun DD ρ => owS ρ[i]? fun l => t ρ (fun ds => match ds with
  | [.int j, d] => 0 ≤ j ∧ j < 2 ^ 63 ∧ l.length < sizeLine ∧ DD.nx (ρ.set i (.ow (l.take j.toNat ++ [d] ++ l.drop j.toNat)))
  | _ => False) DD.ex
theorem pds_ins {i : Nat} {o : Expr} (ho : PE X o (tVar i)) (he : PDA X g EX [a, b] t)
    (hbase : attributeBase o "insert" X.env (eval o X.env) = eval o X.env) (hline : (apos.endLine == pos.line) = true)
    (hs : starEach [a, b] X.env = (false, eval a X.env) :: starEach [b] X.env) (hpl : (backTo pos (starEach [b] X.env)).any (·.1) = false)
    (hfew : ((backTo pos (starEach [a, b] X.env)).all (fun x => !x.1) && (backToKw pos (keywordEach [] X.env)).all (fun x => x.1.isSome)
      && decide ([a, b].length + ([] : List Keyword).length + (if ([] : List Keyword).isEmpty then 0 else 1) < 30)) = true) {pos' : Pos}
    (hw : swapsWith (.Call (.Attribute o "insert" apos) [a, b] [] pos) none pos'.line X.env = pure false) :
    PDS X g EX (.Expr (.Call (.Attribute o "insert" apos) [a, b] [] pos) pos') (sIns i t) := ⟨(ps_expr (pe_bm PySem.F.plainAttrs_list PySem.F.slot_list_insert PySem.F.type_list_insert mt_insert ho he.pa hbase hfew hline hs hpl) hw).imp fun De σ H q => by
  obtain ⟨A, ρ, DD, S, q, k⟩ := q
  obtain ⟨l, el, q⟩ := q.out
  obtain ⟨a, xs, es, ha, na, ni, ns, qa⟩ := S.e.ow el
  refine ⟨.ref a, es, .inl ⟨rfl, xs, SqL.of ha⟩, A, ρ, _, _, S, q, fun ds vs A1 H1 x1 das q => ?_, k.cx S⟩
  have S1 := S.ext x1
  dsimp only at q
  split at q
  · obtain ⟨v, w, rfl, dv, dw⟩ := das.two'
    have dv : v = _ := dv
    subst dv
    refine ⟨a, xs, _, w, rfl, rfl, x1.kept a _ ns ha, by rw [qa.len]; exact q.2.2.1, q.1, q.2.1, ?_⟩
    exact k.nx A1 _ σ _ (S1.mutOw el es (x1.unfrozen na ha) ni ns ((((x1.daL qa).take _).app (DaL.one dw)).app ((x1.daL qa).drop _))) (List.length_set ..) x1.mono q.2.2.2
  · exact q.elim⟩
/-- x[k] = e, x owned -/
def sSetI (i : Nat) (r rk : DE) : DS := fun DD ρ => owS ρ[i]? fun l => r ρ (fun d => rk ρ (fun k => match k with
  | .int j => ∃ n, ixN l.length j = some n ∧ DD.nx (ρ.set i (.ow (l.set n d)))
  | _ => False) DD.ex) DD.ex
theorem pds_setI {i : Nat} {o k : Expr} {rk : DE} (ho : PE X o (tVar i)) (he : PD X g EX e r) (hk : PD X g EX k rk)
    (ha : ∀ v, assign (.Subscript o k p) X.env v = (do
      let ov ← holding [v] (eval o X.env)
      let iv ← holding [v, ov] (eval k X.env)
      standAt p
      holding [v, ov, iv] (setItem ov iv v)
      release [v, ov, iv] []) := by intro _; rfl)
    (hs : swapsWithSole [.Subscript o k p] e pos.line X.env = pure false := by rfl) (hw : swappedStores [.Subscript o k p] e X.env = pure none := by rfl)
    (h1 : (assignEach [.Subscript o k p] X.env).map (·.2) = [assign (.Subscript o k p) X.env] := by rfl) :
    PDS X g EX (.Assign [.Subscript o k p] e pos) (sSetI i r rk) := ⟨(ps_asg he.pe (pg_sub ho hk.pe set_list ha) hs hw h1).imp fun De σ H q => by
  obtain ⟨A, ρ, DD, S, q, kk⟩ := q
  obtain ⟨l, el, q⟩ := q.out
  obtain ⟨a, xs, es, ha, na, ni, ns, qa⟩ := S.e.ow el
  refine ⟨A, ρ, _, _, S, q, fun d v A1 H1 x1 da q => ?_, kk.cx S⟩
  have S1 := S.ext x1
  refine ⟨.ref a, es, A1, ρ, _, _, S1, q, fun dk vk A2 H2 x2 dak q2 => ?_, kk.cx S |>.ext x1⟩
  have S2 := S1.ext x2
  dsimp only at q2
  split at q2
  · obtain ⟨n, en, q2⟩ := q2
    have dak : vk = _ := dak
    subst dak
    have x12 := x1.trans x2
    refine ⟨a, xs, _, n, rfl, rfl, x12.kept a _ ns ha, by rw [qa.len]; exact en, ?_⟩
    exact kk.nx A2 _ σ _ (S2.mutOw el es (x12.unfrozen na ha) ni ns ((x12.daL qa).set n (x2.da da))) (List.length_set ..) x12.mono q2
  · exact q2.elim⟩
/-- len of an owned list, an item of an owned list -/
def dLenO (i : Nat) : DE := fun ρ Q _ => owS ρ[i]? fun l => Q (.int l.length)
theorem pd_lenO {i : Nat} {o : Expr} (hg : Gl X "len") (hm : X.mg "len" = none) (ho : PE X o (tVar i)) (he : starEach [o] X.env = (false, eval o X.env) :: starEach [] X.env := by rfl) (hpl : (backTo pos (starEach [] X.env)).any (·.1) = false := by rfl) :
    PD X g EX (.Call (.Name "len" p) [o] [] pos) (dLenO i) := ⟨(pe_callB c_len hg hm bt_len (pa_cons ho pa_nil he) (by decide) (by decide) he hpl).imp fun σ H Q q => by
  obtain ⟨A, ρ, Qd, Ed, S, q, c, cx⟩ := q
  obtain ⟨l, el, q⟩ := q.out
  obtain ⟨a, xs, es, ha, na, ni, ns, qa⟩ := S.e.ow el
  exact ⟨.ref a, es, a, xs, rfl, .inl (SqL.of ha), by rw [qa.len]; exact c.nowI S.good q⟩⟩
def dIxO (i : Nat) (rk : DE) : DE := fun ρ Q E => owS ρ[i]? fun l => rk ρ (fun k => match k with
  | .int j => ∃ d, atI l j = some d ∧ Q d
  | _ => False) E
theorem pd_ixO {i : Nat} {o k : Expr} {rk : DE} (ho : PE X o (tVar i)) (hk : PD X g EX k rk) (hs : PlainIx k) : PD X g EX (.Subscript o k pos) (dIxO i rk) := ⟨(pe_ix ix_list ho hk.pe hs).imp fun σ H Q q => by
  obtain ⟨A, ρ, Qd, Ed, S, q, c, cx⟩ := q
  obtain ⟨l, el, q⟩ := q.out
  obtain ⟨a, xs, es, ha, na, ni, ns, qa⟩ := S.e.ow el
  refine ⟨.ref a, es, A, ρ, _, _, S, q, fun dk vk A1 H1 x1 dak q => ?_, cx⟩
  dsimp only at q
  split at q
  · obtain ⟨d, ed, q⟩ := q
    have dak : vk = _ := dak
    subst dak
    obtain ⟨v, ev, dv⟩ := (x1.daL qa).atI ed
    exact ⟨a, xs, _, v, rfl, rfl, SqL.of (x1.kept a _ ns ha), ev, (c.ext x1).now x1.good dv q⟩
  · exact q.elim⟩
/-! ### comprehensions -/
def wipeD (ρ : DEnv) : List Nat → DEnv
  | [] => ρ
  | v :: vs => (wipeD ρ vs).set v .no
def EXF : EXT := fun _ _ _ _ => False
def compL (gr : DG) (tt : DT) (te : DE) (ρ : DEnv) (Q : List D → Prop) : List D → List D → Prop
  | [], acc => Q acc
  | d :: ds, acc => gr d ρ fun ρ2 => tt ρ2 (fun b => if b = true then te ρ2 (fun y => acc.length < sizeLine ∧ compL gr tt te ρ Q ds (acc ++ [y])) (fun _ => False) else compL gr tt te ρ Q ds acc) (fun _ => False)
def nComp (ri : DL) (gr : DG) (tt : DT) (te : DE) (vs : List Nat) : DL := fun ρ Q E => ri ρ (fun ds => compL gr tt te (wipeD ρ vs) Q ds []) E
def qYes : DT := fun _ Q _ => Q true
theorem wipe_len (σ : L2.St) : ∀ vs : List Nat, (wipe σ vs).length = σ.length := wipe_length σ
theorem wipeD_len (ρ : DEnv) : ∀ vs : List Nat, (wipeD ρ vs).length = ρ.length
  | [] => rfl
  | v :: vs => by
    show ((wipeD ρ vs).set v .no).length = _
    rw [List.length_set, wipeD_len ρ vs]
theorem wipeD_get (ρ : DEnv) : ∀ (vs : List Nat) (i : Nat) (sl : Sl), (wipeD ρ vs)[i]? = some sl → (i ∈ vs ∧ sl = .no) ∨ (i ∉ vs ∧ ρ[i]? = some sl)
  | [], i, sl, e => .inr ⟨by simp, e⟩
  | v :: vs, i, sl, e => by
    have e : ((wipeD ρ vs).set v .no)[i]? = some sl := e
    by_cases z : v = i
    · subst z
      have hi : v < (wipeD ρ vs).length := by
        have := (List.getElem?_eq_some_iff.mp e).1
        rw [List.length_set] at this
        exact this
      rw [List.getElem?_set_self hi] at e
      cases e
      exact .inl ⟨by simp, rfl⟩
    · rw [List.getElem?_set_ne z] at e
      rcases wipeD_get ρ vs i sl e with ⟨h1, h2⟩ | ⟨h1, h2⟩
      · exact .inl ⟨by simp [h1], h2⟩
      · refine .inr ⟨fun m => ?_, h2⟩
        rcases List.mem_cons.mp m with w | w
        · exact z w.symm
        · exact h1 w
theorem wipe_out (σ : L2.St) : ∀ (vs : List Nat) (i : Nat), i ∉ vs → (wipe σ vs)[i]? = σ[i]?
  | [], _, _ => rfl
  | v :: vs, i, n => by
    show ((wipe σ vs).set v none)[i]? = _
    rw [List.getElem?_set_ne (fun z => n (by simp [z])), wipe_out σ vs i (fun z => n (by simp [z]))]
theorem wipe_in (σ : L2.St) : ∀ (vs : List Nat) (i : Nat), i ∈ vs → i < σ.length → (wipe σ vs)[i]? = some none
  | [], _, m, _ => by simp at m
  | v :: vs, i, m, h => by
    show ((wipe σ vs).set v none)[i]? = _
    by_cases z : v = i
    · subst z
      rw [List.getElem?_set_self (by rw [wipe_len]; exact h)]
    · rw [List.getElem?_set_ne z]
      rcases List.mem_cons.mp m with w | w
      · exact absurd w.symm z
      · exact wipe_in σ vs i w h
theorem wipe_ext {σ τ : L2.St} {vs : List Nat} (hl : σ.length = τ.length) (h : ∀ i, i ∉ vs → σ[i]? = τ[i]?) : wipe σ vs = wipe τ vs := by
  refine List.ext_getElem? fun i => ?_
  by_cases m : i ∈ vs
  · by_cases hi : i < σ.length
    · rw [wipe_in σ vs i m hi, wipe_in τ vs i m (by rw [← hl]; exact hi)]
    · rw [List.getElem?_eq_none (by rw [wipe_len]; omega), List.getElem?_eq_none (by rw [wipe_len]; omega)]
  · rw [wipe_out σ vs i m, wipe_out τ vs i m, h i m]
theorem Stt.wipe {K : PySem.W.Frag} {g : Gx} {A H : Hp} {σ : L2.St} {ρ : DEnv} (S : Stt K g A H σ ρ) (vs : List Nat) : Stt K g A H (L2.wipe σ vs) (wipeD ρ vs) := by
  refine ⟨S.x, ⟨by rw [wipe_len, wipeD_len]; exact S.e.len, fun i sl e => ?_, fun i j sl sl' a n e1 e2 o1 o2 s1 s2 => ?_⟩⟩
  · rcases wipeD_get ρ vs i sl e with ⟨h1, rfl⟩ | ⟨h1, h2⟩
    · have hi : i < σ.length := by
        have := (List.getElem?_eq_some_iff.mp e).1
        rw [wipeD_len, ← S.e.len] at this
        exact this
      exact ⟨none, wipe_in σ vs i h1 hi, trivial⟩
    · rw [wipe_out σ vs i h1]
      exact S.e.ok i sl h2
  · rcases wipeD_get ρ vs i sl e1 with ⟨h1, rfl⟩ | ⟨h1, h2⟩
    · cases o1
    · rcases wipeD_get ρ vs j sl' e2 with ⟨h3, rfl⟩ | ⟨h3, h4⟩
      · cases o2
      · rw [wipe_out σ vs i h1] at s1
        rw [wipe_out σ vs j h3] at s2
        exact S.e.dj i j sl sl' a n h2 h4 o1 o2 s1 s2
end
/-- a target whose slots are the comprehension's own -/
def lGw (K : PySem.W.Frag) (g : Gx) (vs : List Nat) (r : DG) : TG := fun v σ H R => ∃ A ρ d Rd, Stt K g A H σ ρ ∧ Da K g.so A d v ∧ r d ρ Rd ∧ ∀ σ' ρ', Stt K g A H σ' ρ' → ρ'.length = ρ.length → L2.wipe σ' vs = L2.wipe σ vs → Rd ρ' → R σ' H
def lGsw (K : PySem.W.Frag) (g : Gx) (vs : List Nat) (r : DGs) : TGs := fun us σ H R => ∃ A ρ ds Rd, Stt K g A H σ ρ ∧ DaL K g.so A ds us ∧ r ds ρ Rd ∧ ∀ σ' ρ', Stt K g A H σ' ρ' → ρ'.length = ρ.length → L2.wipe σ' vs = L2.wipe σ vs → Rd ρ' → R σ' H
structure PDGw (X : Cx) (g : Gx) (vs : List Nat) (e : Expr) (r : DG) : Prop where
  pg : PG X e (lGw X.K g vs r)
structure PDGsw (X : Cx) (g : Gx) (vs : List Nat) (es : List Expr) (r : DGs) : Prop where
  pgs : PGs X es (lGsw X.K g vs r)
section
variable {X : Cx} {g : Gx} {EX : EXT} {e a b tg iter : Expr} {es : List Expr} {r ra rb : DE} {pos p apos : Pos} {t ri : DL} {gr : DG} {tt : DT} {te : DE} {vs : List Nat}
theorem pdgw_name {i : Nat} (h : PG X e (gName i)) (hi : i ∈ vs := by simp) : PDGw X g vs e (gdName i) := ⟨h.imp fun v σ H R q => by
  obtain ⟨A, ρ, d, Rd, S, da, q, k⟩ := q
  refine k _ _ (S.setFr da) (List.length_set ..) (wipe_ext (List.length_set ..) fun j n => ?_) q
  rw [List.getElem?_set_ne fun z => n (by rw [← z]; exact hi)]⟩
theorem pdgsw_nil : PDGsw X g vs [] gdNil := ⟨pgs_nil.imp fun v σ H R q => by
  obtain ⟨A, ρ, ds, Rd, S, da, q, k⟩ := q
  obtain ⟨rfl, q⟩ := q
  exact ⟨da, k _ _ S rfl rfl q⟩⟩
theorem pdgsw_cons {gr : DG} {gu : DGs} (h1 : PDGw X g vs e gr) (h2 : PDGsw X g vs es gu) (hs : (assignEach (e :: es) X.env).map (·.2) = assign e X.env :: (assignEach es X.env).map (·.2) := by rfl) : PDGsw X g vs (e :: es) (gdCons gr gu) := ⟨(pgs_cons h1.pg h2.pgs hs).imp fun v σ H R q => by
  obtain ⟨A, ρ, ds, Rd, S, da, q, k⟩ := q
  cases ds with
  | nil => exact q.elim
  | cons d dr =>
    obtain ⟨x, xr, e1, d1, d2⟩ := da
    subst e1
    refine ⟨x, xr, rfl, A, ρ, d, _, S, d1, q, fun σ1 ρ1 S1 l w1 q1 => ?_⟩
    exact ⟨A, ρ1, dr, Rd, S1, d2, q1, fun σ2 ρ2 S2 l2 w2 q2 => k σ2 ρ2 S2 (l2.trans l) (w2.trans w1) q2⟩⟩
theorem pdgw_tup {gu : DGs} {n k : Nat} (hc : X.calm = true) (h : PDGsw X g vs es gu) (hn : (assignEach es X.env).length = n := by rfl) (hst : (assignEach es X.env).findIdx? (·.1) = none := by rfl) : PDGw X g vs (.Tuple es k pos) (gdTup n gu) := ⟨(pg_tup hc h.pgs hn hst).imp fun v σ H R q => by
  obtain ⟨A, ρ, d, Rd, S, da, q, k⟩ := q
  unfold gdTup at q
  split at q
  · obtain ⟨a, xs, rfl, hs, qa⟩ := da
    exact ⟨a, xs, rfl, Sub.sqT S.good.sub hs, by rw [qa.len]; exact q.1, A, ρ, _, Rd, S, qa, q.2, k⟩
  · exact q.elim⟩
/-- a clause's tests -/
structure PDTs (X : Cx) (g : Gx) (EX : EXT) (ifs : List Expr) (r : DT) : Prop where
  pt : PTs X ifs (lT X.K g EX r)
theorem pdts_nil : PDTs X g EX [] qYes := ⟨⟨fun pins s σ H Q I h => by
  obtain ⟨A, ρ, Qd, Ed, S, h, c, cx⟩ := h
  exact pts_nil.run pins s σ H Q I (c true A H (Ext.refl S.good) h)⟩⟩
theorem pdts_one {c : Expr} (h : PDT X g EX c tt) : PDTs X g EX [c] tt := ⟨pts_one h.pt⟩
theorem del_ext {K : PySem.W.Frag} {so : Option Addr} {A H A' H' : Hp} {D : Addr} {o : HO} (x : Ext K so A H A' H') (h : H D = none) (h1 : A' D = none) (hd : H' D = some o) (hs : so ≠ some D) : ∃ H1, Ext K so A H A' H1 ∧ H1 D = none ∧ H' = upd H1 D o := by
  refine ⟨fun b => if b = D then none else H' b, ⟨⟨fun b u e => ?_, fun s e => ?_⟩, x.mono, fun b u n e => ?_, x.new⟩, if_pos rfl, ?_⟩
  · show (if b = D then none else H' b) = some u
    rw [if_neg (ne_of_none e h1)]
    exact x.good.sub b u e
  · obtain ⟨h3, L, ns, p', a', b, c, d, h4, h5, r⟩ := x.good.st s e
    have n : s ≠ D := fun z => hs (by rw [e, z])
    exact ⟨h3, L, ns, p', a', b, c, d, by show (if s = D then none else H' s) = _; rw [if_neg n]; exact h4, h5, r⟩
  · show (if b = D then none else H' b) = some u
    rw [if_neg (ne_of_none e h)]
    exact x.kept b u n e
  · funext b
    unfold upd
    by_cases z : b = D
    · rw [if_pos z, z, hd]
    · rw [if_neg z]
      show H' b = if b = D then none else H' b
      rw [if_neg z]
theorem lcD {σ : L2.St} {H : Hp} {Q : VK} (h : lN X.K g EX (nComp ri gr tt te vs) σ H Q) : tLc (lI X.K g EX ri) (lGw X.K g vs gr) (lT X.K g EXF tt) (lE X.K g EXF te) vs σ H Q := by
  obtain ⟨A, ρ, Qd, Ed, S, h, c, cx⟩ := h
  refine ⟨A, ρ, _, Ed, S, h, cx, fun ds J A1 H1 x1 T q D hD => ?_⟩
  have S1 := S.ext x1
  have nD : g.so ≠ some D := fun z => S1.good.ne hD z rfl
  have fl : ∀ {A' Hm : Hp}, Good X.K g.so A' Hm → Hm D = none → A' D = none := fun {A' Hm} gd hm => by
    cases e : A' D with
    | none => rfl
    | some u =>
      rw [gd.sub D u e] at hm
      cases hm
  refine ⟨fun i m H' => ∃ A' acc xs Hm, Ext X.K g.so A1 H1 A' Hm ∧ Hm D = none ∧ H' = upd Hm D (.lst xs) ∧ DaL X.K g.so A' acc xs ∧ m + i = ds.length ∧ compL gr tt te (wipeD ρ vs) Qd (ds.drop i) acc, ⟨ds.length, A1, [], [], H1, Ext.refl x1.good, hD, rfl, rfl, rfl, q⟩, ?_⟩
  rintro i m H2 ⟨A2, acc, xs, Hm, x2, hm, rfl, da, hl, q2⟩
  have x3 : Ext X.K g.so A1 H1 A2 (upd Hm D (.lst xs)) := x2.trans (Ext.open_ x2.good hm)
  cases hd : ds[i]? with
  | none =>
    have hi : ds.length ≤ i := List.getElem?_eq_none_iff.mp hd
    have e : i = ds.length := by omega
    subst e
    rw [List.drop_length] at q2
    exact .inl ⟨T.stop A2 _ x2.mono x3.good, c acc xs D A2 Hm (x1.trans x2) hm da q2⟩
  | some d =>
    have hi : i < ds.length := (List.getElem?_eq_some_iff.mp hd).1
    have ed : ds.drop i = d :: ds.drop (i + 1) := by
      rw [List.drop_eq_getElem_cons hi]
      rw [List.getElem?_eq_getElem hi] at hd
      cases hd
      rfl
    rw [ed] at q2
    obtain ⟨go, yl⟩ := T.go A2 _ x2.mono x3.good i d hd
    refine .inr ⟨go, fun H' => ∃ A' acc xs Hm, Ext X.K g.so A1 H1 A' Hm ∧ Hm D = none ∧ H' = upd Hm D (.lst xs) ∧ DaL X.K g.so A' acc xs ∧ compL gr tt te (wipeD ρ vs) Qd (ds.drop (i + 1)) acc,
      fun H' ⟨A', acc', xs', Hm', y1, y2, y3, y4, y5⟩ => ⟨m - 1, by omega, A', acc', xs', Hm', y1, y2, y3, y4, by omega, y5⟩, fun x H3 y => ?_⟩
    obtain ⟨A3, x4, dx⟩ := yl x H3 y
    have x5 := x3.trans x4
    have keepD : ∀ {A5 H5 : Hp}, Ext X.K g.so A2 (upd Hm D (.lst xs)) A5 H5 → H5 D = some (.lst xs) ∧ A5 D = none := fun {A5 H5} z => ⟨z.kept D _ nD upd_same, z.unfrozen (fl x2.good hm) upd_same⟩
    have back : ∀ {A5 H5 : Hp} (ys : List V), Ext X.K g.so A2 (upd Hm D (.lst xs)) A5 H5 → ∃ Hn, Ext X.K g.so A1 H1 A5 Hn ∧ Hn D = none ∧ upd H5 D (.lst ys) = upd Hn D (.lst ys) ∧ H5 = upd Hn D (.lst xs) := fun {A5 H5} ys z => by
      obtain ⟨z1, z2⟩ := keepD z
      obtain ⟨Hn, w1, w2, w3⟩ := del_ext (x3.trans z) hD z2 z1 nD
      refine ⟨Hn, w1, w2, ?_, w3⟩
      rw [w3, upd_upd]
    have SW : Stt X.K g A3 H3 (wipe σ vs) (wipeD ρ vs) := (S1.ext x5).wipe vs
    refine ⟨A3, wipeD ρ vs, d, _, SW, dx, q2, fun σ4 ρ4 S4 l4 w4 q4 => ⟨?_, ?_⟩⟩
    · rw [w4]
      refine wipe_ext (by rw [wipe_len]) fun j n => ?_
      rw [wipe_out σ vs j n]
    refine ⟨A3, ρ4, _, _, S4, q4, fun b A5 H5 x6 q5 => ?_, fun x dx A' H' us _ _ _ _ _ z => z.elim⟩
    cases b with
    | false =>
      refine iteF ?_
      obtain ⟨Hn, w1, w2, w3, w5⟩ := back [] (x4.trans x6)
      exact ⟨A5, acc, xs, Hn, w1, w2, w5, DaL.mono (x4.trans x6).mono _ _ da, outF q5⟩
    | true =>
      refine iteT ⟨A5, ρ4, _, _, S4.ext x6, outT q5, fun d7 v7 A7 H7 x7 da7 q7 => ?_, fun x dx A' H' us _ _ _ _ _ z => z.elim⟩
      have x8 := (x4.trans x6).trans x7
      obtain ⟨z1, z2⟩ := keepD x8
      obtain ⟨Hn, w1, w2, w3, w5⟩ := back (xs ++ [v7]) x8
      refine ⟨xs, z1, by rw [da.len]; exact q7.1, A7, acc ++ [d7], xs ++ [v7], Hn, w1, w2, w3, (DaL.mono x8.mono _ _ da).app (DaL.one da7), q7.2⟩
theorem pdn_lc {elt : Expr} {ifs : List Expr} {scope : Scope} {own : List (Str × Nat)} (hc : X.calm = true) (hN : X.N.Nodup) (hi : PDI X g EX tg iter ri) (ok : BlkOk X.N X.env.scope scope own)
    (hg : ∀ (s : Shared) (H : Hp) (C : Addr) (cl : List (Str × Addr)) (fp : List Addr), PDGw (X.blk s H scope (compEnvC scope cl C X.env) fp) g (own.map (·.2)) tg gr) (ht : ∀ (s : Shared) (H : Hp) (C : Addr) (cl : List (Str × Addr)) (fp : List Addr), PDTs (X.blk s H scope (compEnvC scope cl C X.env) fp) g EXF ifs tt)
    (he : ∀ (s : Shared) (H : Hp) (C : Addr) (cl : List (Str × Addr)) (fp : List Addr), PD (X.blk s H scope (compEnvC scope cl C X.env) fp) g EXF elt te) (hs : ∀ x, foldedSetIterable iter X.env x = pure x := by intro _; rfl) :
    PDN X g EX (.ListComp elt [⟨tg, iter, ifs, 0⟩] scope pos) (nComp ri gr tt te (own.map (·.2))) :=
  ⟨(pe_lc hc hN hi.pi ok (fun s H C cl fp => (hg s H C cl fp).pg) (fun s H C cl fp => (ht s H C cl fp).pt) (fun s H C cl fp => (he s H C cl fp).pe) hs).imp fun σ H Q h => lcD h⟩
/-- name = [..], owned -/
theorem pds_setLc {i : Nat} {y : Str} {py spos : Pos} {elt : Expr} {ifs : List Expr} {scope : Scope} {own : List (Str × Nat)} (hc : X.calm = true) (hN : X.N.Nodup) (hy : X.N[i]? = some y) (hyl : X.env.scope.names.lookup y = some .local)
    (hsw : swapsWith (.ListComp elt [⟨tg, iter, ifs, 0⟩] scope pos) (some (.Name y py)) spos.line X.env = pure true) (hi : PDI X g EX tg iter ri) (ok : BlkOk X.N X.env.scope scope own)
    (hg : ∀ (s : Shared) (H : Hp) (C : Addr) (cl : List (Str × Addr)) (fp : List Addr), PDGw (X.blk s H scope (compEnvC scope cl C X.env) fp) g (own.map (·.2)) tg gr) (ht : ∀ (s : Shared) (H : Hp) (C : Addr) (cl : List (Str × Addr)) (fp : List Addr), PDTs (X.blk s H scope (compEnvC scope cl C X.env) fp) g EXF ifs tt)
    (he : ∀ (s : Shared) (H : Hp) (C : Addr) (cl : List (Str × Addr)) (fp : List Addr), PD (X.blk s H scope (compEnvC scope cl C X.env) fp) g EXF elt te) (hs : ∀ x, foldedSetIterable iter X.env x = pure x := by intro _; rfl) :
    PDS X g EX (.Assign [.Name y py] (.ListComp elt [⟨tg, iter, ifs, 0⟩] scope pos) spos) (sSetN i (nComp ri gr tt te (own.map (·.2)))) :=
  ⟨(ps_setLc (i := i) hc hN hy hyl hsw hi.pi ok (fun s H C cl fp => (hg s H C cl fp).pg) (fun s H C cl fp => (ht s H C cl fp).pt) (fun s H C cl fp => (he s H C cl fp).pe) hs).imp fun De σ H h => by
  obtain ⟨A, ρ, DD, S, h, k⟩ := h
  have h2 : lN X.K g EX (nComp ri gr tt te (own.map (·.2))) σ H (fun x H1 => gName i x σ H1 De.nx) := ⟨A, ρ, _, _, S, h, fun l xs p A1 H1 x1 hp da q => k.nx _ _ _ _ ((S.ext x1).setOw hp da) (List.length_set ..) x1.mono q, k.cx S⟩
  exact lcD h2⟩
end
end My
namespace My
open PySem PySem.Spec PyProof.Rows L2
/-! ### raising -/
theorem Ext.same {K : PySem.W.Frag} {so : Option Addr} {A H H' : Hp} (gd : Good K so A H) (x : Sub H H') : Ext K so A H A H' :=
  ⟨⟨fun b o e => x b o (gd.sub b o e), fun s e => let ⟨h1, L, ns, p, a, b, c, d, h2, h3, r⟩ := gd.st s e; ⟨h1, L, ns, p, a, b, c, d, x _ _ h2, h3, r⟩⟩, fun _ _ h => h, fun b o _ h => x b o h, fun _ _ h => .inl h⟩
theorem FnOk_cx {P : Program} {w : World} {K : PySem.W.Frag} {mg : Str → Option Value} {base : Heap} {CX : CXT} {lv : Nat} {f : Addr} {fd : FuncData} {ps : List Str} {sp sp' : Sp} (F : FnOk P w K mg base CX0 lv f fd ps sp) (h : ∀ vs H Q E, sp' vs H Q E → sp vs H Q E) : FnOk P w K mg base CX lv f fd ps sp' :=
  ⟨fun vs H Q E q => F.len vs H Q E (h _ _ _ _ q), fun A outer s H args us vs Q E hr he hb hv hs => codeAny_mono (F.run A outer s H args us vs Q E hr he hb hv (h _ _ _ _ hs)) fun r s' z => by
    cases r with
    | error e => exact z.elim
    | ok fl => cases fl <;> exact z⟩
def IniEnd (a C : Addr) (fs : List (Str × V)) (H : Hp) (Q : VK) : Prop := ∀ (dx : Addr) (H' : Hp), H dx = none → dx ≠ a → H' a = some (exo a C (some dx)) → H' dx = some (exd dx fs) → (∀ b o, b ≠ a → H b = some o → H' b = some o) → Q .non H'
/-- an __init__ of n values that leaves the fields mk of them -/
def spIni (K : PySem.W.Frag) (C : Addr) (fs : List Str) (n : Nat) (mk : List V → List (Str × V)) : Sp := fun vs H Q _ => ∃ (a : Addr) (xs : List V), vs = .ref a :: xs ∧ xs.length = n ∧ OexC K C ∧ (∀ f ∈ fs, PySem.W.findIn K (.ref C) f = some none) ∧ H a = some (exo a C none) ∧ IniEnd a C (mk xs) H Q
theorem g_ost {σ : L2.St} {H : Hp} {D : Ends} {K : PySem.W.Frag} {f : Str} {to te : TE} (h : te σ H fun y H1 => to σ H1 fun x H2 => ∃ a C : Addr, x = .ref a ∧ OexC K C ∧ PySem.W.findIn K (.ref C) f = some none ∧
  ((H2 a = some (exo a C none) ∧ ∀ dx, H2 dx = none → dx ≠ a → D.nx σ (upd (upd H2 dx (exd dx [(f, y)])) a (exo a C (some dx)))) ∨
    ∃ (dx : Addr) (fs : List (Str × V)), H2 a = some (exo a C (some dx)) ∧ H2 dx = some (exd dx fs) ∧ fs.length ≤ 900 ∧ D.nx σ (upd H2 dx (exd dx ((f, y) :: fs))))) : tOst K f to te D σ H := h
theorem raiseN {K : PySem.W.Frag} {C : Addr} {fs : List Str} {n : Nat} {mk : List V → List (Str × V)} {xs ys : List V} {H : Hp} {Q : XK} (o : OexC K C) (hn : ∀ f ∈ fs, PySem.W.findIn K (.ref C) f = some none) (hl : (xs ++ ys).length = n) (hl2 : xs.length ≤ 1000) (q : ∀ d H', Same H H' → H d = none → H' d = some (.xd (mk (xs ++ ys))) → Q (.ref C) (some d) H') :
    xs.length ≤ 1000 ∧ ∀ a, H a = none → spIni K C fs n mk (.ref a :: (xs ++ ys)) (upd H a (exo a C none)) (fun v H2 => v = .non ∧ ∃ (d : Addr) (fs : List (Str × V)), H2 a = some (exo a C (some d)) ∧ H2 d = some (exd d fs) ∧ H d = none ∧ Q (.ref C) (some d) (upd (del H2 a) d (.xd fs))) (fun _ _ _ => False) := by
  refine ⟨hl2, fun a ha => ⟨a, xs ++ ys, rfl, hl, o, hn, upd_same, fun dx H' h1 h2 h3 h4 h5 => ⟨rfl, dx, _, h3, h4, ?_, q dx _ (fun b u hb => ?_) ?_ upd_same⟩⟩⟩
  · rw [upd_ne h2] at h1
    exact h1
  · rw [upd_ne h2] at h1
    rw [upd_ne (ne_of_none hb h1), del_ne (ne_of_none hb ha)]
    exact h5 b u (ne_of_none hb ha) (by rw [upd_ne (ne_of_none hb ha)]; exact hb)
  · rw [upd_ne h2] at h1
    exact h1
/-- what an own exception class of the program must have, for raising -/
structure Rz (K : PySem.W.Frag) (C : Addr) (fs : List Str) (n : Nat) (mk : List V → List (Str × V)) (mkD : List D → List D) : Prop where
  nf : ∀ f ∈ fs, PySem.W.findIn K (.ref C) f = some none
  o : OexC K C
  da : ∀ so A ds xs, ds.length = n → DaL K so A ds xs → ∃ us, mk xs = fs.zip us ∧ us.length = fs.length ∧ DaL K so A (mkD ds) us
def sRaise (C : Addr) (fs : List Str) (n : Nat) (mkD : List D → List D) (dd : List D) (t : DL) : DS := fun DD ρ => t ρ (fun ds => ds.length ≤ 1000 ∧ (ds ++ dd).length = n ∧ DD.ex ⟨C, fs, mkD (ds ++ dd)⟩) DD.ex
section
variable {X : Cx} {g : Gx} {EX : EXT} {e a b : Expr} {es : List Expr} {pos p pos' : Pos} {t : DL}
theorem pmkN0 {CXc : CXT} {nm : Str} {C fI : Addr} {lv : Nat} {fdI : FuncData} {psI : List Str} {spI : Sp} {ds : List Value} {dvs : List V} (T : OexC X.K C)
    (iC : PySem.W.findIn X.K (.ref C) "__init__" = some (some (.ref fI))) (tI : PySem.W.typeIn X.K (.ref fI) = some (.type "function"))
    (FI : FnOk X.prog X.w X.K X.mg X.base CXc lv fI fdI psI spI) (room : Room (lv + 1) X.A) (bnd : Binds X.K fdI psI ds) (dfl : Vals dvs ds) (px : Passes CXc X (fun _ _ _ => False)) (gl : Gl X nm) (gm : X.mg nm = some (.ref C))
    (nd : (nm == ("__debug__" : Str)) = false := by decide) :
    L2N.PMk X (.Call (.Name nm p) [] [] pos) (tMkO C spI dvs tNil) := by
  intro pins s σ H Q I rd
  have T' := T.cls
  obtain ⟨n0, n1, n2, n3, n4, n5, n6, n7, n8, n9, j0, j1, j2, j3, j5, lkC, rfs⟩ := T'
  refine wpAny_Call_Name_kw (ld_glob I gl gm ?_ nd)
  refine PySem.W.callWith_K0 I.kIn T.kC ?_
  show wpAny _ _ (call (.ref C) []) _ _ _
  obtain ⟨hp, gn, dr, tk, os⟩ := s
  have I1 := I
  generalize en : hp.objs.size + 1 = nx at *
  have le : hp.objs.size ≤ nx := by omega
  have fresh : H nx = none := I1.hok.fresh le
  have rd2 := rd.2 nx fresh
  have keep : ∀ b o, hp.get? b = some o → ((hp.push (PySem.W.kdv_tup [])).push (PySem.HandSPX.excO C hp.objs.size)).get? b = some o :=
    fun b o z => Heap.get?_push_of_some _ (Heap.get?_push_of_some _ z)
  have there : ((hp.push (PySem.W.kdv_tup [])).push (PySem.HandSPX.excO C hp.objs.size)).get? nx = some (PySem.HandSPX.excO C hp.objs.size) := by
    rw [← en]
    heap_get
  have I2 := I1.laid (t' := tk) (a := nx) (o := exo nx C none) (h' := (hp.push (PySem.W.kdv_tup [])).push (PySem.HandSPX.excO C hp.objs.size)) keep le (exo_ok there)
  have rel2 : Vals (V.ref nx :: dvs) (Value.ref nx :: ds) := .cons rfl dfl
  have rd2 : spI (V.ref nx :: dvs) _ _ _ := rd2
  have hlen : ([Value.ref nx] ++ ds).length = psI.length := by
    have q := rel2.length
    rw [FI.len _ _ _ _ rd2] at q
    exact q.symm
  have few : ([] : List Value).length ≤ sizeLine := by
    rw [sizeLine_eq]
    exact Nat.zero_le _
  refine wpAny_call ?_
  refine PySem.HandSPX.call_own F.excBase_ValueError (fun Y => PySem.HandSPX.refsVE_contains Y n4 rfs) (I1.kIn _ _ lkC) (PySem.W.looks_findIn I1.kIn iC) (fun self => PySem.W.bind_fn I1.kIn self tI) few ?_
  rw [en]
  refine codeAny_mono (FI.run _ X.stack _ _ ⟨[Value.ref nx], []⟩ (Value.ref nx :: ds) _ _ (fun _ _ _ => False) (room.make C [] []) (I2.env0.make C [] []) (bnd _ [Value.ref nx] I2.kIn hlen) rel2 rd2) fun r s' back => ?_
  cases r with
  | error er => exact px pins σ _ _ er s' I2 back
  | ok fl =>
    cases fl with
    | next => exact back.elim
    | brk => exact back.elim
    | cont => exact back.elim
    | ret u =>
      obtain ⟨v, H2, os2, bare2, un2, hok2, rv, ev, d, fs, ea, ed, hd1, q2⟩ := back
      subst ev
      obtain ⟨h2, g2, d2, t2, os'⟩ := s'
      obtain ⟨t0, G, J, kG, ge, hoe, na⟩ := mk_end0 (d2 := d2) (t2 := t2) I1 le keep un2 hok2 os2 bare2 ea ed hd1
      exact ⟨rv, nx, _, _, ⟨G, g2, d2, t2, os'⟩, _, .ref C, some d, rfl, J, kG, ge, hoe, ⟨rfl, rfl, fun ws hw => by cases hw; rfl⟩, rfl, rfl, na, rfl, bare2, raises_own T.exC T.tyC, q2⟩
variable {nm : Str} {C fI : Addr} {lv n : Nat} {fdI : FuncData} {psI fs : List Str} {mk : List V → List (Str × V)} {mkD : List D → List D} {dus : List Value} {dvs : List V} {dd : List D}
theorem pds_raise (R : Rz X.K C fs n mk mkD) (hc : X.calm = true) (tk : L2N.Takes X (fun c d σ H => EX σ c d H))
    (iC : PySem.W.findIn X.K (.ref C) "__init__" = some (some (.ref fI))) (tI : PySem.W.typeIn X.K (.ref fI) = some (.type "function"))
    (FI : FnOk X.prog X.w X.K X.mg X.base CX0 lv fI fdI psI (spIni X.K C fs n mk)) (room : Room (lv + 1) X.A) (bnd : Binds X.K fdI psI dus) (dfl : Vals dvs dus) (hd : ∀ so A, DaL X.K so A dd dvs) (gl : Gl X nm) (gm : X.mg nm = some (.ref C)) (args : PDA X g EX (e :: es) t)
    (nd : (nm == ("__debug__" : Str)) = false := by decide) (st1 : starEach (e :: es) X.env = (false, eval e X.env) :: starEach es X.env := by rfl) (st2 : (backTo pos (starEach es X.env)).any (·.1) = false := by rfl) :
    PDS X g EX (.Raise (some (.Call (.Name nm p) (e :: es) [] pos)) none pos') (sRaise C fs n mkD dd t) := ⟨(L2N.ps_raise hc tk (pmkN R.o iC tI FI room bnd dfl pass0 gl gm args.pa nd st1 st2)).imp fun De σ H h => by
  obtain ⟨A, ρ, DD, S, h, k⟩ := h
  refine ⟨A, ρ, _, _, S, h, fun ds vs A1 H1 x1 das q => ?_, k.cx S⟩
  obtain ⟨q0, q1, q2⟩ := q
  have da := das.app (hd _ _)
  obtain ⟨us, e1, e2, d2⟩ := R.da g.so A1 _ _ q1 da
  refine raiseN R.o R.nf (by rw [da.len]; exact q1) (by rw [das.len]; exact q0) fun d H' sm hn hx => ?_
  rw [e1] at hx
  have x2 := Ext.same x1.good sm
  exact k.ex σ S.e.len ⟨C, fs, _⟩ d A1 H' us ((S.x.trans x1).trans x2) ((S.x.trans x1).fresh hn) hx e2 d2 q2⟩
theorem pds_raise0 (R : Rz X.K C fs n mk mkD) (hc : X.calm = true) (tk : L2N.Takes X (fun c d σ H => EX σ c d H))
    (iC : PySem.W.findIn X.K (.ref C) "__init__" = some (some (.ref fI))) (tI : PySem.W.typeIn X.K (.ref fI) = some (.type "function"))
    (FI : FnOk X.prog X.w X.K X.mg X.base CX0 lv fI fdI psI (spIni X.K C fs n mk)) (room : Room (lv + 1) X.A) (bnd : Binds X.K fdI psI dus) (dfl : Vals dvs dus) (hd : ∀ so A, DaL X.K so A dd dvs) (gl : Gl X nm) (gm : X.mg nm = some (.ref C))
    (nd : (nm == ("__debug__" : Str)) = false := by decide) :
    PDS X g EX (.Raise (some (.Call (.Name nm p) [] [] pos)) none pos') (sRaise C fs n mkD dd lNil) := ⟨(L2N.ps_raise hc tk (pmkN0 R.o iC tI FI room bnd dfl pass0 gl gm nd)).imp fun De σ H h => by
  obtain ⟨A, ρ, DD, S, h, k⟩ := h
  obtain ⟨q0, q1, q2⟩ := h
  have da := hd g.so A
  obtain ⟨us, e1, e2, d2⟩ := R.da g.so A _ _ q1 da
  refine raiseN (xs := []) R.o R.nf (by rw [List.nil_append, da.len]; exact q1) (Nat.zero_le _) fun d H' sm hn hx => ?_
  rw [List.nil_append, e1] at hx
  have x2 := Ext.same S.good sm
  exact k.ex σ S.e.len ⟨C, fs, _⟩ d A H' us (S.x.trans x2) (S.x.fresh hn) hx e2 d2 q2⟩
end
/-! ### try .. except FrameError as e: return g(e) -/
def spXD (K : PySem.W.Frag) (m : XD → (D → Prop) → Prop) (a : Addr) (cls : Value) (d : Option Addr) : Sp := fun vs H Q _ => ∃ so A x dx us Qd, vs = [.ref a] ∧ cls = .ref x.C ∧ d = some dx ∧ Good K so A H ∧ A dx = some (.xd (x.fs.zip us)) ∧ us.length = x.fs.length ∧ DaL K so A x.vs us ∧ m x Qd ∧ Cont K so A H Qd Q
def sTry (i : Nat) (rb : DS) (okC : Addr → Prop) (mX : XD → (D → Prop) → Prop) : DS := fun DD ρ => i < ρ.length ∧ rb { DD with ex := fun x => okC x.C ∧ mX x DD.rt } ρ
section
variable {X : Cx} {g : Gx} {EX : EXT} {pos np p1 p2 p3 p4 pos' : Pos} {x n gn : Str} {i lv : Nat} {CF f : Addr} {fd : FuncData} {ps : List Str} {body : List Stmt} {rb : DS} {mX : XD → (D → Prop) → Prop}
theorem pds_tryE (hs : X.stack = X.env :: X.outer) (hf : X.env.frame = some X.env.locals) (hN : X.N.Nodup) (hi : X.N[i]? = some n) (hln : X.env.kindOf n = some .local) (hc : Names X x (.ref CF))
    (hb : ∀ (W : WX) (pn : List (Addr × Obj)) (xe : Value → Shared → Prop), L2N.Takes (X.tr pn xe) (fun c d σ H => (fun σ c d H => W c d σ H : EXT) σ c d H) → PassesOwn (model X.prog X.w) X.A X.env xe → PDSs (X.tr pn xe) g (fun σ c d H => W c d σ H) body rb)
    (G : FnE X.prog X.w X.K X.mg X.base lv f fd ps (fun q => spXD X.K mX q.1 q.2.cls q.2.dict)) (room : Room lv X.A) (gl : Gl X gn) (gm : X.mg gn = some (.ref f)) (kp : PySem.W.keepIn X.K (.ref f) = true) (bnd : Binds X.K fd ps [])
    (hv : ∀ (a : Addr) (pn : List (Addr × Obj)), PE (X.suite a pn) (.Name n p2) (tVar i))
    (nd : (gn == ("__debug__" : Str)) = false := by decide) (st1 : ∀ (a : Addr) (pn : List (Addr × Obj)), starEach [.Name n p2] (X.suite a pn).env = (false, eval (.Name n p2) (X.suite a pn).env) :: starEach [] (X.suite a pn).env := by intro _ _; rfl) :
    PDS X g EX (.Try body [.ExceptHandler (some (.Name x np)) (some n) [.Return (some (.Call (.Name gn p1) [.Name n p2] [] p3)) p4] pos'] [] [] pos) (sTry i rb (fun C => PySem.W.exmOne X.K (.ref C) (.ref CF) = some true) mX) := by
  have main := L2N.ps_try_as (pos := pos) (pos' := pos') (np := np) (i := i) (tb := fun W => lS X.K g (fun σ c d H => W c d σ H) rb) (ts := fun a cls d => tRet (tCallS (spXD X.K mX a cls d) (fun _ => E0) (tCons (tVar i) tNil))) hs hf hN hi hln hc takesN0
    (fun W pn xe tk po => (hb W pn xe tk po).pss) (fun a oe cls d pn hz hfl => by
      obtain ⟨h1, h2, h3⟩ := hz
      subst h1 h2
      exact pss_one (ps_ret (pos := p4) (pe_callE (X := X.suite a ((a, oe) :: pn)) (p := p1) (pos := p3) G (L2H.roomH_mark room _) ⟨rfl, hfl.elim fun vs e => ⟨vs, e, h3 vs e⟩⟩ (List.mem_cons_self ..) gl gm kp bnd (pa_cons (hv a _) pa_nil (st1 a _)) nd (st1 a _) rfl)))
  refine ⟨main.imp fun De σ H h => ?_⟩
  obtain ⟨A, ρ, DD, S, ⟨hi2, h⟩, k⟩ := h
  refine ⟨A, ρ, _, S, h, ⟨k.nx, k.rt, k.bk, k.ct, fun σ1 l1 z dx A1 H1 us x1 hn hx hl da q => ?_, k.fr⟩⟩
  refine ⟨true, q.1, fun _ a0 na => ?_, fun e => by cases e⟩
  have nso : g.so ≠ some dx := fun w => by
    obtain ⟨_, _, _, _, _, _, _, _, h5, _⟩ := x1.good.st dx w
    rw [hx] at h5
    cases h5
  obtain ⟨A2, y, sb, hA⟩ : ∃ A2, Ext X.K g.so g.Ai g.Hi A2 H1 ∧ Sub A1 A2 ∧ A2 dx = some (.xd (z.fs.zip us)) := by
    cases e : A1 dx with
    | none => exact ⟨_, x1.frz hn e hx nso, fun b o w => by rw [upd_ne (ne_of_none w e)]; exact w, upd_same⟩
    | some o =>
      have w := x1.good.sub dx o e
      rw [hx] at w
      cases w
      exact ⟨A1, x1, fun _ _ w => w, e⟩
  refine ⟨.ref a0, List.getElem?_set_self (by rw [l1]; exact hi2), g.so, A2, z, dx, us, DD.rt, rfl, rfl, rfl, y.good, hA, hl, DaL.mono sb _ _ da, q.2, fun d v A3 H3 x2 d2 q2 => ?_⟩
  exact k.rt A3 H3 d v (y.trans x2) d2 q2
end
/-! ### fields -/
def mk1 (f : Str) : List V → List (Str × V)
  | [x] => [(f, x)]
  | _ => []
theorem mk1_da {f : Str} {K : PySem.W.Frag} (so : Option Addr) (A : Hp) (ds : List D) (xs : List V) (hl : ds.length = 1) (h : DaL K so A ds xs) : ∃ us, mk1 f xs = [f].zip us ∧ us.length = [f].length ∧ DaL K so A (id ds) us := by
  match ds, hl with
  | [d], _ =>
    obtain ⟨v, rfl, dv⟩ := h.one'
    exact ⟨[v], rfl, rfl, DaL.one dv⟩
def mk3 (f1 f2 f3 : Str) : List V → List (Str × V)
  | [x, y, z] => [(f3, z), (f2, y), (f1, x)]
  | _ => []
def rev3 : List D → List D
  | [x, y, z] => [z, y, x]
  | l => l
theorem mk3_da {f1 f2 f3 : Str} {K : PySem.W.Frag} (so : Option Addr) (A : Hp) (ds : List D) (xs : List V) (hl : ds.length = 3) (h : DaL K so A ds xs) : ∃ us, mk3 f1 f2 f3 xs = [f3, f2, f1].zip us ∧ us.length = [f3, f2, f1].length ∧ DaL K so A (rev3 ds) us := by
  match ds, hl with
  | [d1, d2, d3], _ =>
    obtain ⟨v, r, rfl, dv, h2⟩ := h
    obtain ⟨u, w, rfl, du, dw⟩ := h2.two'
    exact ⟨[w, u, v], rfl, rfl, w, [u, v], rfl, dw, u, [v], rfl, du, DaL.one dv⟩
/-! ### the store -/
theorem StoOk.store {K : PySem.W.Frag} {so : Option Addr} {A H : Hp} {s : Addr} (gd : Good K so A H) (e : so = some s) : Store K H s := by
  obtain ⟨h1, L, ns, p, a, b, c, d, h2, h3, q1, q2, q3, q4, q5, q6⟩ := gd.st s e
  refine ⟨L, ns, p, a, b, c, d, ⟨h2, fun z => ?_, .inl (.inl (gd.sub _ _ h3)), q1, q2, q3, q4, q5, q6⟩⟩
  rw [z, h1] at h3
  cases h3
theorem Ext.store {K : PySem.W.Frag} {so : Option Addr} {A H H' : Hp} {s : Addr} (gd : Good K so A H) (e : so = some s) (x : Sx s H H') (st : Store K H' s) : Ext K so A H A H' := by
  refine ⟨⟨fun b o h => ?_, fun s' e' => ?_⟩, fun _ _ h => h, fun b o n h => ?_, fun _ _ h => .inl h⟩
  · have n : b ≠ s := fun z => by
      rw [z, (gd.st s e).1] at h
      cases h
    exact x.kp b o n (gd.sub b o h)
  · rw [e] at e'
    cases e'
    obtain ⟨h1, L, ns, p, a, b, c, d, h2, h3, q⟩ := gd.st s e
    obtain ⟨ys, h4⟩ := x.ce L _ h2
    obtain ⟨L', ns', p', a', b', c', d', z⟩ := st
    have z1 := z.at_
    rw [h4] at z1
    cases z1
    exact ⟨h1, L, ns, p', a', b', c', d', h4, h3, z.p0, z.a0, z.b0, z.c0, z.c1, q.2.2.2.2.2⟩
  · exact x.kp b o (fun z => n (by rw [e, z])) h
/-- a draw -/
def mTake : DF := fun ds Q _ => match ds with
  | [.sto, .int many] => many < BIG ∧ ∀ r : Int, 0 ≤ r → (r = 0 ∨ r < many) → Q (.int r)
  | _ => False
end My
namespace My
open PySem PySem.Spec PyProof.Rows L2
/-! ### a list's end, and list comprehensions, while an exception is handled -/
section
variable {prog : Program} {w : World} {A : Around} {E : Value → Shared → Prop} {s : Shared}
theorem list_end_hot {it l z : Addr} {i : Nat} {items : Array Value} {Q : Option Value → Shared → Prop} (hot : HotX.HotAt A z s.heap) (nz : z ≠ it) (ti : s.heap.IsListIter it l i) (tl : s.heap.IsList l items) (e : items[i]? = none)
    (q : ∀ h', (∀ b o, b ≠ it → s.heap.get? b = some o → h'.get? b = some o) → Q none { s with heap := h' }) : wpAny (model prog w) A (pyNext (.ref it)) Q E s := by
  obtain ⟨u, gu, cu, du⟩ := id ti
  obtain ⟨ul, gl, _, nl, dl⟩ := tl
  obtain ⟨hh, o1, vs1, g1, d1, c1⟩ := hot
  unfold pyNext
  refine wpAny_bind (wpAny_attempt (wpAny_callSpecial?_slot (name := Str.ofString "__next__") ti.typeIs slot_listiter_next (wpAny_call_entry slot_listiter_next ti.typeIs entry_listiter_next ?_ (args_listiter_next _))))
  show wpAny _ A.in1 (field (.ref it) 0 >>= _) _ _ s
  refine wpAny_bind (wpAny_field gu du (x := Value.ref l) rfl ?_)
  rw [if_neg (show ¬ (Value.ref l == Value.none) = true by exact Bool.false_ne_true)]
  refine wpAny_bind (wpAny_field gu du (x := Value.int i 0) rfl (wpAny_bind (wpAny_seqItems gl dl ?_)))
  simp only [e, Int.toNat_natCast]
  refine wpAny_bind (wpAny_rule (wpAny_bind (wpAny_setField gu du (by simp) ?_)))
  generalize hk : s.heap.update it (Obj.mapFields fun x => x.setIfInBounds 0 Value.none) = h1
  have kp : ∀ b o, b ≠ it → s.heap.get? b = some o → h1.get? b = some o := fun b o n g => by
    rw [← hk, Heap.get?_update_other _ _ (Ne.symm n)]
    exact g
  have g2 := kp z o1 nz g1
  unfold Builtin.SmallTypes.stopIteration
  refine wpAny_bind ?_
  simp only [newTuple, newExc]
  refine wpAny_bind (wpAny_newObj_type (wpAny_bind (m := firstArgMember _ _) (wpAny_of_eq (a := Value.none) (by first | rfl | (simp only [firstArgMember]; rfl)) (wpAny_newObj_type ?_ (by size_fits)))) (by size_fits))
  refine HotX.raiseNew_hot ⟨hh, o1, vs1, Heap.get?_push_of_some _ (Heap.get?_push_of_some _ g2), d1, c1⟩ (Nat.ne_of_lt (Heap.lt_size (Heap.get?_push_of_some _ g2))) (Heap.get?_push_size _ rfl) rfl (by first | (simp; done) | (simp; omega)) ?_
  refine wpAny_bind (wpAny_isInstance (T := "StopIteration") (b := true) ⟨_, Heap.get?_update_self _ (Heap.get?_push_size _ rfl) rfl, rfl⟩ isSubtype_stop (wpAny_pure (q _ fun b o n g => ?_)))
  have g3 := kp b o n g
  rw [Heap.get?_update_other _ _ (Nat.ne_of_gt (Heap.lt_size (Heap.get?_push_of_some _ g3)))]
  exact Heap.get?_push_of_some _ (Heap.get?_push_of_some _ g3)
end
section
variable {X : Cx} {pins : List (Addr × Obj)} {σ : L2.St} {H : Hp} {s : Shared} {Q : VK} {elt tg iter : Expr} {ifs : List Expr} {scope : Scope} {own : List (Str × Nat)} {pos : Pos} {g : TG} {tt : TT} {te : TE}
theorem lc_rest {a it : Addr} {use : Option (Value → Sem Unit)} {Qf : Value → Shared → Prop} (hot : L2H.HotC X) (hN : X.N.Nodup) (I : Inv X pins σ H s) (ti : s.heap.IsListIter it a 0) (fi : FpOk X pins H it) (ok : BlkOk X.N X.env.scope scope own)
    (hg : ∀ (s : Shared) (H : Hp) (C : Addr) (cl : List (Str × Addr)) (fp : List Addr), PG (X.blk s H scope (compEnvC scope cl C X.env) fp) tg g)
    (ht : ∀ (s : Shared) (H : Hp) (C : Addr) (cl : List (Str × Addr)) (fp : List Addr), PTs (X.blk s H scope (compEnvC scope cl C X.env) fp) ifs tt)
    (he : ∀ (s : Shared) (H : Hp) (C : Addr) (cl : List (Str × Addr)) (fp : List Addr), PE (X.blk s H scope (compEnvC scope cl C X.env) fp) elt te)
    (q : ∀ D, H D = none → ∃ W : Nat → Nat → Hp → Prop, (∃ m, W 0 m (upd H D (.lst []))) ∧ ∀ i m H, W i m H → ((Itl X.K a).stop i H ∧ Q (.ref D) H) ∨
      ((Itl X.K a).go i H ∧ ∃ Nx : Hp → Prop, (∀ H', Nx H' → ∃ m', m' < m ∧ W (i + 1) m' H') ∧ ∀ x H', (Itl X.K a).yld i H x H' → g x (wipe σ (own.map (·.2))) H' fun σ2 H2 => wipe σ2 (own.map (·.2)) = wipe σ (own.map (·.2)) ∧
        tt σ2 H2 fun b H3 => if b = true then te σ2 H3 fun y H4 => ∃ acc, H4 D = some (.lst acc) ∧ acc.length < sizeLine ∧ Nx (upd H4 D (.lst (acc ++ [y]))) else Nx H3))
    (fit : ∀ D C s' m H', Inv X pins σ H' s' → Q (.ref D) H' → s'.heap.Ns C m → FpOk X pins H' C → compPost (model X.prog X.w) X.A X.xe use Qf (.ref D) C (.ok .next) s') :
    wpAny (model X.prog X.w) X.A (newList []) (fun acc s3 => wpAny (model X.prog X.w) X.A (newFunctionEnv scope X.env.globals (cloFrom X.env.cells scope.names []) [] X.env.qual none .none (some X.env)) (fun cenv s4 =>
      codeAny (model X.prog X.w) X.A (.compStart (.ListComp elt [⟨tg, iter, ifs, 0⟩] scope pos) 0 (.ref it) acc { cenv with scope := relabel scope X.env })
        (compPost (model X.prog X.w) X.A X.xe use Qf acc cenv.locals) s4) X.xe s3) X.xe s := by
  refine wpAny_newObj_type (newEnv_comp ?_) (show (0 : Nat) ≤ sizeLine by decide)
  obtain ⟨D, eD⟩ : ∃ D, s.heap.objs.size = D := ⟨_, rfl⟩
  rw [eD]
  have nD : H D = none := I.hok.fresh (Nat.le_of_eq eD)
  obtain ⟨W, ⟨m0, w0⟩, turn⟩ := q D nD
  obtain ⟨ou, gu, cu, du⟩ := id ti
  have lit : it < s.heap.objs.size := Heap.lt_size gu
  generalize e3 : ({ s with heap := s.heap.push { cls := .type "list", data := .seq ([] : List Value).toArray } } : Shared) = s3
  have h3 : s3.heap = s.heap.push { cls := .type "list", data := .seq ([] : List Value).toArray } := e3 ▸ rfl
  have I3 : Inv X pins σ (upd H D (.lst [])) s3 := by
    rw [← e3]
    exact I.laid (t' := s.toks) (fun b o z => Heap.get?_push_of_some _ z) (Nat.le_of_eq eD) ⟨Nat.zero_le _, [], 0, .nil, by rw [← eD]; exact Heap.get?_push_size _ rfl⟩
  have fi3 : FpOk X pins (upd H D (.lst [])) it := ⟨by rw [upd_ne (by rw [← eD]; exact Nat.ne_of_lt lit)]; exact fi.1, fi.2⟩
  have ti3 : s3.heap.IsListIter it a 0 := ⟨ou, by rw [h3]; exact Heap.get?_push_of_some _ gu, cu, du⟩
  have I4 := block_start (fp := [it]) I3 ok hN fun b hb => by
    rw [List.mem_singleton.mp hb]
    exact ⟨fi3, by rw [h3, Heap.size_push]; exact Nat.lt_succ_of_lt lit⟩
  obtain ⟨cl, ecl⟩ : ∃ cl, cellsFrom (s3.heap.objs.size + 1) scope.names (cloFrom X.env.cells scope.names []) = cl := ⟨_, rfl⟩
  show codeAny _ _ (.compStart (.ListComp elt [⟨tg, iter, ifs, 0⟩] scope pos) 0 (.ref it) (.ref D) (compEnvC scope (cellsFrom (s3.heap.objs.size + 1) scope.names (cloFrom X.env.cells scope.names [])) s3.heap.objs.size X.env))
    (compPost (model X.prog X.w) X.A X.xe use Qf (.ref D) s3.heap.objs.size) { s3 with heap := pushCells (s3.heap.push { cls := .type "dict", data := .dict #[] }) scope.names }
  rw [ecl] at I4 ⊢
  have pg := hg s3 (upd H D (.lst [])) s3.heap.objs.size cl [it]
  have pt := ht s3 (upd H D (.lst [])) s3.heap.objs.size cl [it]
  have pe := he s3 (upd H D (.lst [])) s3.heap.objs.size cl [it]
  have ti4 : Heap.IsListIter (pushCells (s3.heap.push { cls := .type "dict", data := .dict #[] }) scope.names) it a 0 := ⟨ou, pushCells_keeps _ _ _ _ (Heap.get?_push_of_some _ (by rw [h3]; exact Heap.get?_push_of_some _ gu)), cu, du⟩
  -- the exception that is handled
  obtain ⟨⟨z, zo⟩, ⟨hh, zv, dz, cz⟩, hz⟩ := hot
  obtain ⟨gz, nz, nzL, nzF, _⟩ := I3.pin (z, zo) (List.mem_append_left _ hz)
  have zit : z ≠ it := fi.2.2.2.2.2 (z, zo) (List.mem_append_left _ hz)
  have zst : z ∉ frs X.stack := fun hm => (List.mem_cons.mp (I3.stkSub z hm)).elim nzL nzF
  generalize hce : compEnvC scope cl s3.heap.objs.size X.env = ce at I4 pg pt pe ⊢
  have cL : ce.locals = s3.heap.objs.size := by subst hce; rfl
  generalize hH3 : upd H D (.lst []) = H3 at I3 I4 pg pt pe w0 fi3 nz
  generalize hs4 : ({ s3 with heap := pushCells (s3.heap.push { cls := .type "dict", data := .dict #[] }) scope.names } : Shared) = s4 at I4 ⊢
  have ti4 : s4.heap.IsListIter it a 0 := by
    rw [← hs4]
    exact ti4
  have fpo : ∀ {σ' : L2.St} {H' : Hp} {s' : Shared}, Inv (X.blk s3 H3 scope ce [it]) [] σ' H' s' → H' it = none → FpOk (X.blk s3 H3 scope ce [it]) [] H' it := fun {σ' H' s'} J n =>
    have m : it ∈ [it] := List.mem_singleton.mpr rfl
    ⟨n, (J.ok.exf it m).1, J.ok.exfs it m, .inl m, fun x c e => (J.ok.exf it m).2 x c e, fun p hp => by cases hp⟩
  have loop : codeAny (model X.prog X.w) X.A (.compLoop (.ListComp elt [⟨tg, iter, ifs, 0⟩] scope pos) 0 (.ref it) (.ref D) ce) (compPost (model X.prog X.w) X.A X.xe use Qf (.ref D) s3.heap.objs.size) s4 := by
    refine compLoop_any (fun n s' => ∃ i H', Inv (X.blk s3 H3 scope ce [it]) [] (wipe σ (own.map (·.2))) H' s' ∧ s'.heap.IsListIter it a i ∧ H' it = none ∧ W i n H') ?_ m0 ⟨0, H3, I4, ti4, fi3.1, w0⟩
    rintro n s5 ⟨i, H5, I5, ti5, n5, w5⟩
    obtain ⟨f0, f1, f2, f3, f4, f5⟩ := fpo I5 n5
    rcases turn i n H5 w5 with ⟨⟨xs, hq, hx⟩, qq⟩ | ⟨⟨xs, x, hq, hx⟩, Nx, hNx, step⟩
    · obtain ⟨its, rv, p, hz5⟩ := I5.list hq
      have hl := rv.length
      have g5 : s5.heap.get? z = some zo := I5.base.keep z zo gz nz zst fun hm => zit (List.mem_singleton.mp hm)
      refine list_end_hot ⟨hh, zo, zv, g5, dz, cz⟩ zit ti5 p.isList (by simp; omega) fun h' kb => ?_
      have I6 : Inv (X.blk s3 H3 scope ce [it]) [] (wipe σ (own.map (·.2))) H5 { s5 with heap := h' } := I5.turned (t' := s5.toks) kb f0 f1 f3 f4 f5
      have I7 : Inv X pins σ H5 { s5 with heap := h' } := I3.call' (ch := [it]) I6.os I6.base I6.hok I6.bare fun b hb => by
        rw [List.mem_singleton.mp hb]
        exact ⟨fi3.2.2.2.1, fi3.2.1, fi3.2.2.2.2.1, fi3.2.2.2.2.2⟩
      have nC : H5 s3.heap.objs.size = none := by
        have y : H5 ce.locals = none := I6.free
        rw [cL] at y
        exact y
      obtain ⟨m, hn, _⟩ := I6.loc
      have hn : Heap.Ns h' ce.locals m := hn
      rw [cL] at hn
      exact fit D s3.heap.objs.size _ m H5 I7 qq hn (I3.fpOk (Nat.le_refl _) nC)
    · obtain ⟨its, rv, p, hz5⟩ := I5.list hq
      obtain ⟨u, hu, ru⟩ := rv.get hx
      refine wpAny_pyNext_list_item ti5 p.isList (x := u) (by simpa using hu) fun h' ti6 sb => ?_
      have I6 : Inv (X.blk s3 H3 scope ce [it]) [] (wipe σ (own.map (·.2))) H5 { s5 with heap := h' } := I5.turned (t' := s5.toks) (fun b o hb e => (sb.2 b hb).trans e) f0 f1 f3 f4 f5
      obtain ⟨o6, g6, k6, d6⟩ := id ti6
      have ob : ∀ b ∈ [it], ∃ o, h'.get? b = some o ∧ ∀ v, o.data ≠ .cell v := fun b hb => by
        rw [List.mem_singleton.mp hb]
        exact ⟨o6, g6, fun v y => by rw [d6] at y; cases y⟩
      have I7 := I6.pinned (fp := [it]) (fun b hb => by rw [List.mem_singleton.mp hb]; exact fpo I6 n5) ob
      refine go_of (s := { s5 with heap := h' }) g6 k6 d6 (by decide) ?_
      refine thnF (pg.run _ _ _ H5 x u _ I7 ru (step x H5 ⟨rfl, fun ys hy => by rw [I5.list_inj hy hq]; exact hx⟩)) fun _ s8 ⟨σ8, H8, I8, hw8, q8⟩ => ?_
      refine thnF (pt.run _ s8 σ8 H8 _ I8 q8) fun b s9 ⟨H9, I9, q9⟩ => ?_
      have fin : ∀ {s' : Shared} {H' : Hp}, Inv (X.blk s3 H3 scope ce [it]) ([] ++ pinsAt [it] h') σ8 H' s' → Nx H' → ∃ m, m < n ∧ ∃ i H', Inv (X.blk s3 H3 scope ce [it]) [] (wipe σ (own.map (·.2))) H' s' ∧ s'.heap.IsListIter it a i ∧ H' it = none ∧ W i m H' := fun {s' H'} J nx => by
        obtain ⟨m', hm, w'⟩ := hNx H' nx
        obtain ⟨p1, p2, _⟩ := J.pin (it, o6) (List.mem_append_right _ (List.mem_append_right _ (mem_pinsAt (List.mem_singleton.mpr rfl) g6)))
        refine ⟨m', hm, i + 1, H', J.unpinned.weak (by rw [← wipe_length σ8 (own.map (·.2)), hw8]) (fun j v e => ?_), ⟨o6, p1, k6, d6⟩, p2, w'⟩
        rw [← hw8] at e
        exact (wipe_some e).1
      cases b with
      | false => exact fin I9 (by simpa using q9)
      | true =>
        have q9 := outT q9
        refine thnF (pe.run _ s9 σ8 H9 _ I9 q9) fun y s10 ⟨yv, H10, I10, r10, acc, hD10, hz10, nx⟩ => ?_
        exact app_ok (X := X.blk s3 H3 scope ce [it]) I10 hD10 hz10 r10 fun s11 I11 => fin I11 nx
  exact codeAny_compStart_list loop (wpAny_pyIter_listiter ti4 loop)
end
section
variable {X : Cx} {elt tg iter : Expr} {ifs : List Expr} {scope : Scope} {own : List (Str × Nat)} {pos : Pos} {g : TG} {tt : TT} {te ti : TE}
theorem lc_hot {pins : List (Addr × Obj)} {s : Shared} {σ : L2.St} {H : Hp} {Q : VK} {pos' : Pos} {use : Option (Value → Sem Unit)} {Qf : Value → Shared → Prop} (hot : L2H.HotC X) (hN : X.N.Nodup) (I : Inv X pins σ H s) (hi : PE X iter ti) (ok : BlkOk X.N X.env.scope scope own)
    (hg : ∀ (s : Shared) (H : Hp) (C : Addr) (cl : List (Str × Addr)) (fp : List Addr), PG (X.blk s H scope (compEnvC scope cl C X.env) fp) tg g)
    (ht : ∀ (s : Shared) (H : Hp) (C : Addr) (cl : List (Str × Addr)) (fp : List Addr), PTs (X.blk s H scope (compEnvC scope cl C X.env) fp) ifs tt)
    (he : ∀ (s : Shared) (H : Hp) (C : Addr) (cl : List (Str × Addr)) (fp : List Addr), PE (X.blk s H scope (compEnvC scope cl C X.env) fp) elt te) (hs : ∀ x, foldedSetIterable iter X.env x = pure x)
    (rd : tLc (iList X.K ti) g tt te (own.map (·.2)) σ H Q)
    (fit : ∀ D C s' m H', Inv X pins σ H' s' → Q (.ref D) H' → s'.heap.Ns C m → FpOk X pins H' C → compPost (model X.prog X.w) X.A X.xe use Qf (.ref D) C (.ok .next) s') :
    wpAny (model X.prog X.w) X.A (comprehension (.ListComp elt [⟨tg, iter, ifs, 0⟩] scope pos) scope X.env pos' (newList []) false (eval iter X.env) use) Qf X.xe s := by
  refine wpAny_comprehension_free (use := use) rfl hs (closure_ok fun y hy e => (ok.free y hy e).elim (fun k => I.ok.has _ (.inl k)) fun k => I.ok.has _ (.inr k)) ok.kind (fun y hy e => by rw [ok.uniq y hy, e]) (thn (hi.run pins s σ H _ I rd) fun xv s1 got => ?_)
  obtain ⟨x, H1, I1, rx, a, ex, ⟨xs, hq⟩, q⟩ := got
  subst ex
  cases (show xv = Value.ref a from rx)
  obtain ⟨its, rv, pl, hz⟩ := I1.list hq
  refine wpAny_pyIter_list pl.isList (lc_rest hot hN (I1.kept (t' := s1.toks) fun b o e => Heap.get?_push_of_some _ e) ⟨_, Heap.get?_push_size _ rfl, rfl, rfl⟩ ?_ ok hg ht he q fit)
  exact I1.fpOk (Nat.le_refl _) (I1.hok.fresh (Nat.le_refl _))
theorem pe_lcH (hot : L2H.HotC X) (hN : X.N.Nodup) (hi : PE X iter ti) (ok : BlkOk X.N X.env.scope scope own)
    (hg : ∀ (s : Shared) (H : Hp) (C : Addr) (cl : List (Str × Addr)) (fp : List Addr), PG (X.blk s H scope (compEnvC scope cl C X.env) fp) tg g)
    (ht : ∀ (s : Shared) (H : Hp) (C : Addr) (cl : List (Str × Addr)) (fp : List Addr), PTs (X.blk s H scope (compEnvC scope cl C X.env) fp) ifs tt)
    (he : ∀ (s : Shared) (H : Hp) (C : Addr) (cl : List (Str × Addr)) (fp : List Addr), PE (X.blk s H scope (compEnvC scope cl C X.env) fp) elt te) (hs : ∀ x, foldedSetIterable iter X.env x = pure x) :
    PE X (.ListComp elt [⟨tg, iter, ifs, 0⟩] scope pos) (tLc (iList X.K ti) g tt te (own.map (·.2))) := by
  refine ⟨fun pins s σ H Q I rd => ?_⟩
  rw [eval_ListComp]
  refine lc_hot hot hN I hi ok hg ht he hs rd fun D C s' m H' J q hn f => ⟨m, hn, fun h8 sb => ?_⟩
  obtain ⟨c0, c1, c2, c3, c4, c5⟩ := f
  exact ⟨.ref D, H', J.turned (t' := s'.toks) (fun b o hb e => (sb.2 b hb).trans e) c0 c1 c3 c4 c5, rfl, q⟩
theorem ps_setLcH {i : Nat} {y : Str} {py spos : Pos} (hot : L2H.HotC X) (hN : X.N.Nodup) (hy : X.N[i]? = some y) (hyl : X.env.scope.names.lookup y = some .local)
    (hsw : swapsWith (.ListComp elt [⟨tg, iter, ifs, 0⟩] scope pos) (some (.Name y py)) spos.line X.env = pure true) (hi : PE X iter ti) (ok : BlkOk X.N X.env.scope scope own)
    (hg : ∀ (s : Shared) (H : Hp) (C : Addr) (cl : List (Str × Addr)) (fp : List Addr), PG (X.blk s H scope (compEnvC scope cl C X.env) fp) tg g)
    (ht : ∀ (s : Shared) (H : Hp) (C : Addr) (cl : List (Str × Addr)) (fp : List Addr), PTs (X.blk s H scope (compEnvC scope cl C X.env) fp) ifs tt)
    (he : ∀ (s : Shared) (H : Hp) (C : Addr) (cl : List (Str × Addr)) (fp : List Addr), PE (X.blk s H scope (compEnvC scope cl C X.env) fp) elt te) (hs : ∀ x, foldedSetIterable iter X.env x = pure x) :
    PS X (.Assign [.Name y py] (.ListComp elt [⟨tg, iter, ifs, 0⟩] scope pos) spos) (tAsg (tLc (iList X.K ti) g tt te (own.map (·.2))) (gName i)) := by
  refine ⟨fun pins s σ H D I rd => ?_⟩
  rw [exec_Assign_Name_used _ _ _ _ hsw]
  refine wpAny_bind (wpAny_standAt (wpAny_bind ?_))
  show wpAny _ X.A (do
    let _ ← comprehension (.ListComp elt [⟨tg, iter, ifs, 0⟩] scope pos) scope X.env (firstIterPos [⟨tg, iter, ifs, 0⟩] pos) (newList []) false (eval iter X.env) (some (assign (.Name y py) X.env))) _ _ s
  have rd : tLc (iList X.K ti) g tt te (own.map (·.2)) σ H (fun x H1 => gName i x σ H1 D.nx) := rd
  refine wpAny_bind (thn (lc_hot (Qf := fun _ s' => SP X pins D .next s') hot hN I hi ok hg ht he hs rd fun L C s' m H' J q hn f => ?_) fun _ s' hq => wpAny_pure (wpAny_pure hq))
  show wpAny _ _ (assign (.Name y py) X.env (Value.ref L)) _ _ s'
  obtain ⟨c0, c1, c2, c3, c4, c5⟩ := f
  refine wpAny_assign_Name (store_ok2 (v := V.ref L) J hN hy (.inl hyl) rfl (fun s2 I2 ⟨a, sb, ha⟩ => ?_) (.inr hyl))
  have nC : C ≠ a := ha.elim (fun z => by rw [z]; exact c1) fun z e => c4 y a z e.symm
  exact ⟨m, hn.sameBut sb nC, fun h3 sb3 => ⟨_, H', I2.turned (t' := s2.toks) (fun b o hb e => (sb3.2 b hb).trans e) c0 c1 c3 c4 c5, q⟩⟩
end
section
variable {X : Cx} {g : Gx} {EX : EXT} {tg iter elt : Expr} {ifs : List Expr} {scope : Scope} {own : List (Str × Nat)} {pos : Pos} {gr : DG} {tt : DT} {te r : DE}
theorem iL_list {σ : L2.St} {H : Hp} {R : It → Hp → Prop} (h : lI X.K g EX (iL r) σ H R) : iList X.K (lE X.K g EX r) σ H R := by
  obtain ⟨A, ρ, Qd, Ed, S, q, cx, k⟩ := h
  refine ⟨A, ρ, _, Ed, S, q, fun d v A1 H1 x1 da q => ?_, cx⟩
  have q : onL d Qd := q
  unfold onL at q
  split at q
  · obtain ⟨p, xs, rfl, hs, qa⟩ := da
    exact ⟨p, rfl, ⟨xs, SqL.of (x1.good.sub _ _ hs)⟩, k _ _ A1 H1 x1 (turns_list (SqL.of hs) qa) q⟩
  · exact q.elim
/-- name = [..], owned, while an exception is handled -/
theorem pds_setLcH {i : Nat} {y : Str} {py spos : Pos} (hot : L2H.HotC X) (hN : X.N.Nodup) (hy : X.N[i]? = some y) (hyl : X.env.scope.names.lookup y = some .local)
    (hsw : swapsWith (.ListComp elt [⟨tg, iter, ifs, 0⟩] scope pos) (some (.Name y py)) spos.line X.env = pure true) (hi : PD X g EX iter r) (ok : BlkOk X.N X.env.scope scope own)
    (hg : ∀ (s : Shared) (H : Hp) (C : Addr) (cl : List (Str × Addr)) (fp : List Addr), PDGw (X.blk s H scope (compEnvC scope cl C X.env) fp) g (own.map (·.2)) tg gr)
    (ht : ∀ (s : Shared) (H : Hp) (C : Addr) (cl : List (Str × Addr)) (fp : List Addr), PDTs (X.blk s H scope (compEnvC scope cl C X.env) fp) g EXF ifs tt)
    (he : ∀ (s : Shared) (H : Hp) (C : Addr) (cl : List (Str × Addr)) (fp : List Addr), PD (X.blk s H scope (compEnvC scope cl C X.env) fp) g EXF elt te)
    (hs : ∀ x, foldedSetIterable iter X.env x = pure x := by intro _; rfl) :
    PDS X g EX (.Assign [.Name y py] (.ListComp elt [⟨tg, iter, ifs, 0⟩] scope pos) spos) (sSetN i (nComp (iL r) gr tt te (own.map (·.2)))) :=
  ⟨(ps_setLcH (i := i) (te := lE X.K g EXF te) (tt := lT X.K g EXF tt) hot hN hy hyl hsw hi.pe ok (fun s H C cl fp => (hg s H C cl fp).pg) (fun s H C cl fp => (ht s H C cl fp).pt) (fun s H C cl fp => (he s H C cl fp).pe) hs).imp fun De σ H h => by
  obtain ⟨A, ρ, DD, S, h, k⟩ := h
  have h2 : lN X.K g EX (nComp (iL r) gr tt te (own.map (·.2))) σ H (fun x H1 => gName i x σ H1 De.nx) := ⟨A, ρ, _, _, S, h, fun l xs p A1 H1 x1 hp da q => k.nx _ _ _ _ ((S.ext x1).setOw hp da) (List.length_set ..) x1.mono q, k.cx S⟩
  exact iL_list (lcD h2)⟩
end
end My
namespace My
open PySem PySem.Spec PyProof.Rows L2
/-! ### the exception that is handled, over data -/
theorem zip_look {K : PySem.W.Frag} {so : Option Addr} {A : Hp} {n : Str} {d : D} : ∀ {fs : List Str} {vs : List D} {us : List V}, DaL K so A vs us → (fs.zip vs).lookup n = some d → ∃ v, (fs.zip us).lookup n = some v ∧ Da K so A d v
  | [], _, _, _, e => by cases e
  | _ :: _, [], _, _, e => by cases e
  | f :: fs, c :: vs, us, q, e => by
    obtain ⟨v, r, e1, h1, h2⟩ := q
    subst e1
    rw [List.zip_cons_cons, List.lookup_cons] at e ⊢
    cases hb : n == f with
    | true =>
      rw [hb] at e
      cases e
      exact ⟨v, rfl, h1⟩
    | false =>
      rw [hb] at e
      exact zip_look h2 e
section
variable {X : Cx} {g : Gx} {EX : EXT} {e c : Expr} {ra : DE} {pos p : Pos} {a : Addr} {oe : Obj} {x : XD} {dx : Addr} {us : List V}
/-- what is known of the exception -/
structure XK1 (X : Cx) (g : Gx) (a : Addr) (oe : Obj) (x : XD) (dx : Addr) (us : List V) : Prop where
  pn : (a, oe) ∈ X.pn
  hot : L2H.Hot1 X.A (a, oe)
  cls : oe.cls = .ref x.C
  dict : oe.dict = some dx
  at_ : g.Ai dx = some (.xd (x.fs.zip us))
  len : us.length = x.fs.length
  da : DaL X.K g.so g.Ai x.vs us
theorem XK1.fl (k : XK1 X g a oe x dx us) : ∃ vs, oe.data = .fields vs := k.hot.2.imp fun _ z => z.1
theorem XK1.hc (k : XK1 X g a oe x dx us) : L2H.HotC X := ⟨(a, oe), k.hot, k.pn⟩
def dIsP (K : PySem.W.Frag) (x : XD) (a : Addr) (cv : Value) (ra : DE) : DE := fun ρ Q E => ra ρ (fun d => d = .exc a ∧ XC K x.C ∧ ∃ b, PySem.W.kitOne K (.ref x.C) cv = some b ∧ Q (.bl b)) E
theorem pd_isP {cc : V} {cv : Value} (k : XK1 X g a oe x dx us) (hg : Gl X "isinstance") (hm : X.mg "isinstance" = none) (ha : PD X g EX e ra) (hb : PE X c (tC cc)) (hc : ClsV cc cv)
    (he : starEach [e, c] X.env = (false, eval e X.env) :: starEach [c] X.env := by rfl) (hs : starEach [c] X.env = (false, eval c X.env) :: starEach [] X.env := by rfl) (hpl : (backTo pos (starEach [c] X.env)).any (·.1) = false := by rfl) :
    PD X g EX (.Call (.Name "isinstance" p) [e, c] [] pos) (dIsP X.K x a cv ra) :=
  ⟨(pe_callB (c_isP k.pn ⟨k.cls, k.dict⟩ k.fl) hg hm bt_isinstance (pa_cons ha.pe (pa_cons hb pa_nil hs) he) (by decide) (by decide) he hpl).imp fun σ H Q h => by
  obtain ⟨A, ρ, Qd, Ed, S, h, c, cx⟩ := h
  refine ⟨A, ρ, _, Ed, S, h, fun d v A1 H1 x1 da q => ?_, cx⟩
  obtain ⟨rfl, xc, b, kb, q⟩ := q
  have da : v = _ := da
  subst da
  exact ⟨x.C, dx, _, _, cv, b, rfl, rfl, xc, rfl, x1.good.sub _ _ (x1.mono _ _ (S.x.mono _ _ k.at_)), hc, kb, (c.ext x1).nowB x1.good q⟩⟩
def dXg (K : PySem.W.Frag) (x : XD) (a : Addr) (n : Str) (ra : DE) : DE := fun ρ Q E => ra ρ (fun d => d = .exc a ∧ XC K x.C ∧ PySem.W.findIn K (.ref x.C) n = some none ∧ ∃ d', (x.fs.zip x.vs).lookup n = some d' ∧ Q d') E
theorem pd_xg {n : Str} (k : XK1 X g a oe x dx us) (he : PD X g EX e ra) (hb : attributeBase e n X.env (eval e X.env) = eval e X.env := by rfl) : PD X g EX (.Attribute e n pos) (dXg X.K x a n ra) :=
  ⟨(pe_xg k.pn ⟨k.cls, k.dict⟩ k.fl he.pe hb).imp fun σ H Q h => by
  obtain ⟨A, ρ, Qd, Ed, S, h, c, cx⟩ := h
  refine ⟨A, ρ, _, Ed, S, h, fun d v A1 H1 x1 da q => ?_, cx⟩
  obtain ⟨rfl, xc, nf, d', lk, q⟩ := q
  have da : v = _ := da
  subst da
  have x2 := S.x.trans x1
  obtain ⟨w, lw, dw⟩ := zip_look (x2.daL k.da) lk
  exact ⟨rfl, x.C, dx, _, w, rfl, xc, nf, rfl, x1.good.sub _ _ (x2.mono _ _ k.at_), lw, (c.ext x1).now x1.good dw q⟩⟩
def dCallE (a : Addr) (x : XD) (m : XD → (D → Prop) → Prop) (ra : DE) : DE := fun ρ Q E => ra ρ (fun d => d = .exc a ∧ m x Q) E
theorem pd_callE {lv : Nat} {f : Addr} {fd : FuncData} {ps : List Str} {nm : Str} {m : XD → (D → Prop) → Prop} (k : XK1 X g a oe x dx us) (G : FnE X.prog X.w X.K X.mg X.base lv f fd ps (fun q => spXD X.K m q.1 q.2.cls q.2.dict)) (room : L2H.RoomH lv X.A)
    (gl : Gl X nm) (gm : X.mg nm = some (.ref f)) (kp : PySem.W.keepIn X.K (.ref f) = true) (bnd : Binds X.K fd ps []) (he : PD X g EX e ra) (nd : (nm == ("__debug__" : Str)) = false := by decide)
    (st1 : starEach [e] X.env = (false, eval e X.env) :: starEach [] X.env := by rfl) (st2 : (backTo pos (starEach [] X.env)).any (·.1) = false := by rfl) : PD X g EX (.Call (.Name nm p) [e] [] pos) (dCallE a x m ra) :=
  ⟨(pe_callE G room k.hot k.pn gl gm kp bnd (pa_cons he.pe pa_nil st1) nd st1 st2).imp fun σ H Q h => by
  obtain ⟨A, ρ, Qd, Ed, S, h, c, cx⟩ := h
  refine ⟨A, ρ, _, Ed, S, h, fun d v A1 H1 x1 da q => ?_, cx⟩
  obtain ⟨rfl, q⟩ := q
  have da : v = _ := da
  subst da
  have x2 := S.x.trans x1
  exact ⟨g.so, A1, x, dx, us, Qd, rfl, k.cls, k.dict, x1.good, x2.mono _ _ k.at_, k.len, x2.daL k.da, q, c.ext x1⟩⟩
end
section
variable {P : Program} {w : World} {K : PySem.W.Frag} {mg : Str → Option Value} {base : Heap}
theorem Df.okED {y : Str} {st : Stmt} {N : List Str} {en : Str} {lv : Nat} {m : XD → (D → Prop) → Prop} (D : Df K mg y st [en]) (S : FnScope N [en] (defScope st))
    (body : ∀ (q : Addr × Obj) (cdv : Value) (A : Around) (outer : List PySem.Env) (s : Shared) (H : Hp) (E : XK) (so : Option Addr) (A0 : Hp) (x : XD) (dx : Addr) (us : List V), L2H.RoomH lv (A.deeper (envOfC y (defScope st) s.heap.objs.size D.f cdv)) →
      XK1 (L2H.cxH CX0 P w K mg base N y (defScope st) D.f cdv A outer s H E q).nox ⟨so, A0, H⟩ q.1 q.2 x dx us →
      ∃ r, PDSs (L2H.cxH CX0 P w K mg base N y (defScope st) D.f cdv A outer s H E q).nox ⟨so, A0, H⟩ EXF (defBody st) r ∧ ∀ Qd, m x Qd → r ⟨fun _ => Qd .non, Qd, fun _ => False, fun _ => False, fun _ => False, False⟩ (startD N [.exc q.1])) :
    FnE P w K mg base (lv + 1) D.f D.fd [en] (fun q => spXD K m q.1 q.2.cls q.2.dict) := by
  refine D.okE S (fun q vs H Q E h => ?_) fun q cdv A outer s H vs Q E hot room h => ?_
  · obtain ⟨_, _, _, _, _, _, rfl, _⟩ := h
    rfl
  · obtain ⟨so, A0, x, dx, us, Qd, rfl, hc, hd, gd, ea, hl, da, hm, c⟩ := h
    obtain ⟨r, hr, k⟩ := body q cdv A outer s H E so A0 x dx us room ⟨List.mem_singleton.mpr rfl, hot, hc, hd, ea, hl, da⟩
    refine ⟨_, hr.pss, A0, startD N [.exc q.1], ⟨fun _ => Qd .non, Qd, fun _ => False, fun _ => False, fun _ => False, False⟩, ⟨Ext.refl gd, startOk gd (DaL.one rfl)⟩, k Qd hm, ⟨fun A1 H1 σ ρ S1 _ _ q => ?_, fun A1 H1 d v x1 d1 q => c d v A1 H1 x1 d1 q, fun _ _ _ _ _ _ _ q => q.elim, fun _ _ _ _ _ _ _ q => q.elim, fun σ _ => ?_, fun z => z.elim⟩⟩
    · exact c .non .non A1 H1 S1.x rfl q
    · exact fun _ _ _ _ _ _ _ _ _ _ q => q.elim
end
end My
namespace My
open PySem PySem.Spec PyProof.Rows L2
/-! ### exceptions made by hand, kept as values -/
def tMkV (C : Addr) (sp : Sp) (dvs : List V) (ta : TA) : TE := fun σ H Q => ta σ H fun vs H1 => vs.length ≤ 1000 ∧ ∀ a, H1 a = none → sp (.ref a :: (vs ++ dvs)) (upd H1 a (exo a C none)) (fun v H2 => v = .non ∧ Q (.ref a) H2) (fun _ _ _ => False)
section
variable {X : Cx}
theorem pe_mkV {CXc : CXT} {nm : Str} {C fI : Addr} {lv : Nat} {fdI : FuncData} {psI : List Str} {spI : Sp} {ds : List Value} {dvs : List V} {e : Expr} {es : List Expr} {ta : TA} {p pos : Pos} (T : OexC X.K C)
    (iC : PySem.W.findIn X.K (.ref C) "__init__" = some (some (.ref fI))) (tI : PySem.W.typeIn X.K (.ref fI) = some (.type "function"))
    (FI : FnOk X.prog X.w X.K X.mg X.base CXc lv fI fdI psI spI) (room : Room (lv + 1) X.A) (bnd : Binds X.K fdI psI ds) (dfl : Vals dvs ds) (px : Passes CXc X (fun _ _ _ => False)) (gl : Gl X nm) (gm : X.mg nm = some (.ref C)) (args : PA X (e :: es) ta)
    (nd : (nm == ("__debug__" : Str)) = false := by decide) (st1 : starEach (e :: es) X.env = (false, eval e X.env) :: starEach es X.env := by rfl) (st2 : (backTo pos (starEach es X.env)).any (·.1) = false := by rfl) :
    PE X (.Call (.Name nm p) (e :: es) [] pos) (tMkV C spI dvs ta) := by
  refine ⟨fun pins s σ H Q I rd => ?_⟩
  have T' := T.cls
  obtain ⟨n0, n1, n2, n3, n4, n5, n6, n7, n8, n9, j0, j1, j2, j3, j5, lkC, rfs⟩ := T'
  refine wpAny_Call_Name_kw (ld_glob I gl gm ?_ nd)
  refine PySem.W.callWith_K (h₀ := X.base) I.ok.mod.kin T.kC (thn (args.run pos pins s σ H _ I rd) fun us s1 hh => ?_) st1 st2
  obtain ⟨vs, H1, I1, rel, sz, rd1⟩ := hh
  refine ⟨I1.kIn, ?_⟩
  show wpAny _ _ (call (.ref C) us) _ _ _
  obtain ⟨hp, gn, dr, tk, os⟩ := s1
  generalize en : hp.objs.size + 1 = nx at *
  have le : hp.objs.size ≤ nx := by omega
  have rd2 := rd1 nx (I1.hok.fresh le)
  have there : ((hp.push (PySem.W.kdv_tup us)).push (PySem.HandSPX.excO C hp.objs.size)).get? nx = some (PySem.HandSPX.excO C hp.objs.size) := by
    rw [← en]
    heap_get
  have I2 := I1.laid (t' := tk) (a := nx) (o := exo nx C none) (h' := (hp.push (PySem.W.kdv_tup us)).push (PySem.HandSPX.excO C hp.objs.size)) (fun b o z => Heap.get?_push_of_some _ (Heap.get?_push_of_some _ z)) le (exo_ok there)
  have rel2 : Vals (V.ref nx :: (vs ++ dvs)) (Value.ref nx :: (us ++ ds)) := .cons rfl (rel.append dfl)
  have hlen : (Value.ref nx :: us ++ ds).length = psI.length := by
    have q := rel2.length
    rw [FI.len _ _ _ _ rd2] at q
    exact q.symm
  have few : us.length ≤ sizeLine := by
    have q := Paired.length rel
    rw [← q, sizeLine_eq]
    omega
  refine wpAny_call ?_
  refine PySem.HandSPX.call_own F.excBase_ValueError (fun Y => PySem.HandSPX.refsVE_contains Y n4 rfs) (I1.kIn _ _ lkC) (PySem.W.looks_findIn I1.kIn iC) (fun self => PySem.W.bind_fn I1.kIn self tI) few ?_
  rw [en]
  refine codeAny_mono (FI.run _ X.stack _ _ ⟨Value.ref nx :: us, []⟩ (Value.ref nx :: (us ++ ds)) _ _ (fun _ _ _ => False) (room.make C us []) (I2.env0.make C us []) (bnd _ (Value.ref nx :: us) I2.kIn hlen) rel2 rd2) fun r s' back => ?_
  cases r with
  | error er => exact px pins σ _ _ er s' I2 back
  | ok fl =>
    cases fl with
    | next => exact back.elim
    | brk => exact back.elim
    | cont => exact back.elim
    | ret u =>
      obtain ⟨v, H2, J, rv, ev, q2⟩ := I2.after back
      subst ev
      exact ⟨rv, .ref nx, H2, J, rfl, q2⟩
theorem pe_mkV0 {CXc : CXT} {nm : Str} {C fI : Addr} {lv : Nat} {fdI : FuncData} {psI : List Str} {spI : Sp} {ds : List Value} {dvs : List V} {p pos : Pos} (T : OexC X.K C)
    (iC : PySem.W.findIn X.K (.ref C) "__init__" = some (some (.ref fI))) (tI : PySem.W.typeIn X.K (.ref fI) = some (.type "function"))
    (FI : FnOk X.prog X.w X.K X.mg X.base CXc lv fI fdI psI spI) (room : Room (lv + 1) X.A) (bnd : Binds X.K fdI psI ds) (dfl : Vals dvs ds) (px : Passes CXc X (fun _ _ _ => False)) (gl : Gl X nm) (gm : X.mg nm = some (.ref C))
    (nd : (nm == ("__debug__" : Str)) = false := by decide) :
    PE X (.Call (.Name nm p) [] [] pos) (tMkV C spI dvs tNil) := by
  refine ⟨fun pins s σ H Q I rd => ?_⟩
  have T' := T.cls
  obtain ⟨n0, n1, n2, n3, n4, n5, n6, n7, n8, n9, j0, j1, j2, j3, j5, lkC, rfs⟩ := T'
  refine wpAny_Call_Name_kw (ld_glob I gl gm ?_ nd)
  refine PySem.W.callWith_K0 I.kIn T.kC ?_
  show wpAny _ _ (call (.ref C) []) _ _ _
  obtain ⟨hp, gn, dr, tk, os⟩ := s
  have I1 := I
  generalize en : hp.objs.size + 1 = nx at *
  have le : hp.objs.size ≤ nx := by omega
  have rd2 := rd.2 nx (I1.hok.fresh le)
  have there : ((hp.push (PySem.W.kdv_tup [])).push (PySem.HandSPX.excO C hp.objs.size)).get? nx = some (PySem.HandSPX.excO C hp.objs.size) := by
    rw [← en]
    heap_get
  have I2 := I1.laid (t' := tk) (a := nx) (o := exo nx C none) (h' := (hp.push (PySem.W.kdv_tup [])).push (PySem.HandSPX.excO C hp.objs.size)) (fun b o z => Heap.get?_push_of_some _ (Heap.get?_push_of_some _ z)) le (exo_ok there)
  have rel2 : Vals (V.ref nx :: dvs) (Value.ref nx :: ds) := .cons rfl dfl
  have rd2 : spI (V.ref nx :: dvs) _ _ _ := rd2
  have hlen : ([Value.ref nx] ++ ds).length = psI.length := by
    have q := rel2.length
    rw [FI.len _ _ _ _ rd2] at q
    exact q.symm
  have few : ([] : List Value).length ≤ sizeLine := by
    rw [sizeLine_eq]
    exact Nat.zero_le _
  refine wpAny_call ?_
  refine PySem.HandSPX.call_own F.excBase_ValueError (fun Y => PySem.HandSPX.refsVE_contains Y n4 rfs) (I1.kIn _ _ lkC) (PySem.W.looks_findIn I1.kIn iC) (fun self => PySem.W.bind_fn I1.kIn self tI) few ?_
  rw [en]
  refine codeAny_mono (FI.run _ X.stack _ _ ⟨[Value.ref nx], []⟩ (Value.ref nx :: ds) _ _ (fun _ _ _ => False) (room.make C [] []) (I2.env0.make C [] []) (bnd _ [Value.ref nx] I2.kIn hlen) rel2 rd2) fun r s' back => ?_
  cases r with
  | error er => exact px pins σ _ _ er s' I2 back
  | ok fl =>
    cases fl with
    | next => exact back.elim
    | brk => exact back.elim
    | cont => exact back.elim
    | ret u =>
      obtain ⟨v, H2, J, rv, ev, q2⟩ := I2.after back
      subst ev
      exact ⟨rv, .ref nx, H2, J, rfl, q2⟩
/-- X(), an own exception class without own __init__ -/
theorem pe_mkB {C : Addr} {bmB : List Value} {B newId initId : String} {x : Str} {p pos : Pos} (F : ExcBaseFacts B newId initId bmB) (q : PySem.W.excIn X.K C bmB newId = true) (gC : X.mg x = some (.ref C)) (kC : PySem.W.keepIn X.K (.ref C) = true) (hg : Gl X x) (hdb : (x == ("__debug__" : Str)) = false := by decide) :
    PE X (.Call (.Name x p) [] [] pos) (fun σ H Q => ∀ a, H a = none → Q (.ref a) (upd H a (ExO (.ref C) a))) := by
  refine ⟨fun pins s σ H Q I h => ?_⟩
  refine wpAny_Call_Name_kw (ld_glob I hg gC ?_ hdb)
  refine PySem.W.callWith_K0 I.kIn kC ?_
  show wpAny _ _ (call (.ref C) []) _ _ _
  obtain ⟨bm, N, nm, qn, bs, hdct, sn, sub, ab, col, dd, k0, k1, k2, k3, k5, mN, hC, hN, hni, T⟩ := exc_obj I.kIn q
  refine wpAny_call_exc_subT F T hC hN hni (fun h' a hm => ?_) (by show 0 ≤ sizeLine; rw [sizeLine_eq]; omega)
  have hn : H a = none := I.hok.gone hm.new
  obtain ⟨t, ht, _, _⟩ := hm.there
  exact ⟨.ref a, upd H a (ExO (.ref C) a), I.laidN hm.keeps hm.new hn (exO_ok ht ⟨rfl, rfl⟩ rfl rfl rfl (show 4 < 6 by decide)), rfl, h a hn⟩
/-! ### what may be asked of them -/
theorem err_at {pins : List (Addr × Obj)} {s : Shared} {σ : L2.St} {H : Hp} {a C : Addr} {fs : List Str} {us : List V} (I : Inv X pins σ H s) (h : ErrAt H a C fs us) :
    ∃ (oe : Obj) (od : Option Obj), PySem.W.InstAt s.heap a oe C od := by
  rcases h with ⟨dx, h1, h2, h3⟩ | ⟨h1, h2, h3⟩
  · obtain ⟨t1, ho⟩ := exo_at I.hok h1
    obtain ⟨mA, hns, rel⟩ := exd_at I.hok h2
    obtain ⟨od, ho2, hl⟩ := lookIn_ns hns
    exact ⟨_, some od, ho, rfl, rfl, ho2⟩
  · obtain ⟨⟨oe, vs, ho, hz, hd, _⟩, _, _⟩ := I.hok a _ h3
    exact ⟨oe, none, ho, hz.1, by unfold PySem.W.notCls; rw [hd] <;> rfl, by rw [hz.2]; trivial⟩
def rIsF (K : PySem.W.Frag) : List V → Hp → VK → Prop := fun xs H Q => ∃ (a C : Addr) (fs : List Str) (us : List V) (c : V) (cv : Value) (b : Bool),
  xs = [.ref a, c] ∧ ErrAt H a C fs us ∧ XC K C ∧ ClsV c cv ∧ PySem.W.kitOne K (.ref C) cv = some b ∧ Q (.bl b) H
theorem c_isF : CallR X (.builtin "isinstance") (rIsF X.K) := by
  intro pins s σ H xs us Q I r rd
  obtain ⟨a, C, fs, ws, c, cv, b, ex, ea, T, kc, kb, q⟩ := rd
  subst ex
  obtain ⟨u1, u2, rfl, r1, r2⟩ := vals2 r
  cases (show u1 = Value.ref a from r1)
  have e2 := kc.eq r2
  subst e2
  obtain ⟨oe, od, J⟩ := err_at I ea
  exact PySem.W.kia_one (PySem.W.kitx_exc T.cl T.e.hg T.e.hk T.e.hs T.e.ha T.e.hn T.e.ht T.e.hm) I.kIn J kb (fun z => nomatch z) fun tk => ⟨.bl b, H, I.kept (t' := tk) fun _ _ z => z, rfl, q⟩
def tXf (K : PySem.W.Frag) (n : Str) (te : TE) : TE := fun σ H Q => te σ H fun x H1 => ∃ (a C dx : Addr) (fs : List (Str × V)) (v : V),
  x = .ref a ∧ H1 a = some (exo a C (some dx)) ∧ H1 dx = some (exd dx fs) ∧ XC K C ∧ PySem.W.findIn K (.ref C) n = some none ∧ fs.lookup n = some v ∧ Q v H1
theorem pe_xf {e : Expr} {te : TE} {pos : Pos} {n : Str} (he : PE X e te)
    (hb : attributeBase e n X.env (eval e X.env) = eval e X.env := by rfl) : PE X (.Attribute e n pos) (tXf X.K n te) := by
  refine ⟨fun pins s σ H Q I rd => attr_of hb (thn (he.run pins s σ H _ I rd) fun u s1 hh => ?_)⟩
  obtain ⟨x, H1, I1, rx, a, C, dx, fs, v, ex, h1, h2, T, no, l, q⟩ := hh
  subst ex
  cases (show u = Value.ref a from rx)
  obtain ⟨t1, there⟩ := exo_at I1.hok h1
  obtain ⟨mA, hns, rel⟩ := exd_at I1.hok h2
  obtain ⟨od, ho, hl⟩ := lookIn_ns hns
  obtain ⟨u', hu, ru⟩ := RelO.some_of (v := v) (o := mA n) (by rw [← l]; exact rel n)
  have J : PySem.W.InstAt s1.heap a _ C (some od) := ⟨there, rfl, rfl, ho⟩
  exact HandSPX.exc_get I1.kIn J T.e.hg T.e.hk T.e.hs (PySem.W.findObj_own T.e.hd no rfl (by rw [hl, hu])) (handed_of ru) ⟨v, H1, I1.tok _, ru, q⟩
end
/-! ### the same over data -/
theorem Ext.two {K : PySem.W.Frag} {so : Option Addr} {A H H' : Hp} {a dx : Addr} {o u : HO} (g : Good K so A H) (ha : H a = none) (hd : H dx = none) (ne : dx ≠ a) (h1 : H' a = some o) (h2 : H' dx = some u) (k : ∀ b v, b ≠ a → H b = some v → H' b = some v) :
    Ext K so A H (upd (upd A dx u) a o) H' := by
  have nA : ∀ {b : Addr}, H b = none → A b = none := fun {b} h => by
    cases e : A b with
    | none => rfl
    | some v =>
      rw [g.sub b v e] at h
      cases h
  have up : ∀ {b : Addr} {v : HO}, A b = some v → upd (upd A dx u) a o b = some v := fun {b v} e => by
    rw [upd_ne (ne_of_none e (nA ha)), upd_ne (ne_of_none e (nA hd))]
    exact e
  refine ⟨⟨fun b v e => ?_, fun s e => ?_⟩, fun b v e => up e, fun b v n e => k b v (ne_of_none e ha) e, fun b v e => ?_⟩
  · by_cases z : b = a
    · subst z
      rw [upd_same] at e
      cases e
      exact h1
    · rw [upd_ne z] at e
      by_cases z2 : b = dx
      · subst z2
        rw [upd_same] at e
        cases e
        exact h2
      · rw [upd_ne z2] at e
        have := g.sub b v e
        exact k b v z this
  · obtain ⟨x1, L, ns, p', i, j, c, d, x2, x3, r⟩ := g.st s e
    have n1 := g.ne ha e
    have n2 := g.ne hd e
    exact ⟨by rw [upd_ne (Ne.symm n1), upd_ne (Ne.symm n2)]; exact x1, L, ns, p', i, j, c, d, k s _ (Ne.symm n1) x2, up x3, r⟩
  · by_cases z : b = a
    · subst z
      exact .inr ha
    · rw [upd_ne z] at e
      by_cases z2 : b = dx
      · subst z2
        exact .inr hd
      · rw [upd_ne z2] at e
        exact .inl e
def dMk (C : Addr) (fs : List Str) (n : Nat) (mkD : List D → List D) (dd : List D) (t : DL) : DE := fun ρ Q E => t ρ (fun ds => ds.length ≤ 1000 ∧ (ds ++ dd).length = n ∧ Q (.err C fs (mkD (ds ++ dd)))) E
section
variable {X : Cx} {g : Gx} {EX : EXT} {e c : Expr} {es : List Expr} {ra : DE} {pos p : Pos} {t : DL}
variable {nm : Str} {C fI : Addr} {lv n : Nat} {fdI : FuncData} {psI fs : List Str} {mk : List V → List (Str × V)} {mkD : List D → List D} {dus : List Value} {dvs : List V} {dd : List D}
theorem mk_core (R : Rz X.K C fs n mk mkD) (hd : ∀ so A, DaL X.K so A dd dvs) {A1 H1 : Hp} {ds : List D} {vs : List V} {Qd : D → Prop} {Q : VK} (gd : Good X.K g.so A1 H1) (das : DaL X.K g.so A1 ds vs) (q : ds.length ≤ 1000 ∧ (ds ++ dd).length = n ∧ Qd (.err C fs (mkD (ds ++ dd)))) (c : Cont X.K g.so A1 H1 Qd Q) :
    vs.length ≤ 1000 ∧ ∀ a, H1 a = none → spIni X.K C fs n mk (.ref a :: (vs ++ dvs)) (upd H1 a (exo a C none)) (fun v H2 => v = .non ∧ Q (.ref a) H2) (fun _ _ _ => False) := by
  obtain ⟨q0, q1, q2⟩ := q
  have da := das.app (hd _ _)
  obtain ⟨us, e1, e2, d2⟩ := R.da g.so A1 _ _ q1 da
  refine ⟨by rw [das.len]; exact q0, fun a ha => ⟨a, vs ++ dvs, rfl, by rw [da.len]; exact q1, R.o, R.nf, upd_same, fun dx H' h1 h2 h3 h4 h5 => ⟨rfl, ?_⟩⟩⟩
  rw [e1] at h4
  rw [upd_ne h2] at h1
  have x2 : Ext X.K g.so A1 H1 (upd (upd A1 dx (exd dx (fs.zip us))) a (exo a C (some dx))) H' := Ext.two gd ha h1 h2 h3 h4 fun b v nb hb => h5 b v nb (by rw [upd_ne nb]; exact hb)
  exact c (.err C fs _) (.ref a) _ H' x2 ⟨a, us, rfl, .inl ⟨dx, upd_same, by rw [upd_ne h2]; exact upd_same, e2⟩, DaL.mono x2.mono _ _ d2⟩ q2
theorem pd_mk (R : Rz X.K C fs n mk mkD) (iC : PySem.W.findIn X.K (.ref C) "__init__" = some (some (.ref fI))) (tI : PySem.W.typeIn X.K (.ref fI) = some (.type "function"))
    (FI : FnOk X.prog X.w X.K X.mg X.base CX0 lv fI fdI psI (spIni X.K C fs n mk)) (room : Room (lv + 1) X.A) (bnd : Binds X.K fdI psI dus) (dfl : Vals dvs dus) (hd : ∀ so A, DaL X.K so A dd dvs) (gl : Gl X nm) (gm : X.mg nm = some (.ref C)) (args : PDA X g EX (e :: es) t)
    (nd : (nm == ("__debug__" : Str)) = false := by decide) (st1 : starEach (e :: es) X.env = (false, eval e X.env) :: starEach es X.env := by rfl) (st2 : (backTo pos (starEach es X.env)).any (·.1) = false := by rfl) :
    PD X g EX (.Call (.Name nm p) (e :: es) [] pos) (dMk C fs n mkD dd t) := ⟨(pe_mkV R.o iC tI FI room bnd dfl pass0 gl gm args.pa nd st1 st2).imp fun σ H Q h => by
  obtain ⟨A, ρ, Qd, Ed, S, h, c, cx⟩ := h
  refine ⟨A, ρ, _, _, S, h, fun ds vs A1 H1 x1 das q => ?_, cx⟩
  exact mk_core R hd x1.good das q (c.ext x1)⟩
theorem pd_mk0 (R : Rz X.K C fs n mk mkD) (iC : PySem.W.findIn X.K (.ref C) "__init__" = some (some (.ref fI))) (tI : PySem.W.typeIn X.K (.ref fI) = some (.type "function"))
    (FI : FnOk X.prog X.w X.K X.mg X.base CX0 lv fI fdI psI (spIni X.K C fs n mk)) (room : Room (lv + 1) X.A) (bnd : Binds X.K fdI psI dus) (dfl : Vals dvs dus) (hd : ∀ so A, DaL X.K so A dd dvs) (gl : Gl X nm) (gm : X.mg nm = some (.ref C))
    (nd : (nm == ("__debug__" : Str)) = false := by decide) :
    PD X g EX (.Call (.Name nm p) [] [] pos) (dMk C fs n mkD dd lNil) := ⟨(pe_mkV0 R.o iC tI FI room bnd dfl pass0 gl gm nd).imp fun σ H Q h => by
  obtain ⟨A, ρ, Qd, Ed, S, h, c, cx⟩ := h
  exact mk_core (ds := []) (vs := []) R hd S.good rfl h c⟩
def dMkB (C : Addr) : DE := fun _ Q _ => Q (.err C [] [])
theorem pd_mkB {bmB : List Value} {B newId initId : String} (F : ExcBaseFacts B newId initId bmB) (q : PySem.W.excIn X.K C bmB newId = true) (gC : X.mg nm = some (.ref C)) (kC : PySem.W.keepIn X.K (.ref C) = true) (hg : Gl X nm) (hdb : (nm == ("__debug__" : Str)) = false := by decide) :
    PD X g EX (.Call (.Name nm p) [] [] pos) (dMkB C) := ⟨(pe_mkB F q gC kC hg hdb).imp fun σ H Q h => by
  obtain ⟨A, ρ, Qd, Ed, S, h, c, cx⟩ := h
  intro a ha
  have y := Ext.laid (o := ExO (.ref C) a) S.good ha
  exact c (.err C [] []) (.ref a) _ _ y ⟨a, [], rfl, .inr ⟨rfl, rfl, upd_same⟩, rfl⟩ h⟩
/-- the data is an exception of such a class -/
def onX (d : D) (Q : Addr → List Str → List D → Prop) : Prop := match d with
  | .err C fs vs => Q C fs vs
  | _ => False
def dIsF (K : PySem.W.Frag) (cv : Value) (ra : DE) : DE := fun ρ Q E => ra ρ (fun d => onX d fun C _ _ => XC K C ∧ ∃ b, PySem.W.kitOne K (.ref C) cv = some b ∧ Q (.bl b)) E
theorem pd_isF {cc : V} {cv : Value} (hg : Gl X "isinstance") (hm : X.mg "isinstance" = none) (ha : PD X g EX e ra) (hb : PE X c (tC cc)) (hc : ClsV cc cv)
    (he : starEach [e, c] X.env = (false, eval e X.env) :: starEach [c] X.env := by rfl) (hs : starEach [c] X.env = (false, eval c X.env) :: starEach [] X.env := by rfl) (hpl : (backTo pos (starEach [c] X.env)).any (·.1) = false := by rfl) :
    PD X g EX (.Call (.Name "isinstance" p) [e, c] [] pos) (dIsF X.K cv ra) :=
  ⟨(pe_callB c_isF hg hm bt_isinstance (pa_cons ha.pe (pa_cons hb pa_nil hs) he) (by decide) (by decide) he hpl).imp fun σ H Q h => by
  obtain ⟨A, ρ, Qd, Ed, S, h, c, cx⟩ := h
  refine ⟨A, ρ, _, Ed, S, h, fun d v A1 H1 x1 da q => ?_, cx⟩
  have q : onX d _ := q
  unfold onX at q
  split at q
  · obtain ⟨a, us, rfl, ea, _⟩ := da
    obtain ⟨xc, b, kb, q⟩ := q
    exact ⟨a, _, _, us, _, cv, b, rfl, Sub.err x1.good.sub ea, xc, hc, kb, (c.ext x1).nowB x1.good q⟩
  · exact q.elim⟩
def dXf (K : PySem.W.Frag) (n : Str) (ra : DE) : DE := fun ρ Q E => ra ρ (fun d => onX d fun C fs vs => XC K C ∧ PySem.W.findIn K (.ref C) n = some none ∧ ∃ d', (fs.zip vs).lookup n = some d' ∧ Q d') E
theorem pd_xf {n : Str} (he : PD X g EX e ra) (hb : attributeBase e n X.env (eval e X.env) = eval e X.env := by rfl) : PD X g EX (.Attribute e n pos) (dXf X.K n ra) := ⟨(pe_xf he.pe hb).imp fun σ H Q h => by
  obtain ⟨A, ρ, Qd, Ed, S, h, c, cx⟩ := h
  refine ⟨A, ρ, _, Ed, S, h, fun d v A1 H1 x1 da q => ?_, cx⟩
  have q : onX d _ := q
  unfold onX at q
  split at q
  · obtain ⟨a, us, rfl, ea, dl⟩ := da
    obtain ⟨xc, no, d', l, q⟩ := q
    obtain ⟨v, l2, dv⟩ := zip_look dl l
    rcases ea with ⟨dx, h1, h2, h3⟩ | ⟨rfl, h2, h3⟩
    · exact ⟨a, _, dx, _, v, rfl, x1.good.sub _ _ h1, x1.good.sub _ _ h2, xc, no, l2, (c.ext x1).now x1.good dv q⟩
    · cases l
  · exact q.elim⟩
/-! ### bits -/
theorem ol_shl {K : PySem.W.Frag} : OpL K (rI CShl fun i j => .int (i * 2 ^ j.toNat)) (ddI CShl fun i j => .int (i * 2 ^ j.toNat)) := ol_I fun _ _ _ _ => rfl
def CPowW (i j : Int) : Prop := 0 ≤ j ∧ (Builtin.Int.intBits i : Int) * j ≤ 2 ^ 27
theorem op_powW : OpR X (binaryOp .Pow) (rI CPowW fun i j => .int (i ^ j.toNat)) := opI fun _ _ _ _ _ _ _ hc q => pow_int hc.1 hc.2 q
theorem ol_powW {K : PySem.W.Frag} : OpL K (rI CPowW fun i j => .int (i ^ j.toNat)) (ddI CPowW fun i j => .int (i ^ j.toNat)) := ol_I fun _ _ _ _ => rfl
def ddBits (d : D) (Q : D → Prop) : Prop := match d with
  | .int i => Q (.int (Builtin.Int.intBits i : Nat))
  | _ => False
theorem pd_bits {apos : Pos} (ha : PD X g EX e ra) (hbase : attributeBase e "bit_length" X.env (eval e X.env) = eval e X.env := by rfl) (hline : (apos.endLine == pos.line) = true := by rfl) : PD X g EX (.Call (.Attribute e "bit_length" apos) [] [] pos) (dUn ddBits ra) := ⟨(pe_bits ha.pe hbase hline).imp fun σ H Q h => by
  obtain ⟨A, ρ, Qd, Ed, S, h, c, cx⟩ := h
  refine ⟨A, ρ, _, Ed, S, h, fun d v A1 H1 x1 da q => ?_, cx⟩
  have q : ddBits d Qd := q
  unfold ddBits at q
  split at q
  · exact ⟨_, da, c (.int _) _ A1 H1 x1 rfl q⟩
  · exact q.elim⟩
end
end My
namespace My
open PySem PySem.Spec PyProof.Rows L2
/-- an own exception class of the top -/
structure Xc (K : PySem.W.Frag) (mg : Str → Option Value) (x : Str) where
  C : Addr
  g : mg x = some (.ref C)
  o : OexC K C
  x : XC K C
structure Xg (mg : Str → Option Value) (x : Str) where
  C : Addr
  g : mg x = some (.ref C)
/-- the base class that has no __init__ -/
structure Xf (K : PySem.W.Frag) (mg : Str → Option Value) (x : Str) where
  C : Addr
  g : mg x = some (.ref C)
  x : XC K C
  q : PySem.W.excIn K C PySem.HandSPX.veTail "ValueError.__new__" = true
  k : PySem.W.keepIn K (.ref C) = true
/-- the class i is below the class j (the order of the classes is the printed one) -/
def subI (i j : Nat) : Bool := (j == 0) || (j == i) || ((j == 7) && decide (8 ≤ i))
/-- the __init__ of the class at C; dvs its defaults -/
structure Mi (K : PySem.W.Frag) (C : Addr) (q : Str) (st : Stmt) (ps : List Str) (dvs : List V) where
  f : Addr
  fd : FuncData
  F : FunD K "__init__" q (defArgs st) (defBody st) (defScope st) dvs [] f fd
  b : Binds K fd ps []
  dus : List Value
  vd : Vals dvs dus
  bd : Binds K fd ps dus
  i : PySem.W.findIn K (.ref C) "__init__" = some (some (.ref f))
  t : PySem.W.typeIn K (.ref f) = some (.type "function")
/-- a def of the top with defaults -/
structure Dd (K : PySem.W.Frag) (mg : Str → Option Value) (x : Str) (st : Stmt) (ps : List Str) (dvs : List V) where
  f : Addr
  fd : FuncData
  F : FunD K x x (defArgs st) (defBody st) (defScope st) dvs [] f fd
  b : Binds K fd ps []
  dus : List Value
  vd : Vals dvs dus
  bd : Binds K fd ps dus
  g : mg x = some (.ref f)
section
variable {P : Program} {w : World} {K : PySem.W.Frag} {mg : Str → Option Value} {base : Heap}
theorem Dd.okD {x : Str} {st : Stmt} {N ps : List Str} {lv : Nat} {m : DF} {dvs : List V} (D : Dd K mg x st ps dvs) (S : FnScope N ps (defScope st))
    (body : ∀ (cdv : Value) (A : Around) (outer : List PySem.Env) (s : Shared) (H : Hp) (E : XK) (so : Option Addr) (A0 : Hp), Room lv (A.deeper (envOfC x (defScope st) s.heap.objs.size D.f cdv)) →
      L2N.Takes (cxOf (L2N.CX P w) P w K mg base N x (defScope st) D.f cdv A outer s H E) (fun c d _ H => E c d H) →
      PassesOwn (model P w) (A.deeper (envOfC x (defScope st) s.heap.objs.size D.f cdv)) (envOfC x (defScope st) s.heap.objs.size D.f cdv) (cxOf (L2N.CX P w) P w K mg base N x (defScope st) D.f cdv A outer s H E).xe →
      ∃ r, PDSs (cxOf (L2N.CX P w) P w K mg base N x (defScope st) D.f cdv A outer s H E) ⟨so, A0, H⟩ (fun _ => E) (defBody st) r ∧
        ∀ ds Qd Ed, ds.length = ps.length → m ds Qd Ed → r ⟨fun _ => Qd .non, Qd, fun _ => False, fun _ => False, Ed, False⟩ (startD N ds)) :
    FnOk P w K mg base (L2N.CX P w) (lv + 1) D.f D.fd ps (spD K ps.length m) := by
  refine D.F.ok S spD_len fun cdv A outer s H vs Q E room rd => ?_
  obtain ⟨so, A0, ds, Qd, Ed, gd, hl, da, h, c, cx⟩ := rd
  obtain ⟨r, hr, k⟩ := body cdv A outer s H E so A0 room (L2N.takes_of rfl rfl rfl rfl) PassesOwn.leaving
  refine ⟨_, hr.pss, A0, startD N ds, ⟨fun _ => Qd .non, Qd, fun _ => False, fun _ => False, Ed, False⟩, ⟨Ext.refl gd, startOk gd da⟩, k ds Qd Ed hl h, ⟨fun A1 H1 σ ρ S1 _ _ q => ?_, fun A1 H1 d v x1 d1 q => c d v A1 H1 x1 d1 q, fun _ _ _ _ _ _ _ q => q.elim, fun _ _ _ _ _ _ _ q => q.elim, fun σ _ => cx, fun z => z.elim⟩⟩
  exact c .non .non A1 H1 S1.x rfl q
/-- an __init__ that keeps its one value -/
theorem Mi.ok1 {q : Str} {st : Stmt} {C : Addr} {dvs : List V} {f : Str} (I : Mi K C q st ["self", f] dvs) (S : FnScope ["self", f] ["self", f] (defScope st))
    (body : ∀ (cdv : Value) (A : Around) (outer : List PySem.Env) (s : Shared) (H : Hp) (E : XK), PSs (cxOf CX0 P w K mg base ["self", f] q (defScope st) I.f cdv A outer s H E) (defBody st) (tOst K f (tVar 0) (tVar 1))) :
    FnOk P w K mg base CX0 1 I.f I.fd ["self", f] (spIni K C [f] 1 (mk1 f)) := by
  refine I.F.ok S (fun vs H Q E h => ?_) fun cdv A outer s H vs Q E room h => ?_
  · obtain ⟨a, xs, rfl, hl, _⟩ := h
    show xs.length + 1 = 2
    rw [hl]
  · obtain ⟨a, xs, rfl, hl, o, n, ea, k⟩ := h
    match xs, hl with
    | [x], _ =>
      refine ⟨_, body cdv A outer s H E, g_ost ?_⟩
      refine ⟨x, rfl, .ref a, rfl, a, C, rfl, o, n f (by simp), .inl ⟨ea, fun dx n1 n2 => ?_⟩⟩
      exact k dx _ n1 n2 upd_same (by rw [upd_ne n2, upd_same]; rfl) fun b u nb hb => by rw [upd_ne nb, upd_ne (ne_of_none hb n1)]; exact hb
end
structure Txt (K : PySem.W.Frag) (mg : Str → Option Value) where
  dis_whole : Df K mg "is_whole" (topS 28) ["value"]
  ddivisor : Df K mg "divisor" (topS 29) ["one", "other"]
  dsign_of : Df K mg "sign_of" (topS 30) ["number"]
  dfloor_root : Df K mg "floor_root" (topS 31) ["number"]
  dneed_ratio : Df K mg "need_ratio" (topS 32) ["value", "argument"]
  dis_ratio : Df K mg "is_ratio" (topS 33) ["value"]
  droot : Df K mg "root" (topS 34) ["one"]
  droot_sign : Df K mg "root_sign" (topS 35) ["plain", "factor", "under"]
  dstore : Df K mg "_law_store" (topS 37) ["script"]
  dtake : Df K mg "_law_take" (topS 38) ["store", "many"]
  dedge : Df K mg "_law_edge" (topS 39) ["store", "many"]
  dbetween : Df K mg "_law_between" (topS 40) ["store", "low", "high"]
  dtens : Df K mg "_law_tens" (topS 41) ["figures"]
  dinteger : Df K mg "_law_integer" (topS 42) ["store", "figures"]
  dlow : Df K mg "_law_low" (topS 43) ["up", "down"]
  dtimes : Df K mg "_law_times" (topS 44) ["one", "two"]
  dneg : Df K mg "_law_neg" (topS 45) ["one"]
  dsmall : Df K mg "_law_small" (topS 46) ["store"]
  dratio : Df K mg "_law_ratio" (topS 47) ["store", "figures"]
  dnot_ratio : Df K mg "_law_not_ratio" (topS 48) ["store", "none_too"]
  dsame : Df K mg "_law_same" (topS 49) ["got", "due"]
  dis_int : Df K mg "_law_is_int" (topS 50) ["thing"]
  dlis_ratio : Df K mg "_law_is_ratio" (topS 51) ["thing"]
  drefused : Df K mg "_law_refused" (topS 52) ["e"]
  dunfit : Df K mg "_law_unfit" (topS 53) ["e"]
  dlfloor_root : Df K mg "_law_floor_root" (topS 54) ["number"]
  dabove : Df K mg "_law_above" (topS 55) ["whole", "square"]
  dsign_due : Df K mg "_law_sign_due" (topS 56) ["plain", "factor", "under"]
  dis_root : Df K mg "_law_is_root" (topS 57) ["one", "told"]
  dsquared : Df K mg "_law_squared" (topS 58) ["store", "figures"]
  dtriple : Df K mg "_law_triple" (topS 59) ["store", "figures"]
  dcall : Df K mg "_law_call" (topS 60) ["way", "plain", "factor", "under"]
  dsign_call_due : Df K mg "_law_sign_call_due" (topS 61) ["plain", "factor", "under"]
  dbad_triple : Df K mg "_law_bad_triple" (topS 62) ["store", "three"]
  dmade : Df K mg "_law_made" (topS 63) ["thing"]
  dleft_out : Df K mg "_law_left_out" (topS 64) []
  derrors_right : Df K mg "_law_errors_right" (topS 65) ["store"]
  dlaw : Df K mg "law" (topS 66) ["script"]
  m_len : mg "len" = none
  m_max : mg "max" = none
  m_min : mg "min" = none
  m_abs : mg "abs" = none
  m_int : mg "int" = none
  m_str : mg "str" = none
  m_bool : mg "bool" = none
  m_list : mg "list" = none
  m_tuple : mg "tuple" = none
  m_dict : mg "dict" = none
  m_isinstance : mg "isinstance" = none
  m_range : mg "range" = none
  m_all : mg "all" = none
  m_ValueError : mg "ValueError" = none
  dig : NoDig K
  cFrameError : Xf K mg "FrameError"
  cWrongKind : Xc K mg "WrongKind"
  cOutOfBounds : Xc K mg "OutOfBounds"
  cRepeatedName : Xc K mg "RepeatedName"
  cUnknownName : Xc K mg "UnknownName"
  cUnsafe : Xc K mg "Unsafe"
  cBadText : Xc K mg "BadText"
  cUnfitError : Xc K mg "UnfitError"
  cZeroDivisor : Xc K mg "ZeroDivisor"
  cNegativeRoot : Xc K mg "NegativeRoot"
  cZeroBar : Xc K mg "ZeroBar"
  cFlatMap : Xc K mg "FlatMap"
  cBadSteps : Xc K mg "BadSteps"
  cNotOneWay : Xc K mg "NotOneWay"
  cNotHeld : Xc K mg "NotHeld"
  cNotFlat : Xc K mg "NotFlat"
  cNotCover : Xc K mg "NotCover"
  cNotOwnStress : Xc K mg "NotOwnStress"
  cNotPicture : Xc K mg "NotPicture"
  cNotLift : Xc K mg "NotLift"
  cNoReciprocal : Xc K mg "NoReciprocal"
  cNotMotion : Xc K mg "NotMotion"
  cNotAlike : Xc K mg "NotAlike"
  cNotCrank : Xc K mg "NotCrank"
  cNothingToUndo : Xc K mg "NothingToUndo"
  cNothingToRedo : Xc K mg "NothingToRedo"
  iWrongKind : Mi K cWrongKind.C "WrongKind.__init__" (inClass (topS 2) 0) ["self", "argument"] []
  zWrongKind : Rz K cWrongKind.C ["argument"] 1 (mk1 "argument") id
  iOutOfBounds : Mi K cOutOfBounds.C "OutOfBounds.__init__" (inClass (topS 3) 0) ["self", "argument"] []
  zOutOfBounds : Rz K cOutOfBounds.C ["argument"] 1 (mk1 "argument") id
  iRepeatedName : Mi K cRepeatedName.C "RepeatedName.__init__" (inClass (topS 4) 0) ["self", "repeated"] []
  zRepeatedName : Rz K cRepeatedName.C ["repeated"] 1 (mk1 "repeated") id
  iUnknownName : Mi K cUnknownName.C "UnknownName.__init__" (inClass (topS 5) 0) ["self", "unknown"] []
  zUnknownName : Rz K cUnknownName.C ["unknown"] 1 (mk1 "unknown") id
  iUnsafe : Mi K cUnsafe.C "Unsafe.__init__" (inClass (topS 25) 0) ["self", "velocities"] []
  zUnsafe : Rz K cUnsafe.C ["velocities"] 1 (mk1 "velocities") id
  iBadText : Mi K cBadText.C "BadText.__init__" (inClass (topS 26) 0) ["self", "line", "column", "fault"] []
  zBadText : Rz K cBadText.C ["fault", "column", "line"] 3 (mk3 "line" "column" "fault") rev3
  iUnfitError : Mi K cUnfitError.C "UnfitError.__init__" (inClass (topS 6) 0) ["self", "subject"] [.non]
  zUnfitError : Rz K cUnfitError.C ["subject"] 1 (mk1 "subject") id
  iZeroDivisor : Mi K cZeroDivisor.C "UnfitError.__init__" (inClass (topS 6) 0) ["self", "subject"] [.non]
  zZeroDivisor : Rz K cZeroDivisor.C ["subject"] 1 (mk1 "subject") id
  iNegativeRoot : Mi K cNegativeRoot.C "UnfitError.__init__" (inClass (topS 6) 0) ["self", "subject"] [.non]
  zNegativeRoot : Rz K cNegativeRoot.C ["subject"] 1 (mk1 "subject") id
  iZeroBar : Mi K cZeroBar.C "UnfitError.__init__" (inClass (topS 6) 0) ["self", "subject"] [.non]
  zZeroBar : Rz K cZeroBar.C ["subject"] 1 (mk1 "subject") id
  iFlatMap : Mi K cFlatMap.C "UnfitError.__init__" (inClass (topS 6) 0) ["self", "subject"] [.non]
  zFlatMap : Rz K cFlatMap.C ["subject"] 1 (mk1 "subject") id
  iBadSteps : Mi K cBadSteps.C "UnfitError.__init__" (inClass (topS 6) 0) ["self", "subject"] [.non]
  zBadSteps : Rz K cBadSteps.C ["subject"] 1 (mk1 "subject") id
  iNotOneWay : Mi K cNotOneWay.C "UnfitError.__init__" (inClass (topS 6) 0) ["self", "subject"] [.non]
  zNotOneWay : Rz K cNotOneWay.C ["subject"] 1 (mk1 "subject") id
  iNotHeld : Mi K cNotHeld.C "UnfitError.__init__" (inClass (topS 6) 0) ["self", "subject"] [.non]
  zNotHeld : Rz K cNotHeld.C ["subject"] 1 (mk1 "subject") id
  iNotFlat : Mi K cNotFlat.C "UnfitError.__init__" (inClass (topS 6) 0) ["self", "subject"] [.non]
  zNotFlat : Rz K cNotFlat.C ["subject"] 1 (mk1 "subject") id
  iNotCover : Mi K cNotCover.C "UnfitError.__init__" (inClass (topS 6) 0) ["self", "subject"] [.non]
  zNotCover : Rz K cNotCover.C ["subject"] 1 (mk1 "subject") id
  iNotOwnStress : Mi K cNotOwnStress.C "UnfitError.__init__" (inClass (topS 6) 0) ["self", "subject"] [.non]
  zNotOwnStress : Rz K cNotOwnStress.C ["subject"] 1 (mk1 "subject") id
  iNotPicture : Mi K cNotPicture.C "UnfitError.__init__" (inClass (topS 6) 0) ["self", "subject"] [.non]
  zNotPicture : Rz K cNotPicture.C ["subject"] 1 (mk1 "subject") id
  iNotLift : Mi K cNotLift.C "UnfitError.__init__" (inClass (topS 6) 0) ["self", "subject"] [.non]
  zNotLift : Rz K cNotLift.C ["subject"] 1 (mk1 "subject") id
  iNoReciprocal : Mi K cNoReciprocal.C "UnfitError.__init__" (inClass (topS 6) 0) ["self", "subject"] [.non]
  zNoReciprocal : Rz K cNoReciprocal.C ["subject"] 1 (mk1 "subject") id
  iNotMotion : Mi K cNotMotion.C "UnfitError.__init__" (inClass (topS 6) 0) ["self", "subject"] [.non]
  zNotMotion : Rz K cNotMotion.C ["subject"] 1 (mk1 "subject") id
  iNotAlike : Mi K cNotAlike.C "UnfitError.__init__" (inClass (topS 6) 0) ["self", "subject"] [.non]
  zNotAlike : Rz K cNotAlike.C ["subject"] 1 (mk1 "subject") id
  iNotCrank : Mi K cNotCrank.C "UnfitError.__init__" (inClass (topS 6) 0) ["self", "subject"] [.non]
  zNotCrank : Rz K cNotCrank.C ["subject"] 1 (mk1 "subject") id
  iNothingToUndo : Mi K cNothingToUndo.C "UnfitError.__init__" (inClass (topS 6) 0) ["self", "subject"] [.non]
  zNothingToUndo : Rz K cNothingToUndo.C ["subject"] 1 (mk1 "subject") id
  iNothingToRedo : Mi K cNothingToRedo.C "UnfitError.__init__" (inClass (topS 6) 0) ["self", "subject"] [.non]
  zNothingToRedo : Rz K cNothingToRedo.C ["subject"] 1 (mk1 "subject") id
  kk : ∀ i j, i < 26 → j < 26 → PySem.W.kitOne K (.ref (([cFrameError.C, cWrongKind.C, cOutOfBounds.C, cRepeatedName.C, cUnknownName.C, cUnsafe.C, cBadText.C, cUnfitError.C, cZeroDivisor.C, cNegativeRoot.C, cZeroBar.C, cFlatMap.C, cBadSteps.C, cNotOneWay.C, cNotHeld.C, cNotFlat.C, cNotCover.C, cNotOwnStress.C, cNotPicture.C, cNotLift.C, cNoReciprocal.C, cNotMotion.C, cNotAlike.C, cNotCrank.C, cNothingToUndo.C, cNothingToRedo.C] : List Addr).getD i 0)) (.ref (([cFrameError.C, cWrongKind.C, cOutOfBounds.C, cRepeatedName.C, cUnknownName.C, cUnsafe.C, cBadText.C, cUnfitError.C, cZeroDivisor.C, cNegativeRoot.C, cZeroBar.C, cFlatMap.C, cBadSteps.C, cNotOneWay.C, cNotHeld.C, cNotFlat.C, cNotCover.C, cNotOwnStress.C, cNotPicture.C, cNotLift.C, cNoReciprocal.C, cNotMotion.C, cNotAlike.C, cNotCrank.C, cNothingToUndo.C, cNothingToRedo.C] : List Addr).getD j 0)) = some (subI i j)
  kv : ∀ i, i < 26 → PySem.W.kitOne K (.ref (([cFrameError.C, cWrongKind.C, cOutOfBounds.C, cRepeatedName.C, cUnknownName.C, cUnsafe.C, cBadText.C, cUnfitError.C, cZeroDivisor.C, cNegativeRoot.C, cZeroBar.C, cFlatMap.C, cBadSteps.C, cNotOneWay.C, cNotHeld.C, cNotFlat.C, cNotCover.C, cNotOwnStress.C, cNotPicture.C, cNotLift.C, cNoReciprocal.C, cNotMotion.C, cNotAlike.C, cNotCrank.C, cNothingToUndo.C, cNothingToRedo.C] : List Addr).getD i 0)) (.type "ValueError") = some true
  xWrongKind : PySem.W.exmOne K (.ref cWrongKind.C) (.ref cFrameError.C) = some true
  xNegativeRoot : PySem.W.exmOne K (.ref cNegativeRoot.C) (.ref cFrameError.C) = some true

end My
namespace My
open PySem PySem.Spec PyProof.Rows L2
local macro_rules | `(tactic| walk_at "arith") => `(tactic| first
  | (with_reducible show _ ≠ _; omega)
  | (unfold CMul; omega)
  | (unfold CPow; omega)
  | (unfold CPow; decide)
  | exact wide_div (b := 100) (by decide) (by decide) (by decide) (by decide))
local macro_rules | `(tactic| walk_at "go") => `(tactic| repeat (first
  | with_reducible refine g_seq ?_
  | with_reducible refine g_asg ?_
  | with_reducible refine g_name ?_
  | with_reducible refine g_sub ?_
  | with_reducible refine g_ret ?_
  | with_reducible refine g_drop ?_
  | ((with_reducible refine g_next ?_); dsimp only)
  | with_reducible refine g_if ?_
  | with_reducible refine g_var rfl ?_
  | with_reducible refine g_c ?_
  | with_reducible refine g_op ?_
  | with_reducible refine g_un ?_
  | with_reducible refine g_I0 ?_
  | with_reducible refine g_U ?_
  | with_reducible refine g_eq rfl ?_
  | with_reducible refine g_test ?_
  | with_reducible refine g_bl ?_
  | with_reducible refine iteF ?_
  | with_reducible refine iteT ?_
  | ((with_reducible apply g_iteT); (case e => rfl))
  | ((with_reducible apply g_iteF); (case e => rfl))
  | with_reducible refine g_int1 ?_
  | with_reducible refine g_max2 ?_
  | with_reducible refine g_min2 ?_
  | with_reducible refine g_isN ?_
  | with_reducible refine g_notN ?_
  | ((with_reducible apply g_lenL); (case hs => assumption))
  | ((with_reducible apply g_ixL); (case hs => exact SqL.of (by assumption)); (case ha => rfl))
  | with_reducible refine g_pow9 ?_
  | with_reducible refine g_pow18 ?_
  | ((with_reducible apply g_I); (case c => walk_at "arith"))
  | ((with_reducible apply g_st); (case hs => assumption); (case hL => assumption); (case ne => assumption); (case x0 => assumption); (case hj => rfl); (case j0 => decide); intro _ _ _ _)
  | with_reducible refine g_and ?_
  | with_reducible refine g_or ?_
  | with_reducible refine g_not ?_
  | with_reducible refine g_nil ?_
  | with_reducible refine g_cons ?_
  | with_reducible refine g_callB ?_
  | with_reducible refine g_call ?_
  | with_reducible refine g_tup ?_
  | with_reducible refine g_lst ?_
  | with_reducible refine g_andV ?_
  | with_reducible refine g_orV ?_
  | with_reducible refine g_notV ?_
  | with_reducible refine g_tB ?_
  | with_reducible refine g_ne rfl ?_
  | with_reducible refine g_abs ?_
  | with_reducible refine g_isB ?_
  | with_reducible refine g_for ?_
  | with_reducible refine g_rng1 ?_
  | with_reducible refine g_rng2 ?_
  | with_reducible refine g_iList ?_
  | ((with_reducible refine g_break ?_); dsimp only)
  | ((with_reducible refine g_cont ?_); dsimp only)
  | with_reducible refine g_retN ?_
  | ((with_reducible apply isi_go (T := "int")); (case h => assumption); (case hb => exact k_int_ _))
  | ((with_reducible apply isi_go (T := "str")); (case h => assumption); (case hb => exact k_str_ _))
  | ((with_reducible apply isi_go (T := "bool")); (case h => assumption); (case hb => exact k_bool_ _))
  | ((with_reducible apply isi_go (T := "list")); (case h => assumption); (case hb => exact k_list_ _))
  | ((with_reducible apply isi_go (T := "tuple")); (case h => assumption); (case hb => exact k_tuple_ _))
  | ((with_reducible apply isi_go (T := "dict")); (case h => assumption); (case hb => exact k_dict_ _))
  | with_reducible refine g_intb ?_))

abbrev s_take : Stmt := topS 38
abbrev N_take : List Str := ["store", "many", "cell", "got", "once", "twice"]
abbrev P_take : List Str := ["store", "many"]
theorem sc_take : FnScope N_take P_take (defScope s_take) := ⟨rfl, rfl, rfl, by decide +kernel, rfl, by decide +kernel, by decide +kernel⟩

def BN : Nat → Int
  | 0 => 1000000000
  | n + 1 => 1000000000 * (BN n - 1)
def spTakeN (K : PySem.W.Frag) : Nat → Sp
  | 0 => fun _ _ _ _ => False
  | n + 1 => spTake K (BN n)
theorem fmod0 {x m : Int} (h : 0 < m) : 0 ≤ x.fmod m := by
  rw [Int.fmod_eq_emod_of_nonneg _ (by omega)]
  exact Int.emod_nonneg _ (by omega)
theorem fmod1 {x m : Int} (h : 0 < m) : x.fmod m < m := by
  rw [Int.fmod_eq_emod_of_nonneg _ (by omega)]
  exact Int.emod_lt_of_pos _ h
theorem fmod_lt {x m : Int} {n : Nat} (h : 0 < m) (hm : m ≤ 2 ^ n) : (x.fmod m).natAbs < 2 ^ n := by
  have h0 := fmod0 (x := x) h
  have h1 := fmod1 (x := x) h
  have : ((x.fmod m).natAbs : Int) < (2 : Int) ^ n := by omega
  exact_mod_cast this
theorem BN_ge (n : Nat) : 1000000000 ≤ BN n := by
  induction n with
  | zero => exact Int.le_refl _
  | succ n ih =>
    have e : BN (n + 1) = 1000000000 * (BN n - 1) := rfl
    omega
section
variable {P : Program} {w : World} {K : PySem.W.Frag} {mg : Str → Option Value} {base : Heap}
theorem ok_take (T : Txt K mg) (n : Nat) : FnOk P w K mg base CX0 n T.dtake.f T.dtake.fd P_take (spTakeN K n) := by
  induction n with
  | zero => exact ⟨fun _ _ _ _ h => h.elim, fun _ _ _ _ _ _ _ _ _ _ _ _ _ h => h.elim⟩
  | succ n G_take =>
    refine T.dtake.F.ok sc_take (fun vs H Q E h => ?_) (fun cdv A outer s H vs Q E hr h => ?_)
    · obtain ⟨s, many, rfl, _⟩ := h
      rfl
    · obtain ⟨s, many, rfl, hst, hB, hW, k⟩ := h
      refine ⟨_, (pss_cons (ps_if (pt_cmpR op_lt (pv 1) pe_int (nomark _))
        (pss_one (ps_ret pe_int))
        pss_nil)
      (pss_cons (ps_asg (pe_op op_add (pe_ix ix_list (pv 0) pe_int (fun _ _ => rfl)) pe_int) (pg_sub (pv 0) pe_int set_list))
      (Evl.pss_cut (ps_if (PW.pt (pw_and (pt_cmpR op_eq (pe_ix ix_list (pv 0) pe_int (fun _ _ => rfl)) pe_int (nomark _)) (pw_and (pt_cmpR op_eq (pe_ix ix_list (pv 0) pe_int (fun _ _ => rfl)) pe_int (nomark _)) (pw_and1 (pt_cmpR op_lt (pe_ix ix_list (pv 0) pe_int (fun _ _ => rfl)) (pe_callB c_len (by rfl) T.m_len bt_len (pa_cons (pe_ix ix_list (pv 0) pe_int (fun _ _ => rfl)) pa_nil)) (nomark _))))))
        (pss_cons (ps_set (i := 2) sc_take.nd rfl (by first | exact .inl rfl | exact .inr rfl) (pe_callTy c_int1 (by rfl) T.m_int bt_int (pa_cons (pe_ix ix_list (pe_ix ix_list (pv 0) pe_int (fun _ _ => rfl)) (pe_ix ix_list (pv 0) pe_int (fun _ _ => rfl)) (fun _ _ => rfl)) pa_nil)))
        (pss_cons (ps_asg (pe_op op_add (pe_ix ix_list (pv 0) pe_int (fun _ _ => rfl)) pe_int) (pg_sub (pv 0) pe_int set_list))
        (pss_cons (ps_asg (pe_op op_modN (pe_callTy c_int1 (by rfl) T.m_int bt_int (pa_cons (pe_op op_add (pe_op op_add (pe_op op_mul (pe_ix ix_list (pv 0) pe_int (fun _ _ => rfl)) pe_int) (pv 2)) pe_int) pa_nil)) pe_int) (pg_sub (pv 0) pe_int set_list))
        (pss_one (ps_if (pt_cmpR op_ge (pe_callB (c_max2 rfl) (by rfl) T.m_max bt_max (pa_cons (pv 2) (pa_cons (pe_un un_neg (pv 2)) pa_nil))) (pe_op op_pow pe_int pe_int) (nomark _))
          (pss_one (ps_asg (pe_callB (c_max2 rfl) (by rfl) T.m_max bt_max (pa_cons (pv 2) (pa_cons (pe_un un_neg (pv 2)) pa_nil))) (pg_sub (pv 0) pe_int set_list)))
          (pss_one (ps_asg pe_int (pg_sub (pv 0) pe_int set_list))))))))
        pss_nil)
      (pss_cons (ps_if (pt_cmpR op_gt (pe_ix ix_list (pv 0) pe_int (fun _ _ => rfl)) pe_int (nomark _))
        (pss_cons (ps_set (i := 3) sc_take.nd rfl (by first | exact .inl rfl | exact .inr rfl) (pe_op op_modN (pe_callTy c_int1 (by rfl) T.m_int bt_int (pa_cons (pe_ix ix_list (pv 0) pe_int (fun _ _ => rfl)) pa_nil)) (pv 1)))
        (pss_cons (ps_asg (pe_op op_fdivW (pe_ix ix_list (pv 0) pe_int (fun _ _ => rfl)) (pv 1)) (pg_sub (pv 0) pe_int set_list))
        (pss_one (ps_ret (pv 3)))))
        pss_nil)
      (pss_cons (ps_if (pt_cmpR op_gt (pv 1) (pe_op op_pow pe_int pe_int) (nomark _))
        (pss_cons (ps_set (i := 3) sc_take.nd rfl (by first | exact .inl rfl | exact .inr rfl) (pe_call G_take (hr.mono (by omega)) rfl T.dtake.g T.dtake.F.kp T.dtake.b .nil pass0 (pa_cons (pv 0) (pa_cons (pe_op op_pow pe_int pe_int) pa_nil))))
        (pss_one (ps_ret (pe_op op_modN (pe_callTy c_int1 (by rfl) T.m_int bt_int (pa_cons (pe_op op_add (pv 3) (pe_op op_mul (pe_op op_pow pe_int pe_int) (pe_call G_take (hr.mono (by omega)) rfl T.dtake.g T.dtake.F.kp T.dtake.b .nil pass0 (pa_cons (pv 0) (pa_cons (pe_op op_add (pe_op op_fdivW (pv 1) (pe_op op_pow pe_int pe_int)) pe_int) pa_nil))))) pa_nil)) (pv 1)))))
        pss_nil)
      (pss_cons (ps_asg (pe_callB (c_max2 rfl) (by rfl) T.m_max bt_max (pa_cons pe_int (pa_cons (pe_op op_sub (pe_ix ix_list (pv 0) pe_int (fun _ _ => rfl)) pe_int) pa_nil))) (pg_sub (pv 0) pe_int set_list))
      (pss_cons (ps_set (i := 4) sc_take.nd rfl (by first | exact .inl rfl | exact .inr rfl) (pe_op op_add (pe_op op_add (pe_op op_mul (pe_ix ix_list (pv 0) pe_int (fun _ _ => rfl)) pe_int) (pe_op op_mul (pe_ix ix_list (pv 0) pe_int (fun _ _ => rfl)) pe_int)) pe_int))
      (pss_cons (ps_set (i := 4) sc_take.nd rfl (by first | exact .inl rfl | exact .inr rfl) (pe_op op_modN (pe_callTy c_int1 (by rfl) T.m_int bt_int (pa_cons (pv 4) pa_nil)) pe_int))
      (pss_cons (ps_asg (pv 4) (pg_sub (pv 0) pe_int set_list))
      (pss_cons (ps_set (i := 5) sc_take.nd rfl (by first | exact .inl rfl | exact .inr rfl) (pe_op op_modN (pe_callTy c_int1 (by rfl) T.m_int bt_int (pa_cons (pe_op op_add (pe_op op_add (pe_op op_mulW (pv 4) (pv 4)) (pe_op op_fdivW (pv 4) pe_int)) (pe_ix ix_list (pv 0) pe_int (fun _ _ => rfl))) pa_nil)) pe_int))
      (pss_one (ps_ret (pe_op op_modN (pe_callTy c_int1 (by rfl) T.m_int bt_int (pa_cons (pe_op op_fdivW (pv 5) pe_int) pa_nil)) (pv 1)))))))))))))), ?_⟩
      obtain ⟨L, ns, p, a, b, c, d, hs, ne, hL, p0, a0, b0, c0, c1, len⟩ := hst
      have x0 := Sx.refl s H
      dsimp only [cxOf, Cx.nox, Cx.wish]
      walk_at "go"
      refine g_ite (fun h => ?_) (fun h => ?_)
      · walk_at "go"
        exact k 0 H (Int.le_refl _) (.inl rfl) x0 ⟨L, ns, p, a, b, c, d, hs, ne, hL, p0, a0, b0, c0, c1, len⟩
      have hm : 2 ≤ many := by
        have := of_decide_eq_false h
        omega
      walk_at "go"
      refine g_cut (Mid := fun σ' H' => ∃ v p a b c d, σ' = [some (.ref s), some (.int many), v, none, none, none] ∧ StOk K H' s L ns p a b c d ∧ Sx s H H') ?_ ?_
      · walk_at "go"
        refine g_ite (fun h1 => ?_) (fun h1 => ?_)
        · walk_at "go"
          refine g_ite (fun h2 => ?_) (fun h2 => ?_)
          · walk_at "go"
            refine g_ite (fun h3 => ?_) (fun h3 => ?_)
            · walk_at "go"
              have hp : p < ns.length := by
                have := of_decide_eq_true h3
                rw [List.length_map] at this
                exact this
              refine g_ixL (by assumption) (atI_map V.int ns p 0 p0 hp) ?_
              walk_at "go"
              refine g_ite (fun h4 => ?_) (fun h4 => ?_)
              · walk_at "go"
                exact ⟨_, p + 1, _, b, _, _, rfl, ⟨by assumption, ne, by assumption, by omega, by have := of_decide_eq_true h4; omega, b0, by exact fmod0 (by decide), by exact fmod1 (by decide), len⟩, by assumption⟩
              · walk_at "go"
                exact ⟨_, p + 1, a, _, _, _, rfl, ⟨by assumption, ne, by assumption, by omega, a0, by decide, by exact fmod0 (by decide), by exact fmod1 (by decide), len⟩, by assumption⟩
            · walk_at "go"
              exact ⟨_, p, a, b, c, _, rfl, ⟨by assumption, ne, by assumption, p0, a0, b0, c0, c1, len⟩, by assumption⟩
          · walk_at "go"
            exact ⟨_, p, a, b, c, _, rfl, ⟨by assumption, ne, by assumption, p0, a0, b0, c0, c1, len⟩, by assumption⟩
        · walk_at "go"
          exact ⟨_, p, a, b, c, _, rfl, ⟨by assumption, ne, by assumption, p0, a0, b0, c0, c1, len⟩, by assumption⟩
      · rintro σ' H' ⟨v, p, a, b, c, d, rfl, ⟨hs, ne, hL, p0, a0, b0, c0, c1, len⟩, x0⟩
        walk_at "go"
        refine g_ite (fun h5 => ?_) (fun h5 => ?_)
        · walk_at "go"
          refine g_I (big_div (by omega) hW) ?_
          walk_at "go"
          refine k _ _ (fmod0 (by omega)) (.inr (fmod1 (by omega))) (by assumption) ⟨L, ns, p, _, b, c, d, ⟨by assumption, ne, by assumption, p0, ?_, b0, c0, c1, len⟩⟩
          exact Int.ediv_nonneg (by have := of_decide_eq_true h5; omega) (by omega)
        walk_at "go"
        refine g_ite (fun h6 => ?_) (fun h6 => ?_)
        · have hbig := of_decide_eq_true h6
          cases n with
          | zero =>
            exfalso
            have : BN 0 = 1000000000 := rfl
            omega
          | succ m =>
            have eB : BN (m + 1) = 1000000000 * (BN m - 1) := rfl
            have eG := BN_ge m
            walk_at "go"
            refine ⟨s, _, rfl, ⟨L, ns, p, a, b, c, d, hs, ne, hL, p0, a0, b0, c0, c1, len⟩, by omega, by unfold BIG; omega, fun r H1 r0 r1 x1 st1 => ?_⟩
            walk_at "go"
            refine ⟨s, _, rfl, st1, by omega, by omega, fun r2 H2 r20 r21 x2 st2 => ?_⟩
            walk_at "go"
            exact k _ _ (fmod0 (by omega)) (.inr (fmod1 (by omega))) ((x0.trans x1).trans x2) st2
        walk_at "go"
        refine g_I (wide_mul (a := 61) (b := 61) (fmod_lt (by decide) (by decide)) (fmod_lt (by decide) (by decide)) (by decide) (by decide) (by decide)) ?_
        walk_at "go"
        refine k _ _ (fmod0 (by omega)) (.inr (fmod1 (by omega))) (by assumption) ⟨L, ns, p, a, _, _, d, ⟨by assumption, ne, by assumption, p0, a0, ?_, by exact fmod0 (by decide), by exact fmod1 (by decide), len⟩⟩
        split <;> omega
end
end My
namespace My
open PySem PySem.Spec PyProof.Rows L2
local macro_rules | `(tactic| walk_at "arith") => `(tactic| first
  | (with_reducible show _ ≠ _; omega)
  | (unfold CMul; omega)
  | (unfold CPow; omega)
  | (unfold CPow; decide)
  | exact wide_div (b := 100) (by decide) (by decide) (by decide) (by decide))
local macro_rules | `(tactic| walk_at "go") => `(tactic| repeat (first
  | with_reducible refine g_seq ?_
  | with_reducible refine g_asg ?_
  | with_reducible refine g_name ?_
  | with_reducible refine g_sub ?_
  | with_reducible refine g_ret ?_
  | with_reducible refine g_drop ?_
  | ((with_reducible refine g_next ?_); dsimp only)
  | with_reducible refine g_if ?_
  | with_reducible refine g_var rfl ?_
  | with_reducible refine g_c ?_
  | with_reducible refine g_op ?_
  | with_reducible refine g_un ?_
  | with_reducible refine g_I0 ?_
  | with_reducible refine g_U ?_
  | with_reducible refine g_eq rfl ?_
  | with_reducible refine g_test ?_
  | with_reducible refine g_bl ?_
  | with_reducible refine iteF ?_
  | with_reducible refine iteT ?_
  | ((with_reducible apply g_iteT); (case e => rfl))
  | ((with_reducible apply g_iteF); (case e => rfl))
  | with_reducible refine g_int1 ?_
  | with_reducible refine g_max2 ?_
  | with_reducible refine g_min2 ?_
  | with_reducible refine g_isN ?_
  | with_reducible refine g_notN ?_
  | ((with_reducible apply g_lenL); (case hs => assumption))
  | ((with_reducible apply g_ixL); (case hs => exact SqL.of (by assumption)); (case ha => rfl))
  | with_reducible refine g_pow9 ?_
  | with_reducible refine g_pow18 ?_
  | ((with_reducible apply g_I); (case c => walk_at "arith"))
  | ((with_reducible apply g_st); (case hs => assumption); (case hL => assumption); (case ne => assumption); (case x0 => assumption); (case hj => rfl); (case j0 => decide); intro _ _ _ _)
  | with_reducible refine g_and ?_
  | with_reducible refine g_or ?_
  | with_reducible refine g_not ?_
  | with_reducible refine g_nil ?_
  | with_reducible refine g_cons ?_
  | with_reducible refine g_callB ?_
  | with_reducible refine g_call ?_
  | with_reducible refine g_tup ?_
  | with_reducible refine g_lst ?_
  | with_reducible refine g_andV ?_
  | with_reducible refine g_orV ?_
  | with_reducible refine g_notV ?_
  | with_reducible refine g_tB ?_
  | with_reducible refine g_ne rfl ?_
  | with_reducible refine g_abs ?_
  | with_reducible refine g_isB ?_
  | with_reducible refine g_for ?_
  | with_reducible refine g_rng1 ?_
  | with_reducible refine g_rng2 ?_
  | with_reducible refine g_iList ?_
  | ((with_reducible refine g_break ?_); dsimp only)
  | ((with_reducible refine g_cont ?_); dsimp only)
  | with_reducible refine g_retN ?_
  | ((with_reducible apply isi_go (T := "int")); (case h => assumption); (case hb => exact k_int_ _))
  | ((with_reducible apply isi_go (T := "str")); (case h => assumption); (case hb => exact k_str_ _))
  | ((with_reducible apply isi_go (T := "bool")); (case h => assumption); (case hb => exact k_bool_ _))
  | ((with_reducible apply isi_go (T := "list")); (case h => assumption); (case hb => exact k_list_ _))
  | ((with_reducible apply isi_go (T := "tuple")); (case h => assumption); (case hb => exact k_tuple_ _))
  | ((with_reducible apply isi_go (T := "dict")); (case h => assumption); (case hb => exact k_dict_ _))
  | with_reducible refine g_intb ?_))

theorem fn_weak {P : Program} {w : World} {K : PySem.W.Frag} {mg : Str → Option Value} {base : Heap} {CX : CXT} {k : Nat} {f : Addr} {fd : FuncData} {ps : List Str} {sp sp' : Sp} (F : FnOk P w K mg base CX k f fd ps sp) (h : ∀ vs H Q E, sp' vs H Q E → sp vs H Q E) : FnOk P w K mg base CX k f fd ps sp' :=
  ⟨fun vs H Q E z => F.len vs H Q E (h vs H Q E z), fun A outer s H args us vs Q E a b c d e => F.run A outer s H args us vs Q E a b c d (h vs H Q E e)⟩
theorem big_of {m : Int} (h : m ≤ 1000000000) : m < BIG := by
  have : (1000000000 : Int) < BIG := by decide +kernel
  omega
theorem BN_big : BIG ≤ BN 170 := by decide +kernel
def spTakeB (K : PySem.W.Frag) : Sp := fun vs H Q _ => ∃ (s : Addr) (many : Int), vs = [.ref s, .int many] ∧ Store K H s ∧ many < BIG ∧
  ∀ (r : Int) (H' : Hp), 0 ≤ r → (r = 0 ∨ r < many) → Sx s H H' → Store K H' s → Q (.int r) H'
theorem take_go {K : PySem.W.Frag} {H : Hp} {s : Addr} {many : Int} {Q : VK} {E : XK} (st : Store K H s) (hm : many < BIG)
    (k : ∀ (r : Int) (H' : Hp), 0 ≤ r → (r = 0 ∨ r < many) → Sx s H H' → Store K H' s → Q (.int r) H') : spTakeB K [.ref s, .int many] H Q E := ⟨s, many, rfl, st, hm, k⟩
def spBetween (K : PySem.W.Frag) : Sp := fun vs H Q _ => ∃ (s : Addr) (low high : Int), vs = [.ref s, .int low, .int high] ∧ Store K H s ∧ low ≤ high ∧ high - low < 1000000000 ∧
  ∀ (r : Int) (H' : Hp), low ≤ r → r ≤ high → Sx s H H' → Store K H' s → Q (.int r) H'
def spTens : Sp := fun vs H Q _ => ∃ (n : Nat), vs = [.int n] ∧ n ≤ 1000 ∧ Q (.int (10 ^ n)) H
def spInteger (K : PySem.W.Frag) : Sp := fun vs H Q _ => ∃ (s : Addr) (figures : Int), vs = [.ref s, .int figures] ∧ Store K H s ∧ 0 ≤ figures ∧ figures ≤ 1000 ∧
  ∀ (r : Int) (H' : Hp), -(10 ^ 1000) < r → r < 10 ^ 1000 → Sx s H H' → Store K H' s → Q (.int r) H'
def spStore (K : PySem.W.Frag) : Sp := fun vs H Q _ => ∃ (a : Addr) (ns : List Int), vs = [.ref a] ∧ SqL K H a (ns.map V.int) ∧ ns.length ≤ 63 ∧
  ∀ (s : Addr) (H' : Hp), H s = none → Same H H' → Store K H' s → Q (.ref s) H'
abbrev s_store : Stmt := topS 37
abbrev N_store : List Str := ["script"]
abbrev P_store : List Str := ["script"]
theorem sc_store : FnScope N_store P_store (defScope s_store) := ⟨rfl, rfl, rfl, by decide +kernel, rfl, by decide +kernel, by decide +kernel⟩

abbrev s_edge : Stmt := topS 39
abbrev N_edge : List Str := ["store", "many"]
abbrev P_edge : List Str := ["store", "many"]
theorem sc_edge : FnScope N_edge P_edge (defScope s_edge) := ⟨rfl, rfl, rfl, by decide +kernel, rfl, by decide +kernel, by decide +kernel⟩

abbrev s_between : Stmt := topS 40
abbrev N_between : List Str := ["store", "low", "high"]
abbrev P_between : List Str := ["store", "low", "high"]
theorem sc_between : FnScope N_between P_between (defScope s_between) := ⟨rfl, rfl, rfl, by decide +kernel, rfl, by decide +kernel, by decide +kernel⟩

abbrev s_tens : Stmt := topS 41
abbrev N_tens : List Str := ["figures"]
abbrev P_tens : List Str := ["figures"]
theorem sc_tens : FnScope N_tens P_tens (defScope s_tens) := ⟨rfl, rfl, rfl, by decide +kernel, rfl, by decide +kernel, by decide +kernel⟩

abbrev s_integer : Stmt := topS 42
abbrev N_integer : List Str := ["store", "figures", "size", "way", "got"]
abbrev P_integer : List Str := ["store", "figures"]
theorem sc_integer : FnScope N_integer P_integer (defScope s_integer) := ⟨rfl, rfl, rfl, by decide +kernel, rfl, by decide +kernel, by decide +kernel⟩

/-! ### "1" and zeros -/
theorem foldl_rep {α : Type} (xs : Array α) (n : Nat) : ((List.replicate n xs).foldl (· ++ ·) (#[] : Array α)).toList = (List.replicate n xs.toList).flatten := by
  have h : ∀ (n : Nat) (acc : Array α), ((List.replicate n xs).foldl (· ++ ·) acc).toList = acc.toList ++ (List.replicate n xs.toList).flatten := by
    intro n
    induction n with
    | zero => intro acc; simp
    | succ n ih =>
      intro acc
      rw [List.replicate_succ, List.foldl_cons, ih, Array.toList_append, List.replicate_succ, List.flatten_cons, List.append_assoc]
  rw [h n #[]]
  rfl
theorem mul_list (z : Str) (n : Nat) : (PySem.Txt.mul z n).cps.toList = (List.replicate n z.cps.toList).flatten := by
  unfold PySem.Txt.mul
  by_cases h : (n : Int) < 1
  · have e : n = 0 := by omega
    subst e
    rfl
  · rw [if_neg h]
    by_cases h2 : ((n : Int) == 1 || z.length == 0) = true
    · rw [if_pos h2]
      rcases Bool.or_eq_true_iff.mp h2 with h3 | h3
      · have e : n = 1 := by
          have := beq_iff_eq.mp h3
          omega
        subst e
        simp
      · have e : z.cps.toList = [] := by
          have h4 : z.cps.size = 0 := beq_iff_eq.mp h3
          exact List.eq_nil_of_length_eq_zero (by rw [Array.length_toList]; exact h4)
        rw [e]
        simp
    · rw [if_neg h2]
      rw [show ((n : Int)).toNat = n from rfl]
      exact foldl_rep z.cps n
theorem rep_one (c n : Nat) : (List.replicate n [c]).flatten = List.replicate n c := by
  induction n with
  | zero => rfl
  | succ n ih => rw [List.replicate_succ, List.flatten_cons, ih]; rfl
theorem str_app (x y : Str) : (x ++ y).cps.toList = x.cps.toList ++ y.cps.toList := Array.toList_append
theorem one_zeros (n : Nat) : (("1" : Str) ++ PySem.Txt.mul "0" n).cps.toList = 49 :: List.replicate n 48 := by
  rw [str_app, mul_list]
  have e1 : ("1" : Str).cps.toList = [49] := by decide +kernel
  have e0 : ("0" : Str).cps.toList = [48] := by decide +kernel
  rw [e1, e0, rep_one]
  rfl
theorem val_zeros (n a : Nat) : (List.replicate n 48).foldl (fun acc c => acc * 10 + (c - 48)) a = a * 10 ^ n := by
  induction n generalizing a with
  | zero => simp
  | succ n ih =>
    rw [List.replicate_succ, List.foldl_cons, ih, Nat.pow_succ]
    show (a * 10 + 0) * 10 ^ n = a * (10 ^ n * 10)
    rw [Nat.add_zero, Nat.mul_assoc, Nat.mul_comm 10]
theorem digs_zeros (n : Nat) : PySem.NumText.AllDigits (49 :: List.replicate n 48) := by
  intro c hc
  rcases List.mem_cons.mp hc with e | h
  · subst e
    decide
  · have e := (List.mem_replicate.mp h).2
    subst e
    decide
theorem str_len (x : Str) : x.length = x.cps.toList.length := by rw [Array.length_toList]; rfl
theorem tens_read (n : Nat) (h : n ≤ 1000) : PySem.intText? (("1" : Str) ++ PySem.Txt.mul "0" n) = some ((10 ^ n : Nat) : Int) := by
  have e := one_zeros n
  have l : (("1" : Str) ++ PySem.Txt.mul "0" n).length ≤ 4300 := by
    rw [str_len, e]
    simp
    omega
  rw [PySem.intText_digits (by rw [e]; exact digs_zeros n) (by rw [e]; exact List.cons_ne_nil _ _) l, e]
  have v : PySem.NumText.digitsVal (49 :: List.replicate n 48) = 10 ^ n := by
    show (List.replicate n 48).foldl (fun acc c => acc * 10 + (c - 48)) 1 = 10 ^ n
    rw [val_zeros, Nat.one_mul]
  rw [v]
theorem seen_digits (x : Str) (h : PySem.NumText.AllDigits x.cps.toList) : (PySem.numSeenOf x).length = x.length := by
  have ha : x.cps.all (· < 128) = true := by
    rw [← Array.all_toList, List.all_eq_true]
    intro c hc
    have := h c hc
    exact decide_eq_true (by omega)
  have e : PySem.numTextOf x = x.cps.toList := if_pos ha
  have t : ∀ l : List Nat, PySem.NumText.AllDigits l → l.takeWhile (· != 0) = l := by
    intro l
    induction l with
    | nil => intro _; rfl
    | cons c r ih =>
      intro hl
      have hc := hl.head
      rw [List.takeWhile_cons, if_pos (by simp; omega), ih hl.tail]
  show ((PySem.numTextOf x).takeWhile (· != 0)).length = x.length
  rw [e, t _ h, str_len]
theorem ten_le {n m : Nat} (h : n ≤ m) : (10 : Int) ^ n ≤ 10 ^ m := by
  have := Nat.pow_le_pow_right (show 0 < 10 by decide) h
  exact_mod_cast this
theorem ten_lt {n m : Nat} (h : n < m) : (10 : Int) ^ n < 10 ^ m := by
  have := Nat.pow_lt_pow_right (show 1 < 10 by decide) h
  exact_mod_cast this
theorem ten_pos (n : Nat) : (1 : Int) ≤ 10 ^ n := by
  have := Nat.pow_pos (n := n) (show 0 < 10 by decide)
  have h : (1 : Nat) ≤ 10 ^ n := this
  exact_mod_cast h
theorem ten_big : (10 : Int) ^ 1000 < BIG := by decide +kernel
section
variable {P : Program} {w : World} {K : PySem.W.Frag} {mg : Str → Option Value} {base : Heap}
theorem ok_takeB (T : Txt K mg) : FnOk P w K mg base CX0 171 T.dtake.f T.dtake.fd P_take (spTakeB K) :=
  fn_weak (ok_take (P := P) (w := w) (base := base) T 171) fun vs H Q E h => by
    obtain ⟨s, many, e, st, hm, k⟩ := h
    exact ⟨s, many, e, st, Int.le_of_lt (Int.lt_of_lt_of_le hm BN_big), hm, k⟩
theorem ok_store (T : Txt K mg) : FnOk P w K mg base CX0 1 T.dstore.f T.dstore.fd P_store (spStore K) := by
  refine T.dstore.F.ok sc_store (fun vs H Q E h => ?_) (fun cdv A outer s H vs Q E hr h => ?_)
  · obtain ⟨a, ns, rfl, _⟩ := h
    rfl
  · obtain ⟨a, ns, rfl, hq, hl, k⟩ := h
    refine ⟨_, (pss_one (ps_ret (pe_lst (pa_cons (pe_callTy c_list (by rfl) T.m_list bt_list (pa_cons (pv 0) pa_nil)) (pa_cons pe_int (pa_cons pe_int (pa_cons pe_int (pa_cons pe_int (pa_cons pe_int pa_nil))))))))), ?_⟩
    try dsimp only [cxOf, Cx.nox, Cx.wish]
    walk_at "go"
    refine ⟨a, _, rfl, .inl hq, fun L hL => ?_⟩
    walk_at "go"
    refine ⟨by show 6 ≤ sizeLine; decide, fun p hp => ?_⟩
    have nLp : L ≠ p := fun e => by
      rw [← e, upd_same] at hp
      cases hp
    have sL : Same H (upd H L (.lst (ns.map V.int))) := same_new hL
    refine k p _ (sL.free hp) (sL.trans (same_new hp)) ⟨L, ns, 0, 0, 0, 0, 0, ⟨upd_same, nLp, ?_, by decide, by decide, by decide, by decide, by decide, hl⟩⟩
    exact .inl (.inl (by rw [upd_ne nLp, upd_same]))
theorem ok_edge (T : Txt K mg) : FnOk P w K mg base CX0 172 T.dedge.f T.dedge.fd P_edge (spTakeB K) := by
  have G_take : FnOk P w K mg base CX0 171 T.dtake.f T.dtake.fd P_take (spTakeB K) := ok_takeB T
  refine T.dedge.F.ok sc_edge (fun vs H Q E h => ?_) (fun cdv A outer s_ H vs Q E hr h => ?_)
  · obtain ⟨s, many, rfl, _⟩ := h
    rfl
  · obtain ⟨s, many, rfl, st, hm, k⟩ := h
    refine ⟨_, (pss_cons (ps_if (pt_cmpR op_lt (pv 1) pe_int (nomark _))
        (pss_one (ps_ret pe_int))
        pss_nil)
      (pss_cons (ps_if (pt_cmpR op_eq (pe_call G_take (hr.mono (by omega)) rfl T.dtake.g T.dtake.F.kp T.dtake.b .nil pass0 (pa_cons (pv 0) (pa_cons pe_int pa_nil))) pe_int (nomark _))
        (pss_one (ps_ret (pe_op op_mulW (pe_op op_sub (pv 1) pe_int) (pe_call G_take (hr.mono (by omega)) rfl T.dtake.g T.dtake.F.kp T.dtake.b .nil pass0 (pa_cons (pv 0) (pa_cons pe_int pa_nil))))))
        pss_nil)
      (pss_one (ps_ret (pe_call G_take (hr.mono (by omega)) rfl T.dtake.g T.dtake.F.kp T.dtake.b .nil pass0 (pa_cons (pv 0) (pa_cons (pv 1) pa_nil))))))), ?_⟩
    try dsimp only [cxOf, Cx.nox, Cx.wish]
    walk_at "go"
    refine g_ite (fun h => ?_) (fun h => ?_)
    · walk_at "go"
      exact k 0 H (Int.le_refl _) (.inl rfl) (Sx.refl s H) st
    have h2 := of_decide_eq_false h
    walk_at "go"
    refine take_go st (big_of (by decide)) fun r H1 r0 r1 x1 st1 => ?_
    walk_at "go"
    refine g_ite (fun h3 => ?_) (fun h3 => ?_)
    · walk_at "go"
      refine take_go st1 (big_of (by decide)) fun r2 H2 r20 r21 x2 st2 => ?_
      have e : r2 = 0 ∨ r2 = 1 := by omega
      have c : CMulW (many - 1) r2 := by
        unfold CMulW
        have b : (many - 1).natAbs.log2 < 5000 := by
          have b1 : (many - 1).natAbs < 2 ^ 5000 := by
            unfold BIG at hm
            omega
          exact PySem.Flt.log2_lt_of (by decide) b1
        have b2 : r2.natAbs.log2 = 0 := by
          rcases e with e | e <;> subst e <;> decide
        omega
      refine g_I c ?_
      walk_at "go"
      refine k _ H2 ?_ ?_ (x1.trans x2) st2
      · rcases e with e | e <;> subst e <;> omega
      · rcases e with e | e <;> subst e <;> omega
    · walk_at "go"
      exact take_go st1 hm fun r2 H2 r20 r21 x2 st2 => k r2 H2 r20 r21 (x1.trans x2) st2
theorem ok_between (T : Txt K mg) : FnOk P w K mg base CX0 173 T.dbetween.f T.dbetween.fd P_between (spBetween K) := by
  have G_edge : FnOk P w K mg base CX0 172 T.dedge.f T.dedge.fd P_edge (spTakeB K) := ok_edge T
  refine T.dbetween.F.ok sc_between (fun vs H Q E h => ?_) (fun cdv A outer s_ H vs Q E hr h => ?_)
  · obtain ⟨s, low, high, rfl, _⟩ := h
    rfl
  · obtain ⟨s, low, high, rfl, st, h1, h2, k⟩ := h
    refine ⟨_, (pss_one (ps_ret (pe_op op_add (pv 1) (pe_call G_edge (hr.mono (by omega)) rfl T.dedge.g T.dedge.F.kp T.dedge.b .nil pass0 (pa_cons (pv 0) (pa_cons (pe_op op_add (pe_op op_sub (pv 2) (pv 1)) pe_int) pa_nil)))))), ?_⟩
    try dsimp only [cxOf, Cx.nox, Cx.wish]
    walk_at "go"
    refine take_go st (big_of (by omega)) fun r H1 r0 r1 x1 st1 => ?_
    walk_at "go"
    exact k _ H1 (by omega) (by omega) x1 st1
theorem ok_tens (T : Txt K mg) : FnOk P w K mg base CX0 1 T.dtens.f T.dtens.fd P_tens spTens := by
  refine T.dtens.F.ok sc_tens (fun vs H Q E h => ?_) (fun cdv A outer s_ H vs Q E hr h => ?_)
  · obtain ⟨n, rfl, _⟩ := h
    rfl
  · obtain ⟨n, rfl, h1, k⟩ := h
    refine ⟨_, (pss_one (ps_ret (pe_callTy c_intS (by rfl) T.m_int bt_int (pa_cons (pe_op o_addS pe_str (pe_op o_mulS pe_str (pv 0))) pa_nil)))), ?_⟩
    try dsimp only [cxOf, Cx.nox, Cx.wish]
    walk_at "go"
    refine ⟨_, _, rfl, rfl, by omega, by omega, by decide, ?_⟩
    have e := one_zeros n
    have l : (("1" : Str) ++ PySem.Txt.mul "0" n).length = n + 1 := by
      rw [str_len, e]
      simp
    have l2 : ("1" : Str).length + (PySem.Txt.mul "0" n).length = n + 1 := by
      rw [← l, str_len, str_len, str_len, str_app, List.length_append]
    refine g_addS (by rw [l2, sizeLine_eq]; omega) ?_
    walk_at "go"
    refine ⟨_, _, rfl, tens_read n h1, by rw [l, sizeLine_eq]; omega, seen_digits _ (by rw [e]; exact digs_zeros n), T.dig, ?_⟩
    have v : (((10 ^ n : Nat)) : Int) = (10 : Int) ^ n := by exact_mod_cast rfl
    rw [v]
    exact k
theorem ok_integer (T : Txt K mg) : FnOk P w K mg base CX0 174 T.dinteger.f T.dinteger.fd P_integer (spInteger K) := by
  have G_take : FnOk P w K mg base CX0 171 T.dtake.f T.dtake.fd P_take (spTakeB K) := ok_takeB T
  have G_edge : FnOk P w K mg base CX0 172 T.dedge.f T.dedge.fd P_edge (spTakeB K) := ok_edge T
  have G_between : FnOk P w K mg base CX0 173 T.dbetween.f T.dbetween.fd P_between (spBetween K) := ok_between T
  have G_tens : FnOk P w K mg base CX0 1 T.dtens.f T.dtens.fd P_tens spTens := ok_tens T
  refine T.dinteger.F.ok sc_integer (fun vs H Q E h => ?_) (fun cdv A outer s_ H vs Q E hr h => ?_)
  · obtain ⟨s, figures, rfl, _⟩ := h
    rfl
  · obtain ⟨s, figures, rfl, st, f0, f1, k⟩ := h
    refine ⟨_, (pss_cons (ps_if (pt_cmpR op_eq (pe_call G_take (hr.mono (by omega)) rfl T.dtake.g T.dtake.F.kp T.dtake.b .nil pass0 (pa_cons (pv 0) (pa_cons pe_int pa_nil))) pe_int (nomark _))
        (pss_one (ps_ret (pe_call G_between (hr.mono (by omega)) rfl T.dbetween.g T.dbetween.F.kp T.dbetween.b .nil pass0 (pa_cons (pv 0) (pa_cons (pe_un un_neg pe_int) (pa_cons pe_int pa_nil))))))
        pss_nil)
      (pss_cons (ps_set (i := 2) sc_integer.nd rfl (by first | exact .inl rfl | exact .inr rfl) (pe_op op_add pe_int (pe_call G_edge (hr.mono (by omega)) rfl T.dedge.g T.dedge.F.kp T.dedge.b .nil pass0 (pa_cons (pv 0) (pa_cons (pv 1) pa_nil)))))
      (pss_cons (ps_set (i := 3) sc_integer.nd rfl (by first | exact .inl rfl | exact .inr rfl) (pe_call G_take (hr.mono (by omega)) rfl T.dtake.g T.dtake.F.kp T.dtake.b .nil pass0 (pa_cons (pv 0) (pa_cons pe_int pa_nil))))
      (Evl.pss_cut (ps_if (pt_cmpR op_eq (pv 3) pe_int (nomark _))
        (pss_one (ps_set (i := 4) sc_integer.nd rfl (by first | exact .inl rfl | exact .inr rfl) (pe_op op_sub (pe_call G_tens (hr.mono (by omega)) rfl T.dtens.g T.dtens.F.kp T.dtens.b .nil pass0 (pa_cons (pv 2) pa_nil)) pe_int)))
        (pss_one (ps_if (pt_cmpR op_eq (pv 3) pe_int (nomark _))
          (pss_one (ps_set (i := 4) sc_integer.nd rfl (by first | exact .inl rfl | exact .inr rfl) (pe_call G_tens (hr.mono (by omega)) rfl T.dtens.g T.dtens.F.kp T.dtens.b .nil pass0 (pa_cons (pe_op op_sub (pv 2) pe_int) pa_nil))))
          (pss_one (ps_set (i := 4) sc_integer.nd rfl (by first | exact .inl rfl | exact .inr rfl) (pe_call G_take (hr.mono (by omega)) rfl T.dtake.g T.dtake.F.kp T.dtake.b .nil pass0 (pa_cons (pv 0) (pa_cons (pe_call G_tens (hr.mono (by omega)) rfl T.dtens.g T.dtens.F.kp T.dtens.b .nil pass0 (pa_cons (pv 2) pa_nil)) pa_nil))))))))
      (pss_cons (ps_if (pt_cmpR op_eq (pe_call G_take (hr.mono (by omega)) rfl T.dtake.g T.dtake.F.kp T.dtake.b .nil pass0 (pa_cons (pv 0) (pa_cons pe_int pa_nil))) pe_int (nomark _))
        (pss_one (ps_ret (pe_un un_neg (pv 4))))
        pss_nil)
      (pss_one (ps_ret (pv 4)))))))), ?_⟩
    try dsimp only [cxOf, Cx.nox, Cx.wish]
    walk_at "go"
    refine take_go st (big_of (by decide)) fun r H1 r0 r1 x1 st1 => ?_
    walk_at "go"
    refine g_ite (fun h3 => ?_) (fun h3 => ?_)
    · walk_at "go"
      refine ⟨s, _, _, rfl, st1, by decide, by decide, fun r2 H2 a b x2 st2 => ?_⟩
      exact k r2 H2 (Int.lt_of_lt_of_le (by decide +kernel) a) (Int.lt_of_le_of_lt b (by decide +kernel)) (x1.trans x2) st2
    walk_at "go"
    refine take_go st1 (big_of (by omega)) fun z H2 z0 z1 x2 st2 => ?_
    walk_at "go"
    refine take_go st2 (big_of (by decide)) fun way H3 w0 w1 x3 st3 => ?_
    obtain ⟨n, en⟩ : ∃ n : Nat, 1 + z = (n : Int) := ⟨(1 + z).toNat, by omega⟩
    have hn1 : 1 ≤ n := by omega
    have hn : n ≤ 1000 := by omega
    have p1 := ten_le hn
    have p0 := ten_pos n
    have x03 := (x1.trans x2).trans x3
    walk_at "go"
    refine g_cut (Mid := fun σ' H' => ∃ g : Int, σ' = [some (.ref s), some (.int figures), some (.int (n : Int)), some (.int way), some (.int g)] ∧ -(10 ^ 1000) < g ∧ g < 10 ^ 1000 ∧ Sx s H H' ∧ Store K H' s) ?_ ?_
    · walk_at "go"
      refine g_ite (fun h4 => ?_) (fun h4 => ?_)
      · walk_at "go"
        refine ⟨n, by rw [← en]; rfl, hn, ?_⟩
        walk_at "go"
        refine ⟨10 ^ n - 1, by rw [← en]; rfl, ?_, ?_, x03, st3⟩
        · generalize (10 : Int) ^ n = u at *
          generalize (10 : Int) ^ 1000 = v at *
          omega
        · generalize (10 : Int) ^ n = u at *
          generalize (10 : Int) ^ 1000 = v at *
          omega
      walk_at "go"
      refine g_ite (fun h5 => ?_) (fun h5 => ?_)
      · walk_at "go"
        have en1 : (1 + z) - 1 = ((n - 1 : Nat) : Int) := by omega
        refine ⟨n - 1, by rw [← en1]; rfl, by omega, ?_⟩
        have p2 := ten_lt (show n - 1 < 1000 by omega)
        have p3 := ten_pos (n - 1)
        walk_at "go"
        refine ⟨10 ^ (n - 1), by rw [← en]; rfl, ?_, ?_, x03, st3⟩
        · generalize (10 : Int) ^ (n - 1) = u at *
          generalize (10 : Int) ^ 1000 = v at *
          omega
        · generalize (10 : Int) ^ (n - 1) = u at *
          generalize (10 : Int) ^ 1000 = v at *
          omega
      · walk_at "go"
        refine ⟨n, by rw [← en]; rfl, hn, ?_⟩
        walk_at "go"
        refine take_go st3 (Int.lt_of_le_of_lt p1 ten_big) fun q H4 q0 q1 x4 st4 => ?_
        refine ⟨q, by rw [← en]; rfl, ?_, ?_, x03.trans x4, st4⟩
        · generalize (10 : Int) ^ n = u at *
          generalize (10 : Int) ^ 1000 = v at *
          omega
        · generalize (10 : Int) ^ n = u at *
          generalize (10 : Int) ^ 1000 = v at *
          omega
    · rintro σ' H' ⟨g, rfl, g0, g1, x4, st4⟩
      walk_at "go"
      refine take_go st4 (big_of (by decide)) fun r H5 r0 r1 x5 st5 => ?_
      walk_at "go"
      refine g_ite (fun h6 => ?_) (fun h6 => ?_)
      · walk_at "go"
        refine k _ H5 ?_ ?_ (x4.trans x5) st5
        · generalize (10 : Int) ^ 1000 = v at *
          omega
        · generalize (10 : Int) ^ 1000 = v at *
          omega
      · walk_at "go"
        exact k _ H5 g0 g1 (x4.trans x5) st5
end
end My
namespace My
open PySem PySem.Spec PyProof.Rows L2
/-! ### equations for the walk -/
theorem atI_0 {α : Type} (a : α) (l : List α) : atI (a :: l) 0 = some a := atI_nat (j := 0) rfl
theorem atI_1 {α : Type} (a b : α) (l : List α) : atI (a :: b :: l) 1 = some b := atI_nat (j := 1) rfl
theorem atI_2 {α : Type} (a b c : α) (l : List α) : atI (a :: b :: c :: l) 2 = some c := atI_nat (j := 2) rfl
theorem ddIx_t0 (a : D) (l : List D) (Q : D → Prop) : ddIx (.tup (a :: l)) (.int 0) Q = Q a := by
  show (∃ d, atI (a :: l) 0 = some d ∧ Q d) = Q a
  rw [atI_0]
  simp
theorem ddIx_t1 (a b : D) (l : List D) (Q : D → Prop) : ddIx (.tup (a :: b :: l)) (.int 1) Q = Q b := by
  show (∃ d, atI (a :: b :: l) 1 = some d ∧ Q d) = Q b
  rw [atI_1]
  simp
theorem ddIx_t2 (a b c : D) (l : List D) (Q : D → Prop) : ddIx (.tup (a :: b :: c :: l)) (.int 2) Q = Q c := by
  show (∃ d, atI (a :: b :: c :: l) 2 = some d ∧ Q d) = Q c
  rw [atI_2]
  simp
theorem ddIx_l0 (a : D) (l : List D) (Q : D → Prop) : ddIx (.lst (a :: l)) (.int 0) Q = Q a := by
  show (∃ d, atI (a :: l) 0 = some d ∧ Q d) = Q a
  rw [atI_0]
  simp
theorem ddIx_l1 (a b : D) (l : List D) (Q : D → Prop) : ddIx (.lst (a :: b :: l)) (.int 1) Q = Q b := by
  show (∃ d, atI (a :: b :: l) 1 = some d ∧ Q d) = Q b
  rw [atI_1]
  simp
theorem atI_3 {α : Type} (a b c d : α) (l : List α) : atI (a :: b :: c :: d :: l) 3 = some d := atI_nat (j := 3) rfl
theorem ddIx_l2 (a b c : D) (l : List D) (Q : D → Prop) : ddIx (.lst (a :: b :: c :: l)) (.int 2) Q = Q c := by
  show (∃ d, atI (a :: b :: c :: l) 2 = some d ∧ Q d) = Q c
  rw [atI_2]
  simp
theorem ddIx_t3 (a b c d : D) (l : List D) (Q : D → Prop) : ddIx (.tup (a :: b :: c :: d :: l)) (.int 3) Q = Q d := by
  show (∃ e, atI (a :: b :: c :: d :: l) 3 = some e ∧ Q e) = Q d
  rw [atI_3]
  simp
theorem ddEq_ii (n : Bool) (i j : Int) (Q : D → Prop) : ddEq n (.int i) (.int j) Q = Q (.bl (n != decide (i = j))) := rfl
theorem ddEq_ss (n : Bool) (i j : Str) (Q : D → Prop) : ddEq n (.str i) (.str j) Q = Q (.bl (n != decide (i = j))) := rfl
theorem ddEq_bb (n : Bool) (i j : Bool) (Q : D → Prop) : ddEq n (.bl i) (.bl j) Q = Q (.bl (n != decide (i = j))) := rfl
/-! ### comprehensions, all, any -/
theorem compL_map {gr : DG} {te : DE} {ρ : DEnv} {Q : List D → Prop} (f : D → D) : ∀ (ds acc : List D), (∀ d ∈ ds, ∀ R : D → Prop, R (f d) → gr d ρ fun ρ2 => te ρ2 R (fun _ => False)) → acc.length + ds.length ≤ sizeLine → Q (acc ++ ds.map f) → compL gr qYes te ρ Q ds acc
  | [], acc, _, _, q => by
    rw [List.map_nil, List.append_nil] at q
    exact q
  | d :: ds, acc, h, hl, q => by
    have h1 := h d (List.mem_cons_self ..)
    rw [List.length_cons] at hl
    have key := h1 (fun y => acc.length < sizeLine ∧ compL gr qYes te ρ Q ds (acc ++ [y])) ⟨by omega, compL_map f ds (acc ++ [f d]) (fun c hc => h c (List.mem_cons_of_mem _ hc)) (by rw [List.length_append, List.length_cons, List.length_nil]; omega) (by rw [List.append_assoc]; exact q)⟩
    show gr d ρ fun ρ2 => qYes ρ2 (fun b => if b = true then _ else _) (fun _ => False)
    unfold qYes
    simp only [if_true]
    exact key
/-- each element is one of P -/
theorem compL_any {gr : DG} {te : DE} {ρ : DEnv} {Q : List D → Prop} (P : D → Prop) : ∀ (ds acc : List D), (∀ d ∈ ds, ∀ R : D → Prop, (∀ x, P x → R x) → gr d ρ fun ρ2 => te ρ2 R (fun _ => False)) → acc.length + ds.length ≤ sizeLine → (∀ l : List D, l.length = ds.length → (∀ x ∈ l, P x) → Q (acc ++ l)) → compL gr qYes te ρ Q ds acc
  | [], acc, _, _, q => by
    have := q [] rfl (fun x hx => by cases hx)
    rw [List.append_nil] at this
    exact this
  | d :: ds, acc, h, hl, q => by
    have h1 := h d (List.mem_cons_self ..)
    rw [List.length_cons] at hl
    have key := h1 (fun y => acc.length < sizeLine ∧ compL gr qYes te ρ Q ds (acc ++ [y])) fun x hx => ⟨by omega, compL_any P ds (acc ++ [x]) (fun c hc => h c (List.mem_cons_of_mem _ hc)) (by rw [List.length_append, List.length_cons, List.length_nil]; omega) (fun l e pl => by
      rw [List.append_assoc]
      exact q (x :: l) (by rw [List.length_cons, List.length_cons, e]) (fun z hz => by
        rcases List.mem_cons.mp hz with rfl | hz
        · exact hx
        · exact pl z hz))⟩
    show gr d ρ fun ρ2 => qYes ρ2 (fun b => if b = true then _ else _) (fun _ => False)
    unfold qYes
    simp only [if_true]
    exact key
theorem rangeD_len (lo : Int) (n : Nat) : (rangeD lo n).length = n := by
  unfold rangeD
  rw [List.length_map, List.length_range]
def ddAll : DCall := fun ds Q => match ds with
  | [.lst l] => ∃ bs : List Bool, l = bs.map D.bl ∧ Q (.bl (bs.all id))
  | _ => False
def ddAny : DCall := fun ds Q => match ds with
  | [.lst l] => ∃ bs : List Bool, l = bs.map D.bl ∧ Q (.bl (bs.any id))
  | _ => False
theorem daL_bls {K : PySem.W.Frag} {so : Option Addr} {A : Hp} : ∀ (bs : List Bool) (vs : List V), DaL K so A (bs.map D.bl) vs → vs = bs.map V.bl
  | [], _, h => h
  | b :: bs, _, ⟨x, r, e, h, q⟩ => by
    have h : x = _ := h
    rw [e, h, daL_bls bs r q]
    rfl
theorem cl_all {K : PySem.W.Frag} : CallL K (rAll K) ddAll := by
  intro so A H ds vs Qd Q gd da q c
  unfold ddAll at q
  split at q
  · obtain ⟨bs, rfl, q⟩ := q
    obtain ⟨v, rfl, a, xs, rfl, hs, qa⟩ := da.one'
    exact ⟨a, bs, rfl, SqL.of (by rw [← daL_bls _ _ qa]; exact gd.sub _ _ hs), c.nowB gd q⟩
  · exact q.elim
theorem cl_any {K : PySem.W.Frag} : CallL K (rAny K) ddAny := by
  intro so A H ds vs Qd Q gd da q c
  unfold ddAny at q
  split at q
  · obtain ⟨bs, rfl, q⟩ := q
    obtain ⟨v, rfl, a, xs, rfl, hs, qa⟩ := da.one'
    exact ⟨a, bs, rfl, SqL.of (by rw [← daL_bls _ _ qa]; exact gd.sub _ _ hs), c.nowB gd q⟩
  · exact q.elim
theorem bt_all : bootBuiltins "all" = some (.builtin "all") := by decide +kernel
theorem bt_any : bootBuiltins "any" = some (.builtin "any") := by decide +kernel
theorem bt_ValueError : bootBuiltins "ValueError" = some (.type "ValueError") := by decide +kernel
end My
namespace My
open PySem PySem.Spec PyProof.Rows L2
local macro_rules | `(tactic| walk_at "dl") => `(tactic| simp only [startD, List.map_cons, List.map_nil, List.length_cons, List.length_nil, List.cons_append, List.nil_append, List.replicate_succ, List.replicate_zero, List.getElem?_cons_zero, List.getElem?_cons_succ, List.set_cons_zero, List.set_cons_succ,
  dVar, rdS, dC, dNew, dOp, onB, qB, dChain, qAnd, qOr, qNot, qTru, truD, dIf, dAnd, dOr, dNot, dUn, ddNeg, lNil, lCons, dTup, nLst, ddI, ddI0, ddAdd, isNonD, isBlD, ddIsN, ddIsB, ddIx_t0, ddIx_t1, ddIx_t2, ddIx_t3, ddIx_l0, ddIx_l1, ddIx_l2, dCB, ddLen, ddInt1, ddAbs, ddMM, ddTuple, nCB, nnList, ddIsi, dCall,
  sSkip, sSeq, sBreak, sCont, sExpr, sRet, sRetN, sIf, sNever, gdName, gdNil, gdCons, gdTup, sAsg, sSetN, sPar, sRaise, sFrz, owS, sApp, sIns, dLenO, dIxO, sTry, sFor, iL, iT, onL, onT, iR1, iR2, nComp, qYes,
  ddEq_ii, ddEq_ss, ddEq_bb, Bool.false_bne, Bool.true_bne, List.append_nil, true_and, and_true, if_true, if_false, Bool.not_true, Bool.not_false, Bool.true_eq_false, Bool.false_eq_true, ite_true, ite_false, id_eq])

/-! ### the greatest common divisor -/
theorem fmod_nat (m n : Nat) (h : 0 < n) : (m : Int).fmod (n : Int) = ((m % n : Nat) : Int) := by
  rw [Int.fmod_eq_emod_of_nonneg _ (by omega)]
  exact (Int.natCast_emod m n).symm
theorem gcd_step (m n : Nat) : Nat.gcd n (m % n) = Nat.gcd m n := by
  rw [Nat.gcd_comm m n, Nat.gcd_rec n m, Nat.gcd_comm]
theorem abs_nat (i : Int) : (if i < 0 then -i else i) = (i.natAbs : Int) := by
  split <;> omega
theorem max_nat (i : Int) : (if -i > i then -i else i) = (i.natAbs : Int) := by
  split <;> omega
def G2 (a b : Int) : Nat := Nat.gcd a.natAbs b.natAbs
theorem log2_mono {a b : Nat} (h : a ≤ b) : a.log2 ≤ b.log2 := by
  by_cases ha : a = 0
  · subst ha
    exact Nat.zero_le _
  · have hb : b ≠ 0 := by omega
    exact (Nat.le_log2 hb).mpr (Nat.le_trans (Nat.log2_self_le ha) h)
/-- the lowest terms of a / b -/
def lowP (a b : Int) : Int := (if b < 0 then -a else a) / (G2 a b : Int)
def lowQ (a b : Int) : Int := (b.natAbs : Int) / (G2 a b : Int)
theorem low_div (a b : Int) (hb : b ≠ 0) : a.fdiv (if b < 0 then -(G2 a b : Int) else G2 a b) = lowP a b ∧ b.fdiv (if b < 0 then -(G2 a b : Int) else G2 a b) = lowQ a b := by
  have hG : 0 < G2 a b := Nat.gcd_pos_of_pos_right _ (by omega)
  obtain ⟨c, hc⟩ : (G2 a b : Int) ∣ a := Int.ofNat_dvd_left.mpr (Nat.gcd_dvd_left _ _)
  obtain ⟨d, hd⟩ : (G2 a b : Int) ∣ b := Int.ofNat_dvd_left.mpr (Nat.gcd_dvd_right _ _)
  unfold lowP lowQ
  generalize G2 a b = g at *
  have gz : (g : Int) ≠ 0 := by omega
  by_cases h : b < 0
  · rw [if_pos h, if_pos h]
    have e1 : a = (-(g : Int)) * (-c) := by rw [hc, Int.neg_mul_neg]
    have e2 : b = (-(g : Int)) * (-d) := by rw [hd, Int.neg_mul_neg]
    have e3 : -a = (g : Int) * (-c) := by rw [hc, Int.mul_neg]
    have e4 : (b.natAbs : Int) = (g : Int) * (-d) := by
      have z : (b.natAbs : Int) = -b := by omega
      rw [z, hd, Int.mul_neg]
    have f1 : a.fdiv (-(g : Int)) = -c := by
      conv => lhs; arg 1; rw [e1]
      exact Int.mul_fdiv_cancel_left _ (by omega)
    have f2 : b.fdiv (-(g : Int)) = -d := by
      conv => lhs; arg 1; rw [e2]
      exact Int.mul_fdiv_cancel_left _ (by omega)
    have f3 : -a / (g : Int) = -c := by
      rw [e3]
      exact Int.mul_ediv_cancel_left _ gz
    have f4 : (b.natAbs : Int) / (g : Int) = -d := by
      rw [e4]
      exact Int.mul_ediv_cancel_left _ gz
    rw [f1, f2, f3, f4]
    exact ⟨rfl, rfl⟩
  · rw [if_neg h, if_neg h]
    have f1 : a.fdiv (g : Int) = c := by
      conv => lhs; arg 1; rw [hc]
      exact Int.mul_fdiv_cancel_left _ gz
    have f2 : b.fdiv (g : Int) = d := by
      conv => lhs; arg 1; rw [hd]
      exact Int.mul_fdiv_cancel_left _ gz
    have f3 : a / (g : Int) = c := by
      conv => lhs; arg 1; rw [hc]
      exact Int.mul_ediv_cancel_left _ gz
    have e4 : (b.natAbs : Int) = b := by omega
    have f4 : (b.natAbs : Int) / (g : Int) = d := by
      rw [e4]
      conv => lhs; arg 1; rw [hd]
      exact Int.mul_ediv_cancel_left _ gz
    rw [f1, f2, f3, f4]
    exact ⟨rfl, rfl⟩
theorem gcd_bits {a b : Int} (hb : b ≠ 0) (hz : b.natAbs.log2 < 9000) (i j : Int) : CDivZ i (if b < 0 then -(G2 a b : Int) else G2 a b) ∧ CDivZ j (if b < 0 then -(G2 a b : Int) else G2 a b) := by
  have hG : 0 < G2 a b := Nat.gcd_pos_of_pos_right _ (by omega)
  have hl : G2 a b ≤ b.natAbs := Nat.gcd_le_right _ (by omega)
  have hz2 : (G2 a b).log2 < 9000 := Nat.lt_of_le_of_lt (log2_mono hl) hz
  have : (if b < 0 then -(G2 a b : Int) else G2 a b) ≠ 0 ∧ (if b < 0 then -(G2 a b : Int) else G2 a b).natAbs = G2 a b := by split <;> omega
  exact ⟨⟨this.1, by rw [this.2]; exact hz2⟩, ⟨this.1, by rw [this.2]; exact hz2⟩⟩
/-! ### what the defs do -/
def isW : D → Bool
  | .int _ => true
  | _ => false
def ratD (a b : Int) : D := .tup [.int a, .int b]
def isRat : D → Bool
  | .tup [.int a, .int b] => decide (1 ≤ b) && decide (G2 a b = 1)
  | _ => false
def sgn (n : Int) : Int := if n > 0 then 1 else if n < 0 then -1 else 0
def m_is_whole : DF := fun ds Q _ => match ds with
  | [d] => plainD d = true ∧ Q (.bl (isW d))
  | _ => False
def m_sign_of : DF := fun ds Q _ => match ds with
  | [.int n] => Q (.int (sgn n))
  | _ => False
def m_divisor : DF := fun ds Q _ => match ds with
  | [.int a, .int b] => Q (.int (G2 a b))
  | _ => False
def m_lowest : DF := fun ds Q _ => match ds with
  | [.int a, .int b] => b ≠ 0 ∧ b.natAbs.log2 < 9000 ∧ Q (ratD (lowP a b) (lowQ a b))
  | _ => False
def m_is_ratio : DF := fun ds Q _ => match ds with
  | [d] => (plainD d = true ∧ ∀ l, d = .tup l → ∀ e ∈ l, plainD e = true) ∧ Q (.bl (isRat d))
  | _ => False
theorem isW_eq (d : D) : (isIn d "int" && !isIn d "bool") = isW d := by
  cases d with
  | bl b => show (("bool" == "int" || "int" == "int") && !("bool" == "bool" || "bool" == "int")) = false; decide +kernel
  | int i => show ("int" == "int" && !("bool" == "int")) = true; decide +kernel
  | str i => show ("int" == "str" && !("bool" == "str")) = false; decide +kernel
  | tup i => show ("int" == "tuple" && !("bool" == "tuple")) = false; decide +kernel
  | lst i => show ("int" == "list" && !("bool" == "list")) = false; decide +kernel
  | dct i _ => show ("int" == "dict" && !("bool" == "dict")) = false; decide +kernel
  | _ => rfl
theorem tup_cases : ∀ d : D, (isIn d "tuple" = false ∧ isRat d = false) ∨ ∃ l, d = .tup l ∧ isIn (.tup l) "tuple" = true
  | .tup l => .inr ⟨l, rfl, by show ("tuple" == "tuple") = true; decide +kernel⟩
  | .non => .inl ⟨rfl, rfl⟩
  | .bl _ => .inl ⟨by show ("tuple" == "bool" || "tuple" == "int") = false; decide +kernel, rfl⟩
  | .int _ => .inl ⟨by show ("tuple" == "int") = false; decide +kernel, rfl⟩
  | .str _ => .inl ⟨by show ("tuple" == "str") = false; decide +kernel, rfl⟩
  | .dct _ _ => .inl ⟨by show ("tuple" == "dict") = false; decide +kernel, rfl⟩
  | .lst _ => .inl ⟨by show ("tuple" == "list") = false; decide +kernel, rfl⟩
  | .ins _ _ _ => .inl ⟨rfl, rfl⟩
  | .scr _ => .inl ⟨rfl, rfl⟩
  | .sto => .inl ⟨rfl, rfl⟩
  | .exc _ => .inl ⟨rfl, rfl⟩
  | .err _ _ _ => .inl ⟨rfl, rfl⟩
theorem rat_no {l : List D} (h : ¬ l.length = 2) : isRat (.tup l) = false := by
  match l, h with
  | [], _ => rfl
  | [d1], _ => cases d1 <;> rfl
  | [d1, d2], h => exact absurd rfl h
  | d1 :: d2 :: d3 :: r, _ =>
    cases d1 <;> first | rfl | (cases d2 <;> rfl)
theorem isW_int {d : D} (h : isW d = true) : ∃ i, d = .int i := by
  cases d <;> first | exact ⟨_, rfl⟩ | cases h
theorem rat_no1 {d1 d2 : D} (h : isW d1 = false) : isRat (.tup [d1, d2]) = false := by
  cases d1 <;> first | rfl | cases h
theorem rat_no2 {d1 d2 : D} (h : isW d2 = false) : isRat (.tup [d1, d2]) = false := by
  cases d1 <;> cases d2 <;> first | rfl | cases h
abbrev s_is_whole : Stmt := topS 28
abbrev N_is_whole : List Str := ["value"]
abbrev P_is_whole : List Str := ["value"]
theorem sc_is_whole : FnScope N_is_whole P_is_whole (defScope s_is_whole) := ⟨rfl, rfl, rfl, by decide +kernel, rfl, by decide +kernel, by decide +kernel⟩

abbrev s_sign_of : Stmt := topS 30
abbrev N_sign_of : List Str := ["number"]
abbrev P_sign_of : List Str := ["number"]
theorem sc_sign_of : FnScope N_sign_of P_sign_of (defScope s_sign_of) := ⟨rfl, rfl, rfl, by decide +kernel, rfl, by decide +kernel, by decide +kernel⟩

abbrev s_divisor : Stmt := topS 29
abbrev N_divisor : List Str := ["one", "other", "first", "second"]
abbrev P_divisor : List Str := ["one", "other"]
theorem sc_divisor : FnScope N_divisor P_divisor (defScope s_divisor) := ⟨rfl, rfl, rfl, by decide +kernel, rfl, by decide +kernel, by decide +kernel⟩

abbrev s_is_ratio : Stmt := topS 33
abbrev N_is_ratio : List Str := ["value", "top", "bottom"]
abbrev P_is_ratio : List Str := ["value"]
theorem sc_is_ratio : FnScope N_is_ratio P_is_ratio (defScope s_is_ratio) := ⟨rfl, rfl, rfl, by decide +kernel, rfl, by decide +kernel, by decide +kernel⟩

section
variable {P : Program} {w : World} {K : PySem.W.Frag} {mg : Str → Option Value} {base : Heap}
theorem ok_is_whole (T : Txt K mg) : FnOk P w K mg base (L2N.CX P w) 1 T.dis_whole.f T.dis_whole.fd P_is_whole (spD K 1 m_is_whole) := by
  refine T.dis_whole.okD sc_is_whole fun cdv A outer s H E so A0 hr tk hp => ⟨_, (pds_one (pds_ret (pd_and (pd_isi (by rfl) T.m_isinstance (pd_var (pv 0)) (pe_bltn (v := .ty "int") (by rfl) T.m_int bt_int rfl) tq_int) (pd_one (pd_not (pd_isi (by rfl) T.m_isinstance (pd_var (pv 0)) (pe_bltn (v := .ty "bool") (by rfl) T.m_bool bt_bool rfl) tq_bool)))))), fun ds Q E hl h => ?_⟩
  match ds, hl with
  | [d], _ =>
    obtain ⟨p, h⟩ := h
    walk_at "dl"
    refine ⟨p, ?_⟩
    rw [← isW_eq] at h
    split
    · rename_i e
      rw [e] at h
      exact ⟨p, h⟩
    · rename_i e
      rw [Bool.not_eq_true] at e
      rw [e] at h
      exact h
theorem ok_sign_of (T : Txt K mg) : FnOk P w K mg base (L2N.CX P w) 1 T.dsign_of.f T.dsign_of.fd P_sign_of (spD K 1 m_sign_of) := by
  refine T.dsign_of.okD sc_sign_of fun cdv A outer s H E so A0 hr tk hp => ⟨_, (pds_cons (pds_if (pdt_cmp op_gt ol_gt (pd_var (pv 0)) pd_int (nomark _))
        (pds_one (pds_ret pd_int))
        pds_nil)
      (pds_cons (pds_if (pdt_cmp op_lt ol_lt (pd_var (pv 0)) pd_int (nomark _))
        (pds_one (pds_ret (pd_neg pd_int)))
        pds_nil)
      (pds_one (pds_ret pd_int)))), fun ds Q E hl h => ?_⟩
  unfold m_sign_of at h
  split at h
  · rename_i n
    unfold sgn at h
    walk_at "dl"
    split
    · rename_i c
      simpa [of_decide_eq_true c] using h
    · rename_i c
      have c : ¬ (0 < n) := by simpa using c
      split
      · rename_i c2
        have c2 : n < 0 := by simpa using c2
        simpa [c, c2] using h
      · rename_i c2
        have c2 : ¬ n < 0 := by simpa using c2
        simpa [c, c2] using h
  · exact h.elim
theorem ok_divisor (T : Txt K mg) : FnOk P w K mg base (L2N.CX P w) 1 T.ddivisor.f T.ddivisor.fd P_divisor (spD K 2 m_divisor) := by
  refine T.ddivisor.okD sc_divisor fun cdv A outer s H E so A0 hr tk hp => ⟨_, (pds_cons (pds_par (i := 2) (j := 3) (by rfl) sc_divisor.nd rfl rfl (by decide) rfl rfl (pda_cons (pd_callB c_abs cl_abs (by rfl) T.m_abs bt_abs (pda_cons (pd_var (pv 0)) pda_nil)) (pda_cons (pd_callB c_abs cl_abs (by rfl) T.m_abs bt_abs (pda_cons (pd_var (pv 1)) pda_nil)) pda_nil)) (by rfl))
      (pds_cons (pds_while hp (pdt_cmp (oo_ne hr.units) ol_ne (pd_var (pv 3)) pd_int (nomark _))
        (pds_one (pds_par (i := 2) (j := 3) (by rfl) sc_divisor.nd rfl rfl (by decide) rfl rfl (pda_cons (pd_var (pv 3)) (pda_cons (pd_op op_modN ol_mod (pd_var (pv 2)) (pd_var (pv 3))) pda_nil)) (by rfl))))
      (pds_one (pds_ret (pd_var (pv 2)))))), fun ds Q E hl h => ?_⟩
  unfold m_divisor at h
  split at h
  · rename_i a b
    walk_at "dl"
    rw [abs_nat, abs_nat]
    refine ⟨fun m ρ => ∃ x : Nat, ρ = [.fr (.int a), .fr (.int b), .fr (.int (x : Int)), .fr (.int (m : Int))] ∧ Nat.gcd x m = G2 a b, ⟨b.natAbs, a.natAbs, rfl, rfl⟩, ?_⟩
    rintro m ρ ⟨x, rfl, hg⟩
    walk_at "dl"
    split
    · rename_i c
      have hm : 0 < m := by
        have : ¬ ((m : Int) = 0) := by simpa using c
        omega
      refine ⟨fun ρ' => ∃ x : Nat, ρ' = [.fr (.int a), .fr (.int b), .fr (.int (m : Int)), .fr (.int (x : Int))] ∧ Nat.gcd m x = G2 a b ∧ x < m, ?_, ?_⟩
      · rintro ρ' ⟨y, e1, e2, e3⟩
        exact ⟨y, e3, m, e1, e2⟩
      · refine ⟨by omega, ?_⟩
        rw [fmod_nat x m hm]
        exact ⟨x % m, rfl, by rw [gcd_step]; exact hg, Nat.mod_lt x hm⟩
    · rename_i c
      have hm : m = 0 := by
        have : ((m : Int) = 0) := by simpa using c
        omega
      subst hm
      rw [Nat.gcd_zero_right] at hg
      rw [hg]
      exact h
  · exact h.elim
theorem ok_is_ratio (T : Txt K mg) : FnOk P w K mg base (L2N.CX P w) 2 T.dis_ratio.f T.dis_ratio.fd P_is_ratio (spD K 1 m_is_ratio) := by
  have G_is_whole : FnOk P w K mg base (L2N.CX P w) 1 T.dis_whole.f T.dis_whole.fd P_is_whole (spD K 1 m_is_whole) := ok_is_whole T
  have G_divisor : FnOk P w K mg base (L2N.CX P w) 1 T.ddivisor.f T.ddivisor.fd P_divisor (spD K 2 m_divisor) := ok_divisor T
  refine T.dis_ratio.okD sc_is_ratio fun cdv A outer s H E so A0 hr tk hp => ⟨_, (pds_cons (pds_if (PDW.t (pdw_or (pdt_not (pdt_tru (pd_isi (by rfl) T.m_isinstance (pd_var (pv 0)) (pe_bltn (v := .ty "tuple") (by rfl) T.m_tuple bt_tuple rfl) tq_tuple))) (pdw_or1 (pdt_cmp (oo_ne hr.units) ol_ne (pd_callB oo_len cl_len (by rfl) T.m_len bt_len (pda_cons (pd_var (pv 0)) pda_nil)) pd_int (nomark _)))))
        (pds_one (pds_ret pd_bl))
        pds_nil)
      (pds_cons (pds_asg (pd_var (pv 0)) (pdg_tup (n := 2) rfl (pdgs_cons (pdg_name (pg_name (i := 1) sc_is_ratio.nd rfl (by first | exact .inl rfl | exact .inr rfl))) (pdgs_cons (pdg_name (pg_name (i := 2) sc_is_ratio.nd rfl (by first | exact .inl rfl | exact .inr rfl))) pdgs_nil))))
      (pds_cons (pds_if (PDW.t (pdw_or (pdt_not (pdt_tru (pd_call G_is_whole (hr.mono (by omega)) (by rfl) T.dis_whole.g T.dis_whole.F.kp T.dis_whole.b (fun σ => L2N.passAt tk σ) (pda_cons (pd_var (pv 1)) pda_nil)))) (pdw_or1 (pdt_not (pdt_tru (pd_call G_is_whole (hr.mono (by omega)) (by rfl) T.dis_whole.g T.dis_whole.F.kp T.dis_whole.b (fun σ => L2N.passAt tk σ) (pda_cons (pd_var (pv 2)) pda_nil)))))))
        (pds_one (pds_ret pd_bl))
        pds_nil)
      (pds_one (pds_ret (pd_and (pd_cmp op_ge ol_ge (pd_var (pv 2)) pd_int (nomark _)) (pd_one (pd_cmp (oo_eq hr.units) ol_eq (pd_call G_divisor (hr.mono (by omega)) (by rfl) T.ddivisor.g T.ddivisor.F.kp T.ddivisor.b (fun σ => L2N.passAt tk σ) (pda_cons (pd_var (pv 1)) (pda_cons (pd_var (pv 2)) pda_nil))) pd_int (nomark _))))))))), fun ds Q E hl h => ?_⟩
  match ds, hl with
  | [d], _ =>
    obtain ⟨⟨p, pl⟩, h⟩ := h
    walk_at "dl"
    refine ⟨p, ?_⟩
    rcases tup_cases d with ⟨hd, hn⟩ | ⟨l, rfl, ht⟩
    · rw [hd]
      walk_at "dl"
      rw [hn] at h
      exact h
    rw [ht]
    walk_at "dl"
    by_cases h2 : l.length = 2
    · obtain ⟨d1, d2, rfl⟩ : ∃ d1 d2, l = [d1, d2] := by
        match l, h2 with
        | [d1, d2], _ => exact ⟨d1, d2, rfl⟩
      have p1 := pl _ rfl d1 (by simp)
      have p2 := pl _ rfl d2 (by simp)
      walk_at "dl"
      simp only [m_is_whole, p1, p2, true_and]
      cases w1 : isW d1 with
      | false =>
        rw [rat_no1 w1] at h
        simpa using h
      | true =>
        cases w2 : isW d2 with
        | false =>
          rw [rat_no2 w2] at h
          simpa using h
        | true =>
          obtain ⟨a, rfl⟩ := isW_int w1
          obtain ⟨b, rfl⟩ := isW_int w2
          have h : Q (.bl (decide (1 ≤ b) && decide (G2 a b = 1))) := h
          by_cases hb : 1 ≤ b
          · rw [decide_eq_true hb, Bool.true_and] at h
            have e : decide ((G2 a b : Int) = 1) = decide (G2 a b = 1) := decide_eq_decide.mpr (by omega)
            simp [hb, m_divisor, ddEq_ii, e]
            exact h
          · rw [decide_eq_false hb, Bool.false_and] at h
            simp [hb]
            exact h
    · rw [rat_no h2] at h
      have e : ¬ ((l.length : Int) = 2) := by omega
      simp only [decide_eq_false e, Bool.not_false, if_true]
      exact h
end
end My
namespace My
open PySem PySem.Spec PyProof.Rows L2
local macro_rules | `(tactic| walk_at "dl") => `(tactic| simp only [startD, List.map_cons, List.map_nil, List.length_cons, List.length_nil, List.cons_append, List.nil_append, List.replicate_succ, List.replicate_zero, List.getElem?_cons_zero, List.getElem?_cons_succ, List.set_cons_zero, List.set_cons_succ,
  dVar, rdS, dC, dNew, dOp, onB, qB, dChain, qAnd, qOr, qNot, qTru, truD, dIf, dAnd, dOr, dNot, dUn, ddNeg, lNil, lCons, dTup, nLst, ddI, ddI0, ddAdd, isNonD, isBlD, ddIsN, ddIsB, ddIx_t0, ddIx_t1, ddIx_t2, ddIx_t3, ddIx_l0, ddIx_l1, ddIx_l2, dCB, ddLen, ddInt1, ddAbs, ddMM, ddTuple, nCB, nnList, ddIsi, dCall,
  sSkip, sSeq, sBreak, sCont, sExpr, sRet, sRetN, sIf, sNever, gdName, gdNil, gdCons, gdTup, sAsg, sSetN, sPar, sRaise, sFrz, owS, sApp, sIns, dLenO, dIxO, sTry, sFor, iL, iT, onL, onT, iR1, iR2, nComp, qYes,
  ddEq_ii, ddEq_ss, ddEq_bb, Bool.false_bne, Bool.true_bne, List.append_nil, true_and, and_true, if_true, if_false, Bool.not_true, Bool.not_false, Bool.true_eq_false, Bool.false_eq_true, ite_true, ite_false, id_eq])

/-- data that is_ratio may be asked -/
def Pl (d : D) : Prop := plainD d = true ∧ ∀ l, d = .tup l → ∀ e ∈ l, plainD e = true
theorem rat_shape {d : D} (h : isRat d = true) : ∃ a b, d = ratD a b ∧ 1 ≤ b ∧ G2 a b = 1 := by
  match d, h with
  | .tup [.int a, .int b], h =>
    have h : (decide (1 ≤ b) && decide (G2 a b = 1)) = true := h
    rw [Bool.and_eq_true] at h
    exact ⟨a, b, rfl, of_decide_eq_true h.1, of_decide_eq_true h.2⟩
theorem rat_pl {d : D} (h : isRat d = true) : Pl d := by
  obtain ⟨a, b, rfl, _⟩ := rat_shape h
  refine ⟨rfl, fun l e x hx => ?_⟩
  cases e
  simp at hx
  rcases hx with rfl | rfl <;> rfl
/-- small enough to be multiplied and divided -/
def Sm (x : Int) : Prop := x.natAbs < 2 ^ 4000
theorem Sm.mul {x y : Int} (hx : Sm x) (hy : Sm y) : CMulW x y := wide_mul hx hy (by decide) (by decide) (by decide)
theorem Sm.prod {x y : Int} (hx : Sm x) (hy : Sm y) : (x * y).natAbs.log2 < 9000 := by
  have h : (x * y).natAbs < 2 ^ (4000 + 4000) := by
    rw [Int.natAbs_mul, Nat.pow_add]
    exact Nat.mul_lt_mul'' hx hy
  exact Nat.lt_of_lt_of_le (PySem.Flt.log2_lt_of (by decide) h) (by decide)
section
variable {K : PySem.W.Frag} {mg : Str → Option Value} (T : Txt K mg)
def wkX (x : Str) : XD := ⟨T.cWrongKind.C, ["argument"], [.str x]⟩
def m_need_ratio : DF := fun ds Q E => match ds with
  | [d, .str x] => Pl d ∧ (isRat d = false → E (wkX T x)) ∧ (isRat d = true → Q .non)
  | _ => False
/-- the ratio in lowest terms -/
def lowD (p : Int × Int) : D := ratD (lowP p.1 p.2) (lowQ p.1 p.2)
end
abbrev s_WrongKind_init : Stmt := inClass (topS 2) 0
abbrev N_WrongKind_init : List Str := ["self", "argument"]
abbrev P_WrongKind_init : List Str := ["self", "argument"]
theorem sc_WrongKind_init : FnScope N_WrongKind_init P_WrongKind_init (defScope s_WrongKind_init) := ⟨rfl, rfl, rfl, by decide +kernel, rfl, by decide +kernel, by decide +kernel⟩

abbrev s_need_ratio : Stmt := topS 32
abbrev N_need_ratio : List Str := ["value", "argument"]
abbrev P_need_ratio : List Str := ["value", "argument"]
theorem sc_need_ratio : FnScope N_need_ratio P_need_ratio (defScope s_need_ratio) := ⟨rfl, rfl, rfl, by decide +kernel, rfl, by decide +kernel, by decide +kernel⟩

theorem pl_no : ∀ d : D, isRat d = false ∨ isRat d = true := fun d => by cases isRat d <;> simp
section
variable {P : Program} {w : World} {K : PySem.W.Frag} {mg : Str → Option Value} {base : Heap}
theorem ok_iWrongKind (T : Txt K mg) : FnOk P w K mg base CX0 1 T.iWrongKind.f T.iWrongKind.fd P_WrongKind_init (spIni K T.cWrongKind.C ["argument"] 1 (mk1 "argument")) :=
  T.iWrongKind.ok1 sc_WrongKind_init fun cdv A outer s H E => pss_one (ps_ost (pv 0) (pv 1))
theorem ok_need_ratio (T : Txt K mg) : FnOk P w K mg base (L2N.CX P w) 4 T.dneed_ratio.f T.dneed_ratio.fd P_need_ratio (spD K 2 (m_need_ratio T)) := by
  have I_WrongKind := ok_iWrongKind (P := P) (w := w) (base := base) T
  have G_is_ratio : FnOk P w K mg base (L2N.CX P w) 2 T.dis_ratio.f T.dis_ratio.fd P_is_ratio (spD K 1 m_is_ratio) := ok_is_ratio T
  refine T.dneed_ratio.okD sc_need_ratio fun cdv A outer s H E so A0 hr tk hp => ⟨_, (pds_one (pds_if (pdt_not (pdt_tru (pd_call G_is_ratio (hr.mono (by omega)) (by rfl) T.dis_ratio.g T.dis_ratio.F.kp T.dis_ratio.b (fun σ => L2N.passAt tk σ) (pda_cons (pd_var (pv 0)) pda_nil))))
        (pds_one (pds_raise T.zWrongKind rfl tk T.iWrongKind.i T.iWrongKind.t I_WrongKind (hr.mono (by omega)) T.iWrongKind.b .nil (dd := []) (fun _ _ => rfl) rfl T.cWrongKind.g (pda_cons (pd_var (pv 1)) pda_nil)))
        pds_nil)), fun ds Q E hl h => ?_⟩
  unfold m_need_ratio at h
  split at h
  · rename_i d x
    obtain ⟨pl, h0, h1⟩ := h
    walk_at "dl"
    refine ⟨pl, ?_⟩
    cases hR : isRat d with
    | false =>
      walk_at "dl"
      exact ⟨by decide, h0 hR⟩
    | true =>
      walk_at "dl"
      exact h1 hR
  · exact h.elim
end
end My
namespace My
open PySem PySem.Spec PyProof.Rows L2
local macro_rules | `(tactic| walk_at "dl") => `(tactic| simp only [startD, List.map_cons, List.map_nil, List.length_cons, List.length_nil, List.cons_append, List.nil_append, List.replicate_succ, List.replicate_zero, List.getElem?_cons_zero, List.getElem?_cons_succ, List.set_cons_zero, List.set_cons_succ,
  dVar, rdS, dC, dNew, dOp, onB, qB, dChain, qAnd, qOr, qNot, qTru, truD, dIf, dAnd, dOr, dNot, dUn, ddNeg, lNil, lCons, dTup, nLst, ddI, ddI0, ddAdd, isNonD, isBlD, ddIsN, ddIsB, ddIx_t0, ddIx_t1, ddIx_t2, ddIx_t3, ddIx_l0, ddIx_l1, ddIx_l2, dCB, ddLen, ddInt1, ddAbs, ddMM, ddTuple, nCB, nnList, ddIsi, dCall,
  sSkip, sSeq, sBreak, sCont, sExpr, sRet, sRetN, sIf, sNever, gdName, gdNil, gdCons, gdTup, sAsg, sSetN, sPar, sRaise, sFrz, owS, sApp, sIns, dLenO, dIxO, sTry, sFor, iL, iT, onL, onT, iR1, iR2, nComp, qYes,
  ddEq_ii, ddEq_ss, ddEq_bb, Bool.false_bne, Bool.true_bne, List.append_nil, true_and, and_true, if_true, if_false, Bool.not_true, Bool.not_false, Bool.true_eq_false, Bool.false_eq_true, ite_true, ite_false, id_eq])

/-! ### draws over data -/
def m_take : DF := fun ds Q _ => match ds with
  | [.sto, .int many] => many < BIG ∧ ∀ r : Int, 0 ≤ r → (r = 0 ∨ r < many) → Q (.int r)
  | _ => False
def m_between : DF := fun ds Q _ => match ds with
  | [.sto, .int low, .int high] => low ≤ high ∧ high - low < 1000000000 ∧ ∀ r : Int, low ≤ r → r ≤ high → Q (.int r)
  | _ => False
def m_tens : DF := fun ds Q _ => match ds with
  | [.int n] => 0 ≤ n ∧ n ≤ 1000 ∧ Q (.int (10 ^ n.toNat))
  | _ => False
theorem sto2 {K : PySem.W.Frag} {so : Option Addr} {A : Hp} {i : Int} {vs : List V} (h : DaL K so A [.sto, .int i] vs) : ∃ s, vs = [.ref s, .int i] ∧ so = some s := by
  obtain ⟨v, w, rfl, ⟨s, rfl, e⟩, dw⟩ := h.two'
  cases dw
  exact ⟨s, rfl, e⟩
section
variable {P : Program} {w : World} {K : PySem.W.Frag} {mg : Str → Option Value} {base : Heap}
theorem takeD : ∀ vs H Q E, spD K 2 m_take vs H Q E → spTakeB K vs H Q E := fun vs H Q E h => by
  obtain ⟨so, A, ds, Qd, Ed, gd, hl, da, m, c, cx⟩ := h
  unfold m_take at m
  split at m
  · obtain ⟨s, rfl, e⟩ := sto2 da
    exact ⟨s, _, rfl, StoOk.store gd e, m.1, fun r H' h0 h1 x st => c (.int r) _ A H' (Ext.store gd e x st) rfl (m.2 r h0 h1)⟩
  · exact m.elim
theorem ok_takeD (T : Txt K mg) : FnOk P w K mg base (L2N.CX P w) 171 T.dtake.f T.dtake.fd P_take (spD K 2 m_take) := FnOk_cx (ok_takeB T) takeD
theorem ok_edgeD (T : Txt K mg) : FnOk P w K mg base (L2N.CX P w) 172 T.dedge.f T.dedge.fd P_edge (spD K 2 m_take) := FnOk_cx (ok_edge T) takeD
theorem ok_betweenD (T : Txt K mg) : FnOk P w K mg base (L2N.CX P w) 173 T.dbetween.f T.dbetween.fd P_between (spD K 3 m_between) := FnOk_cx (ok_between T) fun vs H Q E h => by
  obtain ⟨so, A, ds, Qd, Ed, gd, hl, da, m, c, cx⟩ := h
  unfold m_between at m
  split at m
  · obtain ⟨v, r, rfl, ⟨s, rfl, e⟩, d2⟩ := da
    obtain ⟨x, y, rfl, dx, dy⟩ := d2.two'
    cases dx
    cases dy
    exact ⟨s, _, _, rfl, StoOk.store gd e, m.1, m.2.1, fun r H' h0 h1 x st => c (.int r) _ A H' (Ext.store gd e x st) rfl (m.2.2 r h0 h1)⟩
  · exact m.elim
theorem ok_tensD (T : Txt K mg) : FnOk P w K mg base (L2N.CX P w) 1 T.dtens.f T.dtens.fd P_tens (spD K 1 m_tens) := FnOk_cx (ok_tens T) fun vs H Q E h => by
  obtain ⟨so, A, ds, Qd, Ed, gd, hl, da, m, c, cx⟩ := h
  unfold m_tens at m
  split at m
  · rename_i n
    obtain ⟨v, rfl, dv⟩ := da.one'
    cases dv
    exact ⟨n.toNat, by rw [Int.toNat_of_nonneg m.1], by omega, c.nowI gd m.2.2⟩
  · exact m.elim
end
/-- at most n figures -/
def Dig (n : Nat) (x : Int) : Prop := x.natAbs < 10 ^ n
theorem Dig.up {n m : Nat} {x : Int} (h : Dig n x) (l : n ≤ m) : Dig m x := Nat.lt_of_lt_of_le h (Nat.pow_le_pow_right (by decide) l)
theorem p10 (n : Nat) : ((10 ^ n : Nat) : Int) = (10 : Int) ^ n := by
  rw [Int.natCast_pow]
  rfl
theorem p10_pos (n : Nat) : 1 ≤ 10 ^ n := Nat.pow_pos (by decide)
theorem Dig.small {n : Nat} {x : Int} (h : 1 ≤ n) (hx : x.natAbs ≤ 9) : Dig n x := by
  have : (10 : Nat) ^ 1 ≤ 10 ^ n := Nat.pow_le_pow_right (by decide) h
  unfold Dig
  omega
theorem big1000 : (10 : Nat) ^ 1000 < 2 ^ 4000 := by decide +kernel
theorem Dig.sm {n : Nat} {x : Int} (h : Dig n x) (l : n ≤ 1000) : Sm x := Nat.lt_trans (Nat.lt_of_lt_of_le h (Nat.pow_le_pow_right (by decide) l)) big1000
theorem Sm.log {x : Int} (h : Sm x) : x.natAbs.log2 < 9000 := Nat.lt_of_lt_of_le (PySem.Flt.log2_lt_of (by decide) h) (by decide)
def m_integer : DF := fun ds Q _ => match ds with
  | [.sto, .int f] => 1 ≤ f ∧ f ≤ 1000 ∧ ∀ r : Int, Dig f.toNat r → Q (.int r)
  | _ => False
def m_low : DF := fun ds Q _ => match ds with
  | [.int a, .int b] => b.natAbs.log2 < 9000 ∧ Q (if b = 0 then ratD 0 1 else lowD (a, b))
  | _ => False
abbrev s_low : Stmt := topS 43
abbrev N_low : List Str := ["up", "down", "one", "two", "rest"]
abbrev P_low : List Str := ["up", "down"]
theorem sc_low : FnScope N_low P_low (defScope s_low) := ⟨rfl, rfl, rfl, by decide +kernel, rfl, by decide +kernel, by decide +kernel⟩

/-- an item at a place that is not told -/
theorem ddIx_any {l : List D} {i : Int} {Q : D → Prop} (h0 : 0 ≤ i) (h1 : i < l.length) (q : ∀ d ∈ l, Q d) : ddIx (.lst l) (.int i) Q := by
  obtain ⟨j, rfl⟩ : ∃ j : Nat, i = j := ⟨i.toNat, by omega⟩
  have hj : j < l.length := by omega
  exact ⟨l[j], atI_nat (List.getElem?_eq_getElem hj), q _ (List.getElem_mem hj)⟩
theorem sgn_eq (a : Int) : (if decide (0 < a) = true then (1 : Int) else 0) - (if decide (a < 0) = true then 1 else 0) = sgn a := by
  unfold sgn
  by_cases h : 0 < a
  · have h2 : ¬ a < 0 := by omega
    simp [h, h2]
  · by_cases h2 : a < 0
    · simp [h, h2]
    · simp [h, h2]
section
variable {P : Program} {w : World} {K : PySem.W.Frag} {mg : Str → Option Value} {base : Heap}
theorem ok_low (T : Txt K mg) : FnOk P w K mg base (L2N.CX P w) 1 T.dlow.f T.dlow.fd P_low (spD K 2 m_low) := by
  refine T.dlow.okD sc_low fun cdv A outer s H E so A0 hr tk hp => ⟨_, (pds_cons (pds_if (pdt_cmp (oo_eq hr.units) ol_eq (pd_var (pv 1)) pd_int (nomark _))
        (pds_one (pds_ret (pd_tup (pda_cons pd_int (pda_cons pd_int pda_nil)))))
        pds_nil)
      (pds_cons (pds_set (i := 2) sc_low.nd rfl (by first | exact .inl rfl | exact .inr rfl) (pd_callB (c_max2 rfl) cl_max2 (by rfl) T.m_max bt_max (pda_cons (pd_var (pv 0)) (pda_cons (pd_neg (pd_var (pv 0))) pda_nil))))
      (pds_cons (pds_set (i := 3) sc_low.nd rfl (by first | exact .inl rfl | exact .inr rfl) (pd_callB (c_max2 rfl) cl_max2 (by rfl) T.m_max bt_max (pda_cons (pd_var (pv 1)) (pda_cons (pd_neg (pd_var (pv 1))) pda_nil))))
      (pds_cons (pds_while hp (pdt_cmp op_gt ol_gt (pd_var (pv 3)) pd_int (nomark _))
        (pds_cons (pds_set (i := 4) sc_low.nd rfl (by first | exact .inl rfl | exact .inr rfl) (pd_op op_modN ol_mod (pd_callTy c_int1 cl_int1 (by rfl) T.m_int bt_int (pda_cons (pd_var (pv 2)) pda_nil)) (pd_var (pv 3))))
        (pds_cons (pds_set (i := 2) sc_low.nd rfl (by first | exact .inl rfl | exact .inr rfl) (pd_var (pv 3)))
        (pds_one (pds_set (i := 3) sc_low.nd rfl (by first | exact .inl rfl | exact .inr rfl) (pd_var (pv 4)))))))
      (pds_cons (pds_if (pdt_cmp op_lt ol_lt (pd_var (pv 1)) pd_int (nomark _))
        (pds_one (pds_set (i := 2) sc_low.nd rfl (by first | exact .inl rfl | exact .inr rfl) (pd_neg (pd_var (pv 2)))))
        pds_nil)
      (pds_one (pds_ret (pd_tup (pda_cons (pd_op op_fdivZ ol_fdiv (pd_var (pv 0)) (pd_var (pv 2))) (pda_cons (pd_op op_fdivZ ol_fdiv (pd_var (pv 1)) (pd_var (pv 2))) pda_nil)))))))))), fun ds Q E hl h => ?_⟩
  unfold m_low at h
  split at h
  · rename_i a b
    obtain ⟨hz, h⟩ := h
    walk_at "dl"
    by_cases b0 : b = 0
    · rw [if_pos b0] at h
      rw [decide_eq_true b0]
      walk_at "dl"
      exact ⟨by show 2 ≤ sizeLine; decide, h⟩
    rw [if_neg b0] at h
    rw [decide_eq_false b0]
    walk_at "dl"
    obtain ⟨f1, f2⟩ := low_div a b b0
    obtain ⟨c1, c2⟩ := gcd_bits (a := a) b0 hz a b
    have mn : ∀ i : Int, (if i < -i then -i else i) = (i.natAbs : Int) := fun i => by split <;> omega
    rw [mn, mn]
    refine ⟨fun m ρ => ∃ (x : Nat) (z : Sl), ρ = [.fr (.int a), .fr (.int b), .fr (.int (x : Int)), .fr (.int (m : Int)), z] ∧ Nat.gcd x m = G2 a b, ⟨b.natAbs, a.natAbs, .no, rfl, rfl⟩, ?_⟩
    rintro m ρ ⟨x, z, rfl, hg⟩
    walk_at "dl"
    split
    · rename_i c
      have hm : 0 < m := by
        have := of_decide_eq_true c
        omega
      refine ⟨fun ρ' => ∃ (x : Nat) (z : Sl), ρ' = [.fr (.int a), .fr (.int b), .fr (.int (m : Int)), .fr (.int (x : Int)), z] ∧ Nat.gcd m x = G2 a b ∧ x < m, ?_, ?_⟩
      · rintro ρ' ⟨y, z, e1, e2, e3⟩
        exact ⟨y, e3, m, z, e1, e2⟩
      · refine ⟨by omega, ?_⟩
        rw [fmod_nat x m hm]
        exact ⟨x % m, _, rfl, by rw [gcd_step]; exact hg, Nat.mod_lt x hm⟩
    · rename_i c
      have hm : m = 0 := by
        have : ¬ (0 : Int) < m := by simpa using c
        omega
      subst hm
      rw [Nat.gcd_zero_right] at hg
      subst hg
      split
      · rename_i c
        have c : b < 0 := by simpa using c
        rw [if_pos c] at c1 c2 f1 f2
        refine ⟨c1, c2, (by show 2 ≤ sizeLine; decide), ?_⟩
        rw [f1, f2]
        exact h
      · rename_i c
        have c : ¬ b < 0 := by simpa using c
        rw [if_neg c] at c1 c2 f1 f2
        refine ⟨c1, c2, (by show 2 ≤ sizeLine; decide), ?_⟩
        rw [f1, f2]
        exact h
  · exact h.elim
theorem ok_integerD (T : Txt K mg) : FnOk P w K mg base (L2N.CX P w) 174 T.dinteger.f T.dinteger.fd P_integer (spD K 2 m_integer) := by
  have G_take : FnOk P w K mg base (L2N.CX P w) 171 T.dtake.f T.dtake.fd P_take (spD K 2 m_take) := ok_takeD T
  have G_edge : FnOk P w K mg base (L2N.CX P w) 172 T.dedge.f T.dedge.fd P_edge (spD K 2 m_take) := ok_edgeD T
  have G_between : FnOk P w K mg base (L2N.CX P w) 173 T.dbetween.f T.dbetween.fd P_between (spD K 3 m_between) := ok_betweenD T
  have G_tens : FnOk P w K mg base (L2N.CX P w) 1 T.dtens.f T.dtens.fd P_tens (spD K 1 m_tens) := ok_tensD T
  refine T.dinteger.okD sc_integer fun cdv A outer s H E so A0 hr tk hp => ⟨_, (pds_cons (pds_if (pdt_cmp (oo_eq hr.units) ol_eq (pd_call G_take (hr.mono (by omega)) (by rfl) T.dtake.g T.dtake.F.kp T.dtake.b (fun σ => L2N.passAt tk σ) (pda_cons (pd_var (pv 0)) (pda_cons pd_int pda_nil))) pd_int (nomark _))
        (pds_one (pds_ret (pd_call G_between (hr.mono (by omega)) (by rfl) T.dbetween.g T.dbetween.F.kp T.dbetween.b (fun σ => L2N.passAt tk σ) (pda_cons (pd_var (pv 0)) (pda_cons (pd_neg pd_int) (pda_cons pd_int pda_nil))))))
        pds_nil)
      (pds_cons (pds_set (i := 2) sc_integer.nd rfl (by first | exact .inl rfl | exact .inr rfl) (pd_op oo_add ol_add pd_int (pd_call G_edge (hr.mono (by omega)) (by rfl) T.dedge.g T.dedge.F.kp T.dedge.b (fun σ => L2N.passAt tk σ) (pda_cons (pd_var (pv 0)) (pda_cons (pd_var (pv 1)) pda_nil)))))
      (pds_cons (pds_set (i := 3) sc_integer.nd rfl (by first | exact .inl rfl | exact .inr rfl) (pd_call G_take (hr.mono (by omega)) (by rfl) T.dtake.g T.dtake.F.kp T.dtake.b (fun σ => L2N.passAt tk σ) (pda_cons (pd_var (pv 0)) (pda_cons pd_int pda_nil))))
      (pds_cons (pds_if (pdt_cmp (oo_eq hr.units) ol_eq (pd_var (pv 3)) pd_int (nomark _))
        (pds_one (pds_set (i := 4) sc_integer.nd rfl (by first | exact .inl rfl | exact .inr rfl) (pd_op op_sub ol_sub (pd_call G_tens (hr.mono (by omega)) (by rfl) T.dtens.g T.dtens.F.kp T.dtens.b (fun σ => L2N.passAt tk σ) (pda_cons (pd_var (pv 2)) pda_nil)) pd_int)))
        (pds_one (pds_if (pdt_cmp (oo_eq hr.units) ol_eq (pd_var (pv 3)) pd_int (nomark _))
          (pds_one (pds_set (i := 4) sc_integer.nd rfl (by first | exact .inl rfl | exact .inr rfl) (pd_call G_tens (hr.mono (by omega)) (by rfl) T.dtens.g T.dtens.F.kp T.dtens.b (fun σ => L2N.passAt tk σ) (pda_cons (pd_op op_sub ol_sub (pd_var (pv 2)) pd_int) pda_nil))))
          (pds_one (pds_set (i := 4) sc_integer.nd rfl (by first | exact .inl rfl | exact .inr rfl) (pd_call G_take (hr.mono (by omega)) (by rfl) T.dtake.g T.dtake.F.kp T.dtake.b (fun σ => L2N.passAt tk σ) (pda_cons (pd_var (pv 0)) (pda_cons (pd_call G_tens (hr.mono (by omega)) (by rfl) T.dtens.g T.dtens.F.kp T.dtens.b (fun σ => L2N.passAt tk σ) (pda_cons (pd_var (pv 2)) pda_nil)) pda_nil))))))))
      (pds_cons (pds_if (pdt_cmp (oo_eq hr.units) ol_eq (pd_call G_take (hr.mono (by omega)) (by rfl) T.dtake.g T.dtake.F.kp T.dtake.b (fun σ => L2N.passAt tk σ) (pda_cons (pd_var (pv 0)) (pda_cons pd_int pda_nil))) pd_int (nomark _))
        (pds_one (pds_ret (pd_neg (pd_var (pv 4)))))
        pds_nil)
      (pds_one (pds_ret (pd_var (pv 4))))))))), fun ds Q E hl h => ?_⟩
  unfold m_integer at h
  split at h
  · rename_i f
    obtain ⟨f1, f2, h⟩ := h
    obtain ⟨n, rfl⟩ : ∃ n : Nat, f = n := ⟨f.toNat, by omega⟩
    have h : ∀ r : Int, Dig n r → Q (.int r) := h
    have hn : 1 ≤ n ∧ n ≤ 1000 := by omega
    walk_at "dl"
    simp only [m_take, m_between]
    refine ⟨by decide, fun r0 _ _ => ?_⟩
    walk_at "dl"
    split
    · exact ⟨by decide, by decide, fun r a b => h r (Dig.small hn.1 (by omega))⟩
    refine ⟨Int.lt_of_le_of_lt (show (n : Int) ≤ 1000000000 by omega) (big_of (Int.le_refl _)), fun r1 p1 q1 => ?_⟩
    obtain ⟨k, rfl⟩ : ∃ k : Nat, r1 = k := ⟨r1.toNat, by omega⟩
    have hk : 1 + k ≤ n := by omega
    refine ⟨by decide, fun r2 p2 q2 => ?_⟩
    have last : ∀ got : Int, Dig (1 + k) got → ((2 : Int) < BIG ∧ ∀ r : Int, 0 ≤ r → (r = 0 ∨ r < 2) → if decide (r = 0) = true then Q (.int (-got)) else Q (.int got)) := fun got hg => by
      refine ⟨by decide, fun r _ _ => ?_⟩
      have g1 := h got (hg.up hk)
      have g2 := h (-got) (by unfold Dig; rw [Int.natAbs_neg]; exact hg.up hk)
      split
      · exact g2
      · exact g1
    have pw := p10_pos (1 + k)
    split
    · simp only [m_tens]
      refine ⟨by omega, by omega, ?_⟩
      have e : ((1 : Int) + (k : Int)).toNat = 1 + k := by omega
      rw [e]
      refine last _ ?_
      unfold Dig
      rw [← p10]
      omega
    · split
      · simp only [m_tens]
        refine ⟨by omega, by omega, ?_⟩
        have e : ((1 : Int) + (k : Int) - 1).toNat = k := by omega
        rw [e]
        refine last _ ?_
        unfold Dig
        rw [← p10, Int.natAbs_natCast]
        exact Nat.pow_lt_pow_right (by decide) (by omega)
      · simp only [m_tens]
        refine ⟨by omega, by omega, ?_⟩
        have e : ((1 : Int) + (k : Int)).toNat = 1 + k := by omega
        rw [e]
        refine ⟨?_, fun r3 p3 q3 => last _ ?_⟩
        · have : (10 : Int) ^ (1 + k) ≤ 10 ^ 1000 := by
            rw [← p10, ← p10]
            exact Int.ofNat_le.mpr (Nat.pow_le_pow_right (by decide) (by omega))
          exact Int.lt_of_le_of_lt this ten_big
        · unfold Dig
          rw [← p10] at q3
          omega
  · exact h.elim
end
end My
namespace My
open PySem PySem.Spec PyProof.Rows L2
local macro_rules | `(tactic| walk_at "dl") => `(tactic| simp only [startD, List.map_cons, List.map_nil, List.length_cons, List.length_nil, List.cons_append, List.nil_append, List.replicate_succ, List.replicate_zero, List.getElem?_cons_zero, List.getElem?_cons_succ, List.set_cons_zero, List.set_cons_succ,
  dVar, rdS, dC, dNew, dOp, onB, qB, dChain, qAnd, qOr, qNot, qTru, truD, dIf, dAnd, dOr, dNot, dUn, ddNeg, lNil, lCons, dTup, nLst, ddI, ddI0, ddAdd, isNonD, isBlD, ddIsN, ddIsB, ddIx_t0, ddIx_t1, ddIx_t2, ddIx_t3, ddIx_l0, ddIx_l1, ddIx_l2, dCB, ddLen, ddInt1, ddAbs, ddMM, ddTuple, nCB, nnList, ddIsi, dCall,
  sSkip, sSeq, sBreak, sCont, sExpr, sRet, sRetN, sIf, sNever, gdName, gdNil, gdCons, gdTup, sAsg, sSetN, sPar, sRaise, sFrz, owS, sApp, sIns, dLenO, dIxO, sTry, sFor, iL, iT, onL, onT, iR1, iR2, nComp, qYes,
  ddEq_ii, ddEq_ss, ddEq_bb, Bool.false_bne, Bool.true_bne, List.append_nil, true_and, and_true, if_true, if_false, Bool.not_true, Bool.not_false, Bool.true_eq_false, Bool.false_eq_true, ite_true, ite_false, id_eq])

/-! ### lowest terms -/
theorem low_facts (a b : Int) (hb : b ≠ 0) : 1 ≤ lowQ a b ∧ G2 (lowP a b) (lowQ a b) = 1 ∧ lowP a b * b = lowQ a b * a ∧ (lowP a b).natAbs ≤ a.natAbs ∧ (lowQ a b).natAbs ≤ b.natAbs := by
  have hG : 0 < G2 a b := Nat.gcd_pos_of_pos_right _ (by omega)
  have gz : (G2 a b : Int) ≠ 0 := by omega
  have d1 : G2 a b ∣ a.natAbs := Nat.gcd_dvd_left _ _
  have d2 : G2 a b ∣ b.natAbs := Nat.gcd_dvd_right _ _
  obtain ⟨c, hc⟩ := d1
  obtain ⟨d, hd⟩ := d2
  have hdp : 0 < d := by
    rcases Nat.eq_zero_or_pos d with z | z
    · rw [z, Nat.mul_zero] at hd
      omega
    · exact z
  have q : lowQ a b = (d : Int) := by
    unfold lowQ
    rw [hd, Int.natCast_mul]
    exact Int.mul_ediv_cancel_left _ gz
  have pabs : (lowP a b).natAbs = c ∧ lowP a b * (G2 a b : Int) = (if b < 0 then -a else a) := by
    have da : (G2 a b : Int) ∣ (if b < 0 then -a else a) := by
      have : (G2 a b : Int) ∣ a := Int.ofNat_dvd_left.mpr ⟨c, hc⟩
      split
      · exact Int.dvd_neg.mpr this
      · exact this
    have e : lowP a b * (G2 a b : Int) = (if b < 0 then -a else a) := Int.ediv_mul_cancel da
    refine ⟨?_, e⟩
    have e2 := congrArg Int.natAbs e
    rw [Int.natAbs_mul, Int.natAbs_natCast] at e2
    have e3 : (if b < 0 then -a else a).natAbs = a.natAbs := by split <;> omega
    rw [e3, hc, Nat.mul_comm] at e2
    exact Nat.eq_of_mul_eq_mul_left hG e2
  have hcd : Nat.gcd c d = 1 := by
    have e : G2 a b = G2 a b * Nat.gcd c d := by
      conv => lhs; unfold G2; rw [hc, hd]
      exact Nat.gcd_mul_left _ _ _
    have e2 : G2 a b * Nat.gcd c d = G2 a b * 1 := by rw [Nat.mul_one]; exact e.symm
    exact Nat.eq_of_mul_eq_mul_left hG e2
  refine ⟨by rw [q]; omega, ?_, ?_, ?_, ?_⟩
  · unfold G2
    rw [pabs.1, q, Int.natAbs_natCast]
    exact hcd
  · -- crosswise
    have e := pabs.2
    have hb2 : ((b.natAbs : Nat) : Int) = (G2 a b : Int) * d := by rw [hd, Int.natCast_mul]
    rw [q]
    generalize lowP a b = p at *
    generalize (G2 a b : Int) = g at *
    by_cases h : b < 0
    · rw [if_pos h] at e
      have e4 : b = -(g * d) := by omega
      rw [e4, Int.mul_neg, ← Int.mul_assoc, e, Int.neg_mul, Int.neg_neg, Int.mul_comm]
    · rw [if_neg h] at e
      have e4 : b = g * d := by omega
      rw [e4, ← Int.mul_assoc, e, Int.mul_comm]
  · rw [pabs.1, hc]
    exact Nat.le_mul_of_pos_left _ hG
  · rw [q, Int.natAbs_natCast, hd]
    exact Nat.le_mul_of_pos_left _ hG
theorem low_rat (a b : Int) (hb : b ≠ 0) : isRat (lowD (a, b)) = true := by
  obtain ⟨h1, h2, _⟩ := low_facts a b hb
  show (decide (1 ≤ lowQ a b) && decide (G2 (lowP a b) (lowQ a b) = 1)) = true
  rw [decide_eq_true h1, decide_eq_true h2]
  rfl
/-- a ratio whose parts have at most n figures -/
def RatN (n : Nat) (d : D) : Prop := ∃ a b, d = ratD a b ∧ isRat d = true ∧ Dig n a ∧ Dig n b
theorem RatN.up {n m : Nat} {d : D} (h : RatN n d) (l : n ≤ m) : RatN m d := let ⟨a, b, e, r, x, y⟩ := h; ⟨a, b, e, r, x.up l, y.up l⟩
theorem RatN.low {n : Nat} {a b : Int} (hb : b ≠ 0) (ha : Dig n a) (hd : Dig n b) : RatN n (lowD (a, b)) := by
  obtain ⟨_, _, _, l1, l2⟩ := low_facts a b hb
  exact ⟨lowP a b, lowQ a b, rfl, low_rat a b hb, Nat.lt_of_le_of_lt l1 ha, Nat.lt_of_le_of_lt l2 hd⟩
def m_small : DF := fun ds Q _ => match ds with
  | [.sto] => ∀ d, RatN 1 d → Q d
  | _ => False
def m_lratio : DF := fun ds Q _ => match ds with
  | [.sto, .int f] => 1 ≤ f ∧ f ≤ 1000 ∧ ∀ d, RatN f.toNat d → Q d
  | _ => False
/-- the list of a script with such figures -/
def ValOk (n : Nat) (l : List D) : Prop := (l.length * n ≤ 900 ∧ l.length ≤ 24 ∧ ∀ d ∈ l, RatN n d) ∨ (n = 9 ∧ l.length ≤ 299 ∧ ∀ d ∈ l, RatN 1 d)
abbrev s_small : Stmt := topS 46
abbrev N_small : List Str := ["store", "up"]
abbrev P_small : List Str := ["store"]
theorem sc_small : FnScope N_small P_small (defScope s_small) := ⟨rfl, rfl, rfl, by decide +kernel, rfl, by decide +kernel, by decide +kernel⟩

abbrev s_ratio : Stmt := topS 47
abbrev N_ratio : List Str := ["store", "figures", "up", "down"]
abbrev P_ratio : List Str := ["store", "figures"]
theorem sc_ratio : FnScope N_ratio P_ratio (defScope s_ratio) := ⟨rfl, rfl, rfl, by decide +kernel, rfl, by decide +kernel, by decide +kernel⟩

theorem three_div (n : Nat) : (n : Int).fdiv 3 = ((n / 3 : Nat) : Int) := by
  rw [Int.fdiv_eq_ediv_of_nonneg _ (by decide)]
  exact (Int.natCast_ediv n 3).symm
section
variable {P : Program} {w : World} {K : PySem.W.Frag} {mg : Str → Option Value} {base : Heap}
theorem ok_small (T : Txt K mg) : FnOk P w K mg base (L2N.CX P w) 174 T.dsmall.f T.dsmall.fd P_small (spD K 1 m_small) := by
  have G_take : FnOk P w K mg base (L2N.CX P w) 171 T.dtake.f T.dtake.fd P_take (spD K 2 m_take) := ok_takeD T
  have G_between : FnOk P w K mg base (L2N.CX P w) 173 T.dbetween.f T.dbetween.fd P_between (spD K 3 m_between) := ok_betweenD T
  have G_low : FnOk P w K mg base (L2N.CX P w) 1 T.dlow.f T.dlow.fd P_low (spD K 2 m_low) := ok_low T
  refine T.dsmall.okD sc_small fun cdv A outer s H E so A0 hr tk hp => ⟨_, (pds_cons (pds_set (i := 1) sc_small.nd rfl (by first | exact .inl rfl | exact .inr rfl) (pd_op op_sub ol_sub (pd_call G_between (hr.mono (by omega)) (by rfl) T.dbetween.g T.dbetween.F.kp T.dbetween.b (fun σ => L2N.passAt tk σ) (pda_cons (pd_var (pv 0)) (pda_cons pd_int (pda_cons pd_int pda_nil)))) pd_int))
      (pds_cons (pds_if (pdt_cmp (oo_eq hr.units) ol_eq (pd_call G_take (hr.mono (by omega)) (by rfl) T.dtake.g T.dtake.F.kp T.dtake.b (fun σ => L2N.passAt tk σ) (pda_cons (pd_var (pv 0)) (pda_cons pd_int pda_nil))) pd_int (nomark _))
        (pds_one (pds_set (i := 1) sc_small.nd rfl (by first | exact .inl rfl | exact .inr rfl) pd_int))
        pds_nil)
      (pds_one (pds_ret (pd_call G_low (hr.mono (by omega)) (by rfl) T.dlow.g T.dlow.F.kp T.dlow.b (fun σ => L2N.passAt tk σ) (pda_cons (pd_var (pv 1)) (pda_cons (pd_ix ix_seq ol_ix (pd_new (pdn_lst (pda_cons pd_int (pda_cons pd_int (pda_cons pd_int (pda_cons pd_int pda_nil)))))) (pd_call G_take (hr.mono (by omega)) (by rfl) T.dtake.g T.dtake.F.kp T.dtake.b (fun σ => L2N.passAt tk σ) (pda_cons (pd_var (pv 0)) (pda_cons pd_int pda_nil))) (fun _ _ => rfl)) pda_nil))))))), fun ds Q E hl h => ?_⟩
  unfold m_small at h
  split at h
  · walk_at "dl"
    simp only [m_take, m_between]
    refine ⟨by decide, by decide, fun r p1 p2 => ⟨by decide, fun r1 _ _ => ?_⟩⟩
    have last : ∀ up : Int, up.natAbs ≤ 4 → (4 ≤ sizeLine ∧ (4 : Int) < BIG ∧ ∀ r : Int, 0 ≤ r → (r = 0 ∨ r < 4) → ddIx (.lst [.int 1, .int 1, .int 2, .int 3]) (.int r) fun x => m_low [.int up, x] Q E) := fun up hu => by
      refine ⟨by decide, by decide, fun r q1 q2 => ddIx_any q1 (by show r < 4; omega) fun d hd => ?_⟩
      have go : ∀ b : Int, b ≠ 0 → b.natAbs ≤ 3 → m_low [.int up, .int b] Q E := fun b hb0 hb => by
        refine ⟨(Dig.sm (n := 1) (Dig.small (Nat.le_refl _) (by omega)) (by decide)).log, ?_⟩
        rw [if_neg hb0]
        exact h _ (RatN.low hb0 (Dig.small (Nat.le_refl _) (by omega)) (Dig.small (Nat.le_refl _) (by omega)))
      simp only [List.mem_cons, List.mem_nil_iff, or_false] at hd
      rcases hd with rfl | rfl | rfl | rfl
      · exact go 1 (by decide) (by decide)
      · exact go 1 (by decide) (by decide)
      · exact go 2 (by decide) (by decide)
      · exact go 3 (by decide) (by decide)
    walk_at "dl"
    split
    · exact last 0 (by decide)
    · exact last (r - 4) (by omega)
  · exact h.elim
theorem ok_lratio (T : Txt K mg) : FnOk P w K mg base (L2N.CX P w) 175 T.dratio.f T.dratio.fd P_ratio (spD K 2 m_lratio) := by
  have G_take : FnOk P w K mg base (L2N.CX P w) 171 T.dtake.f T.dtake.fd P_take (spD K 2 m_take) := ok_takeD T
  have G_integer : FnOk P w K mg base (L2N.CX P w) 174 T.dinteger.f T.dinteger.fd P_integer (spD K 2 m_integer) := ok_integerD T
  have G_small : FnOk P w K mg base (L2N.CX P w) 174 T.dsmall.f T.dsmall.fd P_small (spD K 1 m_small) := ok_small T
  have G_low : FnOk P w K mg base (L2N.CX P w) 1 T.dlow.f T.dlow.fd P_low (spD K 2 m_low) := ok_low T
  refine T.dratio.okD sc_ratio fun cdv A outer s H E so A0 hr tk hp => ⟨_, (pds_cons (pds_if (pdt_cmp (oo_eq hr.units) ol_eq (pd_call G_take (hr.mono (by omega)) (by rfl) T.dtake.g T.dtake.F.kp T.dtake.b (fun σ => L2N.passAt tk σ) (pda_cons (pd_var (pv 0)) (pda_cons pd_int pda_nil))) pd_int (nomark _))
        (pds_one (pds_ret (pd_call G_small (hr.mono (by omega)) (by rfl) T.dsmall.g T.dsmall.F.kp T.dsmall.b (fun σ => L2N.passAt tk σ) (pda_cons (pd_var (pv 0)) pda_nil))))
        pds_nil)
      (pds_cons (pds_set (i := 2) sc_ratio.nd rfl (by first | exact .inl rfl | exact .inr rfl) (pd_call G_integer (hr.mono (by omega)) (by rfl) T.dinteger.g T.dinteger.F.kp T.dinteger.b (fun σ => L2N.passAt tk σ) (pda_cons (pd_var (pv 0)) (pda_cons (pd_var (pv 1)) pda_nil))))
      (pds_cons (pds_set (i := 3) sc_ratio.nd rfl (by first | exact .inl rfl | exact .inr rfl) (pd_call G_integer (hr.mono (by omega)) (by rfl) T.dinteger.g T.dinteger.F.kp T.dinteger.b (fun σ => L2N.passAt tk σ) (pda_cons (pd_var (pv 0)) (pda_cons (pd_var (pv 1)) pda_nil))))
      (pds_cons (pds_if (pdt_cmp (oo_eq hr.units) ol_eq (pd_var (pv 3)) pd_int (nomark _))
        (pds_one (pds_set (i := 3) sc_ratio.nd rfl (by first | exact .inl rfl | exact .inr rfl) pd_int))
        pds_nil)
      (pds_one (pds_ret (pd_call G_low (hr.mono (by omega)) (by rfl) T.dlow.g T.dlow.F.kp T.dlow.b (fun σ => L2N.passAt tk σ) (pda_cons (pd_var (pv 2)) (pda_cons (pd_var (pv 3)) pda_nil))))))))), fun ds Q E hl h => ?_⟩
  unfold m_lratio at h
  split at h
  · rename_i f
    obtain ⟨f1, f2, h⟩ := h
    walk_at "dl"
    simp only [m_take, m_integer, m_small]
    refine ⟨by decide, fun r _ _ => ?_⟩
    walk_at "dl"
    split
    · exact fun d hd => h d (hd.up (by omega))
    refine ⟨f1, f2, fun up hu => ⟨f1, f2, fun dn hd => ?_⟩⟩
    have one : Dig f.toNat 1 := Dig.small (by omega) (by decide)
    split
    · refine ⟨(Dig.sm one (by omega)).log, ?_⟩
      rw [if_neg (by decide)]
      exact h _ (RatN.low (by decide) hu one)
    · rename_i c
      have c : dn ≠ 0 := by simpa using c
      refine ⟨(Dig.sm hd (by omega)).log, ?_⟩
      rw [if_neg c]
      exact h _ (RatN.low c hu hd)
  · exact h.elim
end
end My
namespace My
open PySem PySem.Spec PyProof.Rows L2
local macro_rules | `(tactic| walk_at "dl") => `(tactic| simp only [startD, List.map_cons, List.map_nil, List.length_cons, List.length_nil, List.cons_append, List.nil_append, List.replicate_succ, List.replicate_zero, List.getElem?_cons_zero, List.getElem?_cons_succ, List.set_cons_zero, List.set_cons_succ,
  dVar, rdS, dC, dNew, dOp, onB, qB, dChain, qAnd, qOr, qNot, qTru, truD, dIf, dAnd, dOr, dNot, dUn, ddNeg, lNil, lCons, dTup, nLst, ddI, ddI0, ddAdd, isNonD, isBlD, ddIsN, ddIsB, ddIx_t0, ddIx_t1, ddIx_t2, ddIx_t3, ddIx_l0, ddIx_l1, ddIx_l2, dCB, ddLen, ddInt1, ddAbs, ddMM, ddTuple, nCB, nnList, ddIsi, dCall,
  sSkip, sSeq, sBreak, sCont, sExpr, sRet, sRetN, sIf, sNever, gdName, gdNil, gdCons, gdTup, sAsg, sSetN, sPar, sRaise, sFrz, owS, sApp, sIns, dLenO, dIxO, sTry, sFor, iL, iT, onL, onT, iR1, iR2, nComp, qYes,
  ddEq_ii, ddEq_ss, ddEq_bb, Bool.false_bne, Bool.true_bne, List.append_nil, true_and, and_true, if_true, if_false, Bool.not_true, Bool.not_false, Bool.true_eq_false, Bool.false_eq_true, ite_true, ite_false, id_eq])

/-- small enough to be multiplied -/
def Md (x : Int) : Prop := x.natAbs < 2 ^ 8500
theorem Md.mul {x y : Int} (hx : Md x) (hy : Md y) : CMulW x y := wide_mul hx hy (by decide) (by decide) (by decide)
theorem Md.log {x : Int} (h : Md x) : x.natAbs.log2 < 9000 := Nat.lt_of_lt_of_le (PySem.Flt.log2_lt_of (by decide) h) (by decide)
theorem Sm.md {x : Int} (h : Sm x) : Md x := Nat.lt_of_lt_of_le h (Nat.pow_le_pow_right (by decide) (by decide))
/-! ### == of ratios -/
theorem shaped_rat (a b : Int) : SeqAt.shaped (.tuple [.int a, .int b]) = true := by
  simp [SeqAt.shaped, PyData.canLay0, PyData.canLayAll0, PyData.depth, PyData.depthAll]
theorem eqv_rat (a b c d : Int) : PyData.eqv (.tuple [.int a, .int b]) (.tuple [.int c, .int d]) = (decide (a = c) && decide (b = d)) := by
  simp [PyData.eqv, PyData.eqvAll, Bool.beq_eq_decide_eq]
theorem ddEq_rat (n : Bool) (a b c d : Int) (Q : D → Prop) : ddEq n (ratD a b) (ratD c d) Q = Q (.bl (n != (decide (a = c) && decide (b = d)))) := by
  show ddEqP n (ratD a b) (ratD c d) Q = _
  unfold ddEqP
  have e1 : pyD (ratD a b) = some (.tuple [.int a, .int b]) := rfl
  have e2 : pyD (ratD c d) = some (.tuple [.int c, .int d]) := rfl
  rw [e1, e2]
  simp [shaped_rat, eqv_rat]
/-! ### a ratio by the law's own measure -/
/-- the ints within are small -/
def Bt (d : D) : Prop := ∀ a b, d = ratD a b → Sm a ∧ Sm b
theorem rat_low {a b : Int} (hb : 1 ≤ b) : (decide (lowP a b = a) && decide (lowQ a b = b)) = decide (G2 a b = 1) := by
  have hG : 0 < G2 a b := Nat.gcd_pos_of_pos_right _ (by omega)
  by_cases h : G2 a b = 1
  · rw [decide_eq_true h]
    have e1 : lowP a b = a := by unfold lowP; rw [h, if_neg (by omega)]; omega
    have e2 : lowQ a b = b := by unfold lowQ; rw [h]; omega
    rw [decide_eq_true e1, decide_eq_true e2]
    rfl
  · rw [decide_eq_false h]
    have : lowQ a b ≠ b := fun e => by
      obtain ⟨_, g1, _⟩ := low_facts a b (by omega)
      unfold lowQ at e
      have d2 : (G2 a b : Int) ∣ (b.natAbs : Int) := Int.ofNat_dvd.mpr (Nat.gcd_dvd_right _ _)
      have e3 := Int.ediv_mul_cancel d2
      rw [e] at e3
      have e4 : (b.natAbs : Int) = b := by omega
      rw [e4] at e3
      have e5 : b * (G2 a b : Int) = b * 1 := by rw [e3, Int.mul_one]
      have := Int.eq_of_mul_eq_mul_left (by omega) e5
      omega
    rw [decide_eq_false this, Bool.and_false]
def Bm (d : D) : Prop := ∀ a b, d = ratD a b → Md a ∧ Md b
theorem Bt.bm {d : D} (h : Bt d) : Bm d := fun a b e => ⟨(h a b e).1.md, (h a b e).2.md⟩
def m_lis_int : DF := fun ds Q _ => match ds with
  | [d] => plainD d = true ∧ Q (.bl (isW d))
  | _ => False
def m_lis_ratio : DF := fun ds Q _ => match ds with
  | [d] => Pl d ∧ Bm d ∧ Q (.bl (isRat d))
  | _ => False
abbrev s_is_int : Stmt := topS 50
abbrev N_is_int : List Str := ["thing"]
abbrev P_is_int : List Str := ["thing"]
theorem sc_is_int : FnScope N_is_int P_is_int (defScope s_is_int) := ⟨rfl, rfl, rfl, by decide +kernel, rfl, by decide +kernel, by decide +kernel⟩

abbrev s_lis_ratio : Stmt := topS 51
abbrev N_lis_ratio : List Str := ["thing"]
abbrev P_lis_ratio : List Str := ["thing"]
theorem sc_lis_ratio : FnScope N_lis_ratio P_lis_ratio (defScope s_lis_ratio) := ⟨rfl, rfl, rfl, by decide +kernel, rfl, by decide +kernel, by decide +kernel⟩

section
variable {K : PySem.W.Frag} {mg : Str → Option Value} (T : Txt K mg)
end
section
variable {P : Program} {w : World} {K : PySem.W.Frag} {mg : Str → Option Value} {base : Heap}
theorem ok_lis_int (T : Txt K mg) : FnOk P w K mg base (L2N.CX P w) 1 T.dis_int.f T.dis_int.fd P_is_int (spD K 1 m_lis_int) := by
  refine T.dis_int.okD sc_is_int fun cdv A outer s H E so A0 hr tk hp => ⟨_, (pds_one (pds_ret (pd_and (pd_isi (by rfl) T.m_isinstance (pd_var (pv 0)) (pe_bltn (v := .ty "int") (by rfl) T.m_int bt_int rfl) tq_int) (pd_one (pd_not (pd_isi (by rfl) T.m_isinstance (pd_var (pv 0)) (pe_bltn (v := .ty "bool") (by rfl) T.m_bool bt_bool rfl) tq_bool)))))), fun ds Q E hl h => ?_⟩
  match ds, hl with
  | [d], _ =>
    obtain ⟨p, h⟩ := h
    walk_at "dl"
    refine ⟨p, ?_⟩
    rw [← isW_eq] at h
    split
    · rename_i e
      rw [e] at h
      exact ⟨p, h⟩
    · rename_i e
      rw [Bool.not_eq_true] at e
      rw [e] at h
      exact h
theorem ok_lis_ratio (T : Txt K mg) : FnOk P w K mg base (L2N.CX P w) 2 T.dlis_ratio.f T.dlis_ratio.fd P_lis_ratio (spD K 1 m_lis_ratio) := by
  have G_is_int : FnOk P w K mg base (L2N.CX P w) 1 T.dis_int.f T.dis_int.fd P_is_int (spD K 1 m_lis_int) := ok_lis_int T
  have G_low : FnOk P w K mg base (L2N.CX P w) 1 T.dlow.f T.dlow.fd P_low (spD K 2 m_low) := ok_low T
  refine T.dlis_ratio.okD sc_lis_ratio fun cdv A outer s H E so A0 hr tk hp => ⟨_, (pds_cons (pds_if (PDW.t (pdw_or (pdt_not (pdt_tru (pd_isi (by rfl) T.m_isinstance (pd_var (pv 0)) (pe_bltn (v := .ty "tuple") (by rfl) T.m_tuple bt_tuple rfl) tq_tuple))) (pdw_or (pdt_cmp (oo_ne hr.units) ol_ne (pd_callB oo_len cl_len (by rfl) T.m_len bt_len (pda_cons (pd_var (pv 0)) pda_nil)) pd_int (nomark _)) (pdw_or (pdt_not (pdt_tru (pd_call G_is_int (hr.mono (by omega)) (by rfl) T.dis_int.g T.dis_int.F.kp T.dis_int.b (fun σ => L2N.passAt tk σ) (pda_cons (pd_ix ix_seq ol_ix (pd_var (pv 0)) pd_int (fun _ _ => rfl)) pda_nil)))) (pdw_or1 (pdt_not (pdt_tru (pd_call G_is_int (hr.mono (by omega)) (by rfl) T.dis_int.g T.dis_int.F.kp T.dis_int.b (fun σ => L2N.passAt tk σ) (pda_cons (pd_ix ix_seq ol_ix (pd_var (pv 0)) pd_int (fun _ _ => rfl)) pda_nil)))))))))
        (pds_one (pds_ret pd_bl))
        pds_nil)
      (pds_one (pds_ret (pd_and (pd_cmp op_ge ol_ge (pd_ix ix_seq ol_ix (pd_var (pv 0)) pd_int (fun _ _ => rfl)) pd_int (nomark _)) (pd_one (pd_cmp (oo_eq hr.units) ol_eq (pd_call G_low (hr.mono (by omega)) (by rfl) T.dlow.g T.dlow.F.kp T.dlow.b (fun σ => L2N.passAt tk σ) (pda_cons (pd_ix ix_seq ol_ix (pd_var (pv 0)) pd_int (fun _ _ => rfl)) (pda_cons (pd_ix ix_seq ol_ix (pd_var (pv 0)) pd_int (fun _ _ => rfl)) pda_nil))) (pd_var (pv 0)) (nomark _))))))), fun ds Q E hl h => ?_⟩
  match ds, hl with
  | [d], _ =>
    obtain ⟨⟨p, pl⟩, bt, h⟩ := h
    walk_at "dl"
    refine ⟨p, ?_⟩
    rcases tup_cases d with ⟨hd, hn⟩ | ⟨l, rfl, ht⟩
    · rw [hd]
      walk_at "dl"
      rw [hn] at h
      exact h
    rw [ht]
    walk_at "dl"
    by_cases h2 : l.length = 2
    · obtain ⟨d1, d2, rfl⟩ : ∃ d1 d2, l = [d1, d2] := by
        match l, h2 with
        | [d1, d2], _ => exact ⟨d1, d2, rfl⟩
      have p1 := pl _ rfl d1 (by simp)
      have p2 := pl _ rfl d2 (by simp)
      walk_at "dl"
      simp only [m_lis_int, p1, p2, true_and]
      cases w1 : isW d1 with
      | false =>
        rw [rat_no1 w1] at h
        simpa using h
      | true =>
        cases w2 : isW d2 with
        | false =>
          rw [rat_no2 w2] at h
          simpa using h
        | true =>
          obtain ⟨a, rfl⟩ := isW_int w1
          obtain ⟨b, rfl⟩ := isW_int w2
          obtain ⟨sa, sb⟩ := bt a b rfl
          have h : Q (.bl (decide (1 ≤ b) && decide (G2 a b = 1))) := h
          by_cases hb : 1 ≤ b
          · rw [decide_eq_true hb, Bool.true_and, ← rat_low hb] at h
            have b0 : b ≠ 0 := by omega
            simp [hb, m_low, b0, lowD]
            refine ⟨sb.log, ?_⟩
            have e := ddEq_rat false (lowP a b) (lowQ a b) a b Q
            rw [Bool.false_bne] at e
            exact e.mpr h
          · rw [decide_eq_false hb, Bool.false_and] at h
            simp [hb]
            exact h
    · rw [rat_no h2] at h
      have e : ¬ ((l.length : Int) = 2) := by omega
      simp only [decide_eq_false e, Bool.not_false, if_true]
      exact h
end
end My
namespace My
open PySem PySem.Spec PyProof.Rows L2
section
variable {X : Cx} {g : Gx} {EX : EXT} {e a b c : Expr} {es : List Expr} {ra rb : DE} {pos p pt : Pos} {T U : String}
def ddIsi2 (T U : String) (d : D) (Q : D → Prop) : Prop := plainD d = true ∧ Q (.bl (isIn d T || isIn d U))
theorem pd_isiT {k : Nat} (hg : Gl X "isinstance") (hm : X.mg "isinstance" = none) (ha : PD X g EX a ra) (hb : PE X b (tC (.ty T))) (hc : PE X c (tC (.ty U))) (hT : TyQ T) (hU : TyQ U)
    (he : starEach [a, .Tuple [b, c] k pt] X.env = (false, eval a X.env) :: starEach [.Tuple [b, c] k pt] X.env := by rfl)
    (hs : starEach [.Tuple [b, c] k pt] X.env = (false, eval (.Tuple [b, c] k pt) X.env) :: starEach [] X.env := by rfl)
    (h1 : starEach [b, c] X.env = (false, eval b X.env) :: starEach [c] X.env := by rfl) (h2 : starEach [c] X.env = (false, eval c X.env) :: starEach [] X.env := by rfl)
    (hpl : (backTo pos (starEach [.Tuple [b, c] k pt] X.env)).any (·.1) = false := by rfl) :
    PD X g EX (.Call (.Name "isinstance" p) [a, .Tuple [b, c] k pt] [] pos) (dUn (ddIsi2 T U) ra) :=
  ⟨(pe_callB call_isiT hg hm bt_isinstance (pa_cons ha.pe (pa_cons (pe_tup (pa_cons hb (pa_cons hc pa_nil h2) h1)) pa_nil hs) he) (by decide) (by decide) he hpl).imp fun σ H Q h => by
  obtain ⟨A, ρ, Qd, Ed, S, h, c, cx⟩ := h
  refine ⟨A, ρ, _, Ed, S, h, fun d v A1 H1 x1 da q => ?_, cx⟩
  have q : ddIsi2 T U d Qd := q
  refine ⟨by show 2 ≤ sizeLine; decide, fun tp hp => ?_⟩
  refine ⟨v, tp, _, _, _, isIn d T || isIn d U, rfl, upd_same, .cons (.ty T) (.cons (.ty U) .nil), da.ty (x1.trans (Ext.open_ x1.good hp)).good q.1, ?_, ?_⟩
  · refine kitAny_cons (kit_ty (hT.h d q.1)) (fun e => ?_) (fun e => by rw [e]; rfl)
    refine kitAny_cons (kit_ty (hU.h d q.1)) (fun e2 => ?_) (fun e2 => by rw [e2, Bool.or_true])
    rw [e, e2]
    exact kitAny_nil
  · exact c (.bl _) _ A1 _ (x1.trans (Ext.open_ x1.good hp)) rfl q.2⟩
end
local macro_rules | `(tactic| walk_at "dl") => `(tactic| simp only [startD, List.map_cons, List.map_nil, List.length_cons, List.length_nil, List.cons_append, List.nil_append, List.replicate_succ, List.replicate_zero, List.getElem?_cons_zero, List.getElem?_cons_succ, List.set_cons_zero, List.set_cons_succ,
  dVar, rdS, dC, dNew, dOp, onB, qB, dChain, qAnd, qOr, qNot, qTru, truD, dIf, dAnd, dOr, dNot, dUn, ddNeg, lNil, lCons, dTup, nLst, ddI, ddI0, ddAdd, isNonD, isBlD, ddIsN, ddIsB, ddIx_t0, ddIx_t1, ddIx_t2, ddIx_t3, ddIx_l0, ddIx_l1, ddIx_l2, dCB, ddLen, ddInt1, ddAbs, ddMM, ddTuple, nCB, nnList, ddIsi, dCall,
  sSkip, sSeq, sBreak, sCont, sExpr, sRet, sRetN, sIf, sNever, gdName, gdNil, gdCons, gdTup, sAsg, sSetN, sPar, sRaise, sFrz, owS, sApp, sIns, dLenO, dIxO, sTry, sFor, iL, iT, onL, onT, iR1, iR2, nComp, qYes,
  ddEq_ii, ddEq_ss, ddEq_bb, Bool.false_bne, Bool.true_bne, List.append_nil, true_and, and_true, if_true, if_false, Bool.not_true, Bool.not_false, Bool.true_eq_false, Bool.false_eq_true, ite_true, ite_false, id_eq])

theorem plain_non  : plainD D.non = true := rfl
theorem isIn_non_int  : isIn D.non "int" = false := rfl
theorem isIn_non_str  : isIn D.non "str" = false := rfl
theorem isIn_non_bool  : isIn D.non "bool" = false := rfl
theorem isIn_non_list  : isIn D.non "list" = false := rfl
theorem isIn_non_tuple  : isIn D.non "tuple" = false := rfl
theorem isIn_non_dict  : isIn D.non "dict" = false := rfl
theorem plain_bl (b : Bool) : plainD (.bl b) = true := rfl
theorem isIn_bl_int (b : Bool) : isIn (.bl b) "int" = true := by show ("int" == "bool" || "int" == "int") = true; decide +kernel
theorem isIn_bl_str (b : Bool) : isIn (.bl b) "str" = false := by show ("str" == "bool" || "str" == "int") = false; decide +kernel
theorem isIn_bl_bool (b : Bool) : isIn (.bl b) "bool" = true := by show ("bool" == "bool" || "bool" == "int") = true; decide +kernel
theorem isIn_bl_list (b : Bool) : isIn (.bl b) "list" = false := by show ("list" == "bool" || "list" == "int") = false; decide +kernel
theorem isIn_bl_tuple (b : Bool) : isIn (.bl b) "tuple" = false := by show ("tuple" == "bool" || "tuple" == "int") = false; decide +kernel
theorem isIn_bl_dict (b : Bool) : isIn (.bl b) "dict" = false := by show ("dict" == "bool" || "dict" == "int") = false; decide +kernel
theorem plain_int (i : Int) : plainD (.int i) = true := rfl
theorem isIn_int_int (i : Int) : isIn (.int i) "int" = true := by show ("int" == "int") = true; decide +kernel
theorem isIn_int_str (i : Int) : isIn (.int i) "str" = false := by show ("str" == "int") = false; decide +kernel
theorem isIn_int_bool (i : Int) : isIn (.int i) "bool" = false := by show ("bool" == "int") = false; decide +kernel
theorem isIn_int_list (i : Int) : isIn (.int i) "list" = false := by show ("list" == "int") = false; decide +kernel
theorem isIn_int_tuple (i : Int) : isIn (.int i) "tuple" = false := by show ("tuple" == "int") = false; decide +kernel
theorem isIn_int_dict (i : Int) : isIn (.int i) "dict" = false := by show ("dict" == "int") = false; decide +kernel
theorem plain_str (z : Str) : plainD (.str z) = true := rfl
theorem isIn_str_int (z : Str) : isIn (.str z) "int" = false := by show ("int" == "str") = false; decide +kernel
theorem isIn_str_str (z : Str) : isIn (.str z) "str" = true := by show ("str" == "str") = true; decide +kernel
theorem isIn_str_bool (z : Str) : isIn (.str z) "bool" = false := by show ("bool" == "str") = false; decide +kernel
theorem isIn_str_list (z : Str) : isIn (.str z) "list" = false := by show ("list" == "str") = false; decide +kernel
theorem isIn_str_tuple (z : Str) : isIn (.str z) "tuple" = false := by show ("tuple" == "str") = false; decide +kernel
theorem isIn_str_dict (z : Str) : isIn (.str z) "dict" = false := by show ("dict" == "str") = false; decide +kernel
theorem plain_tup (l : List D) : plainD (.tup l) = true := rfl
theorem isIn_tup_int (l : List D) : isIn (.tup l) "int" = false := by show ("int" == "tuple") = false; decide +kernel
theorem isIn_tup_str (l : List D) : isIn (.tup l) "str" = false := by show ("str" == "tuple") = false; decide +kernel
theorem isIn_tup_bool (l : List D) : isIn (.tup l) "bool" = false := by show ("bool" == "tuple") = false; decide +kernel
theorem isIn_tup_list (l : List D) : isIn (.tup l) "list" = false := by show ("list" == "tuple") = false; decide +kernel
theorem isIn_tup_tuple (l : List D) : isIn (.tup l) "tuple" = true := by show ("tuple" == "tuple") = true; decide +kernel
theorem isIn_tup_dict (l : List D) : isIn (.tup l) "dict" = false := by show ("dict" == "tuple") = false; decide +kernel
theorem plain_lst (l : List D) : plainD (.lst l) = true := rfl
theorem isIn_lst_int (l : List D) : isIn (.lst l) "int" = false := by show ("int" == "list") = false; decide +kernel
theorem isIn_lst_str (l : List D) : isIn (.lst l) "str" = false := by show ("str" == "list") = false; decide +kernel
theorem isIn_lst_bool (l : List D) : isIn (.lst l) "bool" = false := by show ("bool" == "list") = false; decide +kernel
theorem isIn_lst_list (l : List D) : isIn (.lst l) "list" = true := by show ("list" == "list") = true; decide +kernel
theorem isIn_lst_tuple (l : List D) : isIn (.lst l) "tuple" = false := by show ("tuple" == "list") = false; decide +kernel
theorem isIn_lst_dict (l : List D) : isIn (.lst l) "dict" = false := by show ("dict" == "list") = false; decide +kernel
local macro_rules | `(tactic| walk_at "is") => `(tactic| simp only [plain_non, isIn_non_int, isIn_non_str, isIn_non_bool, isIn_non_list, isIn_non_tuple, isIn_non_dict, plain_bl, isIn_bl_int, isIn_bl_str, isIn_bl_bool, isIn_bl_list, isIn_bl_tuple, isIn_bl_dict, plain_int, isIn_int_int, isIn_int_str, isIn_int_bool, isIn_int_list, isIn_int_tuple, isIn_int_dict, plain_str, isIn_str_int, isIn_str_str, isIn_str_bool, isIn_str_list, isIn_str_tuple, isIn_str_dict, plain_tup, isIn_tup_int, isIn_tup_str, isIn_tup_bool, isIn_tup_list, isIn_tup_tuple, isIn_tup_dict, plain_lst, isIn_lst_int, isIn_lst_str, isIn_lst_bool, isIn_lst_list, isIn_lst_tuple, isIn_lst_dict, ddIsi, ddIsi2, true_and, if_true, if_false, Bool.false_eq_true, Bool.not_true, Bool.not_false, Bool.or_true, Bool.or_false, Bool.true_or, and_true])
/-! ### the same data -/
mutual
/-- plain data no deeper than n, without dicts -/
def TreeD : Nat → D → Prop
  | 0, _ => False
  | n + 1, .tup l => l.length ≤ 1000000 ∧ ∀ d ∈ l, TreeD n d
  | n + 1, .lst l => l.length ≤ 1000000 ∧ ∀ d ∈ l, TreeD n d
  | _ + 1, .non => True
  | _ + 1, .bl _ => True
  | _ + 1, .int _ => True
  | _ + 1, .str _ => True
  | _, _ => False
end
theorem TreeD.plain : ∀ {n : Nat} {d : D}, TreeD n d → plainD d = true
  | 0, _, h => by unfold TreeD at h; exact h.elim
  | n + 1, d, h => by
    cases d <;> first | rfl | (unfold TreeD at h; exact h.elim)
theorem forL_inv {gr : DG} {body : DS} {DD : DEnds} (P : Nat → DEnv → Prop) : ∀ (ds : List D) (ρ : DEnv) (k : Nat),
    (∀ (i : Nat) (d : D) (ρ : DEnv) (R : DEnv → Prop), ds[i]? = some d → P (k + i) ρ → (∀ ρ', P (k + i + 1) ρ' → R ρ') → gr d ρ (fun ρ1 => body ⟨R, DD.rt, DD.nx, R, DD.ex, DD.fr⟩ ρ1)) →
    (∀ ρ, P (k + ds.length) ρ → DD.nx ρ) → P k ρ → forL gr body DD ds ρ
  | [], ρ, k, _, h2, h0 => h2 ρ h0
  | d :: ds, ρ, k, h1, h2, h0 => by
    refine h1 0 d ρ _ rfl h0 fun ρ' q => ?_
    refine forL_inv P ds ρ' (k + 1) (fun i e ρ R he hp hr => ?_) (fun ρ q => h2 ρ (by rw [List.length_cons]; rwa [Nat.add_assoc, Nat.add_comm 1] at q)) q
    refine h1 (i + 1) e ρ R (by rw [List.getElem?_cons_succ]; exact he) ?_ fun ρ' q => hr ρ' ?_
    · rwa [Nat.add_assoc, Nat.add_comm 1] at hp
    · rw [Nat.add_assoc k 1 i, Nat.add_comm 1 i]
      exact q
theorem rangeD_at {lo : Int} {n i : Nat} {d : D} (h : (rangeD lo n)[i]? = some d) : i < n ∧ d = .int (lo + (i : Nat)) := by
  unfold rangeD at h
  rw [List.getElem?_map] at h
  by_cases hi : i < n
  · rw [List.getElem?_range hi] at h
    exact ⟨hi, (Option.some.inj h).symm⟩
  · rw [List.getElem?_eq_none (by rw [List.length_range]; omega)] at h
    cases h
theorem ddIx_tup {l : List D} {i : Nat} {d : D} {Q : D → Prop} (h : l[i]? = some d) (q : Q d) : ddIx (.tup l) (.int (0 + (i : Nat))) Q := by
  refine ⟨d, ?_, q⟩
  rw [Int.zero_add]
  exact atI_nat h
theorem ddIx_lst {l : List D} {i : Nat} {d : D} {Q : D → Prop} (h : l[i]? = some d) (q : Q d) : ddIx (.lst l) (.int (0 + (i : Nat))) Q := by
  refine ⟨d, ?_, q⟩
  rw [Int.zero_add]
  exact atI_nat h
def m_same : Nat → DF
  | 0 => fun _ _ _ => False
  | n + 1 => fun ds Q _ => match ds with
    | [got, due] => TreeD (n + 1) got ∧ TreeD (n + 1) due ∧ ∀ b : Bool, (b = true ↔ got = due) → Q (.bl b)
    | _ => False
abbrev s_same : Stmt := topS 49
abbrev N_same : List Str := ["got", "due", "key", "k"]
abbrev P_same : List Str := ["got", "due"]
theorem sc_same : FnScope N_same P_same (defScope s_same) := ⟨rfl, rfl, rfl, by decide +kernel, rfl, by decide +kernel, by decide +kernel⟩

section
variable {P : Program} {w : World} {K : PySem.W.Frag} {mg : Str → Option Value} {base : Heap}
theorem ok_same (T : Txt K mg) (n : Nat) : FnOk P w K mg base (L2N.CX P w) n T.dsame.f T.dsame.fd P_same (spD K 2 (m_same n)) := by
  induction n with
  | zero =>
    refine ⟨fun _ _ _ _ h => ?_, fun _ _ _ _ _ _ _ _ _ _ _ _ _ h => ?_⟩ <;>
    · obtain ⟨_, _, _, _, _, _, _, _, h, _⟩ := h
      exact h.elim
  | succ n G_same =>
    refine T.dsame.okD sc_same fun cdv A outer s H E so A0 hr tk hp => ⟨_, (pds_cons (pds_if (pdt_cmp o_isN ol_isN (pd_var (pv 1)) pd_non (nomark _))
        (pds_one (pds_ret (pd_cmp o_isN ol_isN (pd_var (pv 0)) pd_non (nomark _))))
        pds_nil)
      (pds_cons (pds_if (pdt_cmp o_isB ol_isB (pd_var (pv 1)) pd_bl (nomark _))
        (pds_one (pds_ret (pd_cmp o_isB ol_isB (pd_var (pv 0)) pd_bl (nomark _))))
        pds_nil)
      (pds_cons (pds_if (pdt_cmp o_isB ol_isB (pd_var (pv 1)) pd_bl (nomark _))
        (pds_one (pds_ret (pd_cmp o_isB ol_isB (pd_var (pv 0)) pd_bl (nomark _))))
        pds_nil)
      (pds_cons (pds_if (pdt_tru (pd_isi (by rfl) T.m_isinstance (pd_var (pv 1)) (pe_bltn (v := .ty "int") (by rfl) T.m_int bt_int rfl) tq_int))
        (pds_one (pds_ret (pd_and (pd_isi (by rfl) T.m_isinstance (pd_var (pv 0)) (pe_bltn (v := .ty "int") (by rfl) T.m_int bt_int rfl) tq_int) (pd_and (pd_not (pd_isi (by rfl) T.m_isinstance (pd_var (pv 0)) (pe_bltn (v := .ty "bool") (by rfl) T.m_bool bt_bool rfl) tq_bool)) (pd_one (pd_cmp (oo_eq hr.units) ol_eq (pd_var (pv 0)) (pd_var (pv 1)) (nomark _)))))))
        pds_nil)
      (pds_cons (pds_if (pdt_tru (pd_isi (by rfl) T.m_isinstance (pd_var (pv 1)) (pe_bltn (v := .ty "str") (by rfl) T.m_str bt_str rfl) tq_str))
        (pds_one (pds_ret (pd_and (pd_isi (by rfl) T.m_isinstance (pd_var (pv 0)) (pe_bltn (v := .ty "str") (by rfl) T.m_str bt_str rfl) tq_str) (pd_one (pd_cmp (oo_eq hr.units) ol_eq (pd_var (pv 0)) (pd_var (pv 1)) (nomark _))))))
        pds_nil)
      (pds_cons (pds_if (pdt_tru (pd_isi (by rfl) T.m_isinstance (pd_var (pv 1)) (pe_bltn (v := .ty "dict") (by rfl) T.m_dict bt_dict rfl) tq_dict))
        pds_never
        pds_nil)
      (pds_cons (pds_if (PDW.t (pdw_or (PDW.t (pdw_and (pdt_tru (pd_isi (by rfl) T.m_isinstance (pd_var (pv 1)) (pe_bltn (v := .ty "list") (by rfl) T.m_list bt_list rfl) tq_list)) (pdw_and1 (pdt_not (pdt_tru (pd_isi (by rfl) T.m_isinstance (pd_var (pv 0)) (pe_bltn (v := .ty "list") (by rfl) T.m_list bt_list rfl) tq_list)))))) (pdw_or1 (PDW.t (pdw_and (pdt_tru (pd_isi (by rfl) T.m_isinstance (pd_var (pv 1)) (pe_bltn (v := .ty "tuple") (by rfl) T.m_tuple bt_tuple rfl) tq_tuple)) (pdw_and1 (pdt_not (pdt_tru (pd_isi (by rfl) T.m_isinstance (pd_var (pv 0)) (pe_bltn (v := .ty "tuple") (by rfl) T.m_tuple bt_tuple rfl) tq_tuple)))))))))
        (pds_one (pds_ret pd_bl))
        pds_nil)
      (pds_cons (pds_if (pdt_not (pdt_tru (pd_isiT (by rfl) T.m_isinstance (pd_var (pv 1)) (pe_bltn (v := .ty "list") (by rfl) T.m_list bt_list rfl) (pe_bltn (v := .ty "tuple") (by rfl) T.m_tuple bt_tuple rfl) tq_list tq_tuple)))
        pds_never
        pds_nil)
      (pds_cons (pds_if (pdt_cmp (oo_ne hr.units) ol_ne (pd_callB oo_len cl_len (by rfl) T.m_len bt_len (pda_cons (pd_var (pv 0)) pda_nil)) (pd_callB oo_len cl_len (by rfl) T.m_len bt_len (pda_cons (pd_var (pv 1)) pda_nil)) (nomark _))
        (pds_one (pds_ret pd_bl))
        pds_nil)
      (pds_cons (pds_for hp rfl (pdi_range1 (by rfl) T.m_range (pda_cons (pd_callB oo_len cl_len (by rfl) T.m_len bt_len (pda_cons (pd_var (pv 1)) pda_nil)) pda_nil)) (pdg_name (pg_name (i := 3) sc_same.nd rfl (by first | exact .inl rfl | exact .inr rfl)))
        (pds_one (pds_if (pdt_not (pdt_tru (pd_call G_same (hr.mono (by omega)) (by rfl) T.dsame.g T.dsame.F.kp T.dsame.b (fun σ => L2N.passAt tk σ) (pda_cons (pd_ix ix_seq ol_ix (pd_var (pv 0)) (pd_var (pv 3)) (fun _ _ => rfl)) (pda_cons (pd_ix ix_seq ol_ix (pd_var (pv 1)) (pd_var (pv 3)) (fun _ _ => rfl)) pda_nil)))))
          (pds_one (pds_ret pd_bl))
          pds_nil)))
      (pds_one (pds_ret pd_bl)))))))))))), fun ds Q E hl h => ?_⟩
    match ds, hl with
    | [got, due], _ =>
      obtain ⟨t1, t2, q⟩ := h
      have p1 := t1.plain
      have p2 := t2.plain
      have no : got ≠ due → Q (.bl false) := fun h => q false ⟨fun e => (Bool.false_ne_true e).elim, fun e => (h e).elim⟩
      have yes : got = due → Q (.bl true) := fun h => q true ⟨fun _ => h, fun _ => rfl⟩
      cases due with
      | bl b => cases b <;> cases got <;> (first | (unfold TreeD at t1; exact t1.elim) | (walk_at "dl"; (try walk_at "is"); (try walk_at "dl"); (first | exact yes rfl | exact no (by intro h; cases h) | exact q _ (by simp) | (simp; exact q _ (by simp)) | (exact yes rfl))))
      | tup l =>
        cases got with
        | tup m =>
          unfold TreeD at t1 t2
          walk_at "dl"
          walk_at "is"
          by_cases hlen : m.length = l.length
          · rw [decide_eq_true (by rw [hlen] : (m.length : Int) = (l.length : Int))]
            walk_at "dl"
            have t23 := t2.1
            refine ⟨by omega, by omega, ?_⟩
            refine forL_inv (P := fun i ρ => ∃ z, ρ = [.fr (.tup m), .fr (.tup l), .no, z] ∧ m.take i = l.take i) _ _ 0 ?_ ?_ ⟨_, rfl, by rw [List.take_zero, List.take_zero]⟩
            · rintro i d ρ R hi ⟨z, rfl, tk⟩ hR
              rw [Nat.zero_add] at tk hR
              obtain ⟨hj, rfl⟩ := rangeD_at hi
              have hi : i < l.length := by omega
              have hm : i < m.length := by omega
              walk_at "dl"
              refine ddIx_tup (List.getElem?_eq_getElem hm) ?_
              refine ddIx_tup (List.getElem?_eq_getElem hi) ?_
              obtain ⟨n', rfl⟩ : ∃ n', n = n' + 1 := by
                cases n with
                | zero => exact (by have := t1.2 _ (List.getElem_mem hm); unfold TreeD at this; exact this.elim)
                | succ n' => exact ⟨n', rfl⟩
              refine ⟨t1.2 _ (List.getElem_mem hm), t2.2 _ (List.getElem_mem hi), fun b hb => ?_⟩
              cases b with
              | true =>
                walk_at "dl"
                refine hR _ ⟨_, rfl, ?_⟩
                rw [List.take_succ_eq_append_getElem hm, List.take_succ_eq_append_getElem hi, tk, hb.mp rfl]
              | false =>
                walk_at "dl"
                refine no fun e => ?_
                cases e
                exact Bool.false_ne_true (hb.mpr rfl)
            · rintro ρ ⟨z, rfl, tk⟩
              rw [Nat.zero_add, rangeD_len] at tk
              walk_at "dl"
              have e : m = l := by
                rw [← List.take_length (l := l), ← List.take_length (l := m), hlen]
                have e2 : ((l.length : Int)).toNat = l.length := by omega
                rw [e2] at tk
                exact tk
              exact yes (by rw [e])
          · rw [decide_eq_false (fun e => hlen (by omega) : ¬ ((m.length : Int) = (l.length : Int)))]
            walk_at "dl"
            exact no fun e => hlen (by cases e; rfl)
        | _ => first | (unfold TreeD at t1; exact t1.elim) | (walk_at "dl"; (try walk_at "is"); (try walk_at "dl"); (first | exact yes rfl | exact no (by intro h; cases h) | exact q _ (by simp) | (simp; exact q _ (by simp)) | (exact yes rfl)))
      | lst l =>
        cases got with
        | lst m =>
          unfold TreeD at t1 t2
          walk_at "dl"
          walk_at "is"
          by_cases hlen : m.length = l.length
          · rw [decide_eq_true (by rw [hlen] : (m.length : Int) = (l.length : Int))]
            walk_at "dl"
            have t23 := t2.1
            refine ⟨by omega, by omega, ?_⟩
            refine forL_inv (P := fun i ρ => ∃ z, ρ = [.fr (.lst m), .fr (.lst l), .no, z] ∧ m.take i = l.take i) _ _ 0 ?_ ?_ ⟨_, rfl, by rw [List.take_zero, List.take_zero]⟩
            · rintro i d ρ R hi ⟨z, rfl, tk⟩ hR
              rw [Nat.zero_add] at tk hR
              obtain ⟨hj, rfl⟩ := rangeD_at hi
              have hi : i < l.length := by omega
              have hm : i < m.length := by omega
              walk_at "dl"
              refine ddIx_lst (List.getElem?_eq_getElem hm) ?_
              refine ddIx_lst (List.getElem?_eq_getElem hi) ?_
              obtain ⟨n', rfl⟩ : ∃ n', n = n' + 1 := by
                cases n with
                | zero => exact (by have := t1.2 _ (List.getElem_mem hm); unfold TreeD at this; exact this.elim)
                | succ n' => exact ⟨n', rfl⟩
              refine ⟨t1.2 _ (List.getElem_mem hm), t2.2 _ (List.getElem_mem hi), fun b hb => ?_⟩
              cases b with
              | true =>
                walk_at "dl"
                refine hR _ ⟨_, rfl, ?_⟩
                rw [List.take_succ_eq_append_getElem hm, List.take_succ_eq_append_getElem hi, tk, hb.mp rfl]
              | false =>
                walk_at "dl"
                refine no fun e => ?_
                cases e
                exact Bool.false_ne_true (hb.mpr rfl)
            · rintro ρ ⟨z, rfl, tk⟩
              rw [Nat.zero_add, rangeD_len] at tk
              walk_at "dl"
              have e : m = l := by
                rw [← List.take_length (l := l), ← List.take_length (l := m), hlen]
                have e2 : ((l.length : Int)).toNat = l.length := by omega
                rw [e2] at tk
                exact tk
              exact yes (by rw [e])
          · rw [decide_eq_false (fun e => hlen (by omega) : ¬ ((m.length : Int) = (l.length : Int)))]
            walk_at "dl"
            exact no fun e => hlen (by cases e; rfl)
        | _ => first | (unfold TreeD at t1; exact t1.elim) | (walk_at "dl"; (try walk_at "is"); (try walk_at "dl"); (first | exact yes rfl | exact no (by intro h; cases h) | exact q _ (by simp) | (simp; exact q _ (by simp)) | (exact yes rfl)))
      | _ => first | (unfold TreeD at t2; exact t2.elim) | (cases got <;> (first | (unfold TreeD at t1; exact t1.elim) | (walk_at "dl"; (try walk_at "is"); (try walk_at "dl"); (first | exact yes rfl | exact no (by intro h; cases h) | exact q _ (by simp) | (simp; exact q _ (by simp)) | (exact yes rfl)))))
end
end My
set_option exponentiation.threshold 100000
namespace My
open PySem PySem.Spec PyProof.Rows L2
theorem sl0 : (0 ≤ sizeLine) = True := eq_true (by decide)
theorem sl1 : (0 + 1 ≤ sizeLine) = True := eq_true (by decide)
theorem sl2 : (0 + 1 + 1 ≤ sizeLine) = True := eq_true (by decide)
theorem sl3 : (0 + 1 + 1 + 1 ≤ sizeLine) = True := eq_true (by decide)
theorem sl4 : (0 + 1 + 1 + 1 + 1 ≤ sizeLine) = True := eq_true (by decide)
local macro_rules | `(tactic| walk_at "is") => `(tactic| simp only [plain_non, isIn_non_int, isIn_non_str, isIn_non_bool, isIn_non_list, isIn_non_tuple, isIn_non_dict, plain_bl, isIn_bl_int, isIn_bl_str, isIn_bl_bool, isIn_bl_list, isIn_bl_tuple, isIn_bl_dict, plain_int, isIn_int_int, isIn_int_str, isIn_int_bool, isIn_int_list, isIn_int_tuple, isIn_int_dict, plain_str, isIn_str_int, isIn_str_str, isIn_str_bool, isIn_str_list, isIn_str_tuple, isIn_str_dict, plain_tup, isIn_tup_int, isIn_tup_str, isIn_tup_bool, isIn_tup_list, isIn_tup_tuple, isIn_tup_dict, plain_lst, isIn_lst_int, isIn_lst_str, isIn_lst_bool, isIn_lst_list, isIn_lst_tuple, isIn_lst_dict, sl0, sl1, sl2, sl3, sl4, decide_true, decide_false, ddIsi, ddIsi2, true_and, if_true, if_false, Bool.false_eq_true, Bool.not_true, Bool.not_false, Bool.or_true, Bool.or_false, Bool.true_or, and_true])
local macro_rules | `(tactic| walk_at "wk") => `(tactic| ((try walk_at "dl"); (try walk_at "is"); (try walk_at "dl")))
/-! ### what is due -/
theorem forL_rest {gr : DG} {body : DS} {DD : DEnds} (P : List D → DEnv → Prop)
    (h1 : ∀ (d : D) (l : List D) (ρ : DEnv) (R : DEnv → Prop), P (d :: l) ρ → (∀ ρ', P l ρ' → R ρ') → gr d ρ (fun ρ1 => body ⟨R, DD.rt, DD.nx, R, DD.ex, DD.fr⟩ ρ1))
    (h2 : ∀ ρ, P [] ρ → DD.nx ρ) : ∀ (ds : List D) (ρ : DEnv), P ds ρ → forL gr body DD ds ρ
  | [], ρ, h0 => h2 ρ h0
  | d :: ds, ρ, h0 => h1 d ds ρ _ h0 fun ρ' q => forL_rest P h1 h2 ds ρ' q
theorem rat_uniq {a b c d : Int} (h1 : isRat (ratD a b) = true) (h2 : isRat (ratD c d) = true) (e : a * d = b * c) : ratD a b = ratD c d := by
  obtain ⟨_, _, e1, b1, g1⟩ := rat_shape h1
  obtain ⟨_, _, e2, d1, g2⟩ := rat_shape h2
  cases e1
  cases e2
  unfold G2 at g1 g2
  have n := congrArg Int.natAbs e
  rw [Int.natAbs_mul, Int.natAbs_mul] at n
  have hb : b.natAbs ∣ d.natAbs := by
    have : b.natAbs ∣ a.natAbs * d.natAbs := ⟨c.natAbs, n⟩
    exact (Nat.Coprime.symm g1).dvd_of_dvd_mul_left this
  have hd : d.natAbs ∣ b.natAbs := by
    have : d.natAbs ∣ b.natAbs * c.natAbs := ⟨a.natAbs, by rw [← n, Nat.mul_comm]⟩
    exact (Nat.Coprime.symm g2).dvd_of_dvd_mul_right this
  have hbd : b = d := by
    have := Nat.dvd_antisymm hb hd
    omega
  subst hbd
  have : a = c := by
    have b0 : b ≠ 0 := by omega
    refine Int.eq_of_mul_eq_mul_left b0 ?_
    rw [← e, Int.mul_comm]
  rw [this]
theorem RatN.pl {n : Nat} {d : D} (h : RatN n d) : Pl d := by
  obtain ⟨a, b, rfl, _⟩ := h
  refine ⟨rfl, fun l hl e he => ?_⟩
  cases hl
  rcases List.mem_cons.mp he with rfl | he
  · rfl
  · rw [List.mem_singleton.mp he]
    rfl
theorem pl_rat (a b : Int) : Pl (ratD a b) := by
  refine ⟨rfl, fun l hl e he => ?_⟩
  cases hl
  rcases List.mem_cons.mp he with rfl | he
  · rfl
  · rw [List.mem_singleton.mp he]
    rfl
theorem tree_rat (a b : Int) : TreeD 2 (ratD a b) := by
  unfold ratD
  simp [TreeD]
theorem neg_rat {a b : Int} (h : isRat (ratD a b) = true) : isRat (ratD (-a) b) = true := by
  obtain ⟨_, _, e, b1, g⟩ := rat_shape h
  cases e
  show (decide (1 ≤ b) && decide (G2 (-a) b = 1)) = true
  have : G2 (-a) b = 1 := by
    unfold G2
    rw [Int.natAbs_neg]
    exact g
  rw [decide_eq_true b1, decide_eq_true this]
  rfl
end My
set_option exponentiation.threshold 100000
namespace My
open PySem PySem.Spec PyProof.Rows L2
def dDNew : DE := fun _ Q _ => Q (.dct [] [])
section
variable {X : Cx} {g : Gx} {EX : EXT} {pos : Pos}
theorem pd_dnew : PD X g EX (.Dict [] [] pos) dDNew := ⟨pe_dnewK.imp fun σ H Q h => by
  obtain ⟨A, ρ, Qd, Ed, S, h, c, cx⟩ := h
  intro p hp
  have y := Ext.laid (o := .dK []) S.x.good hp
  exact c (.dct [] []) (.ref p) _ _ y ⟨p, [], rfl, .inl ⟨[], upd_same, rfl, rfl⟩, rfl⟩ h⟩
end
local macro_rules | `(tactic| walk_at "dl") => `(tactic| simp only [startD, List.map_cons, List.map_nil, List.length_cons, List.length_nil, List.cons_append, List.nil_append, List.replicate_succ, List.replicate_zero, List.getElem?_cons_zero, List.getElem?_cons_succ, List.set_cons_zero, List.set_cons_succ,
  dVar, rdS, dC, dNew, dOp, onB, qB, dChain, qAnd, qOr, qNot, qTru, truD, dIf, dAnd, dOr, dNot, dUn, ddNeg, lNil, lCons, dTup, nLst, ddI, ddI0, ddAdd, isNonD, isBlD, ddIsN, ddIsB, ddIx_t0, ddIx_t1, ddIx_t2, ddIx_t3, ddIx_l0, ddIx_l1, ddIx_l2, dCB, ddLen, ddInt1, ddAbs, ddMM, ddTuple, nCB, nnList, ddIsi, dCall,
  sSkip, sSeq, sBreak, sCont, sExpr, sRet, sRetN, sIf, sNever, gdName, gdNil, gdCons, gdTup, sAsg, sSetN, sPar, sRaise, sFrz, owS, sApp, sIns, dLenO, dIxO, sTry, sFor, iL, iT, onL, onT, iR1, iR2, nComp, qYes,
  ddEq_ii, ddEq_ss, ddEq_bb, Bool.false_bne, Bool.true_bne, List.append_nil, true_and, and_true, if_true, if_false, Bool.not_true, Bool.not_false, Bool.true_eq_false, Bool.false_eq_true, ite_true, ite_false, id_eq])

local macro_rules | `(tactic| walk_at "is") => `(tactic| simp only [plain_non, isIn_non_int, isIn_non_str, isIn_non_bool, isIn_non_list, isIn_non_tuple, isIn_non_dict, plain_bl, isIn_bl_int, isIn_bl_str, isIn_bl_bool, isIn_bl_list, isIn_bl_tuple, isIn_bl_dict, plain_int, isIn_int_int, isIn_int_str, isIn_int_bool, isIn_int_list, isIn_int_tuple, isIn_int_dict, plain_str, isIn_str_int, isIn_str_str, isIn_str_bool, isIn_str_list, isIn_str_tuple, isIn_str_dict, plain_tup, isIn_tup_int, isIn_tup_str, isIn_tup_bool, isIn_tup_list, isIn_tup_tuple, isIn_tup_dict, plain_lst, isIn_lst_int, isIn_lst_str, isIn_lst_bool, isIn_lst_list, isIn_lst_tuple, isIn_lst_dict, sl0, sl1, sl2, sl3, sl4, decide_true, decide_false, ddIsi, ddIsi2, true_and, if_true, if_false, Bool.false_eq_true, Bool.not_true, Bool.not_false, Bool.or_true, Bool.or_false, Bool.true_or, and_true])
local macro_rules | `(tactic| walk_at "wk") => `(tactic| ((try walk_at "dl"); (try walk_at "is"); (try walk_at "dl")))

/-- no ratio, but plain -/
def NotR (d : D) : Prop := Pl d ∧ Bt d ∧ isRat d = false
def m_not_ratio : DF := fun ds Q _ => match ds with
  | [.sto, .bl _] => ∀ d, NotR d → Q d
  | _ => False
def plB (d : D) : Bool := plainD d && match d with
  | .tup l => l.all plainD
  | _ => true
def btB : D → Bool
  | .tup [.int a, .int b] => decide (a.natAbs < 2 ^ 4000) && decide (b.natAbs < 2 ^ 4000)
  | _ => true
def nrB (d : D) : Bool := plB d && btB d && !isRat d
theorem nrB_ok {d : D} (h : nrB d = true) : NotR d := by
  unfold nrB at h
  rw [Bool.and_eq_true, Bool.and_eq_true] at h
  obtain ⟨⟨h1, h2⟩, h3⟩ := h
  unfold plB at h1
  rw [Bool.and_eq_true] at h1
  refine ⟨⟨h1.1, fun l e => ?_⟩, fun a b e => ?_, by simpa using h3⟩
  · subst e
    exact List.all_eq_true.mp h1.2
  · subst e
    have h2 : (decide (a.natAbs < 2 ^ 4000) && decide (b.natAbs < 2 ^ 4000)) = true := h2
    rw [Bool.and_eq_true, decide_eq_true_eq, decide_eq_true_eq] at h2
    exact h2
def itemsR (up b : Int) : List D := [.int 1, .int 0, .bl true, .str "1", .str "1/2", .tup [.int 1], .tup [], .tup [.int 1, .int 0], .tup [.int 0, .int 0], .tup [.int 0, .int 2], .tup [.int 1, .int (-1)], .tup [.int 0, .int (-1)],
  .tup [.bl true, .int 1], .tup [.int 1, .bl true], .tup [.bl false, .int 1], .tup [.int 1, .int 1, .int 1], .tup [.str "1", .int 1], .tup [.int 1, .str "1"], .tup [.non, .int 1], .tup [.int 1, .non],
  .tup [.tup [.int 1, .int 1], .tup [.int 1, .int 1]], .tup [.tup [.int 1, .int 1], .int 1], .dct [] [], .lst [.int up, .int 1], .lst [.int 1, .int 1], .tup [.int (up * b), .int b], .tup [.int b, .int (2 * b)], .tup [.int (-b), .int (2 * b)], .tup [.int (10 ^ 40), .int (10 ^ 39)]]
theorem itemsR_fin : ∀ u : Fin 9, ∀ v : Fin 3, (itemsR ((u.val : Int) - 4) ((v.val : Int) + 2)).all nrB = true := by decide +kernel
theorem itemsR_ok {up b : Int} (h1 : -4 ≤ up) (h2 : up ≤ 4) (h3 : 2 ≤ b) (h4 : b < 5) : ∀ d ∈ itemsR up b, NotR d := fun d hd => by
  have h := itemsR_fin ⟨(up + 4).toNat, by omega⟩ ⟨(b - 2).toNat, by omega⟩
  have e1 : (((up + 4).toNat : Nat) : Int) - 4 = up := by omega
  have e2 : (((b - 2).toNat : Nat) : Int) + 2 = b := by omega
  dsimp only at h
  rw [e1, e2] at h
  exact nrB_ok (List.all_eq_true.mp h d hd)
abbrev s_not_ratio : Stmt := topS 48
abbrev N_not_ratio : List Str := ["store", "none_too", "up", "by", "ways"]
abbrev P_not_ratio : List Str := ["store", "none_too"]
theorem sc_not_ratio : FnScope N_not_ratio P_not_ratio (defScope s_not_ratio) := ⟨rfl, rfl, rfl, by decide +kernel, rfl, by decide +kernel, by decide +kernel⟩

section
variable {P : Program} {w : World} {K : PySem.W.Frag} {mg : Str → Option Value} {base : Heap}
theorem ok_not_ratio (T : Txt K mg) : FnOk P w K mg base (L2N.CX P w) 174 T.dnot_ratio.f T.dnot_ratio.fd P_not_ratio (spD K 2 m_not_ratio) := by
  have G_take : FnOk P w K mg base (L2N.CX P w) 171 T.dtake.f T.dtake.fd P_take (spD K 2 m_take) := ok_takeD T
  have G_edge : FnOk P w K mg base (L2N.CX P w) 172 T.dedge.f T.dedge.fd P_edge (spD K 2 m_take) := ok_edgeD T
  have G_between : FnOk P w K mg base (L2N.CX P w) 173 T.dbetween.f T.dbetween.fd P_between (spD K 3 m_between) := ok_betweenD T
  refine T.dnot_ratio.okD sc_not_ratio fun cdv A outer s H E so A0 hr tk hp => ⟨_, (pds_cons (pds_if (PDW.t (pdw_and (pdt_tru (pd_var (pv 1))) (pdw_and1 (pdt_cmp (oo_eq hr.units) ol_eq (pd_call G_take (hr.mono (by omega)) (by rfl) T.dtake.g T.dtake.F.kp T.dtake.b (fun σ => L2N.passAt tk σ) (pda_cons (pd_var (pv 0)) (pda_cons pd_int pda_nil))) pd_int (nomark _)))))
        (pds_one (pds_ret pd_non))
        pds_nil)
      (pds_cons (pds_set (i := 2) sc_not_ratio.nd rfl (by first | exact .inl rfl | exact .inr rfl) (pd_call G_between (hr.mono (by omega)) (by rfl) T.dbetween.g T.dbetween.F.kp T.dbetween.b (fun σ => L2N.passAt tk σ) (pda_cons (pd_var (pv 0)) (pda_cons (pd_neg pd_int) (pda_cons pd_int pda_nil)))))
      (pds_cons (pds_set (i := 3) sc_not_ratio.nd rfl (by first | exact .inl rfl | exact .inr rfl) (pd_op oo_add ol_add pd_int (pd_call G_take (hr.mono (by omega)) (by rfl) T.dtake.g T.dtake.F.kp T.dtake.b (fun σ => L2N.passAt tk σ) (pda_cons (pd_var (pv 0)) (pda_cons pd_int pda_nil)))))
      (pds_cons (pds_set (i := 4) sc_not_ratio.nd rfl (by first | exact .inl rfl | exact .inr rfl) (pd_new (pdn_lst (pda_cons pd_int (pda_cons pd_int (pda_cons pd_bl (pda_cons pd_str (pda_cons pd_str (pda_cons (pd_tup (pda_cons pd_int pda_nil)) (pda_cons (pd_tup pda_nil) (pda_cons (pd_tup (pda_cons pd_int (pda_cons pd_int pda_nil))) (pda_cons (pd_tup (pda_cons pd_int (pda_cons pd_int pda_nil))) (pda_cons (pd_tup (pda_cons pd_int (pda_cons pd_int pda_nil))) (pda_cons (pd_tup (pda_cons pd_int (pda_cons (pd_neg pd_int) pda_nil))) (pda_cons (pd_tup (pda_cons pd_int (pda_cons (pd_neg pd_int) pda_nil))) (pda_cons (pd_tup (pda_cons pd_bl (pda_cons pd_int pda_nil))) (pda_cons (pd_tup (pda_cons pd_int (pda_cons pd_bl pda_nil))) pda_nil)))))))))))))))))
      (pds_cons (pds_set (i := 4) sc_not_ratio.nd rfl (by first | exact .inl rfl | exact .inr rfl) (pd_op oo_add ol_add (pd_var (pv 4)) (pd_new (pdn_lst (pda_cons (pd_tup (pda_cons pd_bl (pda_cons pd_int pda_nil))) (pda_cons (pd_tup (pda_cons pd_int (pda_cons pd_int (pda_cons pd_int pda_nil)))) (pda_cons (pd_tup (pda_cons pd_str (pda_cons pd_int pda_nil))) (pda_cons (pd_tup (pda_cons pd_int (pda_cons pd_str pda_nil))) (pda_cons (pd_tup (pda_cons pd_non (pda_cons pd_int pda_nil))) (pda_cons (pd_tup (pda_cons pd_int (pda_cons pd_non pda_nil))) (pda_cons (pd_tup (pda_cons (pd_tup (pda_cons pd_int (pda_cons pd_int pda_nil))) (pda_cons (pd_tup (pda_cons pd_int (pda_cons pd_int pda_nil))) pda_nil))) (pda_cons (pd_tup (pda_cons (pd_tup (pda_cons pd_int (pda_cons pd_int pda_nil))) (pda_cons pd_int pda_nil))) (pda_cons pd_dnew pda_nil)))))))))))))
      (pds_cons (pds_set (i := 4) sc_not_ratio.nd rfl (by first | exact .inl rfl | exact .inr rfl) (pd_op oo_add ol_add (pd_var (pv 4)) (pd_new (pdn_lst (pda_cons (pd_new (pdn_lst (pda_cons (pd_var (pv 2)) (pda_cons pd_int pda_nil)))) (pda_cons (pd_new (pdn_lst (pda_cons pd_int (pda_cons pd_int pda_nil)))) (pda_cons (pd_tup (pda_cons (pd_op op_mulW ol_mul (pd_var (pv 2)) (pd_var (pv 3))) (pda_cons (pd_var (pv 3)) pda_nil))) (pda_cons (pd_tup (pda_cons (pd_var (pv 3)) (pda_cons (pd_op op_mulW ol_mul pd_int (pd_var (pv 3))) pda_nil))) (pda_cons (pd_tup (pda_cons (pd_neg (pd_var (pv 3))) (pda_cons (pd_op op_mulW ol_mul pd_int (pd_var (pv 3))) pda_nil))) (pda_cons (pd_tup (pda_cons (pd_op op_pow ol_pow pd_int pd_int) (pda_cons (pd_op op_pow ol_pow pd_int pd_int) pda_nil))) pda_nil))))))))))
      (pds_one (pds_ret (pd_ix ix_seq ol_ix (pd_var (pv 4)) (pd_call G_edge (hr.mono (by omega)) (by rfl) T.dedge.g T.dedge.F.kp T.dedge.b (fun σ => L2N.passAt tk σ) (pda_cons (pd_var (pv 0)) (pda_cons (pd_callB oo_len cl_len (by rfl) T.m_len bt_len (pda_cons (pd_var (pv 4)) pda_nil)) pda_nil))) (fun _ _ => rfl)))))))))), fun ds Q E hl h => ?_⟩
  unfold m_not_ratio at h
  split at h
  · rename_i b
    cases b
    · walk_at "wk"
      refine ⟨by decide, by decide, fun up u0 u1 => ?_⟩
      refine ⟨by decide, fun v v0 v1 => ?_⟩
      walk_at "wk"
      refine ⟨by decide, ?_⟩
      simp only [dDNew]
      walk_at "wk"
      refine ⟨by decide, by decide, ?_⟩
      have v3 : v < 3 := by omega
      have cm : ∀ a b : Int, -100 ≤ a → a ≤ 100 → -100 ≤ b → b ≤ 100 → CMulW a b := fun a b h1 h2 h3 h4 => wide_mul (a := 10) (b := 10) (by omega) (by omega) (by decide) (by decide) (by decide)
      refine ⟨cm _ _ (by omega) (by omega) (by omega) (by omega), cm _ _ (by omega) (by omega) (by omega) (by omega), cm _ _ (by omega) (by omega) (by omega) (by omega), ⟨by decide, by decide, by decide⟩, ⟨by decide, by decide, by decide⟩, by decide, by decide, ?_⟩
      refine ⟨by decide, fun r r0 r1 => ?_⟩
      refine ddIx_any (l := itemsR up (2 + v)) r0 (by show r < 29; omega) fun d hd => h d (itemsR_ok u0 u1 (by omega) (by omega) d hd)
    · walk_at "wk"
      refine ⟨by decide, fun r r0 r1 => ?_⟩
      walk_at "wk"
      by_cases z : r = 0
      · simp only [decide_eq_true z]
        walk_at "wk"
        exact h .non (nrB_ok (by decide +kernel))
      simp only [decide_eq_false z]
      walk_at "wk"
      refine ⟨by decide, by decide, fun up u0 u1 => ?_⟩
      refine ⟨by decide, fun v v0 v1 => ?_⟩
      walk_at "wk"
      refine ⟨by decide, ?_⟩
      simp only [dDNew]
      walk_at "wk"
      refine ⟨by decide, by decide, ?_⟩
      have v3 : v < 3 := by omega
      have cm : ∀ a b : Int, -100 ≤ a → a ≤ 100 → -100 ≤ b → b ≤ 100 → CMulW a b := fun a b h1 h2 h3 h4 => wide_mul (a := 10) (b := 10) (by omega) (by omega) (by decide) (by decide) (by decide)
      refine ⟨cm _ _ (by omega) (by omega) (by omega) (by omega), cm _ _ (by omega) (by omega) (by omega) (by omega), cm _ _ (by omega) (by omega) (by omega) (by omega), ⟨by decide, by decide, by decide⟩, ⟨by decide, by decide, by decide⟩, by decide, by decide, ?_⟩
      refine ⟨by decide, fun r r0 r1 => ?_⟩
      refine ddIx_any (l := itemsR up (2 + v)) r0 (by show r < 29; omega) fun d hd => h d (itemsR_ok u0 u1 (by omega) (by omega) d hd)
  · exact h.elim
end
end My
namespace My
/-! ### the integer root -/
def IsRt (n s : Nat) : Prop := s * s ≤ n ∧ n < (s + 1) * (s + 1)
theorem IsRt.uniq {n s t : Nat} (h : IsRt n s) (k : IsRt n t) : s = t := by
  obtain ⟨h1, h2⟩ := h
  obtain ⟨k1, k2⟩ := k
  have a : s < t + 1 := Nat.lt_of_not_le fun z => absurd (Nat.mul_le_mul z z) (by omega)
  have b : t < s + 1 := Nat.lt_of_not_le fun z => absurd (Nat.mul_le_mul z z) (by omega)
  omega
theorem rt_ex : ∀ n : Nat, ∃ s, IsRt n s
  | 0 => ⟨0, by simp [IsRt]⟩
  | n + 1 => by
    obtain ⟨s, h1, h2⟩ := rt_ex n
    by_cases c : n + 1 < (s + 1) * (s + 1)
    · exact ⟨s, by omega, c⟩
    · refine ⟨s + 1, by omega, ?_⟩
      have : (s + 1 + 1) * (s + 1 + 1) = (s + 1) * (s + 1) + (2 * s + 3) := by grind
      omega
def nstep (n a : Nat) : Nat := (a + n / a) / 2
theorem nstep_ge {n s a : Nat} (h : IsRt n s) (ha : 0 < a) : s ≤ nstep n a := by
  unfold nstep
  have key : 2 * s ≤ a + n / a := by
    by_cases c : 2 * s ≤ a
    · exact Nat.le_trans c (Nat.le_add_right _ _)
    · obtain ⟨d, hd⟩ : ∃ d, 2 * s = a + d := ⟨2 * s - a, by omega⟩
      have e : d ≤ n / a := by
        rw [Nat.le_div_iff_mul_le ha]
        refine Nat.le_trans ?_ h.1
        have e4 : d * a * 4 ≤ (a + d) * (a + d) := by
          rcases Nat.le_total a d with z | z
          · obtain ⟨k, rfl⟩ := Nat.exists_eq_add_of_le z
            have : (a + (a + k)) * (a + (a + k)) = (a + k) * a * 4 + k * k := by grind
            omega
          · obtain ⟨k, rfl⟩ := Nat.exists_eq_add_of_le z
            have : (d + k + d) * (d + k + d) = d * (d + k) * 4 + k * k := by grind
            omega
        rw [← hd] at e4
        have : 2 * s * (2 * s) = s * s * 4 := by grind
        omega
      rw [hd]
      exact Nat.add_le_add_left e _
  generalize n / a = q at *
  omega
theorem nstep_lt {n s a : Nat} (h : IsRt n s) (ha : s < a) : nstep n a < a := by
  unfold nstep
  have h1 : n / a < a := by
    rw [Nat.div_lt_iff_lt_mul (by omega)]
    exact Nat.lt_of_lt_of_le h.2 (Nat.mul_le_mul ha ha)
  omega
/-- 2 a (a' - s) ≤ (a - s)² + 2 s -/
theorem nstep_err {n s e e' : Nat} (h : IsRt n s) (h2 : nstep n (s + e) = s + e') (ha : 0 < s + e) : 2 * (s + e) * e' ≤ e * e + 2 * s := by
  have h3 : 2 * (s + e') ≤ (s + e) + n / (s + e) := by
    rw [← h2]
    unfold nstep
    omega
  have h4 : (s + e) * (n / (s + e)) ≤ n := Nat.mul_div_le n (s + e)
  have h5 : (s + e) * (2 * (s + e')) ≤ (s + e) * ((s + e) + n / (s + e)) := Nat.mul_le_mul_left _ h3
  have h6 := h.2
  have a1 : (s + e) * (2 * (s + e')) = 2 * (s + e) * e' + 2 * (s * s) + 2 * (e * s) := by grind
  have a2 : (s + e) * (s + e) = s * s + 2 * (e * s) + e * e := by grind
  have a3 : (s + 1) * (s + 1) = s * s + 2 * s + 1 := by grind
  rw [a1, Nat.mul_add (s + e) (s + e), a2] at h5
  rw [a3] at h6
  generalize (s + e) * (n / (s + e)) = z at *
  generalize 2 * (s + e) * e' = y at *
  omega
theorem step_half {s e e' : Nat} (hs : 1 ≤ s) (h : 2 * (s + e) * e' ≤ e * e + 2 * s) : 2 * e' ≤ e + 2 := by
  refine Nat.le_of_not_lt fun z => ?_
  have z2 : (s + e) * (e + 3) ≤ (s + e) * (2 * e') := Nat.mul_le_mul_left _ z
  have a1 : (s + e) * (e + 3) = s * e + 3 * s + e * e + 3 * e := by grind
  have a2 : (s + e) * (2 * e') = 2 * (s + e) * e' := by grind
  omega
theorem step_quad {s e e' P : Nat} (hs : 8 ≤ s) (hP : 8 ≤ P) (h : 2 * (s + e) * e' ≤ e * e + 2 * s) (x : (e - 2) * P ≤ s) : (e' - 2) * (2 * (P * P)) ≤ s := by
  by_cases c : e' ≤ 2
  · have : e' - 2 = 0 := by omega
    rw [this, Nat.zero_mul]
    omega
  obtain ⟨y, rfl⟩ : ∃ y, e' = y + 2 := ⟨e' - 2, by omega⟩
  obtain ⟨u, hu⟩ : ∃ u, u = e - 2 := ⟨_, rfl⟩
  have he : e ≤ u + 2 := by omega
  rw [← hu] at x
  have h1 : 2 * s * (y + 2) ≤ (u + 2) * (u + 2) + 2 * s := by
    have b1 : 2 * s * (y + 2) ≤ 2 * (s + e) * (y + 2) := Nat.mul_le_mul_right _ (by omega)
    have b2 := Nat.mul_le_mul he he
    omega
  have h2 : 2 * (s * y) + 2 * s ≤ u * u + 4 * u + 4 := by
    have b1 : 2 * s * (y + 2) = 2 * (s * y) + 4 * s := by grind
    have b2 : (u + 2) * (u + 2) = u * u + 4 * u + 4 := by grind
    omega
  have h3 := Nat.mul_le_mul_right (P * P) h2
  have c1 : (2 * (s * y) + 2 * s) * (P * P) = s * (2 * (y * (P * P))) + 2 * (s * (P * P)) := by grind
  have c2 : (u * u + 4 * u + 4) * (P * P) = (u * P) * (u * P) + 4 * ((u * P) * P) + 4 * (P * P) := by grind
  have d1 : (u * P) * (u * P) ≤ s * s := Nat.mul_le_mul x x
  have d2 : (u * P) * P ≤ s * P := Nat.mul_le_mul_right _ x
  have d3 : 8 * (s * P) ≤ s * (P * P) := by
    have := Nat.mul_le_mul_left (s * P) hP
    have e1 : s * P * 8 = 8 * (s * P) := by grind
    have e2 : s * P * P = s * (P * P) := by grind
    omega
  have d4 : 8 * (P * P) ≤ s * (P * P) := Nat.mul_le_mul_right _ hs
  have h4 : s * (2 * (y * (P * P))) ≤ s * s := by omega
  have h5 := Nat.le_of_mul_le_mul_left h4 (by omega)
  have e1 : (y + 2 - 2) * (2 * (P * P)) = 2 * (y * (P * P)) := by
    rw [Nat.add_sub_cancel]
    grind
  rw [e1]
  exact h5
def mstep (n a : Nat) : Nat := if a ≤ nstep n a then a else nstep n a
theorem mstep_le (n a : Nat) : mstep n a ≤ nstep n a ∧ mstep n a ≤ a := by
  unfold mstep
  split <;> omega
theorem mstep_ge {n s a : Nat} (h : IsRt n s) (hs : 0 < s) (ha : s ≤ a) : s ≤ mstep n a := by
  have := nstep_ge h (a := a) (by omega)
  unfold mstep
  split <;> omega
def niter (n : Nat) : Nat → Nat → Nat
  | 0, a => a
  | k + 1, a => niter n k (mstep n a)
theorem niter_ge {n s : Nat} (h : IsRt n s) (hs : 0 < s) : ∀ (k a : Nat), s ≤ a → s ≤ niter n k a
  | 0, _, ha => ha
  | k + 1, a, ha => niter_ge h hs k _ (mstep_ge h hs ha)
theorem niter_app (n : Nat) : ∀ (k m a : Nat), niter n (k + m) a = niter n m (niter n k a)
  | 0, m, a => by rw [Nat.zero_add]; rfl
  | k + 1, m, a => by
    rw [Nat.add_right_comm]
    exact niter_app n k m _
theorem err_of {n s a : Nat} (h : IsRt n s) (hs : 0 < s) (ha : s ≤ a) : 2 * (s + (a - s)) * (mstep n a - s) ≤ (a - s) * (a - s) + 2 * s := by
  have g := nstep_ge h (a := a) (by omega)
  have l := (mstep_le n a).1
  have r : 2 * (s + (a - s)) * (nstep n a - s) ≤ (a - s) * (a - s) + 2 * s := by
    refine nstep_err h ?_ (by omega)
    have e1 : s + (a - s) = a := by omega
    rw [e1]
    omega
  exact Nat.le_trans (Nat.mul_le_mul_left _ (by omega)) r
theorem half_it {n s : Nat} (h : IsRt n s) (hs : 0 < s) : ∀ (k a q : Nat), s ≤ a → (a - s - 2) * q ≤ 3 * s → (niter n k a - s - 2) * (q * 2 ^ k) ≤ 3 * s
  | 0, a, q, _, e => by
    rw [Nat.pow_zero, Nat.mul_one]
    exact e
  | k + 1, a, q, ha, e => by
    have r := step_half hs (err_of h hs ha)
    have e2 : (mstep n a - s - 2) * (q * 2) ≤ 3 * s := by
      have : (mstep n a - s - 2) * 2 ≤ a - s - 2 := by omega
      have := Nat.mul_le_mul_right q this
      have z : (mstep n a - s - 2) * (q * 2) = (mstep n a - s - 2) * 2 * q := by grind
      omega
    have := half_it h hs k _ (q * 2) (mstep_ge h hs ha) e2
    have z : q * 2 ^ (k + 1) = q * 2 * 2 ^ k := by rw [Nat.pow_succ', Nat.mul_assoc]
    rw [z]
    exact this
def pw : Nat → Nat
  | 0 => 3
  | k + 1 => 2 * pw k + 1
theorem quad_it {n s : Nat} (h : IsRt n s) (hs : 8 ≤ s) : ∀ (k a : Nat), s ≤ a → (a - s - 2) * 8 ≤ s → (niter n k a - s - 2) * 2 ^ pw k ≤ s ∧ 3 ≤ pw k
  | 0, a, _, e => ⟨e, by decide⟩
  | k + 1, a, ha, e => by
    have e0 : niter n (k + 1) a = mstep n (niter n k a) := by
      rw [niter_app n k 1 a]
      rfl
    obtain ⟨i1, i2⟩ := quad_it h hs k a ha e
    have g := niter_ge h (by omega) k a ha
    have p8 : 8 ≤ 2 ^ pw k := Nat.pow_le_pow_right (n := 2) (by decide) i2
    have := step_quad hs p8 (err_of h (by omega) g) i1
    rw [e0]
    refine ⟨?_, by show 3 ≤ 2 * pw k + 1; omega⟩
    have e3 : 2 ^ pw (k + 1) = 2 * (2 ^ pw k * 2 ^ pw k) := by
      show 2 ^ (2 * pw k + 1) = _
      rw [Nat.pow_succ, Nat.two_mul, Nat.pow_add]
      omega
    rw [e3]
    exact this
theorem last_it {n s a : Nat} (h : IsRt n s) (hs : 0 < s) (ha : s ≤ a) (e : a ≤ s + 2) : niter n 2 a = s := by
  have st : ∀ b, s ≤ b → b ≤ s + 2 → s ≤ mstep n b ∧ mstep n b ≤ s + 1 ∧ (b ≤ s + 1 → mstep n b = s) := fun b h1 h2 => by
    have g := mstep_ge h hs h1
    have r := err_of h hs h1
    have l := (mstep_le n b).2
    obtain ⟨d, rfl⟩ := Nat.exists_eq_add_of_le h1
    obtain ⟨d', hd'⟩ := Nat.exists_eq_add_of_le g
    rw [hd'] at r l ⊢
    rw [Nat.add_sub_cancel_left, Nat.add_sub_cancel_left] at r
    have : d = 0 ∨ d = 1 ∨ d = 2 := by omega
    rcases this with rfl | rfl | rfl
    · omega
    · have : d' = 0 := by
        rcases Nat.eq_zero_or_pos d' with z | z
        · exact z
        · have := Nat.mul_le_mul_left (2 * (s + 1)) (show 1 ≤ d' from z)
          omega
      omega
    · have : d' ≤ 1 := Nat.le_of_not_lt fun z2 => by
        have := Nat.mul_le_mul_left (2 * (s + 2)) (show 2 ≤ d' from z2)
        omega
      omega
  obtain ⟨a1, a2, _⟩ := st a ha e
  obtain ⟨b1, b2, b3⟩ := st (mstep n a) a1 (by omega)
  exact b3 a2
def nrun (n : Nat) : Nat → Nat → Nat
  | 0, a => a
  | k + 1, a => if a ≤ nstep n a then a else nrun n k (nstep n a)
theorem nrun_rt {n s : Nat} (h : IsRt n s) (hs : 0 < s) : ∀ k, nrun n k s = s
  | 0 => rfl
  | k + 1 => by
    show (if s ≤ nstep n s then s else nrun n k (nstep n s)) = s
    rw [if_pos (nstep_ge h hs)]
theorem nrun_of {n s : Nat} (h : IsRt n s) (hs : 0 < s) : ∀ (i m a : Nat), s ≤ a → niter n i a = s → nrun n (i + m) a = s
  | 0, m, a, _, e => by
    have e : a = s := e
    subst e
    exact nrun_rt h hs _
  | i + 1, m, a, ha, e => by
    by_cases c : a = s
    · subst c
      exact nrun_rt h hs _
    · rw [Nat.add_right_comm]
      show (if a ≤ nstep n a then a else nrun n (i + m) (nstep n a)) = s
      have c2 : ¬ a ≤ nstep n a := Nat.not_le_of_lt (nstep_lt h (by omega))
      rw [if_neg c2]
      have e1 : mstep n a = nstep n a := if_neg c2
      have e : niter n i (mstep n a) = s := e
      rw [e1] at e
      exact nrun_of h hs i m _ (nstep_ge h (by omega)) e
theorem nrun_all {n s a : Nat} (h : IsRt n s) (hs : 0 < s) (ha : s ≤ a) (h4 : a ≤ 4 * s) (hb : s < 2 ^ 16383) : nrun n 200 a = s := by
  have e5 := half_it h hs 5 a 1 ha (by omega)
  have g5 := niter_ge h hs 5 a ha
  have z : (niter n 5 a - s - 2) * 32 ≤ 3 * s := by simpa using e5
  by_cases c : s < 8
  · have := last_it h hs g5 (by omega)
    rw [← niter_app n 5 2 a] at this
    exact nrun_of h hs 7 193 a ha this
  · obtain ⟨q, _⟩ := quad_it h (by omega) 12 (niter n 5 a) g5 (by omega)
    rw [← niter_app n 5 12 a] at q
    have e : pw 12 = 16383 := by decide
    rw [e] at q
    have g17 := niter_ge h hs 17 a ha
    have zero : niter n 17 a - s - 2 = 0 := by
      rcases Nat.eq_zero_or_pos (niter n 17 a - s - 2) with z | z
      · exact z
      · have := Nat.mul_le_mul_right (2 ^ 16383) (show 1 ≤ niter n 17 a - s - 2 from z)
        rw [Nat.one_mul] at this
        have := Nat.le_trans this q
        omega
    have := last_it h hs g17 (by omega)
    rw [← niter_app n 17 2 a] at this
    exact nrun_of h hs 19 181 a ha this
end My
set_option exponentiation.threshold 100000
namespace My
open PySem PySem.Spec PyProof.Rows L2
local macro_rules | `(tactic| walk_at "dl") => `(tactic| simp only [startD, List.map_cons, List.map_nil, List.length_cons, List.length_nil, List.cons_append, List.nil_append, List.replicate_succ, List.replicate_zero, List.getElem?_cons_zero, List.getElem?_cons_succ, List.set_cons_zero, List.set_cons_succ,
  dVar, rdS, dC, dNew, dOp, onB, qB, dChain, qAnd, qOr, qNot, qTru, truD, dIf, dAnd, dOr, dNot, dUn, ddNeg, lNil, lCons, dTup, nLst, ddI, ddI0, ddAdd, isNonD, isBlD, ddIsN, ddIsB, ddIx_t0, ddIx_t1, ddIx_t2, ddIx_t3, ddIx_l0, ddIx_l1, ddIx_l2, dCB, ddLen, ddInt1, ddAbs, ddMM, ddTuple, nCB, nnList, ddIsi, dCall,
  sSkip, sSeq, sBreak, sCont, sExpr, sRet, sRetN, sIf, sNever, gdName, gdNil, gdCons, gdTup, sAsg, sSetN, sPar, sRaise, sFrz, owS, sApp, sIns, dLenO, dIxO, sTry, sFor, iL, iT, onL, onT, iR1, iR2, nComp, qYes,
  ddEq_ii, ddEq_ss, ddEq_bb, Bool.false_bne, Bool.true_bne, List.append_nil, true_and, and_true, if_true, if_false, Bool.not_true, Bool.not_false, Bool.true_eq_false, Bool.false_eq_true, ite_true, ite_false, id_eq])

local macro_rules | `(tactic| walk_at "is") => `(tactic| simp only [plain_non, isIn_non_int, isIn_non_str, isIn_non_bool, isIn_non_list, isIn_non_tuple, isIn_non_dict, plain_bl, isIn_bl_int, isIn_bl_str, isIn_bl_bool, isIn_bl_list, isIn_bl_tuple, isIn_bl_dict, plain_int, isIn_int_int, isIn_int_str, isIn_int_bool, isIn_int_list, isIn_int_tuple, isIn_int_dict, plain_str, isIn_str_int, isIn_str_str, isIn_str_bool, isIn_str_list, isIn_str_tuple, isIn_str_dict, plain_tup, isIn_tup_int, isIn_tup_str, isIn_tup_bool, isIn_tup_list, isIn_tup_tuple, isIn_tup_dict, plain_lst, isIn_lst_int, isIn_lst_str, isIn_lst_bool, isIn_lst_list, isIn_lst_tuple, isIn_lst_dict, sl0, sl1, sl2, sl3, sl4, decide_true, decide_false, ddIsi, ddIsi2, true_and, if_true, if_false, Bool.false_eq_true, Bool.not_true, Bool.not_false, Bool.or_true, Bool.or_false, Bool.true_or, and_true])
local macro_rules | `(tactic| walk_at "wk") => `(tactic| ((try walk_at "dl"); (try walk_at "is"); (try walk_at "dl")))

/-! ### roots -/
theorem fdiv_nat (m n : Nat) : (m : Int).fdiv (n : Int) = ((m / n : Nat) : Int) := by
  rw [Int.fdiv_eq_ediv_of_nonneg _ (by omega)]
  exact (Int.natCast_ediv m n).symm
theorem bits_of (n : Nat) (h : 0 < n) : Builtin.Int.intBits (n : Int) = n.log2 + 1 := by
  unfold Builtin.Int.intBits
  rw [if_neg (by simp; omega)]
  rfl
/-- small enough to be rooted -/
def Rb (n : Nat) : Prop := n.log2 < 16000
def m_floor_root : DF := fun ds Q _ => match ds with
  | [.int i] => 0 ≤ i ∧ Rb i.toNat ∧ ∀ s : Nat, IsRt i.toNat s → Q (.int s)
  | _ => False
def m_lfloor_root : DF := fun ds Q _ => match ds with
  | [.int i] => Rb i.toNat ∧ ∀ s : Nat, IsRt i.toNat s → Q (.int s)
  | _ => False
theorem rt_lt {n s k : Nat} (h : IsRt n s) (hk : n < 2 ^ k * 2 ^ k) : s < 2 ^ k := Nat.lt_of_not_le fun z => by
  have := Nat.mul_le_mul z z
  have := h.1
  omega
theorem rt_ge {n s k : Nat} (h : IsRt n s) (hk : 2 ^ k * 2 ^ k ≤ n) : 2 ^ k ≤ s := Nat.le_of_not_lt fun z => by
  have := Nat.mul_le_mul (show s + 1 ≤ 2 ^ k from z) (show s + 1 ≤ 2 ^ k from z)
  have := h.2
  omega
/-- where the search begins -/
theorem start_ge {n s k : Nat} (h : IsRt n s) (hn : 0 < n) (hk : n.log2 + 1 ≤ 2 * k) : s < 2 ^ k := by
  refine rt_lt h ?_
  rw [← Nat.pow_add]
  exact Nat.lt_of_lt_of_le Nat.lt_log2_self (Nat.pow_le_pow_right (by decide) (by omega))
theorem start_le {n s k : Nat} (h : IsRt n s) (hn : 0 < n) (hk : 2 * k ≤ n.log2 + 4) : 2 ^ k ≤ 4 * s := by
  have hs : 0 < s := by
    rcases Nat.eq_zero_or_pos s with z | z
    · have := h.2
      rw [z] at this
      omega
    · exact z
  by_cases c : k < 2
  · have : 2 ^ k ≤ 2 ^ 2 := Nat.pow_le_pow_right (by decide) (by omega)
    omega
  · obtain ⟨j, rfl⟩ : ∃ j, k = j + 2 := ⟨k - 2, by omega⟩
    have : 2 ^ j ≤ s := by
      refine rt_ge h ?_
      rw [← Nat.pow_add]
      exact Nat.le_trans (Nat.pow_le_pow_right (by decide) (by omega)) (Nat.log2_self_le (by omega))
    rw [Nat.pow_add]
    omega
theorem div_small {g k : Nat} (hg : 0 < g) (h : g ≤ 2 ^ k) (hk : k < 9000) (i : Int) : CDivZ i (g : Int) := by
  refine ⟨by omega, ?_⟩
  rw [Int.natAbs_natCast]
  refine (Nat.log2_lt (by omega)).mpr (Nat.lt_of_le_of_lt h (Nat.pow_lt_pow_right (by decide) hk))
abbrev s_floor_root : Stmt := topS 31
abbrev N_floor_root : List Str := ["number", "guess", "following"]
abbrev P_floor_root : List Str := ["number"]
theorem sc_floor_root : FnScope N_floor_root P_floor_root (defScope s_floor_root) := ⟨rfl, rfl, rfl, by decide +kernel, rfl, by decide +kernel, by decide +kernel⟩

abbrev s_lfloor_root : Stmt := topS 54
abbrev N_lfloor_root : List Str := ["number", "at", "k", "new"]
abbrev P_lfloor_root : List Str := ["number"]
theorem sc_lfloor_root : FnScope N_lfloor_root P_lfloor_root (defScope s_lfloor_root) := ⟨rfl, rfl, rfl, by decide +kernel, rfl, by decide +kernel, by decide +kernel⟩

section
variable {P : Program} {w : World} {K : PySem.W.Frag} {mg : Str → Option Value} {base : Heap}
theorem shl_one (k : Nat) (hk : k < 9000) : CShl 1 (k : Int) := shl_ok (i := 1) (n := 1) (by decide) (by omega)
theorem two_sh (k : Nat) : (1 : Int) * 2 ^ k = ((2 ^ k : Nat) : Int) := by
  rw [Int.one_mul, Int.natCast_pow]
  rfl
theorem nstep_int (n a : Nat) : ((a : Int) + ((n / a : Nat) : Int)).fdiv 2 = (nstep n a : Int) := by
  rw [← Int.natCast_add]
  exact fdiv_nat _ 2
theorem cdiv2 (i : Int) : CDivZ i 2 := ⟨by decide, by decide⟩
theorem ok_floor_root (T : Txt K mg) : FnOk P w K mg base (L2N.CX P w) 1 T.dfloor_root.f T.dfloor_root.fd P_floor_root (spD K 1 m_floor_root) := by
  refine T.dfloor_root.okD sc_floor_root fun cdv A outer s H E so A0 hr tk hp => ⟨_, (pds_cons (pds_if (pdt_cmp op_lt ol_lt (pd_var (pv 0)) pd_int (nomark _))
        (pds_one (pds_ret (pd_var (pv 0))))
        pds_nil)
      (pds_cons (pds_set (i := 1) sc_floor_root.nd rfl (by first | exact .inl rfl | exact .inr rfl) (pd_op op_shlW ol_shl pd_int (pd_op op_fdivZ ol_fdiv (pd_op oo_add ol_add (pd_bits (pd_var (pv 0))) pd_int) pd_int)))
      (pds_cons (pds_set (i := 2) sc_floor_root.nd rfl (by first | exact .inl rfl | exact .inr rfl) (pd_op op_fdivZ ol_fdiv (pd_op oo_add ol_add (pd_var (pv 1)) (pd_op op_fdivZ ol_fdiv (pd_var (pv 0)) (pd_var (pv 1)))) pd_int))
      (pds_cons (pds_while hp (pdt_cmp op_lt ol_lt (pd_var (pv 2)) (pd_var (pv 1)) (nomark _))
        (pds_cons (pds_set (i := 1) sc_floor_root.nd rfl (by first | exact .inl rfl | exact .inr rfl) (pd_var (pv 2)))
        (pds_one (pds_set (i := 2) sc_floor_root.nd rfl (by first | exact .inl rfl | exact .inr rfl) (pd_op op_fdivZ ol_fdiv (pd_op oo_add ol_add (pd_var (pv 1)) (pd_op op_fdivZ ol_fdiv (pd_var (pv 0)) (pd_var (pv 1)))) pd_int)))))
      (pds_one (pds_ret (pd_var (pv 1)))))))), fun ds Q E hl h => ?_⟩
  unfold m_floor_root at h
  split at h
  · rename_i i
    obtain ⟨h0, hb, h⟩ := h
    obtain ⟨n, rfl⟩ : ∃ n : Nat, i = n := ⟨i.toNat, by omega⟩
    rw [Int.toNat_natCast] at hb h
    walk_at "wk"
    by_cases c : n < 2
    · rw [if_pos (by rw [decide_eq_true_iff]; omega)]
      exact h n (by
        have : n = 0 ∨ n = 1 := by omega
        rcases this with rfl | rfl <;> simp [IsRt])
    rw [if_neg (by rw [decide_eq_true_iff]; omega)]
    simp only [ddBits, bits_of n (by omega)]
    (try walk_at "dl")
    obtain ⟨r, hr⟩ := rt_ex n
    have ek : (((n.log2 + 1 : Nat) : Int) + 1).fdiv 2 = (((n.log2 + 2) / 2 : Nat) : Int) := by
      rw [show (((n.log2 + 1 : Nat) : Int) + 1) = ((n.log2 + 2 : Nat) : Int) by omega]
      exact fdiv_nat _ 2
    rw [ek]
    unfold Rb at hb
    have k1 : n.log2 + 1 ≤ 2 * ((n.log2 + 2) / 2) := by omega
    have k2 : (n.log2 + 2) / 2 < 9000 := by omega
    generalize (n.log2 + 2) / 2 = k at *
    have st := start_ge hr (by omega) k1
    rw [Int.toNat_natCast, two_sh]
    have gp : 0 < 2 ^ k := Nat.pow_pos (by decide)
    refine ⟨cdiv2 _, shl_one k k2, div_small gp (Nat.le_refl _) k2 _, cdiv2 _, ?_⟩
    rw [fdiv_nat, nstep_int]
    have r0 : 0 < r := by
      rcases Nat.eq_zero_or_pos r with z | z
      · have := hr.2
        rw [z] at this
        omega
      · exact z
    refine ⟨fun m ρ => ρ = [.fr (.int n), .fr (.int (m : Int)), .fr (.int (nstep n m : Int))] ∧ r ≤ m ∧ m ≤ 2 ^ k, ⟨2 ^ k, rfl, Nat.le_of_lt st, Nat.le_refl _⟩, ?_⟩
    rintro m ρ ⟨rfl, m1, m2⟩
    walk_at "dl"
    split
    · rename_i c
      have c : nstep n m < m := by
        have := of_decide_eq_true c
        omega
      have g := nstep_ge hr (a := m) (by omega)
      refine ⟨fun ρ' => ρ' = [.fr (.int n), .fr (.int (nstep n m : Int)), .fr (.int (nstep n (nstep n m) : Int))], ?_, ?_⟩
      · rintro ρ' rfl
        exact ⟨nstep n m, c, rfl, g, by omega⟩
      · refine ⟨div_small (by omega) (show nstep n m ≤ 2 ^ k by omega) k2 _, cdiv2 _, ?_⟩
        rw [fdiv_nat, nstep_int]
    · rename_i c
      have c : ¬ nstep n m < m := by
        intro z
        exact c (decide_eq_true (by omega))
      have : m = r := by
        rcases Nat.lt_or_ge r m with z | z
        · exact absurd (nstep_lt hr z) c
        · omega
      subst this
      exact h m hr
  · exact h.elim
theorem ok_lfloor_root (T : Txt K mg) : FnOk P w K mg base (L2N.CX P w) 1 T.dlfloor_root.f T.dlfloor_root.fd P_lfloor_root (spD K 1 m_lfloor_root) := by
  refine T.dlfloor_root.okD sc_lfloor_root fun cdv A outer s H E so A0 hr tk hp => ⟨_, (pds_cons (pds_if (pdt_cmp op_lt ol_lt (pd_var (pv 0)) pd_int (nomark _))
        (pds_one (pds_ret pd_int))
        pds_nil)
      (pds_cons (pds_set (i := 1) sc_lfloor_root.nd rfl (by first | exact .inl rfl | exact .inr rfl) (pd_op op_shlW ol_shl pd_int (pd_op oo_add ol_add (pd_op op_fdivZ ol_fdiv (pd_bits (pd_var (pv 0))) pd_int) pd_int)))
      (pds_cons (pds_for hp rfl (pdi_range1 (by rfl) T.m_range (pda_cons pd_int pda_nil)) (pdg_name (pg_name (i := 2) sc_lfloor_root.nd rfl (by first | exact .inl rfl | exact .inr rfl)))
        (pds_cons (pds_set (i := 3) sc_lfloor_root.nd rfl (by first | exact .inl rfl | exact .inr rfl) (pd_op op_fdivZ ol_fdiv (pd_op oo_add ol_add (pd_var (pv 1)) (pd_op op_fdivZ ol_fdiv (pd_var (pv 0)) (pd_var (pv 1)))) pd_int))
        (pds_cons (pds_if (pdt_cmp op_ge ol_ge (pd_var (pv 3)) (pd_var (pv 1)) (nomark _))
          (pds_one (pds_ret (pd_var (pv 1))))
          pds_nil)
        (pds_one (pds_set (i := 1) sc_lfloor_root.nd rfl (by first | exact .inl rfl | exact .inr rfl) (pd_var (pv 3)))))))
      (pds_one (pds_ret (pd_var (pv 1))))))), fun ds Q E hl h => ?_⟩
  unfold m_lfloor_root at h
  split at h
  · rename_i i
    obtain ⟨hb, h⟩ := h
    walk_at "wk"
    by_cases c : i < 1
    · rw [if_pos (by rw [decide_eq_true_iff]; omega)]
      exact h 0 (by
        have : i.toNat = 0 := by omega
        rw [this]
        simp [IsRt])
    rw [if_neg (by rw [decide_eq_true_iff]; omega)]
    obtain ⟨n, rfl⟩ : ∃ n : Nat, i = n := ⟨i.toNat, by omega⟩
    rw [Int.toNat_natCast] at hb h
    simp only [ddBits, bits_of n (by omega)]
    (try walk_at "dl")
    obtain ⟨r, hr⟩ := rt_ex n
    have ek : (((n.log2 + 1 : Nat) : Int)).fdiv 2 + 1 = (((n.log2 + 1) / 2 + 1 : Nat) : Int) := by
      rw [show (2 : Int) = ((2 : Nat) : Int) from rfl, fdiv_nat]
      omega
    rw [ek]
    unfold Rb at hb
    have k1 : n.log2 + 1 ≤ 2 * ((n.log2 + 1) / 2 + 1) := by omega
    have k2 : (n.log2 + 1) / 2 + 1 < 9000 := by omega
    have k3 : 2 * ((n.log2 + 1) / 2 + 1) ≤ n.log2 + 4 := by omega
    generalize (n.log2 + 1) / 2 + 1 = k at *
    have st := start_ge hr (by omega) k1
    have st4 := start_le hr (by omega) k3
    rw [Int.toNat_natCast, two_sh]
    have gp : 0 < 2 ^ k := Nat.pow_pos (by decide)
    have r0 : 0 < r := by
      rcases Nat.eq_zero_or_pos r with z | z
      · have := hr.2
        rw [z] at this
        omega
      · exact z
    have all := nrun_all hr r0 (Nat.le_of_lt st) st4 (Nat.lt_of_lt_of_le st (Nat.pow_le_pow_right (by decide) (by omega)))
    refine ⟨cdiv2 _, shl_one k k2, by decide, by decide, ?_⟩
    refine forL_rest (fun l ρ => ∃ (a : Nat) (z1 z2 : Sl), ρ = [.fr (.int n), .fr (.int (a : Int)), z1, z2] ∧ a ≤ 2 ^ k ∧ r ≤ a ∧ nrun n l.length a = r) ?_ ?_ _ _ ⟨2 ^ k, .no, .no, rfl, Nat.le_refl _, Nat.le_of_lt st, by rw [rangeD_len]; exact all⟩
    · rintro d l ρ R ⟨a, z1, z2, rfl, a1, a2, a3⟩ hR
      walk_at "dl"
      refine ⟨div_small (by omega) a1 k2 _, cdiv2 _, ?_⟩
      rw [fdiv_nat, nstep_int]
      rw [List.length_cons] at a3
      have a3 : (if a ≤ nstep n a then a else nrun n l.length (nstep n a)) = r := a3
      have g := nstep_ge hr (a := a) (by omega)
      split
      · rename_i c
        have c : a ≤ nstep n a := by
          have := of_decide_eq_true c
          omega
        rw [if_pos c] at a3
        rw [a3]
        exact h r hr
      · rename_i c
        have c : ¬ a ≤ nstep n a := fun z => c (decide_eq_true (by omega))
        rw [if_neg c] at a3
        exact hR _ ⟨nstep n a, _, _, rfl, by omega, g, a3⟩
    · rintro ρ ⟨a, z1, z2, rfl, a1, a2, a3⟩
      walk_at "dl"
      have a3 : a = r := a3
      rw [a3]
      exact h r hr
  · exact h.elim
end
end My
namespace My
/-! ### the sign of plain + factor * root of under -/
noncomputable def rt (n : Nat) : Nat := (rt_ex n).choose
theorem rt_is (n : Nat) : IsRt n (rt n) := (rt_ex n).choose_spec
theorem rt_eq {n s : Nat} (h : IsRt n s) : rt n = s := (rt_is n).uniq h
def rsF (p q f g u v : Int) : Int :=
  if sgn p = 0 then sgn (f * u) else if sgn (f * u) = 0 ∨ sgn (f * u) = sgn p then sgn p else sgn p * sgn (p * p * g * g * v - f * f * u * q * q)
noncomputable def abF (w sq : Int) : Int :=
  if 0 < w + (rt sq.toNat : Int) then 1 else if w + (rt sq.toNat : Int) < 0 then -1 else if (rt sq.toNat : Int) * (rt sq.toNat : Int) < sq then 1 else 0
noncomputable def duF (p q f g u v : Int) : Int :=
  if f < 0 then -abF (-(p * g * v)) ((f * q) ^ 2 * u * v) else abF (p * g * v) ((f * q) ^ 2 * u * v)
theorem sgn_pos {a : Int} (h : 0 < a) : sgn a = 1 := if_pos h
theorem sgn_neg {a : Int} (h : a < 0) : sgn a = -1 := by
  unfold sgn
  rw [if_neg (by omega), if_pos h]
theorem sgn_zero : sgn 0 = 0 := rfl
theorem sgn_cases (a : Int) : (0 < a ∧ sgn a = 1) ∨ (a < 0 ∧ sgn a = -1) ∨ (a = 0 ∧ sgn a = 0) := by
  rcases Int.lt_trichotomy a 0 with h | h | h
  · exact .inr (.inl ⟨h, sgn_neg h⟩)
  · exact .inr (.inr ⟨h, by rw [h]; rfl⟩)
  · exact .inl ⟨h, sgn_pos h⟩
theorem sgn_opp (a : Int) : sgn (-a) = -sgn a := by
  rcases sgn_cases a with ⟨h, e⟩ | ⟨h, e⟩ | ⟨h, e⟩
  · rw [e, sgn_neg (by omega)]
  · rw [e, sgn_pos (by omega)]; rfl
  · rw [e, h]; rfl
theorem sgn_mulp {a b : Int} (h : 0 < b) : sgn (a * b) = sgn a := by
  rcases sgn_cases a with ⟨k, e⟩ | ⟨k, e⟩ | ⟨k, e⟩
  · rw [e, sgn_pos (Int.mul_pos k h)]
  · rw [e, sgn_neg (Int.mul_neg_of_neg_of_pos k h)]
  · rw [e, k, Int.zero_mul]; rfl
/-- the sign of w + root of sq, without a root -/
def wsF (w sq : Int) : Int := if 0 ≤ w then (if w = 0 ∧ sq = 0 then 0 else 1) else sgn (sq - w * w)
theorem abF_eq {w sq : Int} (h : 0 ≤ sq) : abF w sq = wsF w sq := by
  obtain ⟨n, rfl⟩ : ∃ n : Nat, sq = n := ⟨sq.toNat, by omega⟩
  unfold abF wsF
  rw [Int.toNat_natCast]
  obtain ⟨r1, r2⟩ := rt_is n
  generalize rt n = r at *
  have r1' : (r : Int) * (r : Int) ≤ (n : Int) := by exact_mod_cast r1
  have r2' : (n : Int) < ((r : Int) + 1) * ((r : Int) + 1) := by exact_mod_cast r2
  by_cases hw : 0 ≤ w
  · rw [if_pos hw]
    by_cases c : w = 0 ∧ (n : Int) = 0
    · rw [if_pos c]
      have n0 : n = 0 := by omega
      have r0 : r = 0 := by
        rcases Nat.eq_zero_or_pos r with z | z
        · exact z
        · have := Nat.mul_le_mul (show 1 ≤ r from z) (show 1 ≤ r from z)
          omega
      rw [c.1, r0, n0]
      decide
    · rw [if_neg c, if_pos]
      by_cases w0 : w = 0
      · have n0 : ¬ n = 0 := fun z => c ⟨w0, by omega⟩
        rcases Nat.eq_zero_or_pos r with z | z
        · rw [z] at r2
          omega
        · omega
      · omega
  · rw [if_neg hw]
    obtain ⟨v, rfl⟩ : ∃ v : Int, w = -v := ⟨-w, by omega⟩
    have vp : 0 < v := by omega
    have ew : -v * -v = v * v := Int.neg_mul_neg v v
    rw [ew]
    rcases Int.lt_trichotomy v r with c | c | c
    · rw [if_pos (by omega)]
      have : (v + 1) * (v + 1) ≤ (r : Int) * (r : Int) := Int.mul_le_mul (by omega) (by omega) (by omega) (by omega)
      have e : (v + 1) * (v + 1) = v * v + 2 * v + 1 := by grind
      rw [sgn_pos (by omega)]
    · rw [if_neg (by omega), if_neg (by omega), ← c]
      rw [← c] at r1'
      by_cases z : v * v < (n : Int)
      · rw [if_pos z, sgn_pos (by omega)]
      · rw [if_neg z]
        have : (n : Int) - v * v = 0 := by omega
        rw [this]
        rfl
    · rw [if_neg (by omega), if_pos (by omega)]
      have : ((r : Int) + 1) * ((r : Int) + 1) ≤ v * v := Int.mul_le_mul (by omega) (by omega) (by omega) (by omega)
      rw [sgn_neg (by omega)]
theorem rsF_opp (p q f g u v : Int) : rsF (-p) q (-f) g u v = -rsF p q f g u v := by
  unfold rsF
  have e1 : -f * u = -(f * u) := Int.neg_mul f u
  have e2 : -p * -p * g * g * v - -f * -f * u * q * q = p * p * g * g * v - f * f * u * q * q := by grind
  rw [e1, e2, sgn_opp, sgn_opp]
  generalize sgn (p * p * g * g * v - f * f * u * q * q) = z
  generalize sgn (f * u) = y
  generalize sgn p = x
  by_cases h : x = 0
  · rw [if_pos (by omega), if_pos h]
  · rw [if_neg (by omega), if_neg h]
    by_cases c : y = 0 ∨ y = x
    · rw [if_pos (by omega), if_pos c]
    · rw [if_neg (by omega), if_neg c, Int.neg_mul]
theorem due_eq {p q f g u v : Int} (hq : 1 ≤ q) (hg : 1 ≤ g) (hu : 0 ≤ u) (hv : 1 ≤ v) : duF p q f g u v = rsF p q f g u v := by
  have S0 : 0 ≤ (f * q) ^ 2 * u * v := by
    refine Int.mul_nonneg (Int.mul_nonneg ?_ hu) (by omega)
    rw [Int.pow_succ, Int.pow_succ, Int.pow_zero, Int.one_mul]
    rcases Int.le_total 0 (f * q) with h | h
    · exact Int.mul_nonneg h h
    · exact Int.mul_nonneg_of_nonpos_of_nonpos h h
  have gv : 0 < g * v := Int.mul_pos (by omega) (by omega)
  have sw : sgn (p * g * v) = sgn p := by
    rw [Int.mul_assoc]
    exact sgn_mulp gv
  have key : sgn ((p * g * v) * (p * g * v) - (f * q) ^ 2 * u * v) = sgn (p * p * g * g * v - f * f * u * q * q) := by
    have e : (p * g * v) * (p * g * v) - (f * q) ^ 2 * u * v = (p * p * g * g * v - f * f * u * q * q) * v := by grind
    rw [e]
    exact sgn_mulp (by omega)
  have sz : (f * q) ^ 2 * u * v = 0 ↔ f * u = 0 := by
    constructor
    · intro h
      have e : (f * q) ^ 2 * u * v = f * u * (f * (q * q * v)) := by grind
      rw [e] at h
      rcases Int.mul_eq_zero.mp h with z | z
      · exact z
      · rcases Int.mul_eq_zero.mp z with z | z
        · rw [z, Int.zero_mul]
        · have : 0 < q * q * v := Int.mul_pos (Int.mul_pos (by omega) (by omega)) (by omega)
          omega
    · intro h
      have e : (f * q) ^ 2 * u * v = f * u * (f * (q * q * v)) := by grind
      rw [e, h, Int.zero_mul]
  generalize hS : (f * q) ^ 2 * u * v = S at *
  unfold duF rsF
  rw [hS, abF_eq S0, abF_eq S0, ← key]
  generalize p * g * v = W at *
  have opp : sgn (S - W * W) = -sgn (W * W - S) := by
    rw [← sgn_opp]
    congr 1
    omega
  by_cases hf : f < 0
  · rw [if_pos hf]
    have fu : f * u ≤ 0 := Int.mul_nonpos_of_nonpos_of_nonneg (by omega) hu
    unfold wsF
    have ew : -W * -W = W * W := Int.neg_mul_neg W W
    rw [ew, opp]
    rcases sgn_cases p with ⟨h, e⟩ | ⟨h, e⟩ | ⟨h, e⟩ <;> rw [e] at sw ⊢ <;> rcases sgn_cases W with ⟨k, e2⟩ | ⟨k, e2⟩ | ⟨k, e2⟩ <;> rw [e2] at sw <;> (try (exact absurd sw (by decide)))
    · rw [if_neg (by omega), if_neg (by decide)]
      rcases sgn_cases (f * u) with ⟨k2, e3⟩ | ⟨k2, e3⟩ | ⟨k2, e3⟩
      · omega
      · rw [e3, if_neg (by decide)]
        omega
      · rw [e3, if_pos (by decide)]
        have : S = 0 := sz.mpr k2
        rw [this, Int.sub_zero, sgn_pos (Int.mul_pos k k)]
        rfl
    · rw [if_pos (by omega), if_neg (by omega), if_neg (by decide)]
      rcases sgn_cases (f * u) with ⟨k2, e3⟩ | ⟨k2, e3⟩ | ⟨k2, e3⟩
      · omega
      · rw [e3, if_pos (by decide)]
      · rw [e3, if_pos (by decide)]
    · rw [if_pos (by omega), if_pos rfl]
      rcases sgn_cases (f * u) with ⟨k2, e3⟩ | ⟨k2, e3⟩ | ⟨k2, e3⟩
      · omega
      · rw [e3, if_neg (fun z => by have := sz.mp z.2; omega)]
      · rw [e3, if_pos ⟨by omega, sz.mpr k2⟩]
        rfl
  · rw [if_neg hf]
    have fu : 0 ≤ f * u := Int.mul_nonneg (by omega) hu
    unfold wsF
    rw [opp]
    rcases sgn_cases p with ⟨h, e⟩ | ⟨h, e⟩ | ⟨h, e⟩ <;> rw [e] at sw ⊢ <;> rcases sgn_cases W with ⟨k, e2⟩ | ⟨k, e2⟩ | ⟨k, e2⟩ <;> rw [e2] at sw <;> (try (exact absurd sw (by decide)))
    · rw [if_pos (by omega), if_neg (by omega), if_neg (by decide)]
      rcases sgn_cases (f * u) with ⟨k2, e3⟩ | ⟨k2, e3⟩ | ⟨k2, e3⟩
      · rw [e3, if_pos (by decide)]
      · omega
      · rw [e3, if_pos (by decide)]
    · rw [if_neg (by omega), if_neg (by decide)]
      rcases sgn_cases (f * u) with ⟨k2, e3⟩ | ⟨k2, e3⟩ | ⟨k2, e3⟩
      · rw [e3, if_neg (by decide)]
        omega
      · omega
      · rw [e3, if_pos (by decide)]
        have : S = 0 := sz.mpr k2
        rw [this, Int.sub_zero, sgn_pos (Int.mul_pos_of_neg_of_neg k k)]
    · rw [if_pos (by omega), if_pos rfl]
      rcases sgn_cases (f * u) with ⟨k2, e3⟩ | ⟨k2, e3⟩ | ⟨k2, e3⟩
      · rw [e3, if_neg (fun z => by have := sz.mp z.2; omega)]
      · omega
      · rw [e3, if_pos ⟨k, sz.mpr k2⟩]
end My
set_option exponentiation.threshold 100000
namespace My
open PySem PySem.Spec PyProof.Rows L2
local macro_rules | `(tactic| walk_at "dl") => `(tactic| simp only [startD, List.map_cons, List.map_nil, List.length_cons, List.length_nil, List.cons_append, List.nil_append, List.replicate_succ, List.replicate_zero, List.getElem?_cons_zero, List.getElem?_cons_succ, List.set_cons_zero, List.set_cons_succ,
  dVar, rdS, dC, dNew, dOp, onB, qB, dChain, qAnd, qOr, qNot, qTru, truD, dIf, dAnd, dOr, dNot, dUn, ddNeg, lNil, lCons, dTup, nLst, ddI, ddI0, ddAdd, isNonD, isBlD, ddIsN, ddIsB, ddIx_t0, ddIx_t1, ddIx_t2, ddIx_t3, ddIx_l0, ddIx_l1, ddIx_l2, dCB, ddLen, ddInt1, ddAbs, ddMM, ddTuple, nCB, nnList, ddIsi, dCall,
  sSkip, sSeq, sBreak, sCont, sExpr, sRet, sRetN, sIf, sNever, gdName, gdNil, gdCons, gdTup, sAsg, sSetN, sPar, sRaise, sFrz, owS, sApp, sIns, dLenO, dIxO, sTry, sFor, iL, iT, onL, onT, iR1, iR2, nComp, qYes,
  ddEq_ii, ddEq_ss, ddEq_bb, Bool.false_bne, Bool.true_bne, List.append_nil, true_and, and_true, if_true, if_false, Bool.not_true, Bool.not_false, Bool.true_eq_false, Bool.false_eq_true, ite_true, ite_false, id_eq])

local macro_rules | `(tactic| walk_at "is") => `(tactic| simp only [plain_non, isIn_non_int, isIn_non_str, isIn_non_bool, isIn_non_list, isIn_non_tuple, isIn_non_dict, plain_bl, isIn_bl_int, isIn_bl_str, isIn_bl_bool, isIn_bl_list, isIn_bl_tuple, isIn_bl_dict, plain_int, isIn_int_int, isIn_int_str, isIn_int_bool, isIn_int_list, isIn_int_tuple, isIn_int_dict, plain_str, isIn_str_int, isIn_str_str, isIn_str_bool, isIn_str_list, isIn_str_tuple, isIn_str_dict, plain_tup, isIn_tup_int, isIn_tup_str, isIn_tup_bool, isIn_tup_list, isIn_tup_tuple, isIn_tup_dict, plain_lst, isIn_lst_int, isIn_lst_str, isIn_lst_bool, isIn_lst_list, isIn_lst_tuple, isIn_lst_dict, sl0, sl1, sl2, sl3, sl4, decide_true, decide_false, ddIsi, ddIsi2, true_and, if_true, if_false, Bool.false_eq_true, Bool.not_true, Bool.not_false, Bool.or_true, Bool.or_false, Bool.true_or, and_true])
local macro_rules | `(tactic| walk_at "wk") => `(tactic| ((try walk_at "dl"); (try walk_at "is"); (try walk_at "dl")))

/-! ### root, root_sign -/
noncomputable def rootD (a b : Int) : D := if a < 0 then .non else if rt a.toNat * rt a.toNat = a.toNat ∧ rt b.toNat * rt b.toNat = b.toNat then ratD (rt a.toNat) (rt b.toNat) else .non
/-- what a triple of root_sign may be: sizes -/
def SzR (n : Nat) (d : D) : Prop := Pl d ∧ Bt d ∧ (isRat d = true → RatN n d)
theorem Dig.rb {n : Nat} {x : Int} (h : Dig n x) (l : n ≤ 4500) : Rb x.toNat := by
  unfold Rb
  by_cases c : x.toNat = 0
  · rw [c]
    decide
  · refine (Nat.log2_lt c).mpr ?_
    have : x.toNat < 10 ^ 4500 := Nat.lt_of_lt_of_le (by unfold Dig at h; omega) (Nat.pow_le_pow_right (by decide) l)
    exact Nat.lt_trans this (by decide +kernel)
theorem Dig.mul {n m : Nat} {x y : Int} (hx : Dig n x) (hy : Dig m y) : Dig (n + m) (x * y) := by
  unfold Dig
  rw [Int.natAbs_mul, Nat.pow_add]
  exact Nat.mul_lt_mul'' hx hy
theorem Dig.log {n : Nat} {x : Int} (h : Dig n x) : x.natAbs.log2 ≤ 4 * n := by
  by_cases c : x.natAbs = 0
  · rw [c]
    exact Nat.zero_le _
  · have : x.natAbs < 2 ^ (4 * n + 1) := by
      refine Nat.lt_of_lt_of_le h ?_
      refine Nat.le_trans (Nat.pow_le_pow_left (show 10 ≤ 2 ^ 4 by decide) n) ?_
      rw [← Nat.pow_mul]
      exact Nat.pow_le_pow_right (by decide) (by omega)
    have := (Nat.log2_lt c).mpr this
    omega
theorem Dig.cm {n m : Nat} {x y : Int} (hx : Dig n x) (hy : Dig m y) (l : n + m ≤ 100000) : CMulW x y := by
  unfold CMulW
  have := hx.log
  have := hy.log
  omega
section
variable {K : PySem.W.Frag} {mg : Str → Option Value} (T : Txt K mg)
def nrX (d : D) : XD := ⟨T.cNegativeRoot.C, ["subject"], [d]⟩
def m_root : DF := fun ds Q E => match ds with
  | [d] => SzR 1000 d ∧ (isRat d = false → E (wkX T "one")) ∧ ∀ a b, d = ratD a b → isRat d = true → Q (rootD a b)
  | _ => False
def m_root_sign : DF := fun ds Q E => match ds with
  | [p, f, u] => SzR 1000 p ∧ SzR 1000 f ∧ SzR 1000 u ∧ (isRat p = false → E (wkX T "plain")) ∧ (isRat p = true → isRat f = false → E (wkX T "factor")) ∧ (isRat p = true → isRat f = true → isRat u = false → E (wkX T "under")) ∧
    ∀ p1 p2 f1 f2 u1 u2, p = ratD p1 p2 → f = ratD f1 f2 → u = ratD u1 u2 → isRat p = true → isRat f = true → isRat u = true → (u1 < 0 → E (nrX T u)) ∧ (0 ≤ u1 → Q (.int (rsF p1 p2 f1 f2 u1 u2)))
  | _ => False
end
abbrev s_UnfitError_init : Stmt := inClass (topS 6) 0
abbrev N_UnfitError_init : List Str := ["self", "subject"]
abbrev P_UnfitError_init : List Str := ["self", "subject"]
theorem sc_UnfitError_init : FnScope N_UnfitError_init P_UnfitError_init (defScope s_UnfitError_init) := ⟨rfl, rfl, rfl, by decide +kernel, rfl, by decide +kernel, by decide +kernel⟩

abbrev s_root : Stmt := topS 34
abbrev N_root : List Str := ["one", "top", "bottom", "above", "below"]
abbrev P_root : List Str := ["one"]
theorem sc_root : FnScope N_root P_root (defScope s_root) := ⟨rfl, rfl, rfl, by decide +kernel, rfl, by decide +kernel, by decide +kernel⟩

abbrev s_root_sign : Stmt := topS 35
abbrev N_root_sign : List Str := ["plain", "factor", "under", "first", "second", "left", "right"]
abbrev P_root_sign : List Str := ["plain", "factor", "under"]
theorem sc_root_sign : FnScope N_root_sign P_root_sign (defScope s_root_sign) := ⟨rfl, rfl, rfl, by decide +kernel, rfl, by decide +kernel, by decide +kernel⟩

section
variable {P : Program} {w : World} {K : PySem.W.Frag} {mg : Str → Option Value} {base : Heap}
theorem ok_iSub {c : Str} {C : Addr} {mg : Str → Option Value} (I : Mi K C "UnfitError.__init__" (inClass (topS 6) 0) ["self", "subject"] [.non]) : FnOk P w K mg base CX0 1 I.f I.fd P_UnfitError_init (spIni K C ["subject"] 1 (mk1 "subject")) :=
  I.ok1 sc_UnfitError_init fun cdv A outer s H E => pss_one (ps_ost (pv 0) (pv 1))
theorem ok_root (T : Txt K mg) : FnOk P w K mg base (L2N.CX P w) 5 T.droot.f T.droot.fd P_root (spD K 1 (m_root T)) := by
  have G_need_ratio : FnOk P w K mg base (L2N.CX P w) 4 T.dneed_ratio.f T.dneed_ratio.fd P_need_ratio (spD K 2 (m_need_ratio T)) := ok_need_ratio T
  have G_floor_root : FnOk P w K mg base (L2N.CX P w) 1 T.dfloor_root.f T.dfloor_root.fd P_floor_root (spD K 1 m_floor_root) := ok_floor_root T
  refine T.droot.okD sc_root fun cdv A outer s H E so A0 hr tk hp => ⟨_, (pds_cons (pds_expr (pd_call G_need_ratio (hr.mono (by omega)) (by rfl) T.dneed_ratio.g T.dneed_ratio.F.kp T.dneed_ratio.b (fun σ => L2N.passAt tk σ) (pda_cons (pd_var (pv 0)) (pda_cons pd_str pda_nil))))
      (pds_cons (pds_asg (pd_var (pv 0)) (pdg_tup (n := 2) rfl (pdgs_cons (pdg_name (pg_name (i := 1) sc_root.nd rfl (by first | exact .inl rfl | exact .inr rfl))) (pdgs_cons (pdg_name (pg_name (i := 2) sc_root.nd rfl (by first | exact .inl rfl | exact .inr rfl))) pdgs_nil))))
      (pds_cons (pds_if (pdt_cmp op_lt ol_lt (pd_var (pv 1)) pd_int (nomark _))
        (pds_one (pds_ret pd_non))
        pds_nil)
      (pds_cons (pds_par (i := 3) (j := 4) (by rfl) sc_root.nd rfl rfl (by decide) rfl rfl (pda_cons (pd_call G_floor_root (hr.mono (by omega)) (by rfl) T.dfloor_root.g T.dfloor_root.F.kp T.dfloor_root.b (fun σ => L2N.passAt tk σ) (pda_cons (pd_var (pv 1)) pda_nil)) (pda_cons (pd_call G_floor_root (hr.mono (by omega)) (by rfl) T.dfloor_root.g T.dfloor_root.F.kp T.dfloor_root.b (fun σ => L2N.passAt tk σ) (pda_cons (pd_var (pv 2)) pda_nil)) pda_nil)) (by rfl))
      (pds_cons (pds_if (PDW.t (pdw_or (pdt_cmp (oo_ne hr.units) ol_ne (pd_op op_mulW ol_mul (pd_var (pv 3)) (pd_var (pv 3))) (pd_var (pv 1)) (nomark _)) (pdw_or1 (pdt_cmp (oo_ne hr.units) ol_ne (pd_op op_mulW ol_mul (pd_var (pv 4)) (pd_var (pv 4))) (pd_var (pv 2)) (nomark _)))))
        (pds_one (pds_ret pd_non))
        pds_nil)
      (pds_one (pds_ret (pd_tup (pda_cons (pd_var (pv 3)) (pda_cons (pd_var (pv 4)) pda_nil)))))))))), fun ds Q E hl h => ?_⟩
  match ds, hl with
  | [d], _ =>
    obtain ⟨⟨p, bt, sz⟩, h0, h1⟩ := h
    walk_at "wk"
    refine ⟨p, h0, fun hR => ?_⟩
    obtain ⟨a, b, rfl, r, da, db⟩ := sz hR
    obtain ⟨_, _, e, hb, hg⟩ := rat_shape r
    cases e
    have h := h1 a b rfl hR
    unfold rootD at h
    simp only [ratD]
    walk_at "wk"
    by_cases ha : a < 0
    · rw [if_pos ha] at h
      rw [if_pos (decide_eq_true ha)]
      exact h
    rw [if_neg ha] at h
    rw [if_neg (by rw [decide_eq_true_iff]; exact ha)]
    obtain ⟨n, rfl⟩ : ∃ n : Nat, a = n := ⟨a.toNat, by omega⟩
    obtain ⟨m, rfl⟩ : ∃ m : Nat, b = m := ⟨b.toNat, by omega⟩
    refine ⟨by omega, da.rb (by decide), fun x hx => ⟨by omega, db.rb (by decide), fun y hy => ?_⟩⟩
    rw [Int.toNat_natCast] at hx hy
    rw [Int.toNat_natCast, Int.toNat_natCast, rt_eq hx, rt_eq hy] at h
    have dx : Dig 1000 (x : Int) := by
      have := hx.1
      have := Nat.le_mul_self x
      unfold Dig at da ⊢
      rw [Int.natAbs_natCast] at da ⊢
      omega
    have dy : Dig 1000 (y : Int) := by
      have := hy.1
      have := Nat.le_mul_self y
      unfold Dig at db ⊢
      rw [Int.natAbs_natCast] at db ⊢
      omega
    refine ⟨dx.cm dx (by decide), ?_⟩
    have cx : ((x : Int) * (x : Int) = (n : Int)) ↔ x * x = n := by
      rw [← Int.natCast_mul]
      omega
    have cy : ((y : Int) * (y : Int) = (m : Int)) ↔ y * y = m := by
      rw [← Int.natCast_mul]
      omega
    by_cases c1 : x * x = n
    · rw [if_neg (by rw [decide_eq_true (cx.mpr c1)]; decide)]
      refine ⟨dy.cm dy (by decide), ?_⟩
      by_cases c2 : y * y = m
      · rw [if_neg (by rw [decide_eq_true (cy.mpr c2)]; decide)]
        rw [if_pos ⟨c1, c2⟩] at h
        exact h
      · rw [if_pos (by rw [decide_eq_false (fun z => c2 (cy.mp z))]; decide)]
        rw [if_neg (fun z => c2 z.2)] at h
        exact h
    · rw [if_pos (by rw [decide_eq_false (fun z => c1 (cx.mp z))]; decide)]
      rw [if_neg (fun z => c1 z.1)] at h
      exact h
theorem ok_root_sign (T : Txt K mg) : FnOk P w K mg base (L2N.CX P w) 5 T.droot_sign.f T.droot_sign.fd P_root_sign (spD K 3 (m_root_sign T)) := by
  have G_need_ratio : FnOk P w K mg base (L2N.CX P w) 4 T.dneed_ratio.f T.dneed_ratio.fd P_need_ratio (spD K 2 (m_need_ratio T)) := ok_need_ratio T
  have G_sign_of : FnOk P w K mg base (L2N.CX P w) 1 T.dsign_of.f T.dsign_of.fd P_sign_of (spD K 1 m_sign_of) := ok_sign_of T
  have I_NegativeRoot := ok_iSub (P := P) (w := w) (base := base) (mg := mg) (c := "NegativeRoot") T.iNegativeRoot
  refine T.droot_sign.okD sc_root_sign fun cdv A outer s H E so A0 hr tk hp => ⟨_, (pds_cons (pds_expr (pd_call G_need_ratio (hr.mono (by omega)) (by rfl) T.dneed_ratio.g T.dneed_ratio.F.kp T.dneed_ratio.b (fun σ => L2N.passAt tk σ) (pda_cons (pd_var (pv 0)) (pda_cons pd_str pda_nil))))
      (pds_cons (pds_expr (pd_call G_need_ratio (hr.mono (by omega)) (by rfl) T.dneed_ratio.g T.dneed_ratio.F.kp T.dneed_ratio.b (fun σ => L2N.passAt tk σ) (pda_cons (pd_var (pv 1)) (pda_cons pd_str pda_nil))))
      (pds_cons (pds_expr (pd_call G_need_ratio (hr.mono (by omega)) (by rfl) T.dneed_ratio.g T.dneed_ratio.F.kp T.dneed_ratio.b (fun σ => L2N.passAt tk σ) (pda_cons (pd_var (pv 2)) (pda_cons pd_str pda_nil))))
      (pds_cons (pds_if (pdt_cmp op_lt ol_lt (pd_ix ix_seq ol_ix (pd_var (pv 2)) pd_int (fun _ _ => rfl)) pd_int (nomark _))
        (pds_one (pds_raise T.zNegativeRoot rfl tk T.iNegativeRoot.i T.iNegativeRoot.t I_NegativeRoot (hr.mono (by omega)) T.iNegativeRoot.b .nil (dd := []) (fun _ _ => rfl) rfl T.cNegativeRoot.g (pda_cons (pd_var (pv 2)) pda_nil)))
        pds_nil)
      (pds_cons (pds_set (i := 3) sc_root_sign.nd rfl (by first | exact .inl rfl | exact .inr rfl) (pd_call G_sign_of (hr.mono (by omega)) (by rfl) T.dsign_of.g T.dsign_of.F.kp T.dsign_of.b (fun σ => L2N.passAt tk σ) (pda_cons (pd_ix ix_seq ol_ix (pd_var (pv 0)) pd_int (fun _ _ => rfl)) pda_nil)))
      (pds_cons (pds_set (i := 4) sc_root_sign.nd rfl (by first | exact .inl rfl | exact .inr rfl) (pd_call G_sign_of (hr.mono (by omega)) (by rfl) T.dsign_of.g T.dsign_of.F.kp T.dsign_of.b (fun σ => L2N.passAt tk σ) (pda_cons (pd_op op_mulW ol_mul (pd_ix ix_seq ol_ix (pd_var (pv 1)) pd_int (fun _ _ => rfl)) (pd_ix ix_seq ol_ix (pd_var (pv 2)) pd_int (fun _ _ => rfl))) pda_nil)))
      (pds_cons (pds_if (pdt_cmp (oo_eq hr.units) ol_eq (pd_var (pv 3)) pd_int (nomark _))
        (pds_one (pds_ret (pd_var (pv 4))))
        pds_nil)
      (pds_cons (pds_if (PDW.t (pdw_or (pdt_cmp (oo_eq hr.units) ol_eq (pd_var (pv 4)) pd_int (nomark _)) (pdw_or1 (pdt_cmp (oo_eq hr.units) ol_eq (pd_var (pv 4)) (pd_var (pv 3)) (nomark _)))))
        (pds_one (pds_ret (pd_var (pv 3))))
        pds_nil)
      (pds_cons (pds_set (i := 5) sc_root_sign.nd rfl (by first | exact .inl rfl | exact .inr rfl) (pd_op op_mulW ol_mul (pd_op op_mulW ol_mul (pd_op op_mulW ol_mul (pd_op op_mulW ol_mul (pd_ix ix_seq ol_ix (pd_var (pv 0)) pd_int (fun _ _ => rfl)) (pd_ix ix_seq ol_ix (pd_var (pv 0)) pd_int (fun _ _ => rfl))) (pd_ix ix_seq ol_ix (pd_var (pv 1)) pd_int (fun _ _ => rfl))) (pd_ix ix_seq ol_ix (pd_var (pv 1)) pd_int (fun _ _ => rfl))) (pd_ix ix_seq ol_ix (pd_var (pv 2)) pd_int (fun _ _ => rfl))))
      (pds_cons (pds_set (i := 6) sc_root_sign.nd rfl (by first | exact .inl rfl | exact .inr rfl) (pd_op op_mulW ol_mul (pd_op op_mulW ol_mul (pd_op op_mulW ol_mul (pd_op op_mulW ol_mul (pd_ix ix_seq ol_ix (pd_var (pv 1)) pd_int (fun _ _ => rfl)) (pd_ix ix_seq ol_ix (pd_var (pv 1)) pd_int (fun _ _ => rfl))) (pd_ix ix_seq ol_ix (pd_var (pv 2)) pd_int (fun _ _ => rfl))) (pd_ix ix_seq ol_ix (pd_var (pv 0)) pd_int (fun _ _ => rfl))) (pd_ix ix_seq ol_ix (pd_var (pv 0)) pd_int (fun _ _ => rfl))))
      (pds_one (pds_ret (pd_op op_mulW ol_mul (pd_var (pv 3)) (pd_call G_sign_of (hr.mono (by omega)) (by rfl) T.dsign_of.g T.dsign_of.F.kp T.dsign_of.b (fun σ => L2N.passAt tk σ) (pda_cons (pd_op op_sub ol_sub (pd_var (pv 5)) (pd_var (pv 6))) pda_nil))))))))))))))), fun ds Q E hl h => ?_⟩
  match ds, hl with
  | [p, f, u], _ =>
    obtain ⟨⟨pp, pb, ps⟩, ⟨fp, fb, fs⟩, ⟨up, ub, us⟩, h0, h1, h2, h3⟩ := h
    walk_at "wk"
    refine ⟨pp, h0, fun hp => ⟨fp, h1 hp, fun hf => ⟨up, h2 hp hf, fun hu => ?_⟩⟩⟩
    obtain ⟨p1, p2, rfl, r1, dp1, dp2⟩ := ps hp
    obtain ⟨f1, f2, rfl, r2, df1, df2⟩ := fs hf
    obtain ⟨u1, u2, rfl, r3, du1, du2⟩ := us hu
    obtain ⟨k0, k1⟩ := h3 p1 p2 f1 f2 u1 u2 rfl rfl rfl hp hf hu
    simp only [ratD, m_sign_of]
    walk_at "wk"
    by_cases hu0 : u1 < 0
    · rw [if_pos (decide_eq_true hu0)]
      exact ⟨by decide, k0 hu0⟩
    rw [if_neg (by rw [decide_eq_true_iff]; exact hu0)]
    have k := k1 (by omega)
    unfold rsF at k
    refine ⟨df1.cm du1 (by decide), ?_⟩
    by_cases c0 : sgn p1 = 0
    · rw [if_pos (decide_eq_true c0)]
      rw [if_pos c0] at k
      exact k
    rw [if_neg (by rw [decide_eq_true_iff]; exact c0)]
    rw [if_neg c0] at k
    by_cases c1 : sgn (f1 * u1) = 0
    · rw [if_pos (decide_eq_true c1)]
      rw [if_pos (.inl c1)] at k
      exact k
    rw [if_neg (by rw [decide_eq_true_iff]; exact c1)]
    by_cases c2 : sgn (f1 * u1) = sgn p1
    · rw [if_pos (decide_eq_true c2)]
      rw [if_pos (.inr c2)] at k
      exact k
    rw [if_neg (by rw [decide_eq_true_iff]; exact c2)]
    rw [if_neg (fun z => z.elim c1 c2)] at k
    have a1 := dp1.mul dp1
    have a2 := a1.mul df2
    have a3 := a2.mul df2
    have b1 := df1.mul df1
    have b2 := b1.mul du1
    have b3 := b2.mul dp2
    have sm : ∀ i j : Int, CMulW (sgn i) (sgn j) := fun i j => by
      have d : ∀ i : Int, Dig 1 (sgn i) := fun i => by
        unfold Dig
        rcases sgn_cases i with ⟨_, e⟩ | ⟨_, e⟩ | ⟨_, e⟩ <;> rw [e] <;> decide
      exact (d i).cm (d j) (by decide)
    refine ⟨dp1.cm dp1 (by decide), a1.cm df2 (by decide), a2.cm df2 (by decide), a3.cm du2 (by decide), df1.cm df1 (by decide), b1.cm du1 (by decide), b2.cm dp2 (by decide), b3.cm dp2 (by decide), sm _ _, k⟩
end
end My
set_option exponentiation.threshold 100000
namespace My
open PySem PySem.Spec PyProof.Rows L2
local macro_rules | `(tactic| walk_at "dl") => `(tactic| simp only [startD, List.map_cons, List.map_nil, List.length_cons, List.length_nil, List.cons_append, List.nil_append, List.replicate_succ, List.replicate_zero, List.getElem?_cons_zero, List.getElem?_cons_succ, List.set_cons_zero, List.set_cons_succ,
  dVar, rdS, dC, dNew, dOp, onB, qB, dChain, qAnd, qOr, qNot, qTru, truD, dIf, dAnd, dOr, dNot, dUn, ddNeg, lNil, lCons, dTup, nLst, ddI, ddI0, ddAdd, isNonD, isBlD, ddIsN, ddIsB, ddIx_t0, ddIx_t1, ddIx_t2, ddIx_t3, ddIx_l0, ddIx_l1, ddIx_l2, dCB, ddLen, ddInt1, ddAbs, ddMM, ddTuple, nCB, nnList, ddIsi, dCall,
  sSkip, sSeq, sBreak, sCont, sExpr, sRet, sRetN, sIf, sNever, gdName, gdNil, gdCons, gdTup, sAsg, sSetN, sPar, sRaise, sFrz, owS, sApp, sIns, dLenO, dIxO, sTry, sFor, iL, iT, onL, onT, iR1, iR2, nComp, qYes,
  ddEq_ii, ddEq_ss, ddEq_bb, Bool.false_bne, Bool.true_bne, List.append_nil, true_and, and_true, if_true, if_false, Bool.not_true, Bool.not_false, Bool.true_eq_false, Bool.false_eq_true, ite_true, ite_false, id_eq])

local macro_rules | `(tactic| walk_at "is") => `(tactic| simp only [plain_non, isIn_non_int, isIn_non_str, isIn_non_bool, isIn_non_list, isIn_non_tuple, isIn_non_dict, plain_bl, isIn_bl_int, isIn_bl_str, isIn_bl_bool, isIn_bl_list, isIn_bl_tuple, isIn_bl_dict, plain_int, isIn_int_int, isIn_int_str, isIn_int_bool, isIn_int_list, isIn_int_tuple, isIn_int_dict, plain_str, isIn_str_int, isIn_str_str, isIn_str_bool, isIn_str_list, isIn_str_tuple, isIn_str_dict, plain_tup, isIn_tup_int, isIn_tup_str, isIn_tup_bool, isIn_tup_list, isIn_tup_tuple, isIn_tup_dict, plain_lst, isIn_lst_int, isIn_lst_str, isIn_lst_bool, isIn_lst_list, isIn_lst_tuple, isIn_lst_dict, sl0, sl1, sl2, sl3, sl4, decide_true, decide_false, ddIsi, ddIsi2, true_and, if_true, if_false, Bool.false_eq_true, Bool.not_true, Bool.not_false, Bool.or_true, Bool.or_false, Bool.true_or, and_true])
local macro_rules | `(tactic| walk_at "wk") => `(tactic| ((try walk_at "dl"); (try walk_at "is"); (try walk_at "dl")))

/-! ### the law's own roots and signs -/
def wkD (x : Str) : D := .tup [.str "WrongKind", .str x]
def m_times : DF := fun ds Q _ => match ds with
  | [.tup [.int a, .int b], .tup [.int c, .int d]] => Dig 1000 a ∧ Dig 1000 b ∧ Dig 1000 c ∧ Dig 1000 d ∧ b * d ≠ 0 ∧ Q (lowD (a * c, b * d))
  | _ => False
def m_lneg : DF := fun ds Q _ => match ds with
  | [.tup [.int a, .int b]] => Q (ratD (-a) b)
  | _ => False
def m_above : DF := fun ds Q _ => match ds with
  | [.int w, .int sq] => Dig 4500 sq ∧ Q (.int (abF w sq))
  | _ => False
def m_sign_due : DF := fun ds Q _ => match ds with
  | [.tup [.int p, .int q], .tup [.int f, .int g], .tup [.int u, .int v]] => Dig 881 p ∧ Dig 881 q ∧ Dig 440 f ∧ Dig 440 g ∧ Dig 881 u ∧ Dig 881 v ∧ Q (.int (duF p q f g u v))
  | _ => False
def m_is_root : DF := fun ds Q _ => match ds with
  | [.tup [.int a, .int b], told] => Dig 1000 a ∧ Dig 1000 b ∧ isRat (ratD a b) = true ∧ told = rootD a b ∧ Q (.bl true)
  | _ => False
/-- what the call of root_sign tells -/
noncomputable def rsD (p f u : D) : D :=
  if isRat p = false then wkD "plain" else if isRat f = false then wkD "factor" else if isRat u = false then wkD "under" else match p, f, u with
    | .tup [.int p1, .int p2], .tup [.int f1, .int f2], .tup [.int u1, .int u2] => if u1 < 0 then .tup [.str "NegativeRoot", ratD u1 u2] else .tup [.str "told", .int (rsF p1 p2 f1 f2 u1 u2)]
    | _, _, _ => .non
def m_sign_call_due : DF := fun ds Q _ => match ds with
  | [p, f, u] => SzR 881 p ∧ SzR 440 f ∧ SzR 881 u ∧ Q (rsD p f u)
  | _ => False
abbrev s_times : Stmt := topS 44
abbrev N_times : List Str := ["one", "two"]
abbrev P_times : List Str := ["one", "two"]
theorem sc_times : FnScope N_times P_times (defScope s_times) := ⟨rfl, rfl, rfl, by decide +kernel, rfl, by decide +kernel, by decide +kernel⟩

abbrev s_neg : Stmt := topS 45
abbrev N_neg : List Str := ["one"]
abbrev P_neg : List Str := ["one"]
theorem sc_neg : FnScope N_neg P_neg (defScope s_neg) := ⟨rfl, rfl, rfl, by decide +kernel, rfl, by decide +kernel, by decide +kernel⟩

abbrev s_above : Stmt := topS 55
abbrev N_above : List Str := ["whole", "square", "low"]
abbrev P_above : List Str := ["whole", "square"]
theorem sc_above : FnScope N_above P_above (defScope s_above) := ⟨rfl, rfl, rfl, by decide +kernel, rfl, by decide +kernel, by decide +kernel⟩

abbrev s_sign_due : Stmt := topS 56
abbrev N_sign_due : List Str := ["plain", "factor", "under", "whole", "square"]
abbrev P_sign_due : List Str := ["plain", "factor", "under"]
theorem sc_sign_due : FnScope N_sign_due P_sign_due (defScope s_sign_due) := ⟨rfl, rfl, rfl, by decide +kernel, rfl, by decide +kernel, by decide +kernel⟩

abbrev s_is_root : Stmt := topS 57
abbrev N_is_root : List Str := ["one", "told", "up", "down"]
abbrev P_is_root : List Str := ["one", "told"]
theorem sc_is_root : FnScope N_is_root P_is_root (defScope s_is_root) := ⟨rfl, rfl, rfl, by decide +kernel, rfl, by decide +kernel, by decide +kernel⟩

abbrev s_sign_call_due : Stmt := topS 61
abbrev N_sign_call_due : List Str := ["plain", "factor", "under"]
abbrev P_sign_call_due : List Str := ["plain", "factor", "under"]
theorem sc_sign_call_due : FnScope N_sign_call_due P_sign_call_due (defScope s_sign_call_due) := ⟨rfl, rfl, rfl, by decide +kernel, rfl, by decide +kernel, by decide +kernel⟩

theorem Dig.neg {n : Nat} {x : Int} (h : Dig n x) : Dig n (-x) := by
  unfold Dig
  rw [Int.natAbs_neg]
  exact h
section
variable {P : Program} {w : World} {K : PySem.W.Frag} {mg : Str → Option Value} {base : Heap}
theorem ok_times (T : Txt K mg) : FnOk P w K mg base (L2N.CX P w) 2 T.dtimes.f T.dtimes.fd P_times (spD K 2 m_times) := by
  have G_low : FnOk P w K mg base (L2N.CX P w) 1 T.dlow.f T.dlow.fd P_low (spD K 2 m_low) := ok_low T
  refine T.dtimes.okD sc_times fun cdv A outer s H E so A0 hr tk hp => ⟨_, (pds_one (pds_ret (pd_call G_low (hr.mono (by omega)) (by rfl) T.dlow.g T.dlow.F.kp T.dlow.b (fun σ => L2N.passAt tk σ) (pda_cons (pd_op op_mulW ol_mul (pd_ix ix_seq ol_ix (pd_var (pv 0)) pd_int (fun _ _ => rfl)) (pd_ix ix_seq ol_ix (pd_var (pv 1)) pd_int (fun _ _ => rfl))) (pda_cons (pd_op op_mulW ol_mul (pd_ix ix_seq ol_ix (pd_var (pv 0)) pd_int (fun _ _ => rfl)) (pd_ix ix_seq ol_ix (pd_var (pv 1)) pd_int (fun _ _ => rfl))) pda_nil))))), fun ds Q E hl h => ?_⟩
  unfold m_times at h
  split at h
  · rename_i a b c d
    obtain ⟨ha, hb, hc, hd, n0, q⟩ := h
    walk_at "wk"
    simp only [m_low]
    refine ⟨ha.cm hc (by decide), hb.cm hd (by decide), ?_, ?_⟩
    · exact Nat.lt_of_le_of_lt (hb.mul hd).log (by decide)
    · rw [if_neg n0]
      exact q
  · exact h.elim
theorem ok_lneg (T : Txt K mg) : FnOk P w K mg base (L2N.CX P w) 1 T.dneg.f T.dneg.fd P_neg (spD K 1 m_lneg) := by
  refine T.dneg.okD sc_neg fun cdv A outer s H E so A0 hr tk hp => ⟨_, (pds_one (pds_ret (pd_tup (pda_cons (pd_neg (pd_ix ix_seq ol_ix (pd_var (pv 0)) pd_int (fun _ _ => rfl))) (pda_cons (pd_ix ix_seq ol_ix (pd_var (pv 0)) pd_int (fun _ _ => rfl)) pda_nil))))), fun ds Q E hl h => ?_⟩
  unfold m_lneg at h
  split at h
  · walk_at "wk"
    exact h
  · exact h.elim
theorem ok_above (T : Txt K mg) : FnOk P w K mg base (L2N.CX P w) 2 T.dabove.f T.dabove.fd P_above (spD K 2 m_above) := by
  have G_lfloor_root : FnOk P w K mg base (L2N.CX P w) 1 T.dlfloor_root.f T.dlfloor_root.fd P_lfloor_root (spD K 1 m_lfloor_root) := ok_lfloor_root T
  refine T.dabove.okD sc_above fun cdv A outer s H E so A0 hr tk hp => ⟨_, (pds_cons (pds_set (i := 2) sc_above.nd rfl (by first | exact .inl rfl | exact .inr rfl) (pd_call G_lfloor_root (hr.mono (by omega)) (by rfl) T.dlfloor_root.g T.dlfloor_root.F.kp T.dlfloor_root.b (fun σ => L2N.passAt tk σ) (pda_cons (pd_var (pv 1)) pda_nil)))
      (pds_cons (pds_if (pdt_cmp op_gt ol_gt (pd_op oo_add ol_add (pd_var (pv 0)) (pd_var (pv 2))) pd_int (nomark _))
        (pds_one (pds_ret pd_int))
        pds_nil)
      (pds_cons (pds_if (pdt_cmp op_lt ol_lt (pd_op oo_add ol_add (pd_var (pv 0)) (pd_var (pv 2))) pd_int (nomark _))
        (pds_one (pds_ret (pd_neg pd_int)))
        pds_nil)
      (pds_one (pds_ret (pd_callTy c_int1 cl_int1 (by rfl) T.m_int bt_int (pda_cons (pd_cmp op_lt ol_lt (pd_op op_mulW ol_mul (pd_var (pv 2)) (pd_var (pv 2))) (pd_var (pv 1)) (nomark _)) pda_nil))))))), fun ds Q E hl h => ?_⟩
  unfold m_above at h
  split at h
  · rename_i x sq
    obtain ⟨hs, q⟩ := h
    walk_at "wk"
    simp only [m_lfloor_root]
    refine ⟨hs.rb (by decide), fun r h1 => ?_⟩
    walk_at "wk"
    have e := rt_eq h1
    unfold abF at q
    rw [e] at q
    by_cases c1 : 0 < x + (r : Int)
    · rw [if_pos c1] at q
      rw [if_pos (decide_eq_true c1)]
      exact q
    rw [if_neg c1] at q
    rw [if_neg (by rw [decide_eq_true_iff]; exact c1)]
    by_cases c2 : x + (r : Int) < 0
    · rw [if_pos c2] at q
      rw [if_pos (decide_eq_true c2)]
      exact q
    rw [if_neg c2] at q
    rw [if_neg (by rw [decide_eq_true_iff]; exact c2)]
    have dr : Dig 4500 (r : Int) := by
      have := h1.1
      have := Nat.le_mul_self r
      unfold Dig at hs ⊢
      rw [Int.natAbs_natCast]
      omega
    refine ⟨dr.cm dr (by decide), ?_⟩
    by_cases c3 : (r : Int) * (r : Int) < sq
    · rw [if_pos c3] at q
      rw [if_pos (decide_eq_true c3)]
      exact q
    · rw [if_neg c3] at q
      rw [if_neg (by rw [decide_eq_true_iff]; exact c3)]
      exact q
  · exact h.elim
theorem ok_sign_due (T : Txt K mg) : FnOk P w K mg base (L2N.CX P w) 3 T.dsign_due.f T.dsign_due.fd P_sign_due (spD K 3 m_sign_due) := by
  have G_above : FnOk P w K mg base (L2N.CX P w) 2 T.dabove.f T.dabove.fd P_above (spD K 2 m_above) := ok_above T
  refine T.dsign_due.okD sc_sign_due fun cdv A outer s H E so A0 hr tk hp => ⟨_, (pds_cons (pds_set (i := 3) sc_sign_due.nd rfl (by first | exact .inl rfl | exact .inr rfl) (pd_op op_mulW ol_mul (pd_op op_mulW ol_mul (pd_ix ix_seq ol_ix (pd_var (pv 0)) pd_int (fun _ _ => rfl)) (pd_ix ix_seq ol_ix (pd_var (pv 1)) pd_int (fun _ _ => rfl))) (pd_ix ix_seq ol_ix (pd_var (pv 2)) pd_int (fun _ _ => rfl))))
      (pds_cons (pds_set (i := 4) sc_sign_due.nd rfl (by first | exact .inl rfl | exact .inr rfl) (pd_op op_mulW ol_mul (pd_op op_mulW ol_mul (pd_op op_powW ol_powW (pd_op op_mulW ol_mul (pd_ix ix_seq ol_ix (pd_var (pv 1)) pd_int (fun _ _ => rfl)) (pd_ix ix_seq ol_ix (pd_var (pv 0)) pd_int (fun _ _ => rfl))) pd_int) (pd_ix ix_seq ol_ix (pd_var (pv 2)) pd_int (fun _ _ => rfl))) (pd_ix ix_seq ol_ix (pd_var (pv 2)) pd_int (fun _ _ => rfl))))
      (pds_cons (pds_if (pdt_cmp op_lt ol_lt (pd_ix ix_seq ol_ix (pd_var (pv 1)) pd_int (fun _ _ => rfl)) pd_int (nomark _))
        (pds_one (pds_ret (pd_neg (pd_call G_above (hr.mono (by omega)) (by rfl) T.dabove.g T.dabove.F.kp T.dabove.b (fun σ => L2N.passAt tk σ) (pda_cons (pd_neg (pd_var (pv 3))) (pda_cons (pd_var (pv 4)) pda_nil))))))
        pds_nil)
      (pds_one (pds_ret (pd_call G_above (hr.mono (by omega)) (by rfl) T.dabove.g T.dabove.F.kp T.dabove.b (fun σ => L2N.passAt tk σ) (pda_cons (pd_var (pv 3)) (pda_cons (pd_var (pv 4)) pda_nil)))))))), fun ds Q E hl h => ?_⟩
  unfold m_sign_due at h
  split at h
  · rename_i p q f g u v
    obtain ⟨h1, h2, h3, h4, h5, h6, k⟩ := h
    walk_at "wk"
    have b1 := h3.mul h2
    have e2 : (f * q) ^ Int.toNat 2 = (f * q) * (f * q) := by
      show (f * q) ^ 2 = _
      rw [Int.pow_succ, Int.pow_succ, Int.pow_zero, Int.one_mul]
    have b2 : Dig 2642 ((f * q) ^ Int.toNat 2) := by
      rw [e2]
      exact b1.mul b1
    have b3 := b2.mul h5
    have b4 : Dig 4500 ((f * q) ^ Int.toNat 2 * u * v) := (b3.mul h6).up (by decide)
    have a1 := h1.mul h4
    have pw : CPowW (f * q) 2 := by
      refine ⟨by decide, ?_⟩
      have : Builtin.Int.intBits (f * q) ≤ (f * q).natAbs.log2 + 1 := by
        unfold Builtin.Int.intBits
        split <;> omega
      have := b1.log
      rw [show (2 : Int) ^ 27 = 134217728 by decide]
      omega
    refine ⟨h1.cm h4 (by decide), a1.cm h6 (by decide), h3.cm h2 (by decide), pw, b2.cm h5 (by decide), b3.cm h6 (by decide), ?_⟩
    simp only [m_above]
    unfold duF at k
    by_cases c : f < 0
    · rw [if_pos c] at k
      rw [if_pos (decide_eq_true c)]
      exact ⟨b4, k⟩
    · rw [if_neg c] at k
      rw [if_neg (by rw [decide_eq_true_iff]; exact c)]
      exact ⟨b4, k⟩
  · exact h.elim
theorem ok_is_root (T : Txt K mg) : FnOk P w K mg base (L2N.CX P w) 3 T.dis_root.f T.dis_root.fd P_is_root (spD K 2 m_is_root) := by
  have G_lfloor_root : FnOk P w K mg base (L2N.CX P w) 1 T.dlfloor_root.f T.dlfloor_root.fd P_lfloor_root (spD K 1 m_lfloor_root) := ok_lfloor_root T
  have G_lis_ratio : FnOk P w K mg base (L2N.CX P w) 2 T.dlis_ratio.f T.dlis_ratio.fd P_lis_ratio (spD K 1 m_lis_ratio) := ok_lis_ratio T
  have G_times : FnOk P w K mg base (L2N.CX P w) 2 T.dtimes.f T.dtimes.fd P_times (spD K 2 m_times) := ok_times T
  refine T.dis_root.okD sc_is_root fun cdv A outer s H E so A0 hr tk hp => ⟨_, (pds_cons (pds_set (i := 2) sc_is_root.nd rfl (by first | exact .inl rfl | exact .inr rfl) (pd_call G_lfloor_root (hr.mono (by omega)) (by rfl) T.dlfloor_root.g T.dlfloor_root.F.kp T.dlfloor_root.b (fun σ => L2N.passAt tk σ) (pda_cons (pd_ix ix_seq ol_ix (pd_var (pv 0)) pd_int (fun _ _ => rfl)) pda_nil)))
      (pds_cons (pds_set (i := 3) sc_is_root.nd rfl (by first | exact .inl rfl | exact .inr rfl) (pd_call G_lfloor_root (hr.mono (by omega)) (by rfl) T.dlfloor_root.g T.dlfloor_root.F.kp T.dlfloor_root.b (fun σ => L2N.passAt tk σ) (pda_cons (pd_ix ix_seq ol_ix (pd_var (pv 0)) pd_int (fun _ _ => rfl)) pda_nil)))
      (pds_cons (pds_if (PDW.t (pdw_or (pdt_cmp (oo_ne hr.units) ol_ne (pd_op op_mulW ol_mul (pd_var (pv 2)) (pd_var (pv 2))) (pd_ix ix_seq ol_ix (pd_var (pv 0)) pd_int (fun _ _ => rfl)) (nomark _)) (pdw_or1 (pdt_cmp (oo_ne hr.units) ol_ne (pd_op op_mulW ol_mul (pd_var (pv 3)) (pd_var (pv 3))) (pd_ix ix_seq ol_ix (pd_var (pv 0)) pd_int (fun _ _ => rfl)) (nomark _)))))
        (pds_one (pds_ret (pd_cmp o_isN ol_isN (pd_var (pv 1)) pd_non (nomark _))))
        pds_nil)
      (pds_one (pds_ret (pd_and (pd_call G_lis_ratio (hr.mono (by omega)) (by rfl) T.dlis_ratio.g T.dlis_ratio.F.kp T.dlis_ratio.b (fun σ => L2N.passAt tk σ) (pda_cons (pd_var (pv 1)) pda_nil)) (pd_and (pd_cmp op_ge ol_ge (pd_ix ix_seq ol_ix (pd_var (pv 1)) pd_int (fun _ _ => rfl)) pd_int (nomark _)) (pd_one (pd_cmp (oo_eq hr.units) ol_eq (pd_call G_times (hr.mono (by omega)) (by rfl) T.dtimes.g T.dtimes.F.kp T.dtimes.b (fun σ => L2N.passAt tk σ) (pda_cons (pd_var (pv 1)) (pda_cons (pd_var (pv 1)) pda_nil))) (pd_var (pv 0)) (nomark _)))))))))), fun ds Q E hl h => ?_⟩
  unfold m_is_root at h
  split at h
  · rename_i a b told
    obtain ⟨ha, hb, hr, rfl, k⟩ := h
    walk_at "wk"
    obtain ⟨_, _, e, b1, g1⟩ := rat_shape hr
    cases e
    obtain ⟨m, rfl⟩ : ∃ m : Nat, b = m := ⟨b.toNat, by omega⟩
    simp only [m_lfloor_root]
    refine ⟨ha.rb (by decide), fun x hx => ⟨hb.rb (by decide), fun y hy => ?_⟩⟩
    have ex := rt_eq hx
    have ey := rt_eq hy
    rw [Int.toNat_natCast] at hy
    have dx : Dig 1000 (x : Int) := by
      have := hx.1
      have := Nat.le_mul_self x
      unfold Dig at ha ⊢
      rw [Int.natAbs_natCast]
      omega
    have dy : Dig 1000 (y : Int) := by
      have := hy.1
      have := Nat.le_mul_self y
      unfold Dig at hb ⊢
      rw [Int.natAbs_natCast] at hb ⊢
      omega
    unfold rootD
    rw [ex, ey]
    refine ⟨dx.cm dx (by decide), ?_⟩
    by_cases c0 : a < 0
    · have : ¬ (x : Int) * (x : Int) = a := by
        have := Int.mul_nonneg (Int.natCast_nonneg x) (Int.natCast_nonneg x)
        omega
      rw [if_pos (by rw [decide_eq_false this]; decide), if_pos c0]
      exact k
    obtain ⟨n, rfl⟩ : ∃ n : Nat, a = n := ⟨a.toNat, by omega⟩
    rw [Int.toNat_natCast, Int.toNat_natCast, if_neg c0]
    have cx : ((x : Int) * (x : Int) = (n : Int)) ↔ x * x = n := by
      rw [← Int.natCast_mul]
      omega
    have cy : ((y : Int) * (y : Int) = (m : Int)) ↔ y * y = m := by
      rw [← Int.natCast_mul]
      omega
    by_cases c1 : x * x = n
    · rw [if_neg (by rw [decide_eq_true (cx.mpr c1)]; decide)]
      refine ⟨dy.cm dy (by decide), ?_⟩
      by_cases c2 : y * y = m
      · rw [if_neg (by rw [decide_eq_true (cy.mpr c2)]; decide)]
        rw [if_pos ⟨c1, c2⟩]
        have g2 : G2 (x : Int) (y : Int) = 1 := by
          unfold G2 at g1 ⊢
          rw [Int.natAbs_natCast, Int.natAbs_natCast] at g1 ⊢
          rw [← c1, ← c2] at g1
          refine Nat.dvd_one.mp ?_
          rw [← g1]
          exact Nat.dvd_gcd (Nat.dvd_mul_right_of_dvd (Nat.gcd_dvd_left x y) x) (Nat.dvd_mul_right_of_dvd (Nat.gcd_dvd_right x y) y)
        have y1 : 1 ≤ y := by
          rcases Nat.eq_zero_or_pos y with z | z
          · rw [z] at c2
            omega
          · exact z
        have hR : isRat (ratD (x : Int) (y : Int)) = true := by
          show (decide (1 ≤ (y : Int)) && decide (G2 (x : Int) (y : Int) = 1)) = true
          rw [decide_eq_true g2, decide_eq_true (show 1 ≤ (y : Int) by omega)]
          rfl
        simp only [m_lis_ratio]
        refine ⟨pl_rat _ _, fun a b e => by
          cases e
          exact ⟨(dx.sm (by decide)).md, (dy.sm (by decide)).md⟩, ?_⟩
        rw [hR]
        simp only [ratD]
        walk_at "wk"
        rw [if_pos (decide_eq_true (by omega))]
        have yy : (y : Int) * (y : Int) ≠ 0 := by
          have := Int.mul_pos (show (0 : Int) < y by omega) (show (0 : Int) < y by omega)
          omega
        refine ⟨dx, dy, dx, dy, yy, ?_⟩
        rw [cx.mpr c1, cy.mpr c2]
        have rl := rat_low (a := (n : Int)) b1
        rw [decide_eq_true g1, Bool.and_eq_true, decide_eq_true_iff, decide_eq_true_iff] at rl
        have e : lowD ((n : Int), (m : Int)) = ratD n m := by
          show ratD (lowP n m) (lowQ n m) = _
          rw [rl.1, rl.2]
        rw [e]
        refine (ddEq_rat false n m n m Q).mpr ?_
        simpa using k
      · rw [if_pos (by rw [decide_eq_false (fun z => c2 (cy.mp z))]; decide)]
        rw [if_neg (fun z => c2 z.2)]
        exact k
    · rw [if_pos (by rw [decide_eq_false (fun z => c1 (cx.mp z))]; decide)]
      rw [if_neg (fun z => c1 z.1)]
      exact k
  · exact h.elim
theorem ok_sign_call_due (T : Txt K mg) : FnOk P w K mg base (L2N.CX P w) 4 T.dsign_call_due.f T.dsign_call_due.fd P_sign_call_due (spD K 3 m_sign_call_due) := by
  have G_lis_ratio : FnOk P w K mg base (L2N.CX P w) 2 T.dlis_ratio.f T.dlis_ratio.fd P_lis_ratio (spD K 1 m_lis_ratio) := ok_lis_ratio T
  have G_sign_due : FnOk P w K mg base (L2N.CX P w) 3 T.dsign_due.f T.dsign_due.fd P_sign_due (spD K 3 m_sign_due) := ok_sign_due T
  refine T.dsign_call_due.okD sc_sign_call_due fun cdv A outer s H E so A0 hr tk hp => ⟨_, (pds_cons (pds_if (pdt_not (pdt_tru (pd_call G_lis_ratio (hr.mono (by omega)) (by rfl) T.dlis_ratio.g T.dlis_ratio.F.kp T.dlis_ratio.b (fun σ => L2N.passAt tk σ) (pda_cons (pd_var (pv 0)) pda_nil))))
        (pds_one (pds_ret (pd_tup (pda_cons pd_str (pda_cons pd_str pda_nil)))))
        pds_nil)
      (pds_cons (pds_if (pdt_not (pdt_tru (pd_call G_lis_ratio (hr.mono (by omega)) (by rfl) T.dlis_ratio.g T.dlis_ratio.F.kp T.dlis_ratio.b (fun σ => L2N.passAt tk σ) (pda_cons (pd_var (pv 1)) pda_nil))))
        (pds_one (pds_ret (pd_tup (pda_cons pd_str (pda_cons pd_str pda_nil)))))
        pds_nil)
      (pds_cons (pds_if (pdt_not (pdt_tru (pd_call G_lis_ratio (hr.mono (by omega)) (by rfl) T.dlis_ratio.g T.dlis_ratio.F.kp T.dlis_ratio.b (fun σ => L2N.passAt tk σ) (pda_cons (pd_var (pv 2)) pda_nil))))
        (pds_one (pds_ret (pd_tup (pda_cons pd_str (pda_cons pd_str pda_nil)))))
        pds_nil)
      (pds_cons (pds_if (pdt_cmp op_lt ol_lt (pd_ix ix_seq ol_ix (pd_var (pv 2)) pd_int (fun _ _ => rfl)) pd_int (nomark _))
        (pds_one (pds_ret (pd_tup (pda_cons pd_str (pda_cons (pd_var (pv 2)) pda_nil)))))
        pds_nil)
      (pds_one (pds_ret (pd_tup (pda_cons pd_str (pda_cons (pd_call G_sign_due (hr.mono (by omega)) (by rfl) T.dsign_due.g T.dsign_due.F.kp T.dsign_due.b (fun σ => L2N.passAt tk σ) (pda_cons (pd_var (pv 0)) (pda_cons (pd_var (pv 1)) (pda_cons (pd_var (pv 2)) pda_nil)))) pda_nil))))))))), fun ds Q E hl h => ?_⟩
  match ds, hl with
  | [p, f, u], _ =>
    obtain ⟨⟨pp, pb, ps⟩, ⟨fp, fb, fs⟩, ⟨up, ub, us⟩, k⟩ := h
    walk_at "wk"
    unfold rsD wkD at k
    simp only [m_lis_ratio]
    refine ⟨pp, pb.bm, ?_⟩
    cases hp : isRat p with
    | false =>
      rw [if_pos hp] at k
      exact k
    | true =>
    rw [if_neg (by rw [hp]; decide)] at k
    walk_at "wk"
    refine ⟨fp, fb.bm, ?_⟩
    cases hf : isRat f with
    | false =>
      rw [if_pos hf] at k
      exact k
    | true =>
    rw [if_neg (by rw [hf]; decide)] at k
    walk_at "wk"
    refine ⟨up, ub.bm, ?_⟩
    cases hu : isRat u with
    | false =>
      rw [if_pos hu] at k
      exact k
    | true =>
    rw [if_neg (by rw [hu]; decide)] at k
    walk_at "wk"
    obtain ⟨p1, p2, rfl, r1, dp1, dp2⟩ := ps hp
    obtain ⟨f1, f2, rfl, r2, df1, df2⟩ := fs hf
    obtain ⟨u1, u2, rfl, r3, du1, du2⟩ := us hu
    obtain ⟨_, _, e, p21, _⟩ := rat_shape r1
    cases e
    obtain ⟨_, _, e, f21, _⟩ := rat_shape r2
    cases e
    obtain ⟨_, _, e, u21, _⟩ := rat_shape r3
    cases e
    simp only [ratD] at k ⊢
    walk_at "wk"
    by_cases c : u1 < 0
    · rw [if_pos c] at k
      rw [if_pos (decide_eq_true c)]
      exact k
    · rw [if_neg c, ← due_eq p21 f21 (by omega) u21] at k
      rw [if_neg (by rw [decide_eq_true_iff]; exact c)]
      exact ⟨dp1, dp2, df1, df2, du1, du2, k⟩
end
end My
set_option exponentiation.threshold 100000
namespace My
open PySem PySem.Spec PyProof.Rows L2
local macro_rules | `(tactic| walk_at "dl") => `(tactic| simp only [startD, List.map_cons, List.map_nil, List.length_cons, List.length_nil, List.cons_append, List.nil_append, List.replicate_succ, List.replicate_zero, List.getElem?_cons_zero, List.getElem?_cons_succ, List.set_cons_zero, List.set_cons_succ,
  dVar, rdS, dC, dNew, dOp, onB, qB, dChain, qAnd, qOr, qNot, qTru, truD, dIf, dAnd, dOr, dNot, dUn, ddNeg, lNil, lCons, dTup, nLst, ddI, ddI0, ddAdd, isNonD, isBlD, ddIsN, ddIsB, ddIx_t0, ddIx_t1, ddIx_t2, ddIx_t3, ddIx_l0, ddIx_l1, ddIx_l2, dCB, ddLen, ddInt1, ddAbs, ddMM, ddTuple, nCB, nnList, ddIsi, dCall,
  sSkip, sSeq, sBreak, sCont, sExpr, sRet, sRetN, sIf, sNever, gdName, gdNil, gdCons, gdTup, sAsg, sSetN, sPar, sRaise, sFrz, owS, sApp, sIns, dLenO, dIxO, sTry, sFor, iL, iT, onL, onT, iR1, iR2, nComp, qYes,
  ddEq_ii, ddEq_ss, ddEq_bb, Bool.false_bne, Bool.true_bne, List.append_nil, true_and, and_true, if_true, if_false, Bool.not_true, Bool.not_false, Bool.true_eq_false, Bool.false_eq_true, ite_true, ite_false, id_eq])

local macro_rules | `(tactic| walk_at "is") => `(tactic| simp only [plain_non, isIn_non_int, isIn_non_str, isIn_non_bool, isIn_non_list, isIn_non_tuple, isIn_non_dict, plain_bl, isIn_bl_int, isIn_bl_str, isIn_bl_bool, isIn_bl_list, isIn_bl_tuple, isIn_bl_dict, plain_int, isIn_int_int, isIn_int_str, isIn_int_bool, isIn_int_list, isIn_int_tuple, isIn_int_dict, plain_str, isIn_str_int, isIn_str_str, isIn_str_bool, isIn_str_list, isIn_str_tuple, isIn_str_dict, plain_tup, isIn_tup_int, isIn_tup_str, isIn_tup_bool, isIn_tup_list, isIn_tup_tuple, isIn_tup_dict, plain_lst, isIn_lst_int, isIn_lst_str, isIn_lst_bool, isIn_lst_list, isIn_lst_tuple, isIn_lst_dict, sl0, sl1, sl2, sl3, sl4, decide_true, decide_false, ddIsi, ddIsi2, true_and, if_true, if_false, Bool.false_eq_true, Bool.not_true, Bool.not_false, Bool.or_true, Bool.or_false, Bool.true_or, and_true])
local macro_rules | `(tactic| walk_at "wk") => `(tactic| ((try walk_at "dl"); (try walk_at "is"); (try walk_at "dl")))

/-! ### what is drawn -/
theorem RatN.szr {n : Nat} {d : D} (h : RatN n d) (l : n ≤ 1000) : SzR n d := by
  refine ⟨h.pl, ?_, fun _ => h⟩
  obtain ⟨a, b, rfl, _, da, db⟩ := h
  intro x y e
  cases e
  exact ⟨da.sm l, db.sm l⟩
theorem NotR.szr {n : Nat} {d : D} (h : NotR d) : SzR n d := ⟨h.1, h.2.1, fun e => by rw [h.2.2] at e; cases e⟩
theorem SzR.up {n m : Nat} {d : D} (h : SzR n d) (l : n ≤ m) : SzR m d := ⟨h.1, h.2.1, fun e => (h.2.2 e).up l⟩
def m_squared : DF := fun ds Q _ => match ds with
  | [.sto, .int f] => 1 ≤ f ∧ f ≤ 440 ∧ ∀ d, RatN (2 * f.toNat + 1) d → Q d
  | _ => False
def m_triple : DF := fun ds Q _ => match ds with
  | [.sto, .int f] => 4 ≤ f ∧ f ≤ 440 ∧ ∀ x y z, RatN 881 x → RatN 440 y → RatN 881 z → Q (.lst [x, y, z])
  | _ => False
def m_bad_triple : DF := fun ds Q _ => match ds with
  | [.sto, .lst [x, y, z]] => SzR 881 x ∧ SzR 440 y ∧ SzR 881 z ∧ ∀ x y z, SzR 881 x → SzR 440 y → SzR 881 z → Q (.lst [x, y, z])
  | _ => False
theorem sq_rat {a b : Int} (h : isRat (ratD a b) = true) : isRat (ratD (a * a) (b * b)) = true := by
  obtain ⟨_, _, e, b1, g⟩ := rat_shape h
  cases e
  have g2 : G2 (a * a) (b * b) = 1 := by
    unfold G2 at g ⊢
    rw [Int.natAbs_mul, Int.natAbs_mul]
    have c : Nat.Coprime a.natAbs b.natAbs := g
    exact Nat.Coprime.mul_left (Nat.Coprime.mul_right c c) (Nat.Coprime.mul_right c c)
  have b2 : 1 ≤ b * b := Int.mul_pos (by omega) (by omega)
  show (decide (1 ≤ b * b) && decide (G2 (a * a) (b * b) = 1)) = true
  rw [decide_eq_true b2, decide_eq_true g2]
  rfl
theorem whole_rat (a : Int) : isRat (ratD a 1) = true := by
  have g : G2 a 1 = 1 := Nat.gcd_one_right _
  show (decide ((1 : Int) ≤ 1) && decide (G2 a 1 = 1)) = true
  rw [decide_eq_true g]
  rfl
theorem Dig.add {n m : Nat} {x y : Int} (hx : Dig n x) (hy : y.natAbs ≤ 10 ^ n) (h : n < m) : Dig m (x + y) := by
  have : 10 ^ (n + 1) ≤ 10 ^ m := Nat.pow_le_pow_right (by decide) h
  rw [Nat.pow_succ] at this
  unfold Dig at *
  omega
abbrev s_squared : Stmt := topS 58
abbrev N_squared : List Str := ["store", "figures", "base", "way", "up", "down"]
abbrev P_squared : List Str := ["store", "figures"]
theorem sc_squared : FnScope N_squared P_squared (defScope s_squared) := ⟨rfl, rfl, rfl, by decide +kernel, rfl, by decide +kernel, by decide +kernel⟩

abbrev s_triple : Stmt := topS 59
abbrev N_triple : List Str := ["store", "figures", "plain", "factor", "way", "whole", "under", "near", "kept", "zero"]
abbrev P_triple : List Str := ["store", "figures"]
theorem sc_triple : FnScope N_triple P_triple (defScope s_triple) := ⟨rfl, rfl, rfl, by decide +kernel, rfl, by decide +kernel, by decide +kernel⟩

abbrev s_bad_triple : Stmt := topS 62
abbrev N_bad_triple : List Str := ["store", "three", "out"]
abbrev P_bad_triple : List Str := ["store", "three"]
theorem sc_bad_triple : FnScope N_bad_triple P_bad_triple (defScope s_bad_triple) := ⟨rfl, rfl, rfl, by decide +kernel, rfl, by decide +kernel, by decide +kernel⟩

section
variable {P : Program} {w : World} {K : PySem.W.Frag} {mg : Str → Option Value} {base : Heap}
theorem ok_squared (T : Txt K mg) : FnOk P w K mg base (L2N.CX P w) 176 T.dsquared.f T.dsquared.fd P_squared (spD K 2 m_squared) := by
  have G_take : FnOk P w K mg base (L2N.CX P w) 171 T.dtake.f T.dtake.fd P_take (spD K 2 m_take) := ok_takeD T
  have G_integer : FnOk P w K mg base (L2N.CX P w) 174 T.dinteger.f T.dinteger.fd P_integer (spD K 2 m_integer) := ok_integerD T
  have G_low : FnOk P w K mg base (L2N.CX P w) 1 T.dlow.f T.dlow.fd P_low (spD K 2 m_low) := ok_low T
  have G_ratio : FnOk P w K mg base (L2N.CX P w) 175 T.dratio.f T.dratio.fd P_ratio (spD K 2 m_lratio) := ok_lratio T
  refine T.dsquared.okD sc_squared fun cdv A outer s H E so A0 hr tk hp => ⟨_, (pds_cons (pds_set (i := 2) sc_squared.nd rfl (by first | exact .inl rfl | exact .inr rfl) (pd_call G_ratio (hr.mono (by omega)) (by rfl) T.dratio.g T.dratio.F.kp T.dratio.b (fun σ => L2N.passAt tk σ) (pda_cons (pd_var (pv 0)) (pda_cons (pd_var (pv 1)) pda_nil))))
      (pds_cons (pds_set (i := 3) sc_squared.nd rfl (by first | exact .inl rfl | exact .inr rfl) (pd_call G_take (hr.mono (by omega)) (by rfl) T.dtake.g T.dtake.F.kp T.dtake.b (fun σ => L2N.passAt tk σ) (pda_cons (pd_var (pv 0)) (pda_cons pd_int pda_nil))))
      (pds_cons (pds_set (i := 4) sc_squared.nd rfl (by first | exact .inl rfl | exact .inr rfl) (pd_op op_mulW ol_mul (pd_ix ix_seq ol_ix (pd_var (pv 2)) pd_int (fun _ _ => rfl)) (pd_ix ix_seq ol_ix (pd_var (pv 2)) pd_int (fun _ _ => rfl))))
      (pds_cons (pds_set (i := 5) sc_squared.nd rfl (by first | exact .inl rfl | exact .inr rfl) (pd_op op_mulW ol_mul (pd_ix ix_seq ol_ix (pd_var (pv 2)) pd_int (fun _ _ => rfl)) (pd_ix ix_seq ol_ix (pd_var (pv 2)) pd_int (fun _ _ => rfl))))
      (pds_cons (pds_if (pdt_cmp (oo_eq hr.units) ol_eq (pd_var (pv 3)) pd_int (nomark _))
        (pds_one (pds_ret (pd_var (pv 2))))
        pds_nil)
      (pds_cons (pds_if (pdt_cmp (oo_eq hr.units) ol_eq (pd_var (pv 3)) pd_int (nomark _))
        (pds_one (pds_ret (pd_call G_low (hr.mono (by omega)) (by rfl) T.dlow.g T.dlow.F.kp T.dlow.b (fun σ => L2N.passAt tk σ) (pda_cons (pd_op oo_add ol_add (pd_var (pv 4)) (pd_ix ix_seq ol_ix (pd_new (pdn_lst (pda_cons pd_int (pda_cons (pd_neg pd_int) pda_nil)))) (pd_call G_take (hr.mono (by omega)) (by rfl) T.dtake.g T.dtake.F.kp T.dtake.b (fun σ => L2N.passAt tk σ) (pda_cons (pd_var (pv 0)) (pda_cons pd_int pda_nil))) (fun _ _ => rfl))) (pda_cons (pd_var (pv 5)) pda_nil)))))
        pds_nil)
      (pds_cons (pds_if (pdt_cmp (oo_eq hr.units) ol_eq (pd_var (pv 3)) pd_int (nomark _))
        (pds_one (pds_ret (pd_call G_low (hr.mono (by omega)) (by rfl) T.dlow.g T.dlow.F.kp T.dlow.b (fun σ => L2N.passAt tk σ) (pda_cons (pd_op op_mulW ol_mul (pd_var (pv 4)) (pd_ix ix_seq ol_ix (pd_new (pdn_lst (pda_cons pd_int (pda_cons pd_int (pda_cons pd_int (pda_cons pd_int pda_nil)))))) (pd_call G_take (hr.mono (by omega)) (by rfl) T.dtake.g T.dtake.F.kp T.dtake.b (fun σ => L2N.passAt tk σ) (pda_cons (pd_var (pv 0)) (pda_cons pd_int pda_nil))) (fun _ _ => rfl))) (pda_cons (pd_var (pv 5)) pda_nil)))))
        pds_nil)
      (pds_cons (pds_if (pdt_cmp (oo_eq hr.units) ol_eq (pd_var (pv 3)) pd_int (nomark _))
        (pds_one (pds_ret (pd_call G_low (hr.mono (by omega)) (by rfl) T.dlow.g T.dlow.F.kp T.dlow.b (fun σ => L2N.passAt tk σ) (pda_cons (pd_var (pv 4)) (pda_cons (pd_callB (c_max2 rfl) cl_max2 (by rfl) T.m_max bt_max (pda_cons pd_int (pda_cons (pd_call G_integer (hr.mono (by omega)) (by rfl) T.dinteger.g T.dinteger.F.kp T.dinteger.b (fun σ => L2N.passAt tk σ) (pda_cons (pd_var (pv 0)) (pda_cons (pd_var (pv 1)) pda_nil))) pda_nil))) pda_nil)))))
        pds_nil)
      (pds_cons (pds_if (pdt_cmp (oo_eq hr.units) ol_eq (pd_var (pv 3)) pd_int (nomark _))
        (pds_one (pds_ret (pd_call G_low (hr.mono (by omega)) (by rfl) T.dlow.g T.dlow.F.kp T.dlow.b (fun σ => L2N.passAt tk σ) (pda_cons (pd_call G_integer (hr.mono (by omega)) (by rfl) T.dinteger.g T.dinteger.F.kp T.dinteger.b (fun σ => L2N.passAt tk σ) (pda_cons (pd_var (pv 0)) (pda_cons (pd_var (pv 1)) pda_nil))) (pda_cons (pd_var (pv 5)) pda_nil)))))
        pds_nil)
      (pds_cons (pds_if (pdt_cmp (oo_eq hr.units) ol_eq (pd_var (pv 3)) pd_int (nomark _))
        (pds_one (pds_ret (pd_tup (pda_cons (pd_neg (pd_var (pv 4))) (pda_cons (pd_var (pv 5)) pda_nil)))))
        pds_nil)
      (pds_one (pds_ret (pd_tup (pda_cons (pd_var (pv 4)) (pda_cons (pd_var (pv 5)) pda_nil))))))))))))))), fun ds Q E hl h => ?_⟩
  unfold m_squared at h
  split at h
  · rename_i f
    obtain ⟨f1, f2, h⟩ := h
    walk_at "wk"
    refine ⟨f1, by omega, fun d hd => ?_⟩
    obtain ⟨a, b, rfl, r, da, db⟩ := hd
    obtain ⟨_, _, e, b1, g⟩ := rat_shape r
    cases e
    simp only [ratD, m_take, m_low, m_integer]
    walk_at "wk"
    refine ⟨by decide, fun w w0 w1 => ?_⟩
    walk_at "wk"
    obtain ⟨n, rfl⟩ : ∃ n : Nat, f = n := ⟨f.toNat, by omega⟩
    rw [Int.toNat_natCast] at h da db
    have n1 : 1 ≤ n := by omega
    have n4 : n ≤ 440 := by omega
    have aa : Dig (2 * n) (a * a) := (da.mul da).up (by omega)
    have bb : Dig (2 * n) (b * b) := (db.mul db).up (by omega)
    have b0 : b * b ≠ 0 := by
      have := Int.mul_pos (show 0 < b by omega) (show 0 < b by omega)
      omega
    have lb : (b * b).natAbs.log2 < 9000 := Nat.lt_of_le_of_lt bb.log (by omega)
    have big : 10 ^ (2 * n) * 10 = 10 ^ (2 * n + 1) := (Nat.pow_succ ..).symm
    have sr := sq_rat r
    refine ⟨da.cm da (by omega), db.cm db (by omega), ?_⟩
    split
    · exact h _ ⟨a, b, rfl, r, da.up (by omega), db.up (by omega)⟩
    split
    · refine ⟨by decide, fun i i0 i1 => ddIx_any i0 (by show i < 2; omega) fun d hd => ?_⟩
      simp only [List.mem_cons, List.not_mem_nil, or_false] at hd
      have p1 : 1 ≤ 10 ^ (2 * n) := Nat.pow_pos (by decide)
      rcases hd with rfl | rfl
      · refine ⟨lb, ?_⟩
        exact h _ (RatN.low b0 (aa.add (by omega) (by omega)) (bb.up (by omega)))
      · refine ⟨lb, ?_⟩
        exact h _ (RatN.low b0 (aa.add (by omega) (by omega)) (bb.up (by omega)))
    split
    · refine ⟨by decide, fun i i0 i1 => ddIx_any i0 (by show i < 4; omega) fun d hd => ?_⟩
      have go : ∀ k : Int, Dig 1 k → (CMulW (a * a) k ∧ (b * b).natAbs.log2 < 9000 ∧ Q (lowD (a * a * k, b * b))) := fun k hk => by
        refine ⟨aa.cm hk (by omega), lb, ?_⟩
        exact h _ (RatN.low b0 (aa.mul hk) (bb.up (by omega)))
      simp only [List.mem_cons, List.not_mem_nil, or_false] at hd
      rcases hd with rfl | rfl | rfl | rfl
      · exact go 2 (by unfold Dig; decide)
      · exact go 3 (by unfold Dig; decide)
      · exact go 5 (by unfold Dig; decide)
      · exact go 7 (by unfold Dig; decide)
    split
    · refine ⟨by omega, by omega, fun x hx => ?_⟩
      have hx2 : Dig n (if x > 1 then x else 1) := by
        split
        · exact hx
        · exact Dig.small n1 (by decide)
      have x0 : (if x > 1 then x else 1) ≠ 0 := by split <;> omega
      refine ⟨Nat.lt_of_le_of_lt hx2.log (by omega), ?_⟩
      rw [if_neg x0]
      exact h _ (RatN.low x0 (aa.up (by omega)) (hx2.up (by omega)))
    split
    · refine ⟨by omega, by omega, fun x hx => ⟨lb, ?_⟩⟩
      exact h _ (RatN.low b0 (hx.up (by omega)) (bb.up (by omega)))
    split
    · exact h _ ⟨_, _, rfl, neg_rat sr, (aa.up (by omega)).neg, bb.up (by omega)⟩
    · exact h _ ⟨_, _, rfl, sr, aa.up (by omega), bb.up (by omega)⟩
  · exact h.elim
theorem ok_triple (T : Txt K mg) : FnOk P w K mg base (L2N.CX P w) 177 T.dtriple.f T.dtriple.fd P_triple (spD K 2 m_triple) := by
  have G_take : FnOk P w K mg base (L2N.CX P w) 171 T.dtake.f T.dtake.fd P_take (spD K 2 m_take) := ok_takeD T
  have G_integer : FnOk P w K mg base (L2N.CX P w) 174 T.dinteger.f T.dinteger.fd P_integer (spD K 2 m_integer) := ok_integerD T
  have G_low : FnOk P w K mg base (L2N.CX P w) 1 T.dlow.f T.dlow.fd P_low (spD K 2 m_low) := ok_low T
  have G_ratio : FnOk P w K mg base (L2N.CX P w) 175 T.dratio.f T.dratio.fd P_ratio (spD K 2 m_lratio) := ok_lratio T
  have G_squared : FnOk P w K mg base (L2N.CX P w) 176 T.dsquared.f T.dsquared.fd P_squared (spD K 2 m_squared) := ok_squared T
  have G_times : FnOk P w K mg base (L2N.CX P w) 2 T.dtimes.f T.dtimes.fd P_times (spD K 2 m_times) := ok_times T
  have G_neg : FnOk P w K mg base (L2N.CX P w) 1 T.dneg.f T.dneg.fd P_neg (spD K 1 m_lneg) := ok_lneg T
  have G_lfloor_root : FnOk P w K mg base (L2N.CX P w) 1 T.dlfloor_root.f T.dlfloor_root.fd P_lfloor_root (spD K 1 m_lfloor_root) := ok_lfloor_root T
  refine T.dtriple.okD sc_triple fun cdv A outer s H E so A0 hr tk hp => ⟨_, (pds_cons (pds_set (i := 2) sc_triple.nd rfl (by first | exact .inl rfl | exact .inr rfl) (pd_call G_ratio (hr.mono (by omega)) (by rfl) T.dratio.g T.dratio.F.kp T.dratio.b (fun σ => L2N.passAt tk σ) (pda_cons (pd_var (pv 0)) (pda_cons (pd_var (pv 1)) pda_nil))))
      (pds_cons (pds_set (i := 3) sc_triple.nd rfl (by first | exact .inl rfl | exact .inr rfl) (pd_call G_ratio (hr.mono (by omega)) (by rfl) T.dratio.g T.dratio.F.kp T.dratio.b (fun σ => L2N.passAt tk σ) (pda_cons (pd_var (pv 0)) (pda_cons (pd_var (pv 1)) pda_nil))))
      (pds_cons (pds_set (i := 4) sc_triple.nd rfl (by first | exact .inl rfl | exact .inr rfl) (pd_call G_take (hr.mono (by omega)) (by rfl) T.dtake.g T.dtake.F.kp T.dtake.b (fun σ => L2N.passAt tk σ) (pda_cons (pd_var (pv 0)) (pda_cons pd_int pda_nil))))
      (pds_cons (pds_if (pdt_cmp (oo_eq hr.units) ol_eq (pd_var (pv 4)) pd_int (nomark _))
        (pds_one (pds_ret (pd_new (pdn_lst (pda_cons (pd_var (pv 2)) (pda_cons (pd_var (pv 3)) (pda_cons (pd_call G_ratio (hr.mono (by omega)) (by rfl) T.dratio.g T.dratio.F.kp T.dratio.b (fun σ => L2N.passAt tk σ) (pda_cons (pd_var (pv 0)) (pda_cons (pd_var (pv 1)) pda_nil))) pda_nil)))))))
        pds_nil)
      (pds_cons (pds_if (pdt_cmp (oo_eq hr.units) ol_eq (pd_var (pv 4)) pd_int (nomark _))
        (pds_cons (pds_set (i := 5) sc_triple.nd rfl (by first | exact .inl rfl | exact .inr rfl) (pd_callB (c_max2 rfl) cl_max2 (by rfl) T.m_max bt_max (pda_cons pd_int (pda_cons (pd_call G_integer (hr.mono (by omega)) (by rfl) T.dinteger.g T.dinteger.F.kp T.dinteger.b (fun σ => L2N.passAt tk σ) (pda_cons (pd_var (pv 0)) (pda_cons (pd_var (pv 1)) pda_nil))) pda_nil))))
        (pds_cons (pds_set (i := 6) sc_triple.nd rfl (by first | exact .inl rfl | exact .inr rfl) (pd_ix ix_seq ol_ix (pd_new (pdn_lst (pda_cons pd_int (pda_cons pd_int (pda_cons pd_int (pda_cons pd_int (pda_cons pd_int (pda_cons pd_int pda_nil)))))))) (pd_call G_take (hr.mono (by omega)) (by rfl) T.dtake.g T.dtake.F.kp T.dtake.b (fun σ => L2N.passAt tk σ) (pda_cons (pd_var (pv 0)) (pda_cons pd_int pda_nil))) (fun _ _ => rfl)))
        (pds_cons (pds_set (i := 7) sc_triple.nd rfl (by first | exact .inl rfl | exact .inr rfl) (pd_op oo_add ol_add (pd_call G_lfloor_root (hr.mono (by omega)) (by rfl) T.dlfloor_root.g T.dlfloor_root.F.kp T.dlfloor_root.b (fun σ => L2N.passAt tk σ) (pda_cons (pd_op op_mulW ol_mul (pd_op op_mulW ol_mul (pd_var (pv 5)) (pd_var (pv 5))) (pd_var (pv 6))) pda_nil)) (pd_call G_take (hr.mono (by omega)) (by rfl) T.dtake.g T.dtake.F.kp T.dtake.b (fun σ => L2N.passAt tk σ) (pda_cons (pd_var (pv 0)) (pda_cons pd_int pda_nil)))))
        (pds_one (pds_ret (pd_new (pdn_lst (pda_cons (pd_tup (pda_cons (pd_neg (pd_var (pv 7))) (pda_cons pd_int pda_nil))) (pda_cons (pd_tup (pda_cons (pd_var (pv 5)) (pda_cons pd_int pda_nil))) (pda_cons (pd_tup (pda_cons (pd_var (pv 6)) (pda_cons pd_int pda_nil))) pda_nil))))))))))
        pds_nil)
      (pds_cons (pds_if (pdt_cmp (oo_eq hr.units) ol_eq (pd_var (pv 4)) pd_int (nomark _))
        (pds_one (pds_ret (pd_new (pdn_lst (pda_cons (pd_var (pv 2)) (pda_cons (pd_tup (pda_cons pd_int (pda_cons pd_int pda_nil))) (pda_cons (pd_call G_squared (hr.mono (by omega)) (by rfl) T.dsquared.g T.dsquared.F.kp T.dsquared.b (fun σ => L2N.passAt tk σ) (pda_cons (pd_var (pv 0)) (pda_cons (pd_var (pv 1)) pda_nil))) pda_nil)))))))
        pds_nil)
      (pds_cons (pds_if (pdt_cmp (oo_eq hr.units) ol_eq (pd_var (pv 4)) pd_int (nomark _))
        (pds_one (pds_ret (pd_new (pdn_lst (pda_cons (pd_tup (pda_cons pd_int (pda_cons pd_int pda_nil))) (pda_cons (pd_var (pv 3)) (pda_cons (pd_call G_squared (hr.mono (by omega)) (by rfl) T.dsquared.g T.dsquared.F.kp T.dsquared.b (fun σ => L2N.passAt tk σ) (pda_cons (pd_var (pv 0)) (pda_cons (pd_var (pv 1)) pda_nil))) pda_nil)))))))
        pds_nil)
      (pds_cons (pds_if (pdt_cmp (oo_eq hr.units) ol_eq (pd_var (pv 4)) pd_int (nomark _))
        (pds_one (pds_ret (pd_new (pdn_lst (pda_cons (pd_var (pv 2)) (pda_cons (pd_var (pv 3)) (pda_cons (pd_ix ix_seq ol_ix (pd_new (pdn_lst (pda_cons (pd_tup (pda_cons pd_int (pda_cons pd_int pda_nil))) (pda_cons (pd_tup (pda_cons (pd_neg pd_int) (pda_cons pd_int pda_nil))) (pda_cons (pd_tup (pda_cons pd_int (pda_cons pd_int pda_nil))) pda_nil))))) (pd_call G_take (hr.mono (by omega)) (by rfl) T.dtake.g T.dtake.F.kp T.dtake.b (fun σ => L2N.passAt tk σ) (pda_cons (pd_var (pv 0)) (pda_cons pd_int pda_nil))) (fun _ _ => rfl)) pda_nil)))))))
        pds_nil)
      (pds_cons (pds_set (i := 8) sc_triple.nd rfl (by first | exact .inl rfl | exact .inr rfl) (pd_call G_ratio (hr.mono (by omega)) (by rfl) T.dratio.g T.dratio.F.kp T.dratio.b (fun σ => L2N.passAt tk σ) (pda_cons (pd_var (pv 0)) (pda_cons (pd_var (pv 1)) pda_nil))))
      (pds_cons (pds_set (i := 9) sc_triple.nd rfl (by first | exact .inl rfl | exact .inr rfl) (pd_call G_neg (hr.mono (by omega)) (by rfl) T.dneg.g T.dneg.F.kp T.dneg.b (fun σ => L2N.passAt tk σ) (pda_cons (pd_call G_times (hr.mono (by omega)) (by rfl) T.dtimes.g T.dtimes.F.kp T.dtimes.b (fun σ => L2N.passAt tk σ) (pda_cons (pd_var (pv 3)) (pda_cons (pd_tup (pda_cons (pd_callB (c_max2 rfl) cl_max2 (by rfl) T.m_max bt_max (pda_cons (pd_ix ix_seq ol_ix (pd_var (pv 8)) pd_int (fun _ _ => rfl)) (pda_cons (pd_neg (pd_ix ix_seq ol_ix (pd_var (pv 8)) pd_int (fun _ _ => rfl))) pda_nil))) (pda_cons (pd_ix ix_seq ol_ix (pd_var (pv 8)) pd_int (fun _ _ => rfl)) pda_nil))) pda_nil))) pda_nil)))
      (pds_cons (pds_if (pdt_cmp (oo_eq hr.units) ol_eq (pd_var (pv 4)) pd_int (nomark _))
        (pds_one (pds_set (i := 9) sc_triple.nd rfl (by first | exact .inl rfl | exact .inr rfl) (pd_call G_low (hr.mono (by omega)) (by rfl) T.dlow.g T.dlow.F.kp T.dlow.b (fun σ => L2N.passAt tk σ) (pda_cons (pd_op oo_add ol_add (pd_ix ix_seq ol_ix (pd_var (pv 9)) pd_int (fun _ _ => rfl)) (pd_ix ix_seq ol_ix (pd_new (pdn_lst (pda_cons pd_int (pda_cons (pd_neg pd_int) pda_nil)))) (pd_call G_take (hr.mono (by omega)) (by rfl) T.dtake.g T.dtake.F.kp T.dtake.b (fun σ => L2N.passAt tk σ) (pda_cons (pd_var (pv 0)) (pda_cons pd_int pda_nil))) (fun _ _ => rfl))) (pda_cons (pd_ix ix_seq ol_ix (pd_var (pv 9)) pd_int (fun _ _ => rfl)) pda_nil)))))
        pds_nil)
      (pds_one (pds_ret (pd_new (pdn_lst (pda_cons (pd_var (pv 9)) (pda_cons (pd_var (pv 3)) (pda_cons (pd_call G_times (hr.mono (by omega)) (by rfl) T.dtimes.g T.dtimes.F.kp T.dtimes.b (fun σ => L2N.passAt tk σ) (pda_cons (pd_var (pv 8)) (pda_cons (pd_var (pv 8)) pda_nil))) pda_nil)))))))))))))))))), fun ds Q E hl h => ?_⟩
  unfold m_triple at h
  split at h
  · rename_i f
    obtain ⟨f1, f2, h⟩ := h
    walk_at "wk"
    refine ⟨by omega, by omega, fun d hd => ⟨by omega, by omega, fun e he => ?_⟩⟩
    obtain ⟨a, b, rfl, r, da, db⟩ := hd
    obtain ⟨_, _, z, b1, g⟩ := rat_shape r
    cases z
    obtain ⟨a', b', rfl, r', da', db'⟩ := he
    obtain ⟨_, _, z, b1', g'⟩ := rat_shape r'
    cases z
    simp only [ratD, m_take]
    walk_at "wk"
    refine ⟨by decide, fun w w0 w1 => ?_⟩
    walk_at "wk"
    obtain ⟨n, rfl⟩ : ∃ n : Nat, f = n := ⟨f.toNat, by omega⟩
    rw [Int.toNat_natCast] at da db da' db'
    have n1 : 1 ≤ n := by omega
    have n4 : n ≤ 440 := by omega
    have R1 : RatN 881 (.tup [.int a, .int b]) := ⟨a, b, rfl, r, da.up (by omega), db.up (by omega)⟩
    have R2 : RatN 440 (.tup [.int a', .int b']) := ⟨a', b', rfl, r', da'.up (by omega), db'.up (by omega)⟩
    have zero : ∀ m, 1 ≤ m → RatN m (.tup [.int 0, .int 1]) := fun m hm => ⟨0, 1, rfl, whole_rat 0, Dig.small hm (by decide), Dig.small hm (by decide)⟩
    have wh : ∀ (m : Nat) (x : Int), 1 ≤ m → Dig m x → RatN m (.tup [.int x, .int 1]) := fun m x hm hx => ⟨x, 1, rfl, whole_rat x, hx, Dig.small hm (by decide)⟩
    split
    · refine ⟨by omega, by omega, fun d hd => h _ _ _ R1 R2 (hd.up (by rw [Int.toNat_natCast]; omega))⟩
    split
    · simp only [m_integer, m_lfloor_root]
      refine ⟨by omega, by omega, fun x hx => ?_⟩
      rw [Int.toNat_natCast] at hx
      walk_at "wk"
      refine ⟨by decide, by decide, fun i i0 i1 => ddIx_any i0 (by show i < 6; omega) fun d hd => ?_⟩
      have hx2 : Dig n (if x > 1 then x else 1) := by
        split
        · exact hx
        · exact Dig.small n1 (by decide)
      generalize (if x > 1 then x else 1) = y at *
      have go : ∀ k : Int, Dig 3 k → (CMulW (y * y) k ∧ Rb (y * y * k).toNat ∧ ∀ s : Nat, IsRt (y * y * k).toNat s → (2 : Int) < BIG ∧ ∀ r : Int, 0 ≤ r → r = 0 ∨ r < 2 → Q (D.lst [D.tup [D.int (-((s : Int) + r)), D.int 1], D.tup [D.int y, D.int 1], D.tup [D.int k, D.int 1]])) := fun k hk => by
        have yy := hx2.mul hx2
        have yk := yy.mul hk
        refine ⟨yy.cm hk (by omega), yk.rb (by omega), fun s hs => ⟨by decide, fun r r0 r1 => ?_⟩⟩
        refine h _ _ _ (wh _ _ (by decide) ?_) (wh _ _ (by decide) (hx2.up (by omega))) (wh _ _ (by decide) (hk.up (by decide)))
        refine Dig.neg ?_
        have ds : s < 10 ^ 443 := by
          refine Nat.lt_of_not_le fun z => ?_
          have h1 := Nat.mul_le_mul z z
          have h2 := hs.1
          have h3 : (y * y * k).toNat < 10 ^ 883 := Nat.lt_of_le_of_lt (by omega) (yk.up (show n + n + 3 ≤ 883 by omega))
          rw [← Nat.pow_add] at h1
          have h4 : 10 ^ 883 ≤ 10 ^ (443 + 443) := Nat.pow_le_pow_right (by decide) (by decide)
          omega
        have s2 : Dig 880 (s : Int) := Dig.up (n := 443) (by unfold Dig; rw [Int.natAbs_natCast]; exact ds) (by decide)
        exact Dig.add s2 (by have : 1 ≤ 10 ^ 880 := Nat.pow_pos (by decide); omega) (by decide)
      refine ⟨hx2.cm hx2 (by omega), ?_⟩
      simp only [List.mem_cons, List.not_mem_nil, or_false] at hd
      rcases hd with rfl | rfl | rfl | rfl | rfl | rfl
      · exact go 2 (by unfold Dig; decide)
      · exact go 3 (by unfold Dig; decide)
      · exact go 5 (by unfold Dig; decide)
      · exact go 6 (by unfold Dig; decide)
      · exact go 99 (by unfold Dig; decide)
      · exact go 101 (by unfold Dig; decide)
    split
    · exact ⟨by omega, by omega, fun d hd => h _ _ _ R1 (zero _ (by decide)) (hd.up (by rw [Int.toNat_natCast]; omega))⟩
    split
    · exact ⟨by omega, by omega, fun d hd => h _ _ _ (zero _ (by decide)) R2 (hd.up (by rw [Int.toNat_natCast]; omega))⟩
    split
    · refine ⟨by decide, fun i i0 i1 => ddIx_any i0 (by show i < 3; omega) fun d hd => h _ _ _ R1 R2 ?_⟩
      simp only [List.mem_cons, List.not_mem_nil, or_false] at hd
      rcases hd with rfl | rfl | rfl <;> exact wh _ _ (by decide) (Dig.small (by decide) (by decide))
    · refine ⟨by omega, by omega, fun d hd => ?_⟩
      obtain ⟨c, e, rfl, r2, dc, de⟩ := hd
      obtain ⟨_, _, z, e1, g2⟩ := rat_shape r2
      cases z
      rw [Int.toNat_natCast] at dc de
      simp only [ratD]
      walk_at "wk"
      have hx2 : Dig n (if -c > c then -c else c) := by
        split
        · exact dc.neg
        · exact dc
      generalize (if -c > c then -c else c) = y at *
      have b'e : b' * e ≠ 0 := by
        have := Int.mul_pos (show 0 < b' by omega) (show 0 < e by omega)
        omega
      have ee : e * e ≠ 0 := by
        have := Int.mul_pos (show 0 < e by omega) (show 0 < e by omega)
        omega
      have RK : RatN 881 (lowD (c * c, e * e)) := RatN.low ee ((dc.mul dc).up (by omega)) ((de.mul de).up (by omega))
      refine ⟨da'.up (by omega), db'.up (by omega), hx2.up (by omega), de.up (by omega), b'e, ?_⟩
      have RZ : RatN (2 * n) (lowD (a' * y, b' * e)) := RatN.low b'e ((da'.mul hx2).up (by omega)) ((db'.mul de).up (by omega))
      obtain ⟨z1, z2, ez, rz, dz1, dz2⟩ := RZ
      rw [ez] at rz ⊢
      obtain ⟨_, _, z, z21, _⟩ := rat_shape rz
      cases z
      simp only [ratD, m_lneg]
      walk_at "wk"
      have last : m_times [D.tup [D.int c, D.int e], D.tup [D.int c, D.int e]] (fun d => ∀ x, RatN 881 x → Q (D.lst [x, D.tup [D.int a', D.int b'], d])) E := by
        exact ⟨dc.up (by omega), de.up (by omega), dc.up (by omega), de.up (by omega), ee, fun x hx => h _ _ _ hx R2 RK⟩
      obtain ⟨t1, t2, t3, t4, t5, t6⟩ := last
      split
      · refine ⟨by decide, fun i i0 i1 => ddIx_any i0 (by show i < 2; omega) fun d hd => ?_⟩
        have p1 : 1 ≤ 10 ^ (2 * n) := Nat.pow_pos (by decide)
        have go : ∀ k : Int, k.natAbs ≤ 1 → m_low [D.int (-z1 + k), D.int z2] (fun d => m_times [D.tup [D.int c, D.int e], D.tup [D.int c, D.int e]] (fun d_1 => Q (D.lst [d, D.tup [D.int a', D.int b'], d_1])) E) E := fun k hk => by
          refine ⟨Nat.lt_of_le_of_lt dz2.log (by omega), ?_⟩
          rw [if_neg (by omega)]
          refine ⟨t1, t2, t3, t4, t5, t6 _ (RatN.low (by omega) ?_ (dz2.up (by omega)))⟩
          exact (dz1.neg.add (by omega) (by omega : 2 * n < 881))
        simp only [List.mem_cons, List.not_mem_nil, or_false] at hd
        rcases hd with rfl | rfl
        · exact go 1 (by decide)
        · exact go (-1) (by decide)
      · exact ⟨t1, t2, t3, t4, t5, t6 _ ⟨_, _, rfl, neg_rat rz, (dz1.up (by omega)).neg, dz2.up (by omega)⟩⟩
  · exact h.elim
theorem ok_bad_triple (T : Txt K mg) : FnOk P w K mg base (L2N.CX P w) 175 T.dbad_triple.f T.dbad_triple.fd P_bad_triple (spD K 2 m_bad_triple) := by
  have G_take : FnOk P w K mg base (L2N.CX P w) 171 T.dtake.f T.dtake.fd P_take (spD K 2 m_take) := ok_takeD T
  have G_not_ratio : FnOk P w K mg base (L2N.CX P w) 174 T.dnot_ratio.f T.dnot_ratio.fd P_not_ratio (spD K 2 m_not_ratio) := ok_not_ratio T
  refine T.dbad_triple.okD sc_bad_triple fun cdv A outer s H E so A0 hr tk hp => ⟨_, (pds_cons (pds_setN (i := 2) sc_bad_triple.nd rfl (by first | exact .inl rfl | exact .inr rfl) (pdn_lst (pda_cons (pd_ix ix_seq ol_ix (pd_var (pv 1)) pd_int (fun _ _ => rfl)) (pda_cons (pd_ix ix_seq ol_ix (pd_var (pv 1)) pd_int (fun _ _ => rfl)) (pda_cons (pd_ix ix_seq ol_ix (pd_var (pv 1)) pd_int (fun _ _ => rfl)) pda_nil)))))
      (pds_cons (pds_setI (pv 2) (pd_call G_not_ratio (hr.mono (by omega)) (by rfl) T.dnot_ratio.g T.dnot_ratio.F.kp T.dnot_ratio.b (fun σ => L2N.passAt tk σ) (pda_cons (pd_var (pv 0)) (pda_cons pd_bl pda_nil))) (pd_call G_take (hr.mono (by omega)) (by rfl) T.dtake.g T.dtake.F.kp T.dtake.b (fun σ => L2N.passAt tk σ) (pda_cons (pd_var (pv 0)) (pda_cons pd_int pda_nil))))
      (pds_cons (pds_if (pdt_cmp (oo_eq hr.units) ol_eq (pd_call G_take (hr.mono (by omega)) (by rfl) T.dtake.g T.dtake.F.kp T.dtake.b (fun σ => L2N.passAt tk σ) (pda_cons (pd_var (pv 0)) (pda_cons pd_int pda_nil))) pd_int (nomark _))
        (pds_one (pds_setI (pv 2) (pd_call G_not_ratio (hr.mono (by omega)) (by rfl) T.dnot_ratio.g T.dnot_ratio.F.kp T.dnot_ratio.b (fun σ => L2N.passAt tk σ) (pda_cons (pd_var (pv 0)) (pda_cons pd_bl pda_nil))) (pd_call G_take (hr.mono (by omega)) (by rfl) T.dtake.g T.dtake.F.kp T.dtake.b (fun σ => L2N.passAt tk σ) (pda_cons (pd_var (pv 0)) (pda_cons pd_int pda_nil)))))
        pds_nil)
      (pds_cons (pds_if (pdt_cmp (oo_eq hr.units) ol_eq (pd_call G_take (hr.mono (by omega)) (by rfl) T.dtake.g T.dtake.F.kp T.dtake.b (fun σ => L2N.passAt tk σ) (pda_cons (pd_var (pv 0)) (pda_cons pd_int pda_nil))) pd_int (nomark _))
        (pds_one (pds_setI (pv 2) (pd_ix ix_seq ol_ix (pd_new (pdn_lst (pda_cons (pd_tup (pda_cons (pd_neg pd_int) (pda_cons pd_int pda_nil))) (pda_cons (pd_tup (pda_cons (pd_neg pd_int) (pda_cons pd_int pda_nil))) (pda_cons (pd_tup (pda_cons pd_int (pda_cons pd_int pda_nil))) pda_nil))))) (pd_call G_take (hr.mono (by omega)) (by rfl) T.dtake.g T.dtake.F.kp T.dtake.b (fun σ => L2N.passAt tk σ) (pda_cons (pd_var (pv 0)) (pda_cons pd_int pda_nil))) (fun _ _ => rfl)) pd_int))
        pds_nil)
      (pds_frz 2 (pds_one (pds_ret (pd_var (pv 2))))))))), fun ds Q E hl h => ?_⟩
  unfold m_bad_triple at h
  split at h
  · rename_i x0 y0 z0
    obtain ⟨hx, hy, hz, h⟩ := h
    walk_at "wk"
    simp only [sSetI]
    walk_at "wk"
    simp only [m_take, m_not_ratio]
    have set3 : ∀ {x y z d : D} {r : Int}, SzR 881 x → SzR 440 y → SzR 881 z → (∀ n, SzR n d) → 0 ≤ r → (r = 0 ∨ r < 3) → ∃ n, ixN (0 + 1 + 1 + 1) r = some n ∧ ∃ x1 y1 z1, [x, y, z].set n d = [x1, y1, z1] ∧ SzR 881 x1 ∧ SzR 440 y1 ∧ SzR 881 z1 := fun {x y z d r} hx hy hz hd r0 r1 => by
      have : r = 0 ∨ r = 1 ∨ r = 2 := by omega
      rcases this with rfl | rfl | rfl
      · exact ⟨0, rfl, _, _, _, rfl, hd _, hy, hz⟩
      · exact ⟨1, rfl, _, _, _, rfl, hx, hd _, hz⟩
      · exact ⟨2, rfl, _, _, _, rfl, hx, hy, hd _⟩
    have rest : ∀ (x y z : D), SzR 881 x → SzR 440 y → SzR 881 z → ((3 : Int) < BIG ∧ ∀ r : Int, 0 ≤ r → r = 0 ∨ r < 3 → ddEq false (D.int r) (D.int 0) fun d_2 => onB d_2 fun k => if k = true then
        sSetI 2 (dOp ddIx (dNew (nLst (lCons (dTup (lCons (dUn ddNeg (dC (D.int 1))) (lCons (dC (D.int 1)) lNil))) (lCons (dTup (lCons (dUn ddNeg (dC (D.int 1))) (lCons (dC (D.int 2)) lNil))) (lCons (dTup (lCons (dC (D.int 0)) (lCons (dC (D.int 1)) lNil))) lNil))))) (dCall (0 + 1 + 1) m_take [] (lCons (dVar 0) (lCons (dC (D.int 3)) lNil)))) (dC (D.int 2))
          { nx := sFrz 2 (sRet (dVar 2)) { nx := fun x => Q D.non, rt := Q, bk := fun x => False, ct := fun x => False, ex := E }, rt := Q, bk := fun x => False, ct := fun x => False, ex := E }
          [Sl.fr D.sto, Sl.fr (D.lst [x0, y0, z0]), Sl.ow [x, y, z]]
        else Q (D.lst [x, y, z])) := fun x y z hx hy hz => by
      refine ⟨by decide, fun r r0 r1 => ?_⟩
      rw [ddEq_ii]
      walk_at "wk"
      split
      · simp only [sSetI, m_take]
        walk_at "wk"
        refine ⟨by decide, fun i i0 i1 => ddIx_any i0 (by show i < 3; omega) fun d hd => ⟨2, rfl, ?_⟩⟩
        walk_at "wk"
        refine h _ _ _ hx hy (RatN.szr (n := 881) ?_ (by decide))
        simp only [List.mem_cons, List.not_mem_nil, or_false] at hd
        have p2 : isRat (ratD (-1) 2) = true := by decide +kernel
        rcases hd with rfl | rfl | rfl
        · exact ⟨-1, 1, rfl, whole_rat _, Dig.small (by decide) (by decide), Dig.small (by decide) (by decide)⟩
        · exact ⟨-1, 2, rfl, p2, Dig.small (by decide) (by decide), Dig.small (by decide) (by decide)⟩
        · exact ⟨0, 1, rfl, whole_rat _, Dig.small (by decide) (by decide), Dig.small (by decide) (by decide)⟩
      · exact h _ _ _ hx hy hz
    refine fun d nd => ⟨by decide, fun r r0 r1 => ?_⟩
    obtain ⟨n, e1, x1, y1, z1, e2, hx1, hy1, hz1⟩ := set3 hx hy hz (fun n => nd.szr) r0 r1
    refine ⟨n, e1, ?_⟩
    rw [e2]
    refine ⟨by decide, fun r r0 r1 => ?_⟩
    rw [ddEq_ii]
    walk_at "wk"
    split
    · simp only [sSetI, m_take, m_not_ratio]
      walk_at "wk"
      refine fun d nd => ⟨by decide, fun r r0 r1 => ?_⟩
      obtain ⟨n, e1, x2, y2, z2, e2, hx2, hy2, hz2⟩ := set3 hx1 hy1 hz1 (fun n => nd.szr) r0 r1
      refine ⟨n, e1, ?_⟩
      rw [e2]
      exact rest _ _ _ hx2 hy2 hz2
    · have k := rest _ _ _ hx1 hy1 hz1
      simp only [ddEq_ii, Bool.false_bne, onB] at k
      exact k
  · exact h.elim
end
end My
set_option exponentiation.threshold 100000
namespace My
open PySem PySem.Spec PyProof.Rows L2
local macro_rules | `(tactic| walk_at "dl") => `(tactic| simp only [startD, List.map_cons, List.map_nil, List.length_cons, List.length_nil, List.cons_append, List.nil_append, List.replicate_succ, List.replicate_zero, List.getElem?_cons_zero, List.getElem?_cons_succ, List.set_cons_zero, List.set_cons_succ,
  dVar, rdS, dC, dNew, dOp, onB, qB, dChain, qAnd, qOr, qNot, qTru, truD, dIf, dAnd, dOr, dNot, dUn, ddNeg, lNil, lCons, dTup, nLst, ddI, ddI0, ddAdd, isNonD, isBlD, ddIsN, ddIsB, ddIx_t0, ddIx_t1, ddIx_t2, ddIx_t3, ddIx_l0, ddIx_l1, ddIx_l2, dCB, ddLen, ddInt1, ddAbs, ddMM, ddTuple, nCB, nnList, ddIsi, dCall,
  sSkip, sSeq, sBreak, sCont, sExpr, sRet, sRetN, sIf, sNever, gdName, gdNil, gdCons, gdTup, sAsg, sSetN, sPar, sRaise, sFrz, owS, sApp, sIns, dLenO, dIxO, sTry, sFor, iL, iT, onL, onT, iR1, iR2, nComp, qYes,
  ddEq_ii, ddEq_ss, ddEq_bb, Bool.false_bne, Bool.true_bne, List.append_nil, true_and, and_true, if_true, if_false, Bool.not_true, Bool.not_false, Bool.true_eq_false, Bool.false_eq_true, ite_true, ite_false, id_eq])

local macro_rules | `(tactic| walk_at "is") => `(tactic| simp only [plain_non, isIn_non_int, isIn_non_str, isIn_non_bool, isIn_non_list, isIn_non_tuple, isIn_non_dict, plain_bl, isIn_bl_int, isIn_bl_str, isIn_bl_bool, isIn_bl_list, isIn_bl_tuple, isIn_bl_dict, plain_int, isIn_int_int, isIn_int_str, isIn_int_bool, isIn_int_list, isIn_int_tuple, isIn_int_dict, plain_str, isIn_str_int, isIn_str_str, isIn_str_bool, isIn_str_list, isIn_str_tuple, isIn_str_dict, plain_tup, isIn_tup_int, isIn_tup_str, isIn_tup_bool, isIn_tup_list, isIn_tup_tuple, isIn_tup_dict, plain_lst, isIn_lst_int, isIn_lst_str, isIn_lst_bool, isIn_lst_list, isIn_lst_tuple, isIn_lst_dict, sl0, sl1, sl2, sl3, sl4, decide_true, decide_false, ddIsi, ddIsi2, true_and, if_true, if_false, Bool.false_eq_true, Bool.not_true, Bool.not_false, Bool.or_true, Bool.or_false, Bool.true_or, and_true])
local macro_rules | `(tactic| walk_at "wk") => `(tactic| ((try walk_at "dl"); (try walk_at "is"); (try walk_at "dl")))

local macro_rules | `(tactic| walk_at "pl") => `(tactic| simp only [↓reduceIte, ↓startD, ↓List.map_cons, ↓List.map_nil, ↓List.length_cons, ↓List.length_nil, ↓List.cons_append, ↓List.nil_append, ↓List.replicate_succ, ↓List.replicate_zero, ↓List.getElem?_cons_zero, ↓List.getElem?_cons_succ, ↓List.set_cons_zero, ↓List.set_cons_succ, ↓dVar, ↓rdS, ↓dC, ↓dNew, ↓dOp, ↓onB, ↓qB, ↓dChain, ↓qAnd, ↓qOr, ↓qNot, ↓qTru, ↓truD, ↓dIf, ↓dAnd, ↓dOr, ↓dNot, ↓dUn, ↓ddNeg, ↓lNil, ↓lCons, ↓dTup, ↓nLst, ↓ddI, ↓ddI0, ↓ddAdd, ↓isNonD, ↓isBlD, ↓ddIsN, ↓ddIsB, ↓ddIx_t0, ↓ddIx_t1, ↓ddIx_t2, ↓ddIx_t3, ↓ddIx_l0, ↓ddIx_l1, ↓ddIx_l2, ↓dCB, ↓ddLen, ↓ddInt1, ↓ddAbs, ↓ddMM, ↓ddTuple, ↓nCB, ↓nnList, ↓ddIsi, ↓dCall, ↓sSkip, ↓sSeq, ↓sBreak, ↓sCont, ↓sExpr, ↓sRet, ↓sRetN, ↓sIf, ↓sNever, ↓gdName, ↓gdNil, ↓gdCons, ↓gdTup, ↓sAsg, ↓sSetN, ↓sPar, ↓sRaise, ↓sFrz, ↓owS, ↓sApp, ↓sIns, ↓dLenO, ↓dIxO, ↓sTry, ↓sFor, ↓iL, ↓iT, ↓onL, ↓onT, ↓iR1, ↓iR2, ↓nComp, ↓qYes, ↓ddEq_ii, ↓ddEq_ss, ↓ddEq_bb, ↓Bool.false_bne, ↓Bool.true_bne, ↓List.append_nil, ↓true_and, ↓and_true, ↓if_true, ↓if_false, ↓Bool.not_true, ↓Bool.not_false, ↓Bool.true_eq_false, ↓Bool.false_eq_true, ↓ite_true, ↓ite_false, ↓id_eq, ↓plain_non, ↓isIn_non_int, ↓isIn_non_str, ↓isIn_non_bool, ↓isIn_non_list, ↓isIn_non_tuple, ↓isIn_non_dict, ↓plain_bl, ↓isIn_bl_int, ↓isIn_bl_str, ↓isIn_bl_bool, ↓isIn_bl_list, ↓isIn_bl_tuple, ↓isIn_bl_dict, ↓plain_int, ↓isIn_int_int, ↓isIn_int_str, ↓isIn_int_bool, ↓isIn_int_list, ↓isIn_int_tuple, ↓isIn_int_dict, ↓plain_str, ↓isIn_str_int, ↓isIn_str_str, ↓isIn_str_bool, ↓isIn_str_list, ↓isIn_str_tuple, ↓isIn_str_dict, ↓plain_tup, ↓isIn_tup_int, ↓isIn_tup_str, ↓isIn_tup_bool, ↓isIn_tup_list, ↓isIn_tup_tuple, ↓isIn_tup_dict, ↓plain_lst, ↓isIn_lst_int, ↓isIn_lst_str, ↓isIn_lst_bool, ↓isIn_lst_list, ↓isIn_lst_tuple, ↓isIn_lst_dict, ↓sl0, ↓sl1, ↓sl2, ↓sl3, ↓sl4, ↓decide_true, ↓decide_false, ↓ddIsi2, ↓Bool.or_true, ↓Bool.or_false, ↓Bool.true_or])

abbrev s_unfit : Stmt := topS 53
abbrev N_unfit : List Str := ["e", "asked", "found", "one"]
abbrev P_unfit : List Str := ["e"]
theorem sc_unfit : FnScope N_unfit P_unfit (defScope s_unfit) := ⟨rfl, rfl, rfl, by decide +kernel, rfl, by decide +kernel, by decide +kernel⟩

abbrev s_refused : Stmt := topS 52
abbrev N_refused : List Str := ["e", "found"]
abbrev P_refused : List Str := ["e"]
theorem sc_refused : FnScope N_refused P_refused (defScope s_refused) := ⟨rfl, rfl, rfl, by decide +kernel, rfl, by decide +kernel, by decide +kernel⟩

theorem _root_.L2H.RoomH.units {k : Nat} {A : Around} (r : L2H.RoomH k A) : A.units + 64 < cLine := by have := r.un; omega
theorem dIsP_var {K : PySem.W.Frag} {x : XD} {a : Addr} {cv : Value} {b : Bool} {l : DEnv} {Q : D → Prop} {E : XD → Prop} (hx : XC K x.C) (hk : PySem.W.kitOne K (.ref x.C) cv = some b) : dIsP K x a cv (dVar 0) (.fr (.exc a) :: l) Q E = Q (.bl b) := by
  show ((.exc a : D) = .exc a ∧ XC K x.C ∧ ∃ c, PySem.W.kitOne K (.ref x.C) cv = some c ∧ Q (.bl c)) = _
  rw [hk]
  simp [hx]
theorem dXg_var {K : PySem.W.Frag} {x : XD} {a : Addr} {n : Str} {l : DEnv} {Q : D → Prop} {E : XD → Prop} {d : D} (hx : XC K x.C) (hk : PySem.W.findIn K (.ref x.C) n = some none) (hl : (x.fs.zip x.vs).lookup n = some d) : dXg K x a n (dVar 0) (.fr (.exc a) :: l) Q E = Q d := by
  show ((.exc a : D) = .exc a ∧ XC K x.C ∧ PySem.W.findIn K (.ref x.C) n = some none ∧ ∃ c, (x.fs.zip x.vs).lookup n = some c ∧ Q c) = _
  rw [hk, hl]
  simp [hx]
theorem dIsF_var {K : PySem.W.Frag} {C : Addr} {fs : List Str} {vs : List D} {cv : Value} {b : Bool} {l : DEnv} {Q : D → Prop} {E : XD → Prop} (hx : XC K C) (hk : PySem.W.kitOne K (.ref C) cv = some b) : dIsF K cv (dVar 0) (.fr (.err C fs vs) :: l) Q E = Q (.bl b) := by
  show (XC K C ∧ ∃ c, PySem.W.kitOne K (.ref C) cv = some c ∧ Q (.bl c)) = _
  rw [hk]
  simp [hx]
theorem dXf_var {K : PySem.W.Frag} {C : Addr} {fs : List Str} {vs : List D} {n : Str} {l : DEnv} {Q : D → Prop} {E : XD → Prop} {d : D} (hx : XC K C) (hk : PySem.W.findIn K (.ref C) n = some none) (hl : (fs.zip vs).lookup n = some d) : dXf K n (dVar 0) (.fr (.err C fs vs) :: l) Q E = Q d := by
  show (XC K C ∧ PySem.W.findIn K (.ref C) n = some none ∧ ∃ c, (fs.zip vs).lookup n = some c ∧ Q c) = _
  rw [hk, hl]
  simp [hx]
theorem sub_lo {k j : Nat} (h0 : j ≠ 0) (h7 : j < 7) : subI (7 + k) j = false := by
  unfold subI
  rw [beq_false_of_ne h0, beq_false_of_ne (show j ≠ 7 + k by omega), beq_false_of_ne (show j ≠ 7 by omega)]
  rfl
theorem sub_7 (k : Nat) : subI (7 + k) 7 = true := by
  unfold subI
  cases k with
  | zero => rfl
  | succ k => rw [decide_eq_true (show 8 ≤ 7 + (k + 1) by omega)]; simp
theorem sub_hi (k m : Nat) : subI (7 + k) (8 + m) = decide (k = m + 1) := by
  unfold subI
  rw [beq_false_of_ne (show 8 + m ≠ 0 by omega), beq_false_of_ne (show 8 + m ≠ 7 by omega), Bool.false_or, Bool.false_and, Bool.or_false]
  by_cases h : k = m + 1
  · rw [decide_eq_true h, h, show 8 + m = 7 + (m + 1) by omega]
    exact beq_self_eq_true _
  · rw [decide_eq_false h]
    exact beq_false_of_ne (by omega)
/-- the chosen names of a list of pairs -/
def prD (p : Str × Bool) : D := .tup [.str p.1, .bl p.2]
theorem compL_pick {j : Nat} {ρ : DEnv} {Q : List D → Prop} (hj : j < ρ.length) : ∀ (prs : List (Str × Bool)) (acc : List D), acc.length + prs.length ≤ sizeLine → Q (acc ++ (prs.filter (·.2)).map fun p => .str p.1) →
    compL (gdName j) (qTru (dOp ddIx (dVar j) (dC (.int 1)))) (dOp ddIx (dVar j) (dC (.int 0))) ρ Q (prs.map prD) acc
  | [], acc, _, q => by
    rw [List.filter_nil, List.map_nil, List.append_nil] at q
    exact q
  | (n, b) :: prs, acc, hl, q => by
    rw [List.length_cons] at hl
    rw [List.map_cons]
    show rdS (ρ.set j (.fr (prD (n, b))))[j]? _
    rw [List.getElem?_set_self hj]
    show ddIx (.tup [.str n, .bl b]) (.int 1) _
    rw [ddIx_t1]
    cases b with
    | false => exact compL_pick hj prs acc (by omega) q
    | true =>
      show rdS (ρ.set j (.fr (prD (n, true))))[j]? _
      rw [List.getElem?_set_self hj]
      show ddIx (.tup [.str n, .bl true]) (.int 0) _
      rw [ddIx_t0]
      refine ⟨by omega, compL_pick hj prs _ (by rw [List.length_append]; simp only [List.length_cons, List.length_nil]; omega) ?_⟩
      rw [List.append_assoc]
      exact q
def nmI (i : Nat) : Str := (["FrameError", "WrongKind", "OutOfBounds", "RepeatedName", "UnknownName", "Unsafe", "BadText", "UnfitError", "ZeroDivisor", "NegativeRoot", "ZeroBar", "FlatMap", "BadSteps", "NotOneWay", "NotHeld", "NotFlat", "NotCover", "NotOwnStress", "NotPicture", "NotLift", "NoReciprocal", "NotMotion", "NotAlike", "NotCrank", "NothingToUndo", "NothingToRedo"] : List Str).getD i ""
section
variable {K : PySem.W.Frag} {mg : Str → Option Value} (T : Txt K mg)
def Txt.cl (i : Nat) : Addr := ([T.cFrameError.C, T.cWrongKind.C, T.cOutOfBounds.C, T.cRepeatedName.C, T.cUnknownName.C, T.cUnsafe.C, T.cBadText.C, T.cUnfitError.C, T.cZeroDivisor.C, T.cNegativeRoot.C, T.cZeroBar.C, T.cFlatMap.C, T.cBadSteps.C, T.cNotOneWay.C, T.cNotHeld.C, T.cNotFlat.C, T.cNotCover.C, T.cNotOwnStress.C, T.cNotPicture.C, T.cNotLift.C, T.cNoReciprocal.C, T.cNotMotion.C, T.cNotAlike.C, T.cNotCrank.C, T.cNothingToUndo.C, T.cNothingToRedo.C] : List Addr).getD i 0
theorem Txt.xc : ∀ i, i < 26 → XC K (T.cl i)
  | 0, _ => T.cFrameError.x
  | 1, _ => T.cWrongKind.x
  | 2, _ => T.cOutOfBounds.x
  | 3, _ => T.cRepeatedName.x
  | 4, _ => T.cUnknownName.x
  | 5, _ => T.cUnsafe.x
  | 6, _ => T.cBadText.x
  | 7, _ => T.cUnfitError.x
  | 8, _ => T.cZeroDivisor.x
  | 9, _ => T.cNegativeRoot.x
  | 10, _ => T.cZeroBar.x
  | 11, _ => T.cFlatMap.x
  | 12, _ => T.cBadSteps.x
  | 13, _ => T.cNotOneWay.x
  | 14, _ => T.cNotHeld.x
  | 15, _ => T.cNotFlat.x
  | 16, _ => T.cNotCover.x
  | 17, _ => T.cNotOwnStress.x
  | 18, _ => T.cNotPicture.x
  | 19, _ => T.cNotLift.x
  | 20, _ => T.cNoReciprocal.x
  | 21, _ => T.cNotMotion.x
  | 22, _ => T.cNotAlike.x
  | 23, _ => T.cNotCrank.x
  | 24, _ => T.cNothingToUndo.x
  | 25, _ => T.cNothingToRedo.x
  | n + 26, h => absurd h (by omega)
theorem Txt.nfs : ∀ k, k < 19 → PySem.W.findIn K (.ref (T.cl (7 + k))) "subject" = some none
  | 0, _ => T.zUnfitError.nf "subject" (List.mem_singleton.mpr rfl)
  | 1, _ => T.zZeroDivisor.nf "subject" (List.mem_singleton.mpr rfl)
  | 2, _ => T.zNegativeRoot.nf "subject" (List.mem_singleton.mpr rfl)
  | 3, _ => T.zZeroBar.nf "subject" (List.mem_singleton.mpr rfl)
  | 4, _ => T.zFlatMap.nf "subject" (List.mem_singleton.mpr rfl)
  | 5, _ => T.zBadSteps.nf "subject" (List.mem_singleton.mpr rfl)
  | 6, _ => T.zNotOneWay.nf "subject" (List.mem_singleton.mpr rfl)
  | 7, _ => T.zNotHeld.nf "subject" (List.mem_singleton.mpr rfl)
  | 8, _ => T.zNotFlat.nf "subject" (List.mem_singleton.mpr rfl)
  | 9, _ => T.zNotCover.nf "subject" (List.mem_singleton.mpr rfl)
  | 10, _ => T.zNotOwnStress.nf "subject" (List.mem_singleton.mpr rfl)
  | 11, _ => T.zNotPicture.nf "subject" (List.mem_singleton.mpr rfl)
  | 12, _ => T.zNotLift.nf "subject" (List.mem_singleton.mpr rfl)
  | 13, _ => T.zNoReciprocal.nf "subject" (List.mem_singleton.mpr rfl)
  | 14, _ => T.zNotMotion.nf "subject" (List.mem_singleton.mpr rfl)
  | 15, _ => T.zNotAlike.nf "subject" (List.mem_singleton.mpr rfl)
  | 16, _ => T.zNotCrank.nf "subject" (List.mem_singleton.mpr rfl)
  | 17, _ => T.zNothingToUndo.nf "subject" (List.mem_singleton.mpr rfl)
  | 18, _ => T.zNothingToRedo.nf "subject" (List.mem_singleton.mpr rfl)
  | n + 19, h => absurd h (by omega)
def m_unfitF : DF := fun ds Q _ => match ds with
  | [.err C fs vs] => ∃ (k : Nat) (d : D), k < 19 ∧ C = T.cl (7 + k) ∧ fs = (["subject"] : List Str) ∧ vs = [d] ∧ Q (.tup [.str (nmI (7 + k)), d])
  | _ => False
/-- what is told of an exception made by hand -/
def ToldIs (C : Addr) (fs : List Str) (vs : List D) (t : D) : Prop :=
  (∃ (k : Nat) (d : D), k < 19 ∧ C = T.cl (7 + k) ∧ fs = (["subject"] : List Str) ∧ vs = [d] ∧ t = .tup [.str (nmI (7 + k)), d]) ∨
  (C = T.cl 0 ∧ fs = [] ∧ vs = [] ∧ t = .tup [.str "FrameError", .non]) ∨
  (∃ d, C = T.cl 1 ∧ fs = (["argument"] : List Str) ∧ vs = [d] ∧ t = .tup [.str "WrongKind", d]) ∨
  (∃ d, C = T.cl 2 ∧ fs = (["argument"] : List Str) ∧ vs = [d] ∧ t = .tup [.str "OutOfBounds", d]) ∨
  (∃ d, C = T.cl 3 ∧ fs = (["repeated"] : List Str) ∧ vs = [d] ∧ t = .tup [.str "RepeatedName", d]) ∨
  (∃ d, C = T.cl 4 ∧ fs = (["unknown"] : List Str) ∧ vs = [d] ∧ t = .tup [.str "UnknownName", d]) ∨
  (∃ d, C = T.cl 5 ∧ fs = (["velocities"] : List Str) ∧ vs = [d] ∧ t = .tup [.str "Unsafe", d]) ∨
  (∃ x y z, C = T.cl 6 ∧ fs = (["fault", "column", "line"] : List Str) ∧ vs = [z, y, x] ∧ t = .tup [.str "BadText", .tup [x, y, z]])
def m_refusedF : DF := fun ds Q _ => match ds with
  | [.err C fs vs] => ∃ t, ToldIs T C fs vs t ∧ Q t
  | _ => False
def m_unfitH : XD → (D → Prop) → Prop := fun x Q => ∃ d, x = nrX T d ∧ Q (.tup [.str "NegativeRoot", d])
def m_refusedH : XD → (D → Prop) → Prop := fun x Q => (∃ d, x = nrX T d ∧ Q (.tup [.str "NegativeRoot", d])) ∨ ∃ s, x = wkX T s ∧ Q (wkD s)
end
section
variable {P : Program} {w : World} {K : PySem.W.Frag} {mg : Str → Option Value} {base : Heap}
theorem ok_unfitF (T : Txt K mg) : FnOk P w K mg base (L2N.CX P w) 1 T.dunfit.f T.dunfit.fd P_unfit (spD K 1 (m_unfitF T)) := by
  refine T.dunfit.okD sc_unfit fun cdv A outer s H E so A0 hr tk hp => ⟨_, (pds_cons (pds_set (i := 1) sc_unfit.nd rfl (by first | exact .inl rfl | exact .inr rfl) (pd_new (pdn_lst (pda_cons (pd_tup (pda_cons pd_str (pda_cons (pd_isF (by rfl) T.m_isinstance (pd_var (pv 0)) (pe_glob (v := .ref T.cZeroDivisor.C) (by rfl) T.cZeroDivisor.g rfl) (.own _)) pda_nil))) (pda_cons (pd_tup (pda_cons pd_str (pda_cons (pd_isF (by rfl) T.m_isinstance (pd_var (pv 0)) (pe_glob (v := .ref T.cNegativeRoot.C) (by rfl) T.cNegativeRoot.g rfl) (.own _)) pda_nil))) pda_nil)))))
      (pds_cons (pds_set (i := 1) sc_unfit.nd rfl (by first | exact .inl rfl | exact .inr rfl) (pd_op oo_add ol_add (pd_var (pv 1)) (pd_new (pdn_lst (pda_cons (pd_tup (pda_cons pd_str (pda_cons (pd_isF (by rfl) T.m_isinstance (pd_var (pv 0)) (pe_glob (v := .ref T.cZeroBar.C) (by rfl) T.cZeroBar.g rfl) (.own _)) pda_nil))) (pda_cons (pd_tup (pda_cons pd_str (pda_cons (pd_isF (by rfl) T.m_isinstance (pd_var (pv 0)) (pe_glob (v := .ref T.cFlatMap.C) (by rfl) T.cFlatMap.g rfl) (.own _)) pda_nil))) pda_nil))))))
      (pds_cons (pds_set (i := 1) sc_unfit.nd rfl (by first | exact .inl rfl | exact .inr rfl) (pd_op oo_add ol_add (pd_var (pv 1)) (pd_new (pdn_lst (pda_cons (pd_tup (pda_cons pd_str (pda_cons (pd_isF (by rfl) T.m_isinstance (pd_var (pv 0)) (pe_glob (v := .ref T.cBadSteps.C) (by rfl) T.cBadSteps.g rfl) (.own _)) pda_nil))) (pda_cons (pd_tup (pda_cons pd_str (pda_cons (pd_isF (by rfl) T.m_isinstance (pd_var (pv 0)) (pe_glob (v := .ref T.cNotOneWay.C) (by rfl) T.cNotOneWay.g rfl) (.own _)) pda_nil))) pda_nil))))))
      (pds_cons (pds_set (i := 1) sc_unfit.nd rfl (by first | exact .inl rfl | exact .inr rfl) (pd_op oo_add ol_add (pd_var (pv 1)) (pd_new (pdn_lst (pda_cons (pd_tup (pda_cons pd_str (pda_cons (pd_isF (by rfl) T.m_isinstance (pd_var (pv 0)) (pe_glob (v := .ref T.cNotHeld.C) (by rfl) T.cNotHeld.g rfl) (.own _)) pda_nil))) (pda_cons (pd_tup (pda_cons pd_str (pda_cons (pd_isF (by rfl) T.m_isinstance (pd_var (pv 0)) (pe_glob (v := .ref T.cNotFlat.C) (by rfl) T.cNotFlat.g rfl) (.own _)) pda_nil))) pda_nil))))))
      (pds_cons (pds_set (i := 1) sc_unfit.nd rfl (by first | exact .inl rfl | exact .inr rfl) (pd_op oo_add ol_add (pd_var (pv 1)) (pd_new (pdn_lst (pda_cons (pd_tup (pda_cons pd_str (pda_cons (pd_isF (by rfl) T.m_isinstance (pd_var (pv 0)) (pe_glob (v := .ref T.cNotCover.C) (by rfl) T.cNotCover.g rfl) (.own _)) pda_nil))) (pda_cons (pd_tup (pda_cons pd_str (pda_cons (pd_isF (by rfl) T.m_isinstance (pd_var (pv 0)) (pe_glob (v := .ref T.cNotOwnStress.C) (by rfl) T.cNotOwnStress.g rfl) (.own _)) pda_nil))) pda_nil))))))
      (pds_cons (pds_set (i := 1) sc_unfit.nd rfl (by first | exact .inl rfl | exact .inr rfl) (pd_op oo_add ol_add (pd_var (pv 1)) (pd_new (pdn_lst (pda_cons (pd_tup (pda_cons pd_str (pda_cons (pd_isF (by rfl) T.m_isinstance (pd_var (pv 0)) (pe_glob (v := .ref T.cNotPicture.C) (by rfl) T.cNotPicture.g rfl) (.own _)) pda_nil))) (pda_cons (pd_tup (pda_cons pd_str (pda_cons (pd_isF (by rfl) T.m_isinstance (pd_var (pv 0)) (pe_glob (v := .ref T.cNotLift.C) (by rfl) T.cNotLift.g rfl) (.own _)) pda_nil))) pda_nil))))))
      (pds_cons (pds_set (i := 1) sc_unfit.nd rfl (by first | exact .inl rfl | exact .inr rfl) (pd_op oo_add ol_add (pd_var (pv 1)) (pd_new (pdn_lst (pda_cons (pd_tup (pda_cons pd_str (pda_cons (pd_isF (by rfl) T.m_isinstance (pd_var (pv 0)) (pe_glob (v := .ref T.cNoReciprocal.C) (by rfl) T.cNoReciprocal.g rfl) (.own _)) pda_nil))) (pda_cons (pd_tup (pda_cons pd_str (pda_cons (pd_isF (by rfl) T.m_isinstance (pd_var (pv 0)) (pe_glob (v := .ref T.cNotMotion.C) (by rfl) T.cNotMotion.g rfl) (.own _)) pda_nil))) pda_nil))))))
      (pds_cons (pds_set (i := 1) sc_unfit.nd rfl (by first | exact .inl rfl | exact .inr rfl) (pd_op oo_add ol_add (pd_var (pv 1)) (pd_new (pdn_lst (pda_cons (pd_tup (pda_cons pd_str (pda_cons (pd_isF (by rfl) T.m_isinstance (pd_var (pv 0)) (pe_glob (v := .ref T.cNotAlike.C) (by rfl) T.cNotAlike.g rfl) (.own _)) pda_nil))) (pda_cons (pd_tup (pda_cons pd_str (pda_cons (pd_isF (by rfl) T.m_isinstance (pd_var (pv 0)) (pe_glob (v := .ref T.cNotCrank.C) (by rfl) T.cNotCrank.g rfl) (.own _)) pda_nil))) pda_nil))))))
      (pds_cons (pds_set (i := 1) sc_unfit.nd rfl (by first | exact .inl rfl | exact .inr rfl) (pd_op oo_add ol_add (pd_var (pv 1)) (pd_new (pdn_lst (pda_cons (pd_tup (pda_cons pd_str (pda_cons (pd_isF (by rfl) T.m_isinstance (pd_var (pv 0)) (pe_glob (v := .ref T.cNothingToUndo.C) (by rfl) T.cNothingToUndo.g rfl) (.own _)) pda_nil))) (pda_cons (pd_tup (pda_cons pd_str (pda_cons (pd_isF (by rfl) T.m_isinstance (pd_var (pv 0)) (pe_glob (v := .ref T.cNothingToRedo.C) (by rfl) T.cNothingToRedo.g rfl) (.own _)) pda_nil))) pda_nil))))))
      (pds_cons (pds_setLc (i := 2) (own := [("one", 3)]) rfl sc_unfit.nd rfl rfl (sw_true rfl rfl rfl (by decide +kernel)) (pdi_list (pd_var (pv 1))) (blkOk_by (own := [("one", 3)]) (N := N_unfit) (sc := defScope s_unfit) (by decide +kernel)) (fun _ _ _ _ _ => (pdgw_name (pg_name (i := 3) sc_unfit.nd rfl (by first | exact .inl rfl | exact .inr rfl)) (by simp))) (fun _ _ _ _ _ => (pdts_one (pdt_tru (pd_ix ix_seq ol_ix (pd_var (pv 3)) pd_int (fun _ _ => rfl))))) (fun _ _ _ _ _ => (pd_ix ix_seq ol_ix (pd_var (pv 3)) pd_int (fun _ _ => rfl))))
      (pds_frz 2 (pds_cons (pds_if (pdt_cmp (oo_eq hr.units) ol_eq (pd_callB oo_len cl_len (by rfl) T.m_len bt_len (pda_cons (pd_var (pv 2)) pda_nil)) pd_int (nomark _))
        (pds_one (pds_ret (pd_tup (pda_cons pd_str (pda_cons (pd_xf (pd_var (pv 0))) pda_nil)))))
        pds_nil)
      (pds_cons (pds_if (pdt_cmp op_gt ol_gt (pd_callB oo_len cl_len (by rfl) T.m_len bt_len (pda_cons (pd_var (pv 2)) pda_nil)) pd_int (nomark _))
        (pds_one (pds_ret (pd_tup (pda_cons pd_str (pda_cons (pd_var (pv 2)) pda_nil)))))
        pds_nil)
      (pds_one (pds_ret (pd_tup (pda_cons (pd_ix ix_seq ol_ix (pd_var (pv 2)) pd_int (fun _ _ => rfl)) (pda_cons (pd_xf (pd_var (pv 0))) pda_nil)))))))))))))))))), fun ds Q E hl h => ?_⟩
  unfold m_unfitF at h
  split at h
  · rename_i C fs vs
    obtain ⟨k, d, hk, rfl, rfl, rfl, q⟩ := h
    have hx := T.xc (7 + k) (by omega)
    have k_ZeroDivisor : PySem.W.kitOne K (.ref (T.cl (7 + k))) (.ref T.cZeroDivisor.C) = some (decide (k = 1)) := (T.kk (7 + k) 8 (by omega) (by decide)).trans (congrArg some (sub_hi k 0))
    have k_NegativeRoot : PySem.W.kitOne K (.ref (T.cl (7 + k))) (.ref T.cNegativeRoot.C) = some (decide (k = 2)) := (T.kk (7 + k) 9 (by omega) (by decide)).trans (congrArg some (sub_hi k 1))
    have k_ZeroBar : PySem.W.kitOne K (.ref (T.cl (7 + k))) (.ref T.cZeroBar.C) = some (decide (k = 3)) := (T.kk (7 + k) 10 (by omega) (by decide)).trans (congrArg some (sub_hi k 2))
    have k_FlatMap : PySem.W.kitOne K (.ref (T.cl (7 + k))) (.ref T.cFlatMap.C) = some (decide (k = 4)) := (T.kk (7 + k) 11 (by omega) (by decide)).trans (congrArg some (sub_hi k 3))
    have k_BadSteps : PySem.W.kitOne K (.ref (T.cl (7 + k))) (.ref T.cBadSteps.C) = some (decide (k = 5)) := (T.kk (7 + k) 12 (by omega) (by decide)).trans (congrArg some (sub_hi k 4))
    have k_NotOneWay : PySem.W.kitOne K (.ref (T.cl (7 + k))) (.ref T.cNotOneWay.C) = some (decide (k = 6)) := (T.kk (7 + k) 13 (by omega) (by decide)).trans (congrArg some (sub_hi k 5))
    have k_NotHeld : PySem.W.kitOne K (.ref (T.cl (7 + k))) (.ref T.cNotHeld.C) = some (decide (k = 7)) := (T.kk (7 + k) 14 (by omega) (by decide)).trans (congrArg some (sub_hi k 6))
    have k_NotFlat : PySem.W.kitOne K (.ref (T.cl (7 + k))) (.ref T.cNotFlat.C) = some (decide (k = 8)) := (T.kk (7 + k) 15 (by omega) (by decide)).trans (congrArg some (sub_hi k 7))
    have k_NotCover : PySem.W.kitOne K (.ref (T.cl (7 + k))) (.ref T.cNotCover.C) = some (decide (k = 9)) := (T.kk (7 + k) 16 (by omega) (by decide)).trans (congrArg some (sub_hi k 8))
    have k_NotOwnStress : PySem.W.kitOne K (.ref (T.cl (7 + k))) (.ref T.cNotOwnStress.C) = some (decide (k = 10)) := (T.kk (7 + k) 17 (by omega) (by decide)).trans (congrArg some (sub_hi k 9))
    have k_NotPicture : PySem.W.kitOne K (.ref (T.cl (7 + k))) (.ref T.cNotPicture.C) = some (decide (k = 11)) := (T.kk (7 + k) 18 (by omega) (by decide)).trans (congrArg some (sub_hi k 10))
    have k_NotLift : PySem.W.kitOne K (.ref (T.cl (7 + k))) (.ref T.cNotLift.C) = some (decide (k = 12)) := (T.kk (7 + k) 19 (by omega) (by decide)).trans (congrArg some (sub_hi k 11))
    have k_NoReciprocal : PySem.W.kitOne K (.ref (T.cl (7 + k))) (.ref T.cNoReciprocal.C) = some (decide (k = 13)) := (T.kk (7 + k) 20 (by omega) (by decide)).trans (congrArg some (sub_hi k 12))
    have k_NotMotion : PySem.W.kitOne K (.ref (T.cl (7 + k))) (.ref T.cNotMotion.C) = some (decide (k = 14)) := (T.kk (7 + k) 21 (by omega) (by decide)).trans (congrArg some (sub_hi k 13))
    have k_NotAlike : PySem.W.kitOne K (.ref (T.cl (7 + k))) (.ref T.cNotAlike.C) = some (decide (k = 15)) := (T.kk (7 + k) 22 (by omega) (by decide)).trans (congrArg some (sub_hi k 14))
    have k_NotCrank : PySem.W.kitOne K (.ref (T.cl (7 + k))) (.ref T.cNotCrank.C) = some (decide (k = 16)) := (T.kk (7 + k) 23 (by omega) (by decide)).trans (congrArg some (sub_hi k 15))
    have k_NothingToUndo : PySem.W.kitOne K (.ref (T.cl (7 + k))) (.ref T.cNothingToUndo.C) = some (decide (k = 17)) := (T.kk (7 + k) 24 (by omega) (by decide)).trans (congrArg some (sub_hi k 16))
    have k_NothingToRedo : PySem.W.kitOne K (.ref (T.cl (7 + k))) (.ref T.cNothingToRedo.C) = some (decide (k = 18)) := (T.kk (7 + k) 25 (by omega) (by decide)).trans (congrArg some (sub_hi k 17))
    have k_ValueError : PySem.W.kitOne K (.ref (T.cl (7 + k))) (.type "ValueError") = some true := T.kv (7 + k) (by omega)
    have kX := T.nfs k hk
    dsimp only [cxOf]
    simp only [↓dIsF_var hx k_ZeroDivisor, ↓dIsF_var hx k_NegativeRoot, ↓dIsF_var hx k_ZeroBar, ↓dIsF_var hx k_FlatMap, ↓dIsF_var hx k_BadSteps, ↓dIsF_var hx k_NotOneWay, ↓dIsF_var hx k_NotHeld, ↓dIsF_var hx k_NotFlat, ↓dIsF_var hx k_NotCover, ↓dIsF_var hx k_NotOwnStress, ↓dIsF_var hx k_NotPicture, ↓dIsF_var hx k_NotLift, ↓dIsF_var hx k_NoReciprocal, ↓dIsF_var hx k_NotMotion, ↓dIsF_var hx k_NotAlike, ↓dIsF_var hx k_NotCrank, ↓dIsF_var hx k_NothingToUndo, ↓dIsF_var hx k_NothingToRedo, ↓dXf_var hx kX (show List.lookup ("subject" : Str) ((["subject"] : List Str).zip [d]) = some d from by simp), ↓reduceIte, ↓startD, ↓List.map_cons, ↓List.map_nil, ↓List.length_cons, ↓List.length_nil, ↓List.cons_append, ↓List.nil_append, ↓List.replicate_succ, ↓List.replicate_zero, ↓List.getElem?_cons_zero, ↓List.getElem?_cons_succ, ↓List.set_cons_zero, ↓List.set_cons_succ, ↓dVar, ↓rdS, ↓dC, ↓dNew, ↓dOp, ↓onB, ↓qB, ↓dChain, ↓qAnd, ↓qOr, ↓qNot, ↓qTru, ↓truD, ↓dIf, ↓dAnd, ↓dOr, ↓dNot, ↓dUn, ↓ddNeg, ↓lNil, ↓lCons, ↓dTup, ↓nLst, ↓ddI, ↓ddI0, ↓ddAdd, ↓isNonD, ↓isBlD, ↓ddIsN, ↓ddIsB, ↓ddIx_t0, ↓ddIx_t1, ↓ddIx_t2, ↓ddIx_t3, ↓ddIx_l0, ↓ddIx_l1, ↓ddIx_l2, ↓dCB, ↓ddLen, ↓ddInt1, ↓ddAbs, ↓ddMM, ↓ddTuple, ↓nCB, ↓nnList, ↓ddIsi, ↓dCall, ↓sSkip, ↓sSeq, ↓sBreak, ↓sCont, ↓sExpr, ↓sRet, ↓sRetN, ↓sIf, ↓sNever, ↓gdName, ↓gdNil, ↓gdCons, ↓gdTup, ↓sAsg, ↓sSetN, ↓sPar, ↓sRaise, ↓sFrz, ↓owS, ↓sApp, ↓sIns, ↓dLenO, ↓dIxO, ↓sTry, ↓sFor, ↓iL, ↓iT, ↓onL, ↓onT, ↓iR1, ↓iR2, ↓nComp, ↓qYes, ↓ddEq_ii, ↓ddEq_ss, ↓ddEq_bb, ↓Bool.false_bne, ↓Bool.true_bne, ↓List.append_nil, ↓true_and, ↓and_true, ↓if_true, ↓if_false, ↓Bool.not_true, ↓Bool.not_false, ↓Bool.true_eq_false, ↓Bool.false_eq_true, ↓ite_true, ↓ite_false, ↓id_eq, ↓plain_non, ↓isIn_non_int, ↓isIn_non_str, ↓isIn_non_bool, ↓isIn_non_list, ↓isIn_non_tuple, ↓isIn_non_dict, ↓plain_bl, ↓isIn_bl_int, ↓isIn_bl_str, ↓isIn_bl_bool, ↓isIn_bl_list, ↓isIn_bl_tuple, ↓isIn_bl_dict, ↓plain_int, ↓isIn_int_int, ↓isIn_int_str, ↓isIn_int_bool, ↓isIn_int_list, ↓isIn_int_tuple, ↓isIn_int_dict, ↓plain_str, ↓isIn_str_int, ↓isIn_str_str, ↓isIn_str_bool, ↓isIn_str_list, ↓isIn_str_tuple, ↓isIn_str_dict, ↓plain_tup, ↓isIn_tup_int, ↓isIn_tup_str, ↓isIn_tup_bool, ↓isIn_tup_list, ↓isIn_tup_tuple, ↓isIn_tup_dict, ↓plain_lst, ↓isIn_lst_int, ↓isIn_lst_str, ↓isIn_lst_bool, ↓isIn_lst_list, ↓isIn_lst_tuple, ↓isIn_lst_dict, ↓sl0, ↓sl1, ↓sl2, ↓sl3, ↓sl4, ↓decide_true, ↓decide_false, ↓ddIsi2, ↓Bool.or_true, ↓Bool.or_false, ↓Bool.true_or]
    refine ⟨by decide, by decide, by decide, by decide, by decide, by decide, by decide, ?_⟩
    simp only [↓wipeD]
    refine compL_pick (j := 3) (by simp) [("ZeroDivisor", decide (k = 1)), ("NegativeRoot", decide (k = 2)), ("ZeroBar", decide (k = 3)), ("FlatMap", decide (k = 4)), ("BadSteps", decide (k = 5)), ("NotOneWay", decide (k = 6)), ("NotHeld", decide (k = 7)), ("NotFlat", decide (k = 8)), ("NotCover", decide (k = 9)), ("NotOwnStress", decide (k = 10)), ("NotPicture", decide (k = 11)), ("NotLift", decide (k = 12)), ("NoReciprocal", decide (k = 13)), ("NotMotion", decide (k = 14)), ("NotAlike", decide (k = 15)), ("NotCrank", decide (k = 16)), ("NothingToUndo", decide (k = 17)), ("NothingToRedo", decide (k = 18))] [] (by show 18 ≤ sizeLine; decide) ?_
    have e : (([("ZeroDivisor", decide (k = 1)), ("NegativeRoot", decide (k = 2)), ("ZeroBar", decide (k = 3)), ("FlatMap", decide (k = 4)), ("BadSteps", decide (k = 5)), ("NotOneWay", decide (k = 6)), ("NotHeld", decide (k = 7)), ("NotFlat", decide (k = 8)), ("NotCover", decide (k = 9)), ("NotOwnStress", decide (k = 10)), ("NotPicture", decide (k = 11)), ("NotLift", decide (k = 12)), ("NoReciprocal", decide (k = 13)), ("NotMotion", decide (k = 14)), ("NotAlike", decide (k = 15)), ("NotCrank", decide (k = 16)), ("NothingToUndo", decide (k = 17)), ("NothingToRedo", decide (k = 18))] : List (Str × Bool)).filter (·.2)).map (fun p => D.str p.1) = if k = 0 then [] else [.str (nmI (7 + k))] := by
      have hk2 : k = 0 ∨ k = 1 ∨ k = 2 ∨ k = 3 ∨ k = 4 ∨ k = 5 ∨ k = 6 ∨ k = 7 ∨ k = 8 ∨ k = 9 ∨ k = 10 ∨ k = 11 ∨ k = 12 ∨ k = 13 ∨ k = 14 ∨ k = 15 ∨ k = 16 ∨ k = 17 ∨ k = 18 := by omega
      clear q kX hx hk k_ZeroDivisor k_NegativeRoot k_ZeroBar k_FlatMap k_BadSteps k_NotOneWay k_NotHeld k_NotFlat k_NotCover k_NotOwnStress k_NotPicture k_NotLift k_NoReciprocal k_NotMotion k_NotAlike k_NotCrank k_NothingToUndo k_NothingToRedo k_ValueError
      rcases hk2 with rfl | rfl | rfl | rfl | rfl | rfl | rfl | rfl | rfl | rfl | rfl | rfl | rfl | rfl | rfl | rfl | rfl | rfl | rfl <;> rfl
    rw [List.nil_append, e]
    have lk : List.lookup ("subject" : Str) ((["subject"] : List Str).zip [d]) = some d := by simp
    by_cases k0 : k = 0
    · rw [if_pos k0, if_pos (by decide)]
      subst k0
      exact q
    · rw [if_neg k0, if_neg (by show ¬ (decide ((1 : Int) = 0) = true); decide), if_neg (by show ¬ (decide ((1 : Int) < 1) = true); decide), ddIx_l0]
      exact q
  · exact h.elim
end
end My
set_option exponentiation.threshold 100000
namespace My
open PySem PySem.Spec PyProof.Rows L2
local macro_rules | `(tactic| walk_at "dl") => `(tactic| simp only [startD, List.map_cons, List.map_nil, List.length_cons, List.length_nil, List.cons_append, List.nil_append, List.replicate_succ, List.replicate_zero, List.getElem?_cons_zero, List.getElem?_cons_succ, List.set_cons_zero, List.set_cons_succ,
  dVar, rdS, dC, dNew, dOp, onB, qB, dChain, qAnd, qOr, qNot, qTru, truD, dIf, dAnd, dOr, dNot, dUn, ddNeg, lNil, lCons, dTup, nLst, ddI, ddI0, ddAdd, isNonD, isBlD, ddIsN, ddIsB, ddIx_t0, ddIx_t1, ddIx_t2, ddIx_t3, ddIx_l0, ddIx_l1, ddIx_l2, dCB, ddLen, ddInt1, ddAbs, ddMM, ddTuple, nCB, nnList, ddIsi, dCall,
  sSkip, sSeq, sBreak, sCont, sExpr, sRet, sRetN, sIf, sNever, gdName, gdNil, gdCons, gdTup, sAsg, sSetN, sPar, sRaise, sFrz, owS, sApp, sIns, dLenO, dIxO, sTry, sFor, iL, iT, onL, onT, iR1, iR2, nComp, qYes,
  ddEq_ii, ddEq_ss, ddEq_bb, Bool.false_bne, Bool.true_bne, List.append_nil, true_and, and_true, if_true, if_false, Bool.not_true, Bool.not_false, Bool.true_eq_false, Bool.false_eq_true, ite_true, ite_false, id_eq])

local macro_rules | `(tactic| walk_at "is") => `(tactic| simp only [plain_non, isIn_non_int, isIn_non_str, isIn_non_bool, isIn_non_list, isIn_non_tuple, isIn_non_dict, plain_bl, isIn_bl_int, isIn_bl_str, isIn_bl_bool, isIn_bl_list, isIn_bl_tuple, isIn_bl_dict, plain_int, isIn_int_int, isIn_int_str, isIn_int_bool, isIn_int_list, isIn_int_tuple, isIn_int_dict, plain_str, isIn_str_int, isIn_str_str, isIn_str_bool, isIn_str_list, isIn_str_tuple, isIn_str_dict, plain_tup, isIn_tup_int, isIn_tup_str, isIn_tup_bool, isIn_tup_list, isIn_tup_tuple, isIn_tup_dict, plain_lst, isIn_lst_int, isIn_lst_str, isIn_lst_bool, isIn_lst_list, isIn_lst_tuple, isIn_lst_dict, sl0, sl1, sl2, sl3, sl4, decide_true, decide_false, ddIsi, ddIsi2, true_and, if_true, if_false, Bool.false_eq_true, Bool.not_true, Bool.not_false, Bool.or_true, Bool.or_false, Bool.true_or, and_true])
local macro_rules | `(tactic| walk_at "wk") => `(tactic| ((try walk_at "dl"); (try walk_at "is"); (try walk_at "dl")))

local macro_rules | `(tactic| walk_at "pl") => `(tactic| simp only [↓reduceIte, ↓startD, ↓List.map_cons, ↓List.map_nil, ↓List.length_cons, ↓List.length_nil, ↓List.cons_append, ↓List.nil_append, ↓List.replicate_succ, ↓List.replicate_zero, ↓List.getElem?_cons_zero, ↓List.getElem?_cons_succ, ↓List.set_cons_zero, ↓List.set_cons_succ, ↓dVar, ↓rdS, ↓dC, ↓dNew, ↓dOp, ↓onB, ↓qB, ↓dChain, ↓qAnd, ↓qOr, ↓qNot, ↓qTru, ↓truD, ↓dIf, ↓dAnd, ↓dOr, ↓dNot, ↓dUn, ↓ddNeg, ↓lNil, ↓lCons, ↓dTup, ↓nLst, ↓ddI, ↓ddI0, ↓ddAdd, ↓isNonD, ↓isBlD, ↓ddIsN, ↓ddIsB, ↓ddIx_t0, ↓ddIx_t1, ↓ddIx_t2, ↓ddIx_t3, ↓ddIx_l0, ↓ddIx_l1, ↓ddIx_l2, ↓dCB, ↓ddLen, ↓ddInt1, ↓ddAbs, ↓ddMM, ↓ddTuple, ↓nCB, ↓nnList, ↓ddIsi, ↓dCall, ↓sSkip, ↓sSeq, ↓sBreak, ↓sCont, ↓sExpr, ↓sRet, ↓sRetN, ↓sIf, ↓sNever, ↓gdName, ↓gdNil, ↓gdCons, ↓gdTup, ↓sAsg, ↓sSetN, ↓sPar, ↓sRaise, ↓sFrz, ↓owS, ↓sApp, ↓sIns, ↓dLenO, ↓dIxO, ↓sTry, ↓sFor, ↓iL, ↓iT, ↓onL, ↓onT, ↓iR1, ↓iR2, ↓nComp, ↓qYes, ↓ddEq_ii, ↓ddEq_ss, ↓ddEq_bb, ↓Bool.false_bne, ↓Bool.true_bne, ↓List.append_nil, ↓true_and, ↓and_true, ↓if_true, ↓if_false, ↓Bool.not_true, ↓Bool.not_false, ↓Bool.true_eq_false, ↓Bool.false_eq_true, ↓ite_true, ↓ite_false, ↓id_eq, ↓plain_non, ↓isIn_non_int, ↓isIn_non_str, ↓isIn_non_bool, ↓isIn_non_list, ↓isIn_non_tuple, ↓isIn_non_dict, ↓plain_bl, ↓isIn_bl_int, ↓isIn_bl_str, ↓isIn_bl_bool, ↓isIn_bl_list, ↓isIn_bl_tuple, ↓isIn_bl_dict, ↓plain_int, ↓isIn_int_int, ↓isIn_int_str, ↓isIn_int_bool, ↓isIn_int_list, ↓isIn_int_tuple, ↓isIn_int_dict, ↓plain_str, ↓isIn_str_int, ↓isIn_str_str, ↓isIn_str_bool, ↓isIn_str_list, ↓isIn_str_tuple, ↓isIn_str_dict, ↓plain_tup, ↓isIn_tup_int, ↓isIn_tup_str, ↓isIn_tup_bool, ↓isIn_tup_list, ↓isIn_tup_tuple, ↓isIn_tup_dict, ↓plain_lst, ↓isIn_lst_int, ↓isIn_lst_str, ↓isIn_lst_bool, ↓isIn_lst_list, ↓isIn_lst_tuple, ↓isIn_lst_dict, ↓sl0, ↓sl1, ↓sl2, ↓sl3, ↓sl4, ↓decide_true, ↓decide_false, ↓ddIsi2, ↓Bool.or_true, ↓Bool.or_false, ↓Bool.true_or])

section
variable {P : Program} {w : World} {K : PySem.W.Frag} {mg : Str → Option Value} {base : Heap}
theorem set_nil {i : Nat} {u : DS} {DD : DEnds} {ρ : DEnv} (h : u DD (ρ.set i (.ow []))) : sSeq (sSetN i (nLst lNil)) u DD ρ := ⟨by decide, h⟩
theorem if_no {cv : Value} {C : Addr} {fs : List Str} {vs : List D} {l : DEnv} {r u : DS} {DD : DEnds} (hx : XC K C) (hk : PySem.W.kitOne K (.ref C) cv = some false) (h : u DD (.fr (.err C fs vs) :: l)) :
    sSeq (sIf (qTru (dIsF K cv (dVar 0))) r sSkip) u DD (.fr (.err C fs vs) :: l) := by
  show dIsF K cv (dVar 0) (.fr (.err C fs vs) :: l) (fun d => truD d _) DD.ex
  rw [dIsF_var hx hk]
  exact h
theorem if_yes {cv : Value} {C : Addr} {fs : List Str} {vs : List D} {l : DEnv} {r u : DS} {DD : DEnds} (hx : XC K C) (hk : PySem.W.kitOne K (.ref C) cv = some true) (h : r { DD with nx := u DD } (.fr (.err C fs vs) :: l)) :
    sSeq (sIf (qTru (dIsF K cv (dVar 0))) r sSkip) u DD (.fr (.err C fs vs) :: l) := by
  show dIsF K cv (dVar 0) (.fr (.err C fs vs) :: l) (fun d => truD d _) DD.ex
  rw [dIsF_var hx hk]
  exact h
theorem app_1 {C : Addr} {fs : List Str} {vs : List D} {n f : Str} {d : D} {DD : DEnds} (hx : XC K C) (nf : PySem.W.findIn K (.ref C) f = some none) (lk : (fs.zip vs).lookup f = some d) (h : DD.nx [.fr (.err C fs vs), .ow [.tup [.str n, d]]]) :
    sApp 1 (dTup (lCons (dC (.str n)) (lCons (dXf K f (dVar 0)) lNil))) DD [.fr (.err C fs vs), .ow []] := by
  show dXf K f (dVar 0) [.fr (.err C fs vs), .ow []] _ DD.ex
  rw [dXf_var hx nf lk]
  exact ⟨by show 2 ≤ sizeLine; decide, by show 0 < sizeLine; decide, h⟩
theorem app_3 {C : Addr} {fs : List Str} {vs : List D} {n f1 f2 f3 : Str} {x y z : D} {DD : DEnds} (hx : XC K C) (n1 : PySem.W.findIn K (.ref C) f1 = some none) (n2 : PySem.W.findIn K (.ref C) f2 = some none) (n3 : PySem.W.findIn K (.ref C) f3 = some none)
    (l1 : (fs.zip vs).lookup f1 = some x) (l2 : (fs.zip vs).lookup f2 = some y) (l3 : (fs.zip vs).lookup f3 = some z) (h : DD.nx [.fr (.err C fs vs), .ow [.tup [.str n, .tup [x, y, z]]]]) :
    sApp 1 (dTup (lCons (dC (.str n)) (lCons (dTup (lCons (dXf K f1 (dVar 0)) (lCons (dXf K f2 (dVar 0)) (lCons (dXf K f3 (dVar 0)) lNil)))) lNil))) DD [.fr (.err C fs vs), .ow []] := by
  show dXf K f1 (dVar 0) [.fr (.err C fs vs), .ow []] _ DD.ex
  rw [dXf_var hx n1 l1]
  show dXf K f2 (dVar 0) [.fr (.err C fs vs), .ow []] _ DD.ex
  rw [dXf_var hx n2 l2]
  show dXf K f3 (dVar 0) [.fr (.err C fs vs), .ow []] _ DD.ex
  rw [dXf_var hx n3 l3]
  exact ⟨by show 3 ≤ sizeLine; decide, by show 2 ≤ sizeLine; decide, by show 0 < sizeLine; decide, h⟩
theorem app_u {T : Txt K mg} {k : Nat} {d : D} {DD : DEnds} (hk : k < 19) (h : DD.nx [.fr (.err (T.cl (7 + k)) ["subject"] [d]), .ow [.tup [.str (nmI (7 + k)), d]]]) :
    sApp 1 (dCall (0 + 1) (m_unfitF T) [] (lCons (dVar 0) lNil)) DD [.fr (.err (T.cl (7 + k)) ["subject"] [d]), .ow []] :=
  ⟨rfl, k, d, hk, rfl, rfl, rfl, by show 0 < sizeLine; decide, h⟩
theorem ok_refusedF (T : Txt K mg) : FnOk P w K mg base (L2N.CX P w) 2 T.drefused.f T.drefused.fd P_refused (spD K 1 (m_refusedF T)) := by
  have G_unfit : FnOk P w K mg base (L2N.CX P w) 1 T.dunfit.f T.dunfit.fd P_unfit (spD K 1 (m_unfitF T)) := ok_unfitF T
  refine T.drefused.okD sc_refused fun cdv A outer s H E so A0 hr tk hp => ⟨_, (pds_cons (pds_setN (i := 1) sc_refused.nd rfl (by first | exact .inl rfl | exact .inr rfl) (pdn_lst pda_nil))
      (pds_cons (pds_if (pdt_tru (pd_isF (by rfl) T.m_isinstance (pd_var (pv 0)) (pe_glob (v := .ref T.cWrongKind.C) (by rfl) T.cWrongKind.g rfl) (.own _)))
        (pds_one (pds_app (pv 1) (pd_tup (pda_cons pd_str (pda_cons (pd_xf (pd_var (pv 0))) pda_nil))) rfl rfl rfl rfl rfl rfl))
        pds_nil)
      (pds_cons (pds_if (pdt_tru (pd_isF (by rfl) T.m_isinstance (pd_var (pv 0)) (pe_glob (v := .ref T.cOutOfBounds.C) (by rfl) T.cOutOfBounds.g rfl) (.own _)))
        (pds_one (pds_app (pv 1) (pd_tup (pda_cons pd_str (pda_cons (pd_xf (pd_var (pv 0))) pda_nil))) rfl rfl rfl rfl rfl rfl))
        pds_nil)
      (pds_cons (pds_if (pdt_tru (pd_isF (by rfl) T.m_isinstance (pd_var (pv 0)) (pe_glob (v := .ref T.cRepeatedName.C) (by rfl) T.cRepeatedName.g rfl) (.own _)))
        (pds_one (pds_app (pv 1) (pd_tup (pda_cons pd_str (pda_cons (pd_xf (pd_var (pv 0))) pda_nil))) rfl rfl rfl rfl rfl rfl))
        pds_nil)
      (pds_cons (pds_if (pdt_tru (pd_isF (by rfl) T.m_isinstance (pd_var (pv 0)) (pe_glob (v := .ref T.cUnknownName.C) (by rfl) T.cUnknownName.g rfl) (.own _)))
        (pds_one (pds_app (pv 1) (pd_tup (pda_cons pd_str (pda_cons (pd_xf (pd_var (pv 0))) pda_nil))) rfl rfl rfl rfl rfl rfl))
        pds_nil)
      (pds_cons (pds_if (pdt_tru (pd_isF (by rfl) T.m_isinstance (pd_var (pv 0)) (pe_glob (v := .ref T.cUnsafe.C) (by rfl) T.cUnsafe.g rfl) (.own _)))
        (pds_one (pds_app (pv 1) (pd_tup (pda_cons pd_str (pda_cons (pd_xf (pd_var (pv 0))) pda_nil))) rfl rfl rfl rfl rfl rfl))
        pds_nil)
      (pds_cons (pds_if (pdt_tru (pd_isF (by rfl) T.m_isinstance (pd_var (pv 0)) (pe_glob (v := .ref T.cBadText.C) (by rfl) T.cBadText.g rfl) (.own _)))
        (pds_one (pds_app (pv 1) (pd_tup (pda_cons pd_str (pda_cons (pd_tup (pda_cons (pd_xf (pd_var (pv 0))) (pda_cons (pd_xf (pd_var (pv 0))) (pda_cons (pd_xf (pd_var (pv 0))) pda_nil)))) pda_nil))) rfl rfl rfl rfl rfl rfl))
        pds_nil)
      (pds_cons (pds_if (pdt_tru (pd_isF (by rfl) T.m_isinstance (pd_var (pv 0)) (pe_glob (v := .ref T.cUnfitError.C) (by rfl) T.cUnfitError.g rfl) (.own _)))
        (pds_one (pds_app (pv 1) (pd_call G_unfit (hr.mono (by omega)) (by rfl) T.dunfit.g T.dunfit.F.kp T.dunfit.b (fun σ => L2N.passAt tk σ) (pda_cons (pd_var (pv 0)) pda_nil)) rfl rfl rfl rfl rfl rfl))
        pds_nil)
      (pds_cons (pds_if (PDW.t (pdw_or (pdt_not (pdt_tru (pd_isF (by rfl) T.m_isinstance (pd_var (pv 0)) (pe_glob (v := .ref T.cFrameError.C) (by rfl) T.cFrameError.g rfl) (.own _)))) (pdw_or1 (pdt_not (pdt_tru (pd_isF (by rfl) T.m_isinstance (pd_var (pv 0)) (pe_bltn (v := .ty "ValueError") (by rfl) T.m_ValueError bt_ValueError rfl) (.ty _)))))))
        (pds_one (pds_ret (pd_tup (pda_cons pd_str (pda_cons pd_non pda_nil)))))
        pds_nil)
      (pds_cons (pds_if (pdt_cmp (oo_eq hr.units) ol_eq (pd_lenO (by rfl) T.m_len (pv 1)) pd_int (nomark _))
        (pds_one (pds_ret (pd_tup (pda_cons pd_str (pda_cons pd_non pda_nil)))))
        pds_nil)
      (pds_cons (pds_if (pdt_cmp op_gt ol_gt (pd_lenO (by rfl) T.m_len (pv 1)) pd_int (nomark _))
        (pds_frz 1 (pds_one (pds_ret (pd_tup (pda_cons pd_str (pda_cons (pd_var (pv 1)) pda_nil))))))
        pds_nil)
      (pds_one (pds_ret (pd_ixO (pv 1) pd_int (fun _ _ => rfl))))))))))))))), fun ds Q E hl h => ?_⟩
  unfold m_refusedF at h
  split at h
  · rename_i C fs vs
    obtain ⟨t, h, q⟩ := h
    dsimp only [cxOf]
    refine set_nil ?_
    show sSeq _ _ _ [.fr (.err C fs vs), .ow []]
    rcases h with ⟨k, d, hk, rfl, rfl, rfl, rfl⟩ | ⟨rfl, rfl, rfl, rfl⟩ | ⟨d, rfl, rfl, rfl, rfl⟩ | ⟨d, rfl, rfl, rfl, rfl⟩ | ⟨d, rfl, rfl, rfl, rfl⟩ | ⟨d, rfl, rfl, rfl, rfl⟩ | ⟨d, rfl, rfl, rfl, rfl⟩ | ⟨x, y, z, rfl, rfl, rfl, rfl⟩
    · have hx := T.xc (7 + k) (by omega)
      have k_WrongKind : PySem.W.kitOne K (.ref (T.cl (7 + k))) (.ref T.cWrongKind.C) = some false := (T.kk (7 + k) 1 (by omega) (by decide)).trans (congrArg some (sub_lo (by decide) (by decide)))
      have k_OutOfBounds : PySem.W.kitOne K (.ref (T.cl (7 + k))) (.ref T.cOutOfBounds.C) = some false := (T.kk (7 + k) 2 (by omega) (by decide)).trans (congrArg some (sub_lo (by decide) (by decide)))
      have k_RepeatedName : PySem.W.kitOne K (.ref (T.cl (7 + k))) (.ref T.cRepeatedName.C) = some false := (T.kk (7 + k) 3 (by omega) (by decide)).trans (congrArg some (sub_lo (by decide) (by decide)))
      have k_UnknownName : PySem.W.kitOne K (.ref (T.cl (7 + k))) (.ref T.cUnknownName.C) = some false := (T.kk (7 + k) 4 (by omega) (by decide)).trans (congrArg some (sub_lo (by decide) (by decide)))
      have k_Unsafe : PySem.W.kitOne K (.ref (T.cl (7 + k))) (.ref T.cUnsafe.C) = some false := (T.kk (7 + k) 5 (by omega) (by decide)).trans (congrArg some (sub_lo (by decide) (by decide)))
      have k_BadText : PySem.W.kitOne K (.ref (T.cl (7 + k))) (.ref T.cBadText.C) = some false := (T.kk (7 + k) 6 (by omega) (by decide)).trans (congrArg some (sub_lo (by decide) (by decide)))
      have k_UnfitError : PySem.W.kitOne K (.ref (T.cl (7 + k))) (.ref T.cUnfitError.C) = some true := (T.kk (7 + k) 7 (by omega) (by decide)).trans (congrArg some (sub_7 k))
      have k_FrameError : PySem.W.kitOne K (.ref (T.cl (7 + k))) (.ref T.cFrameError.C) = some true := (T.kk (7 + k) 0 (by omega) (by decide)).trans (congrArg some (rfl))
      have k_ValueError : PySem.W.kitOne K (.ref (T.cl (7 + k))) (.type "ValueError") = some true := T.kv (7 + k) (by omega)
      refine if_no hx k_WrongKind ?_
      refine if_no hx k_OutOfBounds ?_
      refine if_no hx k_RepeatedName ?_
      refine if_no hx k_UnknownName ?_
      refine if_no hx k_Unsafe ?_
      refine if_no hx k_BadText ?_
      refine if_yes hx k_UnfitError (app_u hk ?_)
      simp only [↓dIsF_var hx k_FrameError, ↓dIsF_var hx k_ValueError, ↓reduceIte, ↓startD, ↓List.map_cons, ↓List.map_nil, ↓List.length_cons, ↓List.length_nil, ↓List.cons_append, ↓List.nil_append, ↓List.replicate_succ, ↓List.replicate_zero, ↓List.getElem?_cons_zero, ↓List.getElem?_cons_succ, ↓List.set_cons_zero, ↓List.set_cons_succ, ↓dVar, ↓rdS, ↓dC, ↓dNew, ↓dOp, ↓onB, ↓qB, ↓dChain, ↓qAnd, ↓qOr, ↓qNot, ↓qTru, ↓truD, ↓dIf, ↓dAnd, ↓dOr, ↓dNot, ↓dUn, ↓ddNeg, ↓lNil, ↓lCons, ↓dTup, ↓nLst, ↓ddI, ↓ddI0, ↓ddAdd, ↓isNonD, ↓isBlD, ↓ddIsN, ↓ddIsB, ↓ddIx_t0, ↓ddIx_t1, ↓ddIx_t2, ↓ddIx_t3, ↓ddIx_l0, ↓ddIx_l1, ↓ddIx_l2, ↓dCB, ↓ddLen, ↓ddInt1, ↓ddAbs, ↓ddMM, ↓ddTuple, ↓nCB, ↓nnList, ↓ddIsi, ↓dCall, ↓sSkip, ↓sSeq, ↓sBreak, ↓sCont, ↓sExpr, ↓sRet, ↓sRetN, ↓sIf, ↓sNever, ↓gdName, ↓gdNil, ↓gdCons, ↓gdTup, ↓sAsg, ↓sSetN, ↓sPar, ↓sRaise, ↓sFrz, ↓owS, ↓sApp, ↓sIns, ↓dLenO, ↓dIxO, ↓sTry, ↓sFor, ↓iL, ↓iT, ↓onL, ↓onT, ↓iR1, ↓iR2, ↓nComp, ↓qYes, ↓ddEq_ii, ↓ddEq_ss, ↓ddEq_bb, ↓Bool.false_bne, ↓Bool.true_bne, ↓List.append_nil, ↓true_and, ↓and_true, ↓if_true, ↓if_false, ↓Bool.not_true, ↓Bool.not_false, ↓Bool.true_eq_false, ↓Bool.false_eq_true, ↓ite_true, ↓ite_false, ↓id_eq, ↓plain_non, ↓isIn_non_int, ↓isIn_non_str, ↓isIn_non_bool, ↓isIn_non_list, ↓isIn_non_tuple, ↓isIn_non_dict, ↓plain_bl, ↓isIn_bl_int, ↓isIn_bl_str, ↓isIn_bl_bool, ↓isIn_bl_list, ↓isIn_bl_tuple, ↓isIn_bl_dict, ↓plain_int, ↓isIn_int_int, ↓isIn_int_str, ↓isIn_int_bool, ↓isIn_int_list, ↓isIn_int_tuple, ↓isIn_int_dict, ↓plain_str, ↓isIn_str_int, ↓isIn_str_str, ↓isIn_str_bool, ↓isIn_str_list, ↓isIn_str_tuple, ↓isIn_str_dict, ↓plain_tup, ↓isIn_tup_int, ↓isIn_tup_str, ↓isIn_tup_bool, ↓isIn_tup_list, ↓isIn_tup_tuple, ↓isIn_tup_dict, ↓plain_lst, ↓isIn_lst_int, ↓isIn_lst_str, ↓isIn_lst_bool, ↓isIn_lst_list, ↓isIn_lst_tuple, ↓isIn_lst_dict, ↓sl0, ↓sl1, ↓sl2, ↓sl3, ↓sl4, ↓decide_true, ↓decide_false, ↓ddIsi2, ↓Bool.or_true, ↓Bool.or_false, ↓Bool.true_or]
      exact ⟨_, rfl, q⟩
    · have hx := T.xc 0 (by decide)
      have k_WrongKind : PySem.W.kitOne K (.ref (T.cl 0)) (.ref T.cWrongKind.C) = some false := T.kk 0 1 (by decide) (by decide)
      have k_OutOfBounds : PySem.W.kitOne K (.ref (T.cl 0)) (.ref T.cOutOfBounds.C) = some false := T.kk 0 2 (by decide) (by decide)
      have k_RepeatedName : PySem.W.kitOne K (.ref (T.cl 0)) (.ref T.cRepeatedName.C) = some false := T.kk 0 3 (by decide) (by decide)
      have k_UnknownName : PySem.W.kitOne K (.ref (T.cl 0)) (.ref T.cUnknownName.C) = some false := T.kk 0 4 (by decide) (by decide)
      have k_Unsafe : PySem.W.kitOne K (.ref (T.cl 0)) (.ref T.cUnsafe.C) = some false := T.kk 0 5 (by decide) (by decide)
      have k_BadText : PySem.W.kitOne K (.ref (T.cl 0)) (.ref T.cBadText.C) = some false := T.kk 0 6 (by decide) (by decide)
      have k_UnfitError : PySem.W.kitOne K (.ref (T.cl 0)) (.ref T.cUnfitError.C) = some false := T.kk 0 7 (by decide) (by decide)
      have k_FrameError : PySem.W.kitOne K (.ref (T.cl 0)) (.ref T.cFrameError.C) = some true := T.kk 0 0 (by decide) (by decide)
      have k_ValueError : PySem.W.kitOne K (.ref (T.cl 0)) (.type "ValueError") = some true := T.kv 0 (by decide)
      refine if_no hx k_WrongKind ?_
      refine if_no hx k_OutOfBounds ?_
      refine if_no hx k_RepeatedName ?_
      refine if_no hx k_UnknownName ?_
      refine if_no hx k_Unsafe ?_
      refine if_no hx k_BadText ?_
      refine if_no hx k_UnfitError ?_
      simp only [↓dIsF_var hx k_FrameError, ↓dIsF_var hx k_ValueError, ↓reduceIte, ↓startD, ↓List.map_cons, ↓List.map_nil, ↓List.length_cons, ↓List.length_nil, ↓List.cons_append, ↓List.nil_append, ↓List.replicate_succ, ↓List.replicate_zero, ↓List.getElem?_cons_zero, ↓List.getElem?_cons_succ, ↓List.set_cons_zero, ↓List.set_cons_succ, ↓dVar, ↓rdS, ↓dC, ↓dNew, ↓dOp, ↓onB, ↓qB, ↓dChain, ↓qAnd, ↓qOr, ↓qNot, ↓qTru, ↓truD, ↓dIf, ↓dAnd, ↓dOr, ↓dNot, ↓dUn, ↓ddNeg, ↓lNil, ↓lCons, ↓dTup, ↓nLst, ↓ddI, ↓ddI0, ↓ddAdd, ↓isNonD, ↓isBlD, ↓ddIsN, ↓ddIsB, ↓ddIx_t0, ↓ddIx_t1, ↓ddIx_t2, ↓ddIx_t3, ↓ddIx_l0, ↓ddIx_l1, ↓ddIx_l2, ↓dCB, ↓ddLen, ↓ddInt1, ↓ddAbs, ↓ddMM, ↓ddTuple, ↓nCB, ↓nnList, ↓ddIsi, ↓dCall, ↓sSkip, ↓sSeq, ↓sBreak, ↓sCont, ↓sExpr, ↓sRet, ↓sRetN, ↓sIf, ↓sNever, ↓gdName, ↓gdNil, ↓gdCons, ↓gdTup, ↓sAsg, ↓sSetN, ↓sPar, ↓sRaise, ↓sFrz, ↓owS, ↓sApp, ↓sIns, ↓dLenO, ↓dIxO, ↓sTry, ↓sFor, ↓iL, ↓iT, ↓onL, ↓onT, ↓iR1, ↓iR2, ↓nComp, ↓qYes, ↓ddEq_ii, ↓ddEq_ss, ↓ddEq_bb, ↓Bool.false_bne, ↓Bool.true_bne, ↓List.append_nil, ↓true_and, ↓and_true, ↓if_true, ↓if_false, ↓Bool.not_true, ↓Bool.not_false, ↓Bool.true_eq_false, ↓Bool.false_eq_true, ↓ite_true, ↓ite_false, ↓id_eq, ↓plain_non, ↓isIn_non_int, ↓isIn_non_str, ↓isIn_non_bool, ↓isIn_non_list, ↓isIn_non_tuple, ↓isIn_non_dict, ↓plain_bl, ↓isIn_bl_int, ↓isIn_bl_str, ↓isIn_bl_bool, ↓isIn_bl_list, ↓isIn_bl_tuple, ↓isIn_bl_dict, ↓plain_int, ↓isIn_int_int, ↓isIn_int_str, ↓isIn_int_bool, ↓isIn_int_list, ↓isIn_int_tuple, ↓isIn_int_dict, ↓plain_str, ↓isIn_str_int, ↓isIn_str_str, ↓isIn_str_bool, ↓isIn_str_list, ↓isIn_str_tuple, ↓isIn_str_dict, ↓plain_tup, ↓isIn_tup_int, ↓isIn_tup_str, ↓isIn_tup_bool, ↓isIn_tup_list, ↓isIn_tup_tuple, ↓isIn_tup_dict, ↓plain_lst, ↓isIn_lst_int, ↓isIn_lst_str, ↓isIn_lst_bool, ↓isIn_lst_list, ↓isIn_lst_tuple, ↓isIn_lst_dict, ↓sl0, ↓sl1, ↓sl2, ↓sl3, ↓sl4, ↓decide_true, ↓decide_false, ↓ddIsi2, ↓Bool.or_true, ↓Bool.or_false, ↓Bool.true_or]
      exact q
    · have hx := T.xc 1 (by decide)
      have k_WrongKind : PySem.W.kitOne K (.ref (T.cl 1)) (.ref T.cWrongKind.C) = some true := T.kk 1 1 (by decide) (by decide)
      have k_OutOfBounds : PySem.W.kitOne K (.ref (T.cl 1)) (.ref T.cOutOfBounds.C) = some false := T.kk 1 2 (by decide) (by decide)
      have k_RepeatedName : PySem.W.kitOne K (.ref (T.cl 1)) (.ref T.cRepeatedName.C) = some false := T.kk 1 3 (by decide) (by decide)
      have k_UnknownName : PySem.W.kitOne K (.ref (T.cl 1)) (.ref T.cUnknownName.C) = some false := T.kk 1 4 (by decide) (by decide)
      have k_Unsafe : PySem.W.kitOne K (.ref (T.cl 1)) (.ref T.cUnsafe.C) = some false := T.kk 1 5 (by decide) (by decide)
      have k_BadText : PySem.W.kitOne K (.ref (T.cl 1)) (.ref T.cBadText.C) = some false := T.kk 1 6 (by decide) (by decide)
      have k_UnfitError : PySem.W.kitOne K (.ref (T.cl 1)) (.ref T.cUnfitError.C) = some false := T.kk 1 7 (by decide) (by decide)
      have k_FrameError : PySem.W.kitOne K (.ref (T.cl 1)) (.ref T.cFrameError.C) = some true := T.kk 1 0 (by decide) (by decide)
      have k_ValueError : PySem.W.kitOne K (.ref (T.cl 1)) (.type "ValueError") = some true := T.kv 1 (by decide)
      have lk_argument : List.lookup ("argument" : Str) ((["argument"] : List Str).zip [d]) = some d := by
        simp [List.lookup]
      have nf_argument : PySem.W.findIn K (.ref (T.cl 1)) "argument" = some none := T.zWrongKind.nf "argument" (by simp)
      refine if_yes hx k_WrongKind (app_1 hx nf_argument lk_argument ?_)
      refine if_no hx k_OutOfBounds ?_
      refine if_no hx k_RepeatedName ?_
      refine if_no hx k_UnknownName ?_
      refine if_no hx k_Unsafe ?_
      refine if_no hx k_BadText ?_
      refine if_no hx k_UnfitError ?_
      simp only [↓dIsF_var hx k_FrameError, ↓dIsF_var hx k_ValueError, ↓reduceIte, ↓startD, ↓List.map_cons, ↓List.map_nil, ↓List.length_cons, ↓List.length_nil, ↓List.cons_append, ↓List.nil_append, ↓List.replicate_succ, ↓List.replicate_zero, ↓List.getElem?_cons_zero, ↓List.getElem?_cons_succ, ↓List.set_cons_zero, ↓List.set_cons_succ, ↓dVar, ↓rdS, ↓dC, ↓dNew, ↓dOp, ↓onB, ↓qB, ↓dChain, ↓qAnd, ↓qOr, ↓qNot, ↓qTru, ↓truD, ↓dIf, ↓dAnd, ↓dOr, ↓dNot, ↓dUn, ↓ddNeg, ↓lNil, ↓lCons, ↓dTup, ↓nLst, ↓ddI, ↓ddI0, ↓ddAdd, ↓isNonD, ↓isBlD, ↓ddIsN, ↓ddIsB, ↓ddIx_t0, ↓ddIx_t1, ↓ddIx_t2, ↓ddIx_t3, ↓ddIx_l0, ↓ddIx_l1, ↓ddIx_l2, ↓dCB, ↓ddLen, ↓ddInt1, ↓ddAbs, ↓ddMM, ↓ddTuple, ↓nCB, ↓nnList, ↓ddIsi, ↓dCall, ↓sSkip, ↓sSeq, ↓sBreak, ↓sCont, ↓sExpr, ↓sRet, ↓sRetN, ↓sIf, ↓sNever, ↓gdName, ↓gdNil, ↓gdCons, ↓gdTup, ↓sAsg, ↓sSetN, ↓sPar, ↓sRaise, ↓sFrz, ↓owS, ↓sApp, ↓sIns, ↓dLenO, ↓dIxO, ↓sTry, ↓sFor, ↓iL, ↓iT, ↓onL, ↓onT, ↓iR1, ↓iR2, ↓nComp, ↓qYes, ↓ddEq_ii, ↓ddEq_ss, ↓ddEq_bb, ↓Bool.false_bne, ↓Bool.true_bne, ↓List.append_nil, ↓true_and, ↓and_true, ↓if_true, ↓if_false, ↓Bool.not_true, ↓Bool.not_false, ↓Bool.true_eq_false, ↓Bool.false_eq_true, ↓ite_true, ↓ite_false, ↓id_eq, ↓plain_non, ↓isIn_non_int, ↓isIn_non_str, ↓isIn_non_bool, ↓isIn_non_list, ↓isIn_non_tuple, ↓isIn_non_dict, ↓plain_bl, ↓isIn_bl_int, ↓isIn_bl_str, ↓isIn_bl_bool, ↓isIn_bl_list, ↓isIn_bl_tuple, ↓isIn_bl_dict, ↓plain_int, ↓isIn_int_int, ↓isIn_int_str, ↓isIn_int_bool, ↓isIn_int_list, ↓isIn_int_tuple, ↓isIn_int_dict, ↓plain_str, ↓isIn_str_int, ↓isIn_str_str, ↓isIn_str_bool, ↓isIn_str_list, ↓isIn_str_tuple, ↓isIn_str_dict, ↓plain_tup, ↓isIn_tup_int, ↓isIn_tup_str, ↓isIn_tup_bool, ↓isIn_tup_list, ↓isIn_tup_tuple, ↓isIn_tup_dict, ↓plain_lst, ↓isIn_lst_int, ↓isIn_lst_str, ↓isIn_lst_bool, ↓isIn_lst_list, ↓isIn_lst_tuple, ↓isIn_lst_dict, ↓sl0, ↓sl1, ↓sl2, ↓sl3, ↓sl4, ↓decide_true, ↓decide_false, ↓ddIsi2, ↓Bool.or_true, ↓Bool.or_false, ↓Bool.true_or]
      exact ⟨_, rfl, q⟩
    · have hx := T.xc 2 (by decide)
      have k_WrongKind : PySem.W.kitOne K (.ref (T.cl 2)) (.ref T.cWrongKind.C) = some false := T.kk 2 1 (by decide) (by decide)
      have k_OutOfBounds : PySem.W.kitOne K (.ref (T.cl 2)) (.ref T.cOutOfBounds.C) = some true := T.kk 2 2 (by decide) (by decide)
      have k_RepeatedName : PySem.W.kitOne K (.ref (T.cl 2)) (.ref T.cRepeatedName.C) = some false := T.kk 2 3 (by decide) (by decide)
      have k_UnknownName : PySem.W.kitOne K (.ref (T.cl 2)) (.ref T.cUnknownName.C) = some false := T.kk 2 4 (by decide) (by decide)
      have k_Unsafe : PySem.W.kitOne K (.ref (T.cl 2)) (.ref T.cUnsafe.C) = some false := T.kk 2 5 (by decide) (by decide)
      have k_BadText : PySem.W.kitOne K (.ref (T.cl 2)) (.ref T.cBadText.C) = some false := T.kk 2 6 (by decide) (by decide)
      have k_UnfitError : PySem.W.kitOne K (.ref (T.cl 2)) (.ref T.cUnfitError.C) = some false := T.kk 2 7 (by decide) (by decide)
      have k_FrameError : PySem.W.kitOne K (.ref (T.cl 2)) (.ref T.cFrameError.C) = some true := T.kk 2 0 (by decide) (by decide)
      have k_ValueError : PySem.W.kitOne K (.ref (T.cl 2)) (.type "ValueError") = some true := T.kv 2 (by decide)
      have lk_argument : List.lookup ("argument" : Str) ((["argument"] : List Str).zip [d]) = some d := by
        simp [List.lookup]
      have nf_argument : PySem.W.findIn K (.ref (T.cl 2)) "argument" = some none := T.zOutOfBounds.nf "argument" (by simp)
      refine if_no hx k_WrongKind ?_
      refine if_yes hx k_OutOfBounds (app_1 hx nf_argument lk_argument ?_)
      refine if_no hx k_RepeatedName ?_
      refine if_no hx k_UnknownName ?_
      refine if_no hx k_Unsafe ?_
      refine if_no hx k_BadText ?_
      refine if_no hx k_UnfitError ?_
      simp only [↓dIsF_var hx k_FrameError, ↓dIsF_var hx k_ValueError, ↓reduceIte, ↓startD, ↓List.map_cons, ↓List.map_nil, ↓List.length_cons, ↓List.length_nil, ↓List.cons_append, ↓List.nil_append, ↓List.replicate_succ, ↓List.replicate_zero, ↓List.getElem?_cons_zero, ↓List.getElem?_cons_succ, ↓List.set_cons_zero, ↓List.set_cons_succ, ↓dVar, ↓rdS, ↓dC, ↓dNew, ↓dOp, ↓onB, ↓qB, ↓dChain, ↓qAnd, ↓qOr, ↓qNot, ↓qTru, ↓truD, ↓dIf, ↓dAnd, ↓dOr, ↓dNot, ↓dUn, ↓ddNeg, ↓lNil, ↓lCons, ↓dTup, ↓nLst, ↓ddI, ↓ddI0, ↓ddAdd, ↓isNonD, ↓isBlD, ↓ddIsN, ↓ddIsB, ↓ddIx_t0, ↓ddIx_t1, ↓ddIx_t2, ↓ddIx_t3, ↓ddIx_l0, ↓ddIx_l1, ↓ddIx_l2, ↓dCB, ↓ddLen, ↓ddInt1, ↓ddAbs, ↓ddMM, ↓ddTuple, ↓nCB, ↓nnList, ↓ddIsi, ↓dCall, ↓sSkip, ↓sSeq, ↓sBreak, ↓sCont, ↓sExpr, ↓sRet, ↓sRetN, ↓sIf, ↓sNever, ↓gdName, ↓gdNil, ↓gdCons, ↓gdTup, ↓sAsg, ↓sSetN, ↓sPar, ↓sRaise, ↓sFrz, ↓owS, ↓sApp, ↓sIns, ↓dLenO, ↓dIxO, ↓sTry, ↓sFor, ↓iL, ↓iT, ↓onL, ↓onT, ↓iR1, ↓iR2, ↓nComp, ↓qYes, ↓ddEq_ii, ↓ddEq_ss, ↓ddEq_bb, ↓Bool.false_bne, ↓Bool.true_bne, ↓List.append_nil, ↓true_and, ↓and_true, ↓if_true, ↓if_false, ↓Bool.not_true, ↓Bool.not_false, ↓Bool.true_eq_false, ↓Bool.false_eq_true, ↓ite_true, ↓ite_false, ↓id_eq, ↓plain_non, ↓isIn_non_int, ↓isIn_non_str, ↓isIn_non_bool, ↓isIn_non_list, ↓isIn_non_tuple, ↓isIn_non_dict, ↓plain_bl, ↓isIn_bl_int, ↓isIn_bl_str, ↓isIn_bl_bool, ↓isIn_bl_list, ↓isIn_bl_tuple, ↓isIn_bl_dict, ↓plain_int, ↓isIn_int_int, ↓isIn_int_str, ↓isIn_int_bool, ↓isIn_int_list, ↓isIn_int_tuple, ↓isIn_int_dict, ↓plain_str, ↓isIn_str_int, ↓isIn_str_str, ↓isIn_str_bool, ↓isIn_str_list, ↓isIn_str_tuple, ↓isIn_str_dict, ↓plain_tup, ↓isIn_tup_int, ↓isIn_tup_str, ↓isIn_tup_bool, ↓isIn_tup_list, ↓isIn_tup_tuple, ↓isIn_tup_dict, ↓plain_lst, ↓isIn_lst_int, ↓isIn_lst_str, ↓isIn_lst_bool, ↓isIn_lst_list, ↓isIn_lst_tuple, ↓isIn_lst_dict, ↓sl0, ↓sl1, ↓sl2, ↓sl3, ↓sl4, ↓decide_true, ↓decide_false, ↓ddIsi2, ↓Bool.or_true, ↓Bool.or_false, ↓Bool.true_or]
      exact ⟨_, rfl, q⟩
    · have hx := T.xc 3 (by decide)
      have k_WrongKind : PySem.W.kitOne K (.ref (T.cl 3)) (.ref T.cWrongKind.C) = some false := T.kk 3 1 (by decide) (by decide)
      have k_OutOfBounds : PySem.W.kitOne K (.ref (T.cl 3)) (.ref T.cOutOfBounds.C) = some false := T.kk 3 2 (by decide) (by decide)
      have k_RepeatedName : PySem.W.kitOne K (.ref (T.cl 3)) (.ref T.cRepeatedName.C) = some true := T.kk 3 3 (by decide) (by decide)
      have k_UnknownName : PySem.W.kitOne K (.ref (T.cl 3)) (.ref T.cUnknownName.C) = some false := T.kk 3 4 (by decide) (by decide)
      have k_Unsafe : PySem.W.kitOne K (.ref (T.cl 3)) (.ref T.cUnsafe.C) = some false := T.kk 3 5 (by decide) (by decide)
      have k_BadText : PySem.W.kitOne K (.ref (T.cl 3)) (.ref T.cBadText.C) = some false := T.kk 3 6 (by decide) (by decide)
      have k_UnfitError : PySem.W.kitOne K (.ref (T.cl 3)) (.ref T.cUnfitError.C) = some false := T.kk 3 7 (by decide) (by decide)
      have k_FrameError : PySem.W.kitOne K (.ref (T.cl 3)) (.ref T.cFrameError.C) = some true := T.kk 3 0 (by decide) (by decide)
      have k_ValueError : PySem.W.kitOne K (.ref (T.cl 3)) (.type "ValueError") = some true := T.kv 3 (by decide)
      have lk_repeated : List.lookup ("repeated" : Str) ((["repeated"] : List Str).zip [d]) = some d := by
        simp [List.lookup]
      have nf_repeated : PySem.W.findIn K (.ref (T.cl 3)) "repeated" = some none := T.zRepeatedName.nf "repeated" (by simp)
      refine if_no hx k_WrongKind ?_
      refine if_no hx k_OutOfBounds ?_
      refine if_yes hx k_RepeatedName (app_1 hx nf_repeated lk_repeated ?_)
      refine if_no hx k_UnknownName ?_
      refine if_no hx k_Unsafe ?_
      refine if_no hx k_BadText ?_
      refine if_no hx k_UnfitError ?_
      simp only [↓dIsF_var hx k_FrameError, ↓dIsF_var hx k_ValueError, ↓reduceIte, ↓startD, ↓List.map_cons, ↓List.map_nil, ↓List.length_cons, ↓List.length_nil, ↓List.cons_append, ↓List.nil_append, ↓List.replicate_succ, ↓List.replicate_zero, ↓List.getElem?_cons_zero, ↓List.getElem?_cons_succ, ↓List.set_cons_zero, ↓List.set_cons_succ, ↓dVar, ↓rdS, ↓dC, ↓dNew, ↓dOp, ↓onB, ↓qB, ↓dChain, ↓qAnd, ↓qOr, ↓qNot, ↓qTru, ↓truD, ↓dIf, ↓dAnd, ↓dOr, ↓dNot, ↓dUn, ↓ddNeg, ↓lNil, ↓lCons, ↓dTup, ↓nLst, ↓ddI, ↓ddI0, ↓ddAdd, ↓isNonD, ↓isBlD, ↓ddIsN, ↓ddIsB, ↓ddIx_t0, ↓ddIx_t1, ↓ddIx_t2, ↓ddIx_t3, ↓ddIx_l0, ↓ddIx_l1, ↓ddIx_l2, ↓dCB, ↓ddLen, ↓ddInt1, ↓ddAbs, ↓ddMM, ↓ddTuple, ↓nCB, ↓nnList, ↓ddIsi, ↓dCall, ↓sSkip, ↓sSeq, ↓sBreak, ↓sCont, ↓sExpr, ↓sRet, ↓sRetN, ↓sIf, ↓sNever, ↓gdName, ↓gdNil, ↓gdCons, ↓gdTup, ↓sAsg, ↓sSetN, ↓sPar, ↓sRaise, ↓sFrz, ↓owS, ↓sApp, ↓sIns, ↓dLenO, ↓dIxO, ↓sTry, ↓sFor, ↓iL, ↓iT, ↓onL, ↓onT, ↓iR1, ↓iR2, ↓nComp, ↓qYes, ↓ddEq_ii, ↓ddEq_ss, ↓ddEq_bb, ↓Bool.false_bne, ↓Bool.true_bne, ↓List.append_nil, ↓true_and, ↓and_true, ↓if_true, ↓if_false, ↓Bool.not_true, ↓Bool.not_false, ↓Bool.true_eq_false, ↓Bool.false_eq_true, ↓ite_true, ↓ite_false, ↓id_eq, ↓plain_non, ↓isIn_non_int, ↓isIn_non_str, ↓isIn_non_bool, ↓isIn_non_list, ↓isIn_non_tuple, ↓isIn_non_dict, ↓plain_bl, ↓isIn_bl_int, ↓isIn_bl_str, ↓isIn_bl_bool, ↓isIn_bl_list, ↓isIn_bl_tuple, ↓isIn_bl_dict, ↓plain_int, ↓isIn_int_int, ↓isIn_int_str, ↓isIn_int_bool, ↓isIn_int_list, ↓isIn_int_tuple, ↓isIn_int_dict, ↓plain_str, ↓isIn_str_int, ↓isIn_str_str, ↓isIn_str_bool, ↓isIn_str_list, ↓isIn_str_tuple, ↓isIn_str_dict, ↓plain_tup, ↓isIn_tup_int, ↓isIn_tup_str, ↓isIn_tup_bool, ↓isIn_tup_list, ↓isIn_tup_tuple, ↓isIn_tup_dict, ↓plain_lst, ↓isIn_lst_int, ↓isIn_lst_str, ↓isIn_lst_bool, ↓isIn_lst_list, ↓isIn_lst_tuple, ↓isIn_lst_dict, ↓sl0, ↓sl1, ↓sl2, ↓sl3, ↓sl4, ↓decide_true, ↓decide_false, ↓ddIsi2, ↓Bool.or_true, ↓Bool.or_false, ↓Bool.true_or]
      exact ⟨_, rfl, q⟩
    · have hx := T.xc 4 (by decide)
      have k_WrongKind : PySem.W.kitOne K (.ref (T.cl 4)) (.ref T.cWrongKind.C) = some false := T.kk 4 1 (by decide) (by decide)
      have k_OutOfBounds : PySem.W.kitOne K (.ref (T.cl 4)) (.ref T.cOutOfBounds.C) = some false := T.kk 4 2 (by decide) (by decide)
      have k_RepeatedName : PySem.W.kitOne K (.ref (T.cl 4)) (.ref T.cRepeatedName.C) = some false := T.kk 4 3 (by decide) (by decide)
      have k_UnknownName : PySem.W.kitOne K (.ref (T.cl 4)) (.ref T.cUnknownName.C) = some true := T.kk 4 4 (by decide) (by decide)
      have k_Unsafe : PySem.W.kitOne K (.ref (T.cl 4)) (.ref T.cUnsafe.C) = some false := T.kk 4 5 (by decide) (by decide)
      have k_BadText : PySem.W.kitOne K (.ref (T.cl 4)) (.ref T.cBadText.C) = some false := T.kk 4 6 (by decide) (by decide)
      have k_UnfitError : PySem.W.kitOne K (.ref (T.cl 4)) (.ref T.cUnfitError.C) = some false := T.kk 4 7 (by decide) (by decide)
      have k_FrameError : PySem.W.kitOne K (.ref (T.cl 4)) (.ref T.cFrameError.C) = some true := T.kk 4 0 (by decide) (by decide)
      have k_ValueError : PySem.W.kitOne K (.ref (T.cl 4)) (.type "ValueError") = some true := T.kv 4 (by decide)
      have lk_unknown : List.lookup ("unknown" : Str) ((["unknown"] : List Str).zip [d]) = some d := by
        simp [List.lookup]
      have nf_unknown : PySem.W.findIn K (.ref (T.cl 4)) "unknown" = some none := T.zUnknownName.nf "unknown" (by simp)
      refine if_no hx k_WrongKind ?_
      refine if_no hx k_OutOfBounds ?_
      refine if_no hx k_RepeatedName ?_
      refine if_yes hx k_UnknownName (app_1 hx nf_unknown lk_unknown ?_)
      refine if_no hx k_Unsafe ?_
      refine if_no hx k_BadText ?_
      refine if_no hx k_UnfitError ?_
      simp only [↓dIsF_var hx k_FrameError, ↓dIsF_var hx k_ValueError, ↓reduceIte, ↓startD, ↓List.map_cons, ↓List.map_nil, ↓List.length_cons, ↓List.length_nil, ↓List.cons_append, ↓List.nil_append, ↓List.replicate_succ, ↓List.replicate_zero, ↓List.getElem?_cons_zero, ↓List.getElem?_cons_succ, ↓List.set_cons_zero, ↓List.set_cons_succ, ↓dVar, ↓rdS, ↓dC, ↓dNew, ↓dOp, ↓onB, ↓qB, ↓dChain, ↓qAnd, ↓qOr, ↓qNot, ↓qTru, ↓truD, ↓dIf, ↓dAnd, ↓dOr, ↓dNot, ↓dUn, ↓ddNeg, ↓lNil, ↓lCons, ↓dTup, ↓nLst, ↓ddI, ↓ddI0, ↓ddAdd, ↓isNonD, ↓isBlD, ↓ddIsN, ↓ddIsB, ↓ddIx_t0, ↓ddIx_t1, ↓ddIx_t2, ↓ddIx_t3, ↓ddIx_l0, ↓ddIx_l1, ↓ddIx_l2, ↓dCB, ↓ddLen, ↓ddInt1, ↓ddAbs, ↓ddMM, ↓ddTuple, ↓nCB, ↓nnList, ↓ddIsi, ↓dCall, ↓sSkip, ↓sSeq, ↓sBreak, ↓sCont, ↓sExpr, ↓sRet, ↓sRetN, ↓sIf, ↓sNever, ↓gdName, ↓gdNil, ↓gdCons, ↓gdTup, ↓sAsg, ↓sSetN, ↓sPar, ↓sRaise, ↓sFrz, ↓owS, ↓sApp, ↓sIns, ↓dLenO, ↓dIxO, ↓sTry, ↓sFor, ↓iL, ↓iT, ↓onL, ↓onT, ↓iR1, ↓iR2, ↓nComp, ↓qYes, ↓ddEq_ii, ↓ddEq_ss, ↓ddEq_bb, ↓Bool.false_bne, ↓Bool.true_bne, ↓List.append_nil, ↓true_and, ↓and_true, ↓if_true, ↓if_false, ↓Bool.not_true, ↓Bool.not_false, ↓Bool.true_eq_false, ↓Bool.false_eq_true, ↓ite_true, ↓ite_false, ↓id_eq, ↓plain_non, ↓isIn_non_int, ↓isIn_non_str, ↓isIn_non_bool, ↓isIn_non_list, ↓isIn_non_tuple, ↓isIn_non_dict, ↓plain_bl, ↓isIn_bl_int, ↓isIn_bl_str, ↓isIn_bl_bool, ↓isIn_bl_list, ↓isIn_bl_tuple, ↓isIn_bl_dict, ↓plain_int, ↓isIn_int_int, ↓isIn_int_str, ↓isIn_int_bool, ↓isIn_int_list, ↓isIn_int_tuple, ↓isIn_int_dict, ↓plain_str, ↓isIn_str_int, ↓isIn_str_str, ↓isIn_str_bool, ↓isIn_str_list, ↓isIn_str_tuple, ↓isIn_str_dict, ↓plain_tup, ↓isIn_tup_int, ↓isIn_tup_str, ↓isIn_tup_bool, ↓isIn_tup_list, ↓isIn_tup_tuple, ↓isIn_tup_dict, ↓plain_lst, ↓isIn_lst_int, ↓isIn_lst_str, ↓isIn_lst_bool, ↓isIn_lst_list, ↓isIn_lst_tuple, ↓isIn_lst_dict, ↓sl0, ↓sl1, ↓sl2, ↓sl3, ↓sl4, ↓decide_true, ↓decide_false, ↓ddIsi2, ↓Bool.or_true, ↓Bool.or_false, ↓Bool.true_or]
      exact ⟨_, rfl, q⟩
    · have hx := T.xc 5 (by decide)
      have k_WrongKind : PySem.W.kitOne K (.ref (T.cl 5)) (.ref T.cWrongKind.C) = some false := T.kk 5 1 (by decide) (by decide)
      have k_OutOfBounds : PySem.W.kitOne K (.ref (T.cl 5)) (.ref T.cOutOfBounds.C) = some false := T.kk 5 2 (by decide) (by decide)
      have k_RepeatedName : PySem.W.kitOne K (.ref (T.cl 5)) (.ref T.cRepeatedName.C) = some false := T.kk 5 3 (by decide) (by decide)
      have k_UnknownName : PySem.W.kitOne K (.ref (T.cl 5)) (.ref T.cUnknownName.C) = some false := T.kk 5 4 (by decide) (by decide)
      have k_Unsafe : PySem.W.kitOne K (.ref (T.cl 5)) (.ref T.cUnsafe.C) = some true := T.kk 5 5 (by decide) (by decide)
      have k_BadText : PySem.W.kitOne K (.ref (T.cl 5)) (.ref T.cBadText.C) = some false := T.kk 5 6 (by decide) (by decide)
      have k_UnfitError : PySem.W.kitOne K (.ref (T.cl 5)) (.ref T.cUnfitError.C) = some false := T.kk 5 7 (by decide) (by decide)
      have k_FrameError : PySem.W.kitOne K (.ref (T.cl 5)) (.ref T.cFrameError.C) = some true := T.kk 5 0 (by decide) (by decide)
      have k_ValueError : PySem.W.kitOne K (.ref (T.cl 5)) (.type "ValueError") = some true := T.kv 5 (by decide)
      have lk_velocities : List.lookup ("velocities" : Str) ((["velocities"] : List Str).zip [d]) = some d := by
        simp [List.lookup]
      have nf_velocities : PySem.W.findIn K (.ref (T.cl 5)) "velocities" = some none := T.zUnsafe.nf "velocities" (by simp)
      refine if_no hx k_WrongKind ?_
      refine if_no hx k_OutOfBounds ?_
      refine if_no hx k_RepeatedName ?_
      refine if_no hx k_UnknownName ?_
      refine if_yes hx k_Unsafe (app_1 hx nf_velocities lk_velocities ?_)
      refine if_no hx k_BadText ?_
      refine if_no hx k_UnfitError ?_
      simp only [↓dIsF_var hx k_FrameError, ↓dIsF_var hx k_ValueError, ↓reduceIte, ↓startD, ↓List.map_cons, ↓List.map_nil, ↓List.length_cons, ↓List.length_nil, ↓List.cons_append, ↓List.nil_append, ↓List.replicate_succ, ↓List.replicate_zero, ↓List.getElem?_cons_zero, ↓List.getElem?_cons_succ, ↓List.set_cons_zero, ↓List.set_cons_succ, ↓dVar, ↓rdS, ↓dC, ↓dNew, ↓dOp, ↓onB, ↓qB, ↓dChain, ↓qAnd, ↓qOr, ↓qNot, ↓qTru, ↓truD, ↓dIf, ↓dAnd, ↓dOr, ↓dNot, ↓dUn, ↓ddNeg, ↓lNil, ↓lCons, ↓dTup, ↓nLst, ↓ddI, ↓ddI0, ↓ddAdd, ↓isNonD, ↓isBlD, ↓ddIsN, ↓ddIsB, ↓ddIx_t0, ↓ddIx_t1, ↓ddIx_t2, ↓ddIx_t3, ↓ddIx_l0, ↓ddIx_l1, ↓ddIx_l2, ↓dCB, ↓ddLen, ↓ddInt1, ↓ddAbs, ↓ddMM, ↓ddTuple, ↓nCB, ↓nnList, ↓ddIsi, ↓dCall, ↓sSkip, ↓sSeq, ↓sBreak, ↓sCont, ↓sExpr, ↓sRet, ↓sRetN, ↓sIf, ↓sNever, ↓gdName, ↓gdNil, ↓gdCons, ↓gdTup, ↓sAsg, ↓sSetN, ↓sPar, ↓sRaise, ↓sFrz, ↓owS, ↓sApp, ↓sIns, ↓dLenO, ↓dIxO, ↓sTry, ↓sFor, ↓iL, ↓iT, ↓onL, ↓onT, ↓iR1, ↓iR2, ↓nComp, ↓qYes, ↓ddEq_ii, ↓ddEq_ss, ↓ddEq_bb, ↓Bool.false_bne, ↓Bool.true_bne, ↓List.append_nil, ↓true_and, ↓and_true, ↓if_true, ↓if_false, ↓Bool.not_true, ↓Bool.not_false, ↓Bool.true_eq_false, ↓Bool.false_eq_true, ↓ite_true, ↓ite_false, ↓id_eq, ↓plain_non, ↓isIn_non_int, ↓isIn_non_str, ↓isIn_non_bool, ↓isIn_non_list, ↓isIn_non_tuple, ↓isIn_non_dict, ↓plain_bl, ↓isIn_bl_int, ↓isIn_bl_str, ↓isIn_bl_bool, ↓isIn_bl_list, ↓isIn_bl_tuple, ↓isIn_bl_dict, ↓plain_int, ↓isIn_int_int, ↓isIn_int_str, ↓isIn_int_bool, ↓isIn_int_list, ↓isIn_int_tuple, ↓isIn_int_dict, ↓plain_str, ↓isIn_str_int, ↓isIn_str_str, ↓isIn_str_bool, ↓isIn_str_list, ↓isIn_str_tuple, ↓isIn_str_dict, ↓plain_tup, ↓isIn_tup_int, ↓isIn_tup_str, ↓isIn_tup_bool, ↓isIn_tup_list, ↓isIn_tup_tuple, ↓isIn_tup_dict, ↓plain_lst, ↓isIn_lst_int, ↓isIn_lst_str, ↓isIn_lst_bool, ↓isIn_lst_list, ↓isIn_lst_tuple, ↓isIn_lst_dict, ↓sl0, ↓sl1, ↓sl2, ↓sl3, ↓sl4, ↓decide_true, ↓decide_false, ↓ddIsi2, ↓Bool.or_true, ↓Bool.or_false, ↓Bool.true_or]
      exact ⟨_, rfl, q⟩
    · have hx := T.xc 6 (by decide)
      have k_WrongKind : PySem.W.kitOne K (.ref (T.cl 6)) (.ref T.cWrongKind.C) = some false := T.kk 6 1 (by decide) (by decide)
      have k_OutOfBounds : PySem.W.kitOne K (.ref (T.cl 6)) (.ref T.cOutOfBounds.C) = some false := T.kk 6 2 (by decide) (by decide)
      have k_RepeatedName : PySem.W.kitOne K (.ref (T.cl 6)) (.ref T.cRepeatedName.C) = some false := T.kk 6 3 (by decide) (by decide)
      have k_UnknownName : PySem.W.kitOne K (.ref (T.cl 6)) (.ref T.cUnknownName.C) = some false := T.kk 6 4 (by decide) (by decide)
      have k_Unsafe : PySem.W.kitOne K (.ref (T.cl 6)) (.ref T.cUnsafe.C) = some false := T.kk 6 5 (by decide) (by decide)
      have k_BadText : PySem.W.kitOne K (.ref (T.cl 6)) (.ref T.cBadText.C) = some true := T.kk 6 6 (by decide) (by decide)
      have k_UnfitError : PySem.W.kitOne K (.ref (T.cl 6)) (.ref T.cUnfitError.C) = some false := T.kk 6 7 (by decide) (by decide)
      have k_FrameError : PySem.W.kitOne K (.ref (T.cl 6)) (.ref T.cFrameError.C) = some true := T.kk 6 0 (by decide) (by decide)
      have k_ValueError : PySem.W.kitOne K (.ref (T.cl 6)) (.type "ValueError") = some true := T.kv 6 (by decide)
      have lk_line : List.lookup ("line" : Str) ((["fault", "column", "line"] : List Str).zip [z, y, x]) = some x := by
        simp [List.lookup, show (("line" : Str) == ("column" : Str)) = false from by decide +kernel, show (("line" : Str) == ("fault" : Str)) = false from by decide +kernel]
      have nf_line : PySem.W.findIn K (.ref (T.cl 6)) "line" = some none := T.zBadText.nf "line" (by simp)
      have lk_column : List.lookup ("column" : Str) ((["fault", "column", "line"] : List Str).zip [z, y, x]) = some y := by
        simp [List.lookup, show (("column" : Str) == ("line" : Str)) = false from by decide +kernel, show (("column" : Str) == ("fault" : Str)) = false from by decide +kernel]
      have nf_column : PySem.W.findIn K (.ref (T.cl 6)) "column" = some none := T.zBadText.nf "column" (by simp)
      have lk_fault : List.lookup ("fault" : Str) ((["fault", "column", "line"] : List Str).zip [z, y, x]) = some z := by
        simp [List.lookup, show (("fault" : Str) == ("line" : Str)) = false from by decide +kernel, show (("fault" : Str) == ("column" : Str)) = false from by decide +kernel]
      have nf_fault : PySem.W.findIn K (.ref (T.cl 6)) "fault" = some none := T.zBadText.nf "fault" (by simp)
      refine if_no hx k_WrongKind ?_
      refine if_no hx k_OutOfBounds ?_
      refine if_no hx k_RepeatedName ?_
      refine if_no hx k_UnknownName ?_
      refine if_no hx k_Unsafe ?_
      refine if_yes hx k_BadText (app_3 hx nf_line nf_column nf_fault lk_line lk_column lk_fault ?_)
      refine if_no hx k_UnfitError ?_
      simp only [↓dIsF_var hx k_FrameError, ↓dIsF_var hx k_ValueError, ↓reduceIte, ↓startD, ↓List.map_cons, ↓List.map_nil, ↓List.length_cons, ↓List.length_nil, ↓List.cons_append, ↓List.nil_append, ↓List.replicate_succ, ↓List.replicate_zero, ↓List.getElem?_cons_zero, ↓List.getElem?_cons_succ, ↓List.set_cons_zero, ↓List.set_cons_succ, ↓dVar, ↓rdS, ↓dC, ↓dNew, ↓dOp, ↓onB, ↓qB, ↓dChain, ↓qAnd, ↓qOr, ↓qNot, ↓qTru, ↓truD, ↓dIf, ↓dAnd, ↓dOr, ↓dNot, ↓dUn, ↓ddNeg, ↓lNil, ↓lCons, ↓dTup, ↓nLst, ↓ddI, ↓ddI0, ↓ddAdd, ↓isNonD, ↓isBlD, ↓ddIsN, ↓ddIsB, ↓ddIx_t0, ↓ddIx_t1, ↓ddIx_t2, ↓ddIx_t3, ↓ddIx_l0, ↓ddIx_l1, ↓ddIx_l2, ↓dCB, ↓ddLen, ↓ddInt1, ↓ddAbs, ↓ddMM, ↓ddTuple, ↓nCB, ↓nnList, ↓ddIsi, ↓dCall, ↓sSkip, ↓sSeq, ↓sBreak, ↓sCont, ↓sExpr, ↓sRet, ↓sRetN, ↓sIf, ↓sNever, ↓gdName, ↓gdNil, ↓gdCons, ↓gdTup, ↓sAsg, ↓sSetN, ↓sPar, ↓sRaise, ↓sFrz, ↓owS, ↓sApp, ↓sIns, ↓dLenO, ↓dIxO, ↓sTry, ↓sFor, ↓iL, ↓iT, ↓onL, ↓onT, ↓iR1, ↓iR2, ↓nComp, ↓qYes, ↓ddEq_ii, ↓ddEq_ss, ↓ddEq_bb, ↓Bool.false_bne, ↓Bool.true_bne, ↓List.append_nil, ↓true_and, ↓and_true, ↓if_true, ↓if_false, ↓Bool.not_true, ↓Bool.not_false, ↓Bool.true_eq_false, ↓Bool.false_eq_true, ↓ite_true, ↓ite_false, ↓id_eq, ↓plain_non, ↓isIn_non_int, ↓isIn_non_str, ↓isIn_non_bool, ↓isIn_non_list, ↓isIn_non_tuple, ↓isIn_non_dict, ↓plain_bl, ↓isIn_bl_int, ↓isIn_bl_str, ↓isIn_bl_bool, ↓isIn_bl_list, ↓isIn_bl_tuple, ↓isIn_bl_dict, ↓plain_int, ↓isIn_int_int, ↓isIn_int_str, ↓isIn_int_bool, ↓isIn_int_list, ↓isIn_int_tuple, ↓isIn_int_dict, ↓plain_str, ↓isIn_str_int, ↓isIn_str_str, ↓isIn_str_bool, ↓isIn_str_list, ↓isIn_str_tuple, ↓isIn_str_dict, ↓plain_tup, ↓isIn_tup_int, ↓isIn_tup_str, ↓isIn_tup_bool, ↓isIn_tup_list, ↓isIn_tup_tuple, ↓isIn_tup_dict, ↓plain_lst, ↓isIn_lst_int, ↓isIn_lst_str, ↓isIn_lst_bool, ↓isIn_lst_list, ↓isIn_lst_tuple, ↓isIn_lst_dict, ↓sl0, ↓sl1, ↓sl2, ↓sl3, ↓sl4, ↓decide_true, ↓decide_false, ↓ddIsi2, ↓Bool.or_true, ↓Bool.or_false, ↓Bool.true_or]
      exact ⟨_, rfl, q⟩
  · exact h.elim
end
end My
set_option exponentiation.threshold 100000
namespace My
open PySem PySem.Spec PyProof.Rows L2
local macro_rules | `(tactic| walk_at "dl") => `(tactic| simp only [startD, List.map_cons, List.map_nil, List.length_cons, List.length_nil, List.cons_append, List.nil_append, List.replicate_succ, List.replicate_zero, List.getElem?_cons_zero, List.getElem?_cons_succ, List.set_cons_zero, List.set_cons_succ,
  dVar, rdS, dC, dNew, dOp, onB, qB, dChain, qAnd, qOr, qNot, qTru, truD, dIf, dAnd, dOr, dNot, dUn, ddNeg, lNil, lCons, dTup, nLst, ddI, ddI0, ddAdd, isNonD, isBlD, ddIsN, ddIsB, ddIx_t0, ddIx_t1, ddIx_t2, ddIx_t3, ddIx_l0, ddIx_l1, ddIx_l2, dCB, ddLen, ddInt1, ddAbs, ddMM, ddTuple, nCB, nnList, ddIsi, dCall,
  sSkip, sSeq, sBreak, sCont, sExpr, sRet, sRetN, sIf, sNever, gdName, gdNil, gdCons, gdTup, sAsg, sSetN, sPar, sRaise, sFrz, owS, sApp, sIns, dLenO, dIxO, sTry, sFor, iL, iT, onL, onT, iR1, iR2, nComp, qYes,
  ddEq_ii, ddEq_ss, ddEq_bb, Bool.false_bne, Bool.true_bne, List.append_nil, true_and, and_true, if_true, if_false, Bool.not_true, Bool.not_false, Bool.true_eq_false, Bool.false_eq_true, ite_true, ite_false, id_eq])

local macro_rules | `(tactic| walk_at "is") => `(tactic| simp only [plain_non, isIn_non_int, isIn_non_str, isIn_non_bool, isIn_non_list, isIn_non_tuple, isIn_non_dict, plain_bl, isIn_bl_int, isIn_bl_str, isIn_bl_bool, isIn_bl_list, isIn_bl_tuple, isIn_bl_dict, plain_int, isIn_int_int, isIn_int_str, isIn_int_bool, isIn_int_list, isIn_int_tuple, isIn_int_dict, plain_str, isIn_str_int, isIn_str_str, isIn_str_bool, isIn_str_list, isIn_str_tuple, isIn_str_dict, plain_tup, isIn_tup_int, isIn_tup_str, isIn_tup_bool, isIn_tup_list, isIn_tup_tuple, isIn_tup_dict, plain_lst, isIn_lst_int, isIn_lst_str, isIn_lst_bool, isIn_lst_list, isIn_lst_tuple, isIn_lst_dict, sl0, sl1, sl2, sl3, sl4, decide_true, decide_false, ddIsi, ddIsi2, true_and, if_true, if_false, Bool.false_eq_true, Bool.not_true, Bool.not_false, Bool.or_true, Bool.or_false, Bool.true_or, and_true])
local macro_rules | `(tactic| walk_at "wk") => `(tactic| ((try walk_at "dl"); (try walk_at "is"); (try walk_at "dl")))

local macro_rules | `(tactic| walk_at "pl") => `(tactic| simp only [↓reduceIte, ↓startD, ↓List.map_cons, ↓List.map_nil, ↓List.length_cons, ↓List.length_nil, ↓List.cons_append, ↓List.nil_append, ↓List.replicate_succ, ↓List.replicate_zero, ↓List.getElem?_cons_zero, ↓List.getElem?_cons_succ, ↓List.set_cons_zero, ↓List.set_cons_succ, ↓dVar, ↓rdS, ↓dC, ↓dNew, ↓dOp, ↓onB, ↓qB, ↓dChain, ↓qAnd, ↓qOr, ↓qNot, ↓qTru, ↓truD, ↓dIf, ↓dAnd, ↓dOr, ↓dNot, ↓dUn, ↓ddNeg, ↓lNil, ↓lCons, ↓dTup, ↓nLst, ↓ddI, ↓ddI0, ↓ddAdd, ↓isNonD, ↓isBlD, ↓ddIsN, ↓ddIsB, ↓ddIx_t0, ↓ddIx_t1, ↓ddIx_t2, ↓ddIx_t3, ↓ddIx_l0, ↓ddIx_l1, ↓ddIx_l2, ↓dCB, ↓ddLen, ↓ddInt1, ↓ddAbs, ↓ddMM, ↓ddTuple, ↓nCB, ↓nnList, ↓ddIsi, ↓dCall, ↓sSkip, ↓sSeq, ↓sBreak, ↓sCont, ↓sExpr, ↓sRet, ↓sRetN, ↓sIf, ↓sNever, ↓gdName, ↓gdNil, ↓gdCons, ↓gdTup, ↓sAsg, ↓sSetN, ↓sPar, ↓sRaise, ↓sFrz, ↓owS, ↓sApp, ↓sIns, ↓dLenO, ↓dIxO, ↓sTry, ↓sFor, ↓iL, ↓iT, ↓onL, ↓onT, ↓iR1, ↓iR2, ↓nComp, ↓qYes, ↓ddEq_ii, ↓ddEq_ss, ↓ddEq_bb, ↓Bool.false_bne, ↓Bool.true_bne, ↓List.append_nil, ↓true_and, ↓and_true, ↓if_true, ↓if_false, ↓Bool.not_true, ↓Bool.not_false, ↓Bool.true_eq_false, ↓Bool.false_eq_true, ↓ite_true, ↓ite_false, ↓id_eq, ↓plain_non, ↓isIn_non_int, ↓isIn_non_str, ↓isIn_non_bool, ↓isIn_non_list, ↓isIn_non_tuple, ↓isIn_non_dict, ↓plain_bl, ↓isIn_bl_int, ↓isIn_bl_str, ↓isIn_bl_bool, ↓isIn_bl_list, ↓isIn_bl_tuple, ↓isIn_bl_dict, ↓plain_int, ↓isIn_int_int, ↓isIn_int_str, ↓isIn_int_bool, ↓isIn_int_list, ↓isIn_int_tuple, ↓isIn_int_dict, ↓plain_str, ↓isIn_str_int, ↓isIn_str_str, ↓isIn_str_bool, ↓isIn_str_list, ↓isIn_str_tuple, ↓isIn_str_dict, ↓plain_tup, ↓isIn_tup_int, ↓isIn_tup_str, ↓isIn_tup_bool, ↓isIn_tup_list, ↓isIn_tup_tuple, ↓isIn_tup_dict, ↓plain_lst, ↓isIn_lst_int, ↓isIn_lst_str, ↓isIn_lst_bool, ↓isIn_lst_list, ↓isIn_lst_tuple, ↓isIn_lst_dict, ↓sl0, ↓sl1, ↓sl2, ↓sl3, ↓sl4, ↓decide_true, ↓decide_false, ↓ddIsi2, ↓Bool.or_true, ↓Bool.or_false, ↓Bool.true_or])

section
variable {P : Program} {w : World} {K : PySem.W.Frag} {mg : Str → Option Value} {base : Heap}
theorem ok_unfitH (T : Txt K mg) : FnE P w K mg base 1 T.dunfit.f T.dunfit.fd P_unfit (fun q => spXD K (m_unfitH T) q.1 q.2.cls q.2.dict) := by
  refine T.dunfit.okED sc_unfit fun q cdv A outer s H E so A0 x dx us hr kx => ⟨_, (pds_cons (pds_set (i := 1) sc_unfit.nd rfl (by first | exact .inl rfl | exact .inr rfl) (pd_new (pdn_lst (pda_cons (pd_tup (pda_cons pd_str (pda_cons (pd_isP kx (by rfl) T.m_isinstance (pd_var (pv 0)) (pe_glob (v := .ref T.cZeroDivisor.C) (by rfl) T.cZeroDivisor.g rfl) (.own _)) pda_nil))) (pda_cons (pd_tup (pda_cons pd_str (pda_cons (pd_isP kx (by rfl) T.m_isinstance (pd_var (pv 0)) (pe_glob (v := .ref T.cNegativeRoot.C) (by rfl) T.cNegativeRoot.g rfl) (.own _)) pda_nil))) pda_nil)))))
      (pds_cons (pds_set (i := 1) sc_unfit.nd rfl (by first | exact .inl rfl | exact .inr rfl) (pd_op oo_add ol_add (pd_var (pv 1)) (pd_new (pdn_lst (pda_cons (pd_tup (pda_cons pd_str (pda_cons (pd_isP kx (by rfl) T.m_isinstance (pd_var (pv 0)) (pe_glob (v := .ref T.cZeroBar.C) (by rfl) T.cZeroBar.g rfl) (.own _)) pda_nil))) (pda_cons (pd_tup (pda_cons pd_str (pda_cons (pd_isP kx (by rfl) T.m_isinstance (pd_var (pv 0)) (pe_glob (v := .ref T.cFlatMap.C) (by rfl) T.cFlatMap.g rfl) (.own _)) pda_nil))) pda_nil))))))
      (pds_cons (pds_set (i := 1) sc_unfit.nd rfl (by first | exact .inl rfl | exact .inr rfl) (pd_op oo_add ol_add (pd_var (pv 1)) (pd_new (pdn_lst (pda_cons (pd_tup (pda_cons pd_str (pda_cons (pd_isP kx (by rfl) T.m_isinstance (pd_var (pv 0)) (pe_glob (v := .ref T.cBadSteps.C) (by rfl) T.cBadSteps.g rfl) (.own _)) pda_nil))) (pda_cons (pd_tup (pda_cons pd_str (pda_cons (pd_isP kx (by rfl) T.m_isinstance (pd_var (pv 0)) (pe_glob (v := .ref T.cNotOneWay.C) (by rfl) T.cNotOneWay.g rfl) (.own _)) pda_nil))) pda_nil))))))
      (pds_cons (pds_set (i := 1) sc_unfit.nd rfl (by first | exact .inl rfl | exact .inr rfl) (pd_op oo_add ol_add (pd_var (pv 1)) (pd_new (pdn_lst (pda_cons (pd_tup (pda_cons pd_str (pda_cons (pd_isP kx (by rfl) T.m_isinstance (pd_var (pv 0)) (pe_glob (v := .ref T.cNotHeld.C) (by rfl) T.cNotHeld.g rfl) (.own _)) pda_nil))) (pda_cons (pd_tup (pda_cons pd_str (pda_cons (pd_isP kx (by rfl) T.m_isinstance (pd_var (pv 0)) (pe_glob (v := .ref T.cNotFlat.C) (by rfl) T.cNotFlat.g rfl) (.own _)) pda_nil))) pda_nil))))))
      (pds_cons (pds_set (i := 1) sc_unfit.nd rfl (by first | exact .inl rfl | exact .inr rfl) (pd_op oo_add ol_add (pd_var (pv 1)) (pd_new (pdn_lst (pda_cons (pd_tup (pda_cons pd_str (pda_cons (pd_isP kx (by rfl) T.m_isinstance (pd_var (pv 0)) (pe_glob (v := .ref T.cNotCover.C) (by rfl) T.cNotCover.g rfl) (.own _)) pda_nil))) (pda_cons (pd_tup (pda_cons pd_str (pda_cons (pd_isP kx (by rfl) T.m_isinstance (pd_var (pv 0)) (pe_glob (v := .ref T.cNotOwnStress.C) (by rfl) T.cNotOwnStress.g rfl) (.own _)) pda_nil))) pda_nil))))))
      (pds_cons (pds_set (i := 1) sc_unfit.nd rfl (by first | exact .inl rfl | exact .inr rfl) (pd_op oo_add ol_add (pd_var (pv 1)) (pd_new (pdn_lst (pda_cons (pd_tup (pda_cons pd_str (pda_cons (pd_isP kx (by rfl) T.m_isinstance (pd_var (pv 0)) (pe_glob (v := .ref T.cNotPicture.C) (by rfl) T.cNotPicture.g rfl) (.own _)) pda_nil))) (pda_cons (pd_tup (pda_cons pd_str (pda_cons (pd_isP kx (by rfl) T.m_isinstance (pd_var (pv 0)) (pe_glob (v := .ref T.cNotLift.C) (by rfl) T.cNotLift.g rfl) (.own _)) pda_nil))) pda_nil))))))
      (pds_cons (pds_set (i := 1) sc_unfit.nd rfl (by first | exact .inl rfl | exact .inr rfl) (pd_op oo_add ol_add (pd_var (pv 1)) (pd_new (pdn_lst (pda_cons (pd_tup (pda_cons pd_str (pda_cons (pd_isP kx (by rfl) T.m_isinstance (pd_var (pv 0)) (pe_glob (v := .ref T.cNoReciprocal.C) (by rfl) T.cNoReciprocal.g rfl) (.own _)) pda_nil))) (pda_cons (pd_tup (pda_cons pd_str (pda_cons (pd_isP kx (by rfl) T.m_isinstance (pd_var (pv 0)) (pe_glob (v := .ref T.cNotMotion.C) (by rfl) T.cNotMotion.g rfl) (.own _)) pda_nil))) pda_nil))))))
      (pds_cons (pds_set (i := 1) sc_unfit.nd rfl (by first | exact .inl rfl | exact .inr rfl) (pd_op oo_add ol_add (pd_var (pv 1)) (pd_new (pdn_lst (pda_cons (pd_tup (pda_cons pd_str (pda_cons (pd_isP kx (by rfl) T.m_isinstance (pd_var (pv 0)) (pe_glob (v := .ref T.cNotAlike.C) (by rfl) T.cNotAlike.g rfl) (.own _)) pda_nil))) (pda_cons (pd_tup (pda_cons pd_str (pda_cons (pd_isP kx (by rfl) T.m_isinstance (pd_var (pv 0)) (pe_glob (v := .ref T.cNotCrank.C) (by rfl) T.cNotCrank.g rfl) (.own _)) pda_nil))) pda_nil))))))
      (pds_cons (pds_set (i := 1) sc_unfit.nd rfl (by first | exact .inl rfl | exact .inr rfl) (pd_op oo_add ol_add (pd_var (pv 1)) (pd_new (pdn_lst (pda_cons (pd_tup (pda_cons pd_str (pda_cons (pd_isP kx (by rfl) T.m_isinstance (pd_var (pv 0)) (pe_glob (v := .ref T.cNothingToUndo.C) (by rfl) T.cNothingToUndo.g rfl) (.own _)) pda_nil))) (pda_cons (pd_tup (pda_cons pd_str (pda_cons (pd_isP kx (by rfl) T.m_isinstance (pd_var (pv 0)) (pe_glob (v := .ref T.cNothingToRedo.C) (by rfl) T.cNothingToRedo.g rfl) (.own _)) pda_nil))) pda_nil))))))
      (pds_cons (pds_setLcH (i := 2) (own := [("one", 3)]) kx.hc sc_unfit.nd rfl rfl (sw_true rfl rfl rfl (by decide +kernel)) (pd_var (pv 1)) (blkOk_by (own := [("one", 3)]) (N := N_unfit) (sc := defScope s_unfit) (by decide +kernel)) (fun _ _ _ _ _ => (pdgw_name (pg_name (i := 3) sc_unfit.nd rfl (by first | exact .inl rfl | exact .inr rfl)) (by simp))) (fun _ _ _ _ _ => (pdts_one (pdt_tru (pd_ix ix_seq ol_ix (pd_var (pv 3)) pd_int (fun _ _ => rfl))))) (fun _ _ _ _ _ => (pd_ix ix_seq ol_ix (pd_var (pv 3)) pd_int (fun _ _ => rfl))))
      (pds_frz 2 (pds_cons (pds_if (pdt_cmp (oo_eq hr.units) ol_eq (pd_callB oo_len cl_len (by rfl) T.m_len bt_len (pda_cons (pd_var (pv 2)) pda_nil)) pd_int (nomark _))
        (pds_one (pds_ret (pd_tup (pda_cons pd_str (pda_cons (pd_xg kx (pd_var (pv 0))) pda_nil)))))
        pds_nil)
      (pds_cons (pds_if (pdt_cmp op_gt ol_gt (pd_callB oo_len cl_len (by rfl) T.m_len bt_len (pda_cons (pd_var (pv 2)) pda_nil)) pd_int (nomark _))
        (pds_one (pds_ret (pd_tup (pda_cons pd_str (pda_cons (pd_var (pv 2)) pda_nil)))))
        pds_nil)
      (pds_one (pds_ret (pd_tup (pda_cons (pd_ix ix_seq ol_ix (pd_var (pv 2)) pd_int (fun _ _ => rfl)) (pda_cons (pd_xg kx (pd_var (pv 0))) pda_nil)))))))))))))))))), fun Q h => ?_⟩
  obtain ⟨d, rfl, h⟩ := h
  have hx : XC K (nrX T d).C := T.cNegativeRoot.x
  have k_ZeroDivisor : PySem.W.kitOne K (.ref (nrX T d).C) (.ref T.cZeroDivisor.C) = some false := T.kk 9 8 (by decide) (by decide)
  have k_NegativeRoot : PySem.W.kitOne K (.ref (nrX T d).C) (.ref T.cNegativeRoot.C) = some true := T.kk 9 9 (by decide) (by decide)
  have k_ZeroBar : PySem.W.kitOne K (.ref (nrX T d).C) (.ref T.cZeroBar.C) = some false := T.kk 9 10 (by decide) (by decide)
  have k_FlatMap : PySem.W.kitOne K (.ref (nrX T d).C) (.ref T.cFlatMap.C) = some false := T.kk 9 11 (by decide) (by decide)
  have k_BadSteps : PySem.W.kitOne K (.ref (nrX T d).C) (.ref T.cBadSteps.C) = some false := T.kk 9 12 (by decide) (by decide)
  have k_NotOneWay : PySem.W.kitOne K (.ref (nrX T d).C) (.ref T.cNotOneWay.C) = some false := T.kk 9 13 (by decide) (by decide)
  have k_NotHeld : PySem.W.kitOne K (.ref (nrX T d).C) (.ref T.cNotHeld.C) = some false := T.kk 9 14 (by decide) (by decide)
  have k_NotFlat : PySem.W.kitOne K (.ref (nrX T d).C) (.ref T.cNotFlat.C) = some false := T.kk 9 15 (by decide) (by decide)
  have k_NotCover : PySem.W.kitOne K (.ref (nrX T d).C) (.ref T.cNotCover.C) = some false := T.kk 9 16 (by decide) (by decide)
  have k_NotOwnStress : PySem.W.kitOne K (.ref (nrX T d).C) (.ref T.cNotOwnStress.C) = some false := T.kk 9 17 (by decide) (by decide)
  have k_NotPicture : PySem.W.kitOne K (.ref (nrX T d).C) (.ref T.cNotPicture.C) = some false := T.kk 9 18 (by decide) (by decide)
  have k_NotLift : PySem.W.kitOne K (.ref (nrX T d).C) (.ref T.cNotLift.C) = some false := T.kk 9 19 (by decide) (by decide)
  have k_NoReciprocal : PySem.W.kitOne K (.ref (nrX T d).C) (.ref T.cNoReciprocal.C) = some false := T.kk 9 20 (by decide) (by decide)
  have k_NotMotion : PySem.W.kitOne K (.ref (nrX T d).C) (.ref T.cNotMotion.C) = some false := T.kk 9 21 (by decide) (by decide)
  have k_NotAlike : PySem.W.kitOne K (.ref (nrX T d).C) (.ref T.cNotAlike.C) = some false := T.kk 9 22 (by decide) (by decide)
  have k_NotCrank : PySem.W.kitOne K (.ref (nrX T d).C) (.ref T.cNotCrank.C) = some false := T.kk 9 23 (by decide) (by decide)
  have k_NothingToUndo : PySem.W.kitOne K (.ref (nrX T d).C) (.ref T.cNothingToUndo.C) = some false := T.kk 9 24 (by decide) (by decide)
  have k_NothingToRedo : PySem.W.kitOne K (.ref (nrX T d).C) (.ref T.cNothingToRedo.C) = some false := T.kk 9 25 (by decide) (by decide)
  have k_ValueError : PySem.W.kitOne K (.ref (nrX T d).C) (.type "ValueError") = some true := T.kv 9 (by decide)
  dsimp only [L2H.cxH, cxOf, Cx.nox]
  simp only [↓dIsP_var (x := nrX T d) hx k_ZeroDivisor, ↓dIsP_var (x := nrX T d) hx k_NegativeRoot, ↓dIsP_var (x := nrX T d) hx k_ZeroBar, ↓dIsP_var (x := nrX T d) hx k_FlatMap, ↓dIsP_var (x := nrX T d) hx k_BadSteps, ↓dIsP_var (x := nrX T d) hx k_NotOneWay, ↓dIsP_var (x := nrX T d) hx k_NotHeld, ↓dIsP_var (x := nrX T d) hx k_NotFlat, ↓dIsP_var (x := nrX T d) hx k_NotCover, ↓dIsP_var (x := nrX T d) hx k_NotOwnStress, ↓dIsP_var (x := nrX T d) hx k_NotPicture, ↓dIsP_var (x := nrX T d) hx k_NotLift, ↓dIsP_var (x := nrX T d) hx k_NoReciprocal, ↓dIsP_var (x := nrX T d) hx k_NotMotion, ↓dIsP_var (x := nrX T d) hx k_NotAlike, ↓dIsP_var (x := nrX T d) hx k_NotCrank, ↓dIsP_var (x := nrX T d) hx k_NothingToUndo, ↓dIsP_var (x := nrX T d) hx k_NothingToRedo, ↓reduceIte, ↓startD, ↓List.map_cons, ↓List.map_nil, ↓List.length_cons, ↓List.length_nil, ↓List.cons_append, ↓List.nil_append, ↓List.replicate_succ, ↓List.replicate_zero, ↓List.getElem?_cons_zero, ↓List.getElem?_cons_succ, ↓List.set_cons_zero, ↓List.set_cons_succ, ↓dVar, ↓rdS, ↓dC, ↓dNew, ↓dOp, ↓onB, ↓qB, ↓dChain, ↓qAnd, ↓qOr, ↓qNot, ↓qTru, ↓truD, ↓dIf, ↓dAnd, ↓dOr, ↓dNot, ↓dUn, ↓ddNeg, ↓lNil, ↓lCons, ↓dTup, ↓nLst, ↓ddI, ↓ddI0, ↓ddAdd, ↓isNonD, ↓isBlD, ↓ddIsN, ↓ddIsB, ↓ddIx_t0, ↓ddIx_t1, ↓ddIx_t2, ↓ddIx_t3, ↓ddIx_l0, ↓ddIx_l1, ↓ddIx_l2, ↓dCB, ↓ddLen, ↓ddInt1, ↓ddAbs, ↓ddMM, ↓ddTuple, ↓nCB, ↓nnList, ↓ddIsi, ↓dCall, ↓sSkip, ↓sSeq, ↓sBreak, ↓sCont, ↓sExpr, ↓sRet, ↓sRetN, ↓sIf, ↓sNever, ↓gdName, ↓gdNil, ↓gdCons, ↓gdTup, ↓sAsg, ↓sSetN, ↓sPar, ↓sRaise, ↓sFrz, ↓owS, ↓sApp, ↓sIns, ↓dLenO, ↓dIxO, ↓sTry, ↓sFor, ↓iL, ↓iT, ↓onL, ↓onT, ↓iR1, ↓iR2, ↓nComp, ↓qYes, ↓ddEq_ii, ↓ddEq_ss, ↓ddEq_bb, ↓Bool.false_bne, ↓Bool.true_bne, ↓List.append_nil, ↓true_and, ↓and_true, ↓if_true, ↓if_false, ↓Bool.not_true, ↓Bool.not_false, ↓Bool.true_eq_false, ↓Bool.false_eq_true, ↓ite_true, ↓ite_false, ↓id_eq, ↓plain_non, ↓isIn_non_int, ↓isIn_non_str, ↓isIn_non_bool, ↓isIn_non_list, ↓isIn_non_tuple, ↓isIn_non_dict, ↓plain_bl, ↓isIn_bl_int, ↓isIn_bl_str, ↓isIn_bl_bool, ↓isIn_bl_list, ↓isIn_bl_tuple, ↓isIn_bl_dict, ↓plain_int, ↓isIn_int_int, ↓isIn_int_str, ↓isIn_int_bool, ↓isIn_int_list, ↓isIn_int_tuple, ↓isIn_int_dict, ↓plain_str, ↓isIn_str_int, ↓isIn_str_str, ↓isIn_str_bool, ↓isIn_str_list, ↓isIn_str_tuple, ↓isIn_str_dict, ↓plain_tup, ↓isIn_tup_int, ↓isIn_tup_str, ↓isIn_tup_bool, ↓isIn_tup_list, ↓isIn_tup_tuple, ↓isIn_tup_dict, ↓plain_lst, ↓isIn_lst_int, ↓isIn_lst_str, ↓isIn_lst_bool, ↓isIn_lst_list, ↓isIn_lst_tuple, ↓isIn_lst_dict, ↓sl0, ↓sl1, ↓sl2, ↓sl3, ↓sl4, ↓decide_true, ↓decide_false, ↓ddIsi2, ↓Bool.or_true, ↓Bool.or_false, ↓Bool.true_or]
  refine ⟨by decide, by decide, by decide, by decide, by decide, by decide, by decide, ?_⟩
  simp only [↓wipeD, ↓compL, ↓reduceIte, ↓startD, ↓List.map_cons, ↓List.map_nil, ↓List.length_cons, ↓List.length_nil, ↓List.cons_append, ↓List.nil_append, ↓List.replicate_succ, ↓List.replicate_zero, ↓List.getElem?_cons_zero, ↓List.getElem?_cons_succ, ↓List.set_cons_zero, ↓List.set_cons_succ, ↓dVar, ↓rdS, ↓dC, ↓dNew, ↓dOp, ↓onB, ↓qB, ↓dChain, ↓qAnd, ↓qOr, ↓qNot, ↓qTru, ↓truD, ↓dIf, ↓dAnd, ↓dOr, ↓dNot, ↓dUn, ↓ddNeg, ↓lNil, ↓lCons, ↓dTup, ↓nLst, ↓ddI, ↓ddI0, ↓ddAdd, ↓isNonD, ↓isBlD, ↓ddIsN, ↓ddIsB, ↓ddIx_t0, ↓ddIx_t1, ↓ddIx_t2, ↓ddIx_t3, ↓ddIx_l0, ↓ddIx_l1, ↓ddIx_l2, ↓dCB, ↓ddLen, ↓ddInt1, ↓ddAbs, ↓ddMM, ↓ddTuple, ↓nCB, ↓nnList, ↓ddIsi, ↓dCall, ↓sSkip, ↓sSeq, ↓sBreak, ↓sCont, ↓sExpr, ↓sRet, ↓sRetN, ↓sIf, ↓sNever, ↓gdName, ↓gdNil, ↓gdCons, ↓gdTup, ↓sAsg, ↓sSetN, ↓sPar, ↓sRaise, ↓sFrz, ↓owS, ↓sApp, ↓sIns, ↓dLenO, ↓dIxO, ↓sTry, ↓sFor, ↓iL, ↓iT, ↓onL, ↓onT, ↓iR1, ↓iR2, ↓nComp, ↓qYes, ↓ddEq_ii, ↓ddEq_ss, ↓ddEq_bb, ↓Bool.false_bne, ↓Bool.true_bne, ↓List.append_nil, ↓true_and, ↓and_true, ↓if_true, ↓if_false, ↓Bool.not_true, ↓Bool.not_false, ↓Bool.true_eq_false, ↓Bool.false_eq_true, ↓ite_true, ↓ite_false, ↓id_eq, ↓plain_non, ↓isIn_non_int, ↓isIn_non_str, ↓isIn_non_bool, ↓isIn_non_list, ↓isIn_non_tuple, ↓isIn_non_dict, ↓plain_bl, ↓isIn_bl_int, ↓isIn_bl_str, ↓isIn_bl_bool, ↓isIn_bl_list, ↓isIn_bl_tuple, ↓isIn_bl_dict, ↓plain_int, ↓isIn_int_int, ↓isIn_int_str, ↓isIn_int_bool, ↓isIn_int_list, ↓isIn_int_tuple, ↓isIn_int_dict, ↓plain_str, ↓isIn_str_int, ↓isIn_str_str, ↓isIn_str_bool, ↓isIn_str_list, ↓isIn_str_tuple, ↓isIn_str_dict, ↓plain_tup, ↓isIn_tup_int, ↓isIn_tup_str, ↓isIn_tup_bool, ↓isIn_tup_list, ↓isIn_tup_tuple, ↓isIn_tup_dict, ↓plain_lst, ↓isIn_lst_int, ↓isIn_lst_str, ↓isIn_lst_bool, ↓isIn_lst_list, ↓isIn_lst_tuple, ↓isIn_lst_dict, ↓sl0, ↓sl1, ↓sl2, ↓sl3, ↓sl4, ↓decide_true, ↓decide_false, ↓ddIsi2, ↓Bool.or_true, ↓Bool.or_false, ↓Bool.true_or]
  refine ⟨by decide, ?_⟩
  rw [if_neg (by decide), if_neg (by decide), dXg_var hx (T.zNegativeRoot.nf _ (by simp)) (d := d) (by simp [nrX])]
  exact h
theorem ok_refusedH (T : Txt K mg) : FnE P w K mg base 2 T.drefused.f T.drefused.fd P_refused (fun q => spXD K (m_refusedH T) q.1 q.2.cls q.2.dict) := by
  have G_unfit : FnE P w K mg base 1 T.dunfit.f T.dunfit.fd P_unfit (fun q => spXD K (m_unfitH T) q.1 q.2.cls q.2.dict) := ok_unfitH T
  refine T.drefused.okED sc_refused fun q cdv A outer s H E so A0 x dx us hr kx => ⟨_, (pds_cons (pds_setN (i := 1) sc_refused.nd rfl (by first | exact .inl rfl | exact .inr rfl) (pdn_lst pda_nil))
      (pds_cons (pds_if (pdt_tru (pd_isP kx (by rfl) T.m_isinstance (pd_var (pv 0)) (pe_glob (v := .ref T.cWrongKind.C) (by rfl) T.cWrongKind.g rfl) (.own _)))
        (pds_one (pds_app (pv 1) (pd_tup (pda_cons pd_str (pda_cons (pd_xg kx (pd_var (pv 0))) pda_nil))) rfl rfl rfl rfl rfl rfl))
        pds_nil)
      (pds_cons (pds_if (pdt_tru (pd_isP kx (by rfl) T.m_isinstance (pd_var (pv 0)) (pe_glob (v := .ref T.cOutOfBounds.C) (by rfl) T.cOutOfBounds.g rfl) (.own _)))
        (pds_one (pds_app (pv 1) (pd_tup (pda_cons pd_str (pda_cons (pd_xg kx (pd_var (pv 0))) pda_nil))) rfl rfl rfl rfl rfl rfl))
        pds_nil)
      (pds_cons (pds_if (pdt_tru (pd_isP kx (by rfl) T.m_isinstance (pd_var (pv 0)) (pe_glob (v := .ref T.cRepeatedName.C) (by rfl) T.cRepeatedName.g rfl) (.own _)))
        (pds_one (pds_app (pv 1) (pd_tup (pda_cons pd_str (pda_cons (pd_xg kx (pd_var (pv 0))) pda_nil))) rfl rfl rfl rfl rfl rfl))
        pds_nil)
      (pds_cons (pds_if (pdt_tru (pd_isP kx (by rfl) T.m_isinstance (pd_var (pv 0)) (pe_glob (v := .ref T.cUnknownName.C) (by rfl) T.cUnknownName.g rfl) (.own _)))
        (pds_one (pds_app (pv 1) (pd_tup (pda_cons pd_str (pda_cons (pd_xg kx (pd_var (pv 0))) pda_nil))) rfl rfl rfl rfl rfl rfl))
        pds_nil)
      (pds_cons (pds_if (pdt_tru (pd_isP kx (by rfl) T.m_isinstance (pd_var (pv 0)) (pe_glob (v := .ref T.cUnsafe.C) (by rfl) T.cUnsafe.g rfl) (.own _)))
        (pds_one (pds_app (pv 1) (pd_tup (pda_cons pd_str (pda_cons (pd_xg kx (pd_var (pv 0))) pda_nil))) rfl rfl rfl rfl rfl rfl))
        pds_nil)
      (pds_cons (pds_if (pdt_tru (pd_isP kx (by rfl) T.m_isinstance (pd_var (pv 0)) (pe_glob (v := .ref T.cBadText.C) (by rfl) T.cBadText.g rfl) (.own _)))
        (pds_one (pds_app (pv 1) (pd_tup (pda_cons pd_str (pda_cons (pd_tup (pda_cons (pd_xg kx (pd_var (pv 0))) (pda_cons (pd_xg kx (pd_var (pv 0))) (pda_cons (pd_xg kx (pd_var (pv 0))) pda_nil)))) pda_nil))) rfl rfl rfl rfl rfl rfl))
        pds_nil)
      (pds_cons (pds_if (pdt_tru (pd_isP kx (by rfl) T.m_isinstance (pd_var (pv 0)) (pe_glob (v := .ref T.cUnfitError.C) (by rfl) T.cUnfitError.g rfl) (.own _)))
        (pds_one (pds_app (pv 1) (pd_callE kx G_unfit (hr.mono (by omega)) (by rfl) T.dunfit.g T.dunfit.F.kp T.dunfit.b (pd_var (pv 0))) rfl rfl rfl rfl rfl rfl))
        pds_nil)
      (pds_cons (pds_if (PDW.t (pdw_or (pdt_not (pdt_tru (pd_isP kx (by rfl) T.m_isinstance (pd_var (pv 0)) (pe_glob (v := .ref T.cFrameError.C) (by rfl) T.cFrameError.g rfl) (.own _)))) (pdw_or1 (pdt_not (pdt_tru (pd_isP kx (by rfl) T.m_isinstance (pd_var (pv 0)) (pe_bltn (v := .ty "ValueError") (by rfl) T.m_ValueError bt_ValueError rfl) (.ty _)))))))
        (pds_one (pds_ret (pd_tup (pda_cons pd_str (pda_cons pd_non pda_nil)))))
        pds_nil)
      (pds_cons (pds_if (pdt_cmp (oo_eq hr.units) ol_eq (pd_lenO (by rfl) T.m_len (pv 1)) pd_int (nomark _))
        (pds_one (pds_ret (pd_tup (pda_cons pd_str (pda_cons pd_non pda_nil)))))
        pds_nil)
      (pds_cons (pds_if (pdt_cmp op_gt ol_gt (pd_lenO (by rfl) T.m_len (pv 1)) pd_int (nomark _))
        (pds_frz 1 (pds_one (pds_ret (pd_tup (pda_cons pd_str (pda_cons (pd_var (pv 1)) pda_nil))))))
        pds_nil)
      (pds_one (pds_ret (pd_ixO (pv 1) pd_int (fun _ _ => rfl))))))))))))))), fun Q h => ?_⟩
  dsimp only [L2H.cxH, cxOf, Cx.nox]
  rcases h with ⟨d, rfl, h⟩ | ⟨s, rfl, h⟩
  · have hx : XC K (nrX T d).C := T.cNegativeRoot.x
    have k_WrongKind : PySem.W.kitOne K (.ref (nrX T d).C) (.ref T.cWrongKind.C) = some false := T.kk 9 1 (by decide) (by decide)
    have k_OutOfBounds : PySem.W.kitOne K (.ref (nrX T d).C) (.ref T.cOutOfBounds.C) = some false := T.kk 9 2 (by decide) (by decide)
    have k_RepeatedName : PySem.W.kitOne K (.ref (nrX T d).C) (.ref T.cRepeatedName.C) = some false := T.kk 9 3 (by decide) (by decide)
    have k_UnknownName : PySem.W.kitOne K (.ref (nrX T d).C) (.ref T.cUnknownName.C) = some false := T.kk 9 4 (by decide) (by decide)
    have k_Unsafe : PySem.W.kitOne K (.ref (nrX T d).C) (.ref T.cUnsafe.C) = some false := T.kk 9 5 (by decide) (by decide)
    have k_BadText : PySem.W.kitOne K (.ref (nrX T d).C) (.ref T.cBadText.C) = some false := T.kk 9 6 (by decide) (by decide)
    have k_UnfitError : PySem.W.kitOne K (.ref (nrX T d).C) (.ref T.cUnfitError.C) = some true := T.kk 9 7 (by decide) (by decide)
    have k_FrameError : PySem.W.kitOne K (.ref (nrX T d).C) (.ref T.cFrameError.C) = some true := T.kk 9 0 (by decide) (by decide)
    have k_ValueError : PySem.W.kitOne K (.ref (nrX T d).C) (.type "ValueError") = some true := T.kv 9 (by decide)
    simp only [↓dIsP_var (x := nrX T d) hx k_WrongKind, ↓dIsP_var (x := nrX T d) hx k_OutOfBounds, ↓dIsP_var (x := nrX T d) hx k_RepeatedName, ↓dIsP_var (x := nrX T d) hx k_UnknownName, ↓dIsP_var (x := nrX T d) hx k_Unsafe, ↓dIsP_var (x := nrX T d) hx k_BadText, ↓dIsP_var (x := nrX T d) hx k_UnfitError, ↓dIsP_var (x := nrX T d) hx k_FrameError, ↓dIsP_var (x := nrX T d) hx k_ValueError, ↓reduceIte, ↓startD, ↓List.map_cons, ↓List.map_nil, ↓List.length_cons, ↓List.length_nil, ↓List.cons_append, ↓List.nil_append, ↓List.replicate_succ, ↓List.replicate_zero, ↓List.getElem?_cons_zero, ↓List.getElem?_cons_succ, ↓List.set_cons_zero, ↓List.set_cons_succ, ↓dVar, ↓rdS, ↓dC, ↓dNew, ↓dOp, ↓onB, ↓qB, ↓dChain, ↓qAnd, ↓qOr, ↓qNot, ↓qTru, ↓truD, ↓dIf, ↓dAnd, ↓dOr, ↓dNot, ↓dUn, ↓ddNeg, ↓lNil, ↓lCons, ↓dTup, ↓nLst, ↓ddI, ↓ddI0, ↓ddAdd, ↓isNonD, ↓isBlD, ↓ddIsN, ↓ddIsB, ↓ddIx_t0, ↓ddIx_t1, ↓ddIx_t2, ↓ddIx_t3, ↓ddIx_l0, ↓ddIx_l1, ↓ddIx_l2, ↓dCB, ↓ddLen, ↓ddInt1, ↓ddAbs, ↓ddMM, ↓ddTuple, ↓nCB, ↓nnList, ↓ddIsi, ↓dCall, ↓sSkip, ↓sSeq, ↓sBreak, ↓sCont, ↓sExpr, ↓sRet, ↓sRetN, ↓sIf, ↓sNever, ↓gdName, ↓gdNil, ↓gdCons, ↓gdTup, ↓sAsg, ↓sSetN, ↓sPar, ↓sRaise, ↓sFrz, ↓owS, ↓sApp, ↓sIns, ↓dLenO, ↓dIxO, ↓sTry, ↓sFor, ↓iL, ↓iT, ↓onL, ↓onT, ↓iR1, ↓iR2, ↓nComp, ↓qYes, ↓ddEq_ii, ↓ddEq_ss, ↓ddEq_bb, ↓Bool.false_bne, ↓Bool.true_bne, ↓List.append_nil, ↓true_and, ↓and_true, ↓if_true, ↓if_false, ↓Bool.not_true, ↓Bool.not_false, ↓Bool.true_eq_false, ↓Bool.false_eq_true, ↓ite_true, ↓ite_false, ↓id_eq, ↓plain_non, ↓isIn_non_int, ↓isIn_non_str, ↓isIn_non_bool, ↓isIn_non_list, ↓isIn_non_tuple, ↓isIn_non_dict, ↓plain_bl, ↓isIn_bl_int, ↓isIn_bl_str, ↓isIn_bl_bool, ↓isIn_bl_list, ↓isIn_bl_tuple, ↓isIn_bl_dict, ↓plain_int, ↓isIn_int_int, ↓isIn_int_str, ↓isIn_int_bool, ↓isIn_int_list, ↓isIn_int_tuple, ↓isIn_int_dict, ↓plain_str, ↓isIn_str_int, ↓isIn_str_str, ↓isIn_str_bool, ↓isIn_str_list, ↓isIn_str_tuple, ↓isIn_str_dict, ↓plain_tup, ↓isIn_tup_int, ↓isIn_tup_str, ↓isIn_tup_bool, ↓isIn_tup_list, ↓isIn_tup_tuple, ↓isIn_tup_dict, ↓plain_lst, ↓isIn_lst_int, ↓isIn_lst_str, ↓isIn_lst_bool, ↓isIn_lst_list, ↓isIn_lst_tuple, ↓isIn_lst_dict, ↓sl0, ↓sl1, ↓sl2, ↓sl3, ↓sl4, ↓decide_true, ↓decide_false, ↓ddIsi2, ↓Bool.or_true, ↓Bool.or_false, ↓Bool.true_or]
    refine ⟨rfl, d, rfl, ?_⟩
    refine ⟨by decide, ?_⟩
    exact ⟨_, rfl, h⟩
  · have hx : XC K (wkX T s).C := T.cWrongKind.x
    have k_WrongKind : PySem.W.kitOne K (.ref (wkX T s).C) (.ref T.cWrongKind.C) = some true := T.kk 1 1 (by decide) (by decide)
    have k_OutOfBounds : PySem.W.kitOne K (.ref (wkX T s).C) (.ref T.cOutOfBounds.C) = some false := T.kk 1 2 (by decide) (by decide)
    have k_RepeatedName : PySem.W.kitOne K (.ref (wkX T s).C) (.ref T.cRepeatedName.C) = some false := T.kk 1 3 (by decide) (by decide)
    have k_UnknownName : PySem.W.kitOne K (.ref (wkX T s).C) (.ref T.cUnknownName.C) = some false := T.kk 1 4 (by decide) (by decide)
    have k_Unsafe : PySem.W.kitOne K (.ref (wkX T s).C) (.ref T.cUnsafe.C) = some false := T.kk 1 5 (by decide) (by decide)
    have k_BadText : PySem.W.kitOne K (.ref (wkX T s).C) (.ref T.cBadText.C) = some false := T.kk 1 6 (by decide) (by decide)
    have k_UnfitError : PySem.W.kitOne K (.ref (wkX T s).C) (.ref T.cUnfitError.C) = some false := T.kk 1 7 (by decide) (by decide)
    have k_FrameError : PySem.W.kitOne K (.ref (wkX T s).C) (.ref T.cFrameError.C) = some true := T.kk 1 0 (by decide) (by decide)
    have k_ValueError : PySem.W.kitOne K (.ref (wkX T s).C) (.type "ValueError") = some true := T.kv 1 (by decide)
    simp only [↓dIsP_var (x := wkX T s) hx k_WrongKind, ↓dIsP_var (x := wkX T s) hx k_OutOfBounds, ↓dIsP_var (x := wkX T s) hx k_RepeatedName, ↓dIsP_var (x := wkX T s) hx k_UnknownName, ↓dIsP_var (x := wkX T s) hx k_Unsafe, ↓dIsP_var (x := wkX T s) hx k_BadText, ↓dIsP_var (x := wkX T s) hx k_UnfitError, ↓dIsP_var (x := wkX T s) hx k_FrameError, ↓dIsP_var (x := wkX T s) hx k_ValueError, ↓reduceIte, ↓startD, ↓List.map_cons, ↓List.map_nil, ↓List.length_cons, ↓List.length_nil, ↓List.cons_append, ↓List.nil_append, ↓List.replicate_succ, ↓List.replicate_zero, ↓List.getElem?_cons_zero, ↓List.getElem?_cons_succ, ↓List.set_cons_zero, ↓List.set_cons_succ, ↓dVar, ↓rdS, ↓dC, ↓dNew, ↓dOp, ↓onB, ↓qB, ↓dChain, ↓qAnd, ↓qOr, ↓qNot, ↓qTru, ↓truD, ↓dIf, ↓dAnd, ↓dOr, ↓dNot, ↓dUn, ↓ddNeg, ↓lNil, ↓lCons, ↓dTup, ↓nLst, ↓ddI, ↓ddI0, ↓ddAdd, ↓isNonD, ↓isBlD, ↓ddIsN, ↓ddIsB, ↓ddIx_t0, ↓ddIx_t1, ↓ddIx_t2, ↓ddIx_t3, ↓ddIx_l0, ↓ddIx_l1, ↓ddIx_l2, ↓dCB, ↓ddLen, ↓ddInt1, ↓ddAbs, ↓ddMM, ↓ddTuple, ↓nCB, ↓nnList, ↓ddIsi, ↓dCall, ↓sSkip, ↓sSeq, ↓sBreak, ↓sCont, ↓sExpr, ↓sRet, ↓sRetN, ↓sIf, ↓sNever, ↓gdName, ↓gdNil, ↓gdCons, ↓gdTup, ↓sAsg, ↓sSetN, ↓sPar, ↓sRaise, ↓sFrz, ↓owS, ↓sApp, ↓sIns, ↓dLenO, ↓dIxO, ↓sTry, ↓sFor, ↓iL, ↓iT, ↓onL, ↓onT, ↓iR1, ↓iR2, ↓nComp, ↓qYes, ↓ddEq_ii, ↓ddEq_ss, ↓ddEq_bb, ↓Bool.false_bne, ↓Bool.true_bne, ↓List.append_nil, ↓true_and, ↓and_true, ↓if_true, ↓if_false, ↓Bool.not_true, ↓Bool.not_false, ↓Bool.true_eq_false, ↓Bool.false_eq_true, ↓ite_true, ↓ite_false, ↓id_eq, ↓plain_non, ↓isIn_non_int, ↓isIn_non_str, ↓isIn_non_bool, ↓isIn_non_list, ↓isIn_non_tuple, ↓isIn_non_dict, ↓plain_bl, ↓isIn_bl_int, ↓isIn_bl_str, ↓isIn_bl_bool, ↓isIn_bl_list, ↓isIn_bl_tuple, ↓isIn_bl_dict, ↓plain_int, ↓isIn_int_int, ↓isIn_int_str, ↓isIn_int_bool, ↓isIn_int_list, ↓isIn_int_tuple, ↓isIn_int_dict, ↓plain_str, ↓isIn_str_int, ↓isIn_str_str, ↓isIn_str_bool, ↓isIn_str_list, ↓isIn_str_tuple, ↓isIn_str_dict, ↓plain_tup, ↓isIn_tup_int, ↓isIn_tup_str, ↓isIn_tup_bool, ↓isIn_tup_list, ↓isIn_tup_tuple, ↓isIn_tup_dict, ↓plain_lst, ↓isIn_lst_int, ↓isIn_lst_str, ↓isIn_lst_bool, ↓isIn_lst_list, ↓isIn_lst_tuple, ↓isIn_lst_dict, ↓sl0, ↓sl1, ↓sl2, ↓sl3, ↓sl4, ↓decide_true, ↓decide_false, ↓ddIsi2, ↓Bool.or_true, ↓Bool.or_false, ↓Bool.true_or]
    rw [dXg_var hx (T.zWrongKind.nf _ (by simp)) (d := .str s) (by simp [wkX])]
    refine ⟨by decide, ?_⟩
    exact ⟨_, rfl, h⟩
end
end My
set_option exponentiation.threshold 100000
namespace My
open PySem PySem.Spec PyProof.Rows L2
abbrev s_OutOfBounds_init : Stmt := inClass (topS 3) 0
abbrev N_OutOfBounds_init : List Str := ["self", "argument"]
abbrev P_OutOfBounds_init : List Str := ["self", "argument"]
theorem sc_OutOfBounds_init : FnScope N_OutOfBounds_init P_OutOfBounds_init (defScope s_OutOfBounds_init) := ⟨rfl, rfl, rfl, by decide +kernel, rfl, by decide +kernel, by decide +kernel⟩

abbrev s_RepeatedName_init : Stmt := inClass (topS 4) 0
abbrev N_RepeatedName_init : List Str := ["self", "repeated"]
abbrev P_RepeatedName_init : List Str := ["self", "repeated"]
theorem sc_RepeatedName_init : FnScope N_RepeatedName_init P_RepeatedName_init (defScope s_RepeatedName_init) := ⟨rfl, rfl, rfl, by decide +kernel, rfl, by decide +kernel, by decide +kernel⟩

abbrev s_UnknownName_init : Stmt := inClass (topS 5) 0
abbrev N_UnknownName_init : List Str := ["self", "unknown"]
abbrev P_UnknownName_init : List Str := ["self", "unknown"]
theorem sc_UnknownName_init : FnScope N_UnknownName_init P_UnknownName_init (defScope s_UnknownName_init) := ⟨rfl, rfl, rfl, by decide +kernel, rfl, by decide +kernel, by decide +kernel⟩

abbrev s_BadText_init : Stmt := inClass (topS 26) 0
abbrev N_BadText_init : List Str := ["self", "line", "column", "fault"]
abbrev P_BadText_init : List Str := ["self", "line", "column", "fault"]
theorem sc_BadText_init : FnScope N_BadText_init P_BadText_init (defScope s_BadText_init) := ⟨rfl, rfl, rfl, by decide +kernel, rfl, by decide +kernel, by decide +kernel⟩

abbrev s_Unsafe_init : Stmt := inClass (topS 25) 0
abbrev N_Unsafe_init : List Str := ["self", "velocities"]
abbrev P_Unsafe_init : List Str := ["self", "velocities"]
theorem sc_Unsafe_init : FnScope N_Unsafe_init P_Unsafe_init (defScope s_Unsafe_init) := ⟨rfl, rfl, rfl, by decide +kernel, rfl, by decide +kernel, by decide +kernel⟩

/-- the __init__ of Unsafe, handed a list -/
def spUns (K : PySem.W.Frag) (C : Addr) : Sp := fun vs H Q _ => ∃ (a p : Addr) (xs : List V), vs = [.ref a, .ref p] ∧ OexC K C ∧ PySem.W.findIn K (.ref C) "velocities" = some none ∧ H p = some (.lst xs) ∧ H a = some (exo a C none) ∧
  ∀ (q dx : Addr) (H' : Hp), H q = none → H dx = none → dx ≠ a → q ≠ dx → H' a = some (exo a C (some dx)) → H' dx = some (exd dx [("velocities", .ref q)]) → H' q = some (.lst xs) → (∀ b o, b ≠ a → H b = some o → H' b = some o) → Q .non H'
section
variable {P : Program} {w : World} {K : PySem.W.Frag} {mg : Str → Option Value} {base : Heap}
theorem ok_iOutOfBounds (T : Txt K mg) : FnOk P w K mg base CX0 1 T.iOutOfBounds.f T.iOutOfBounds.fd P_OutOfBounds_init (spIni K T.cOutOfBounds.C ["argument"] 1 (mk1 "argument")) :=
  T.iOutOfBounds.ok1 sc_OutOfBounds_init fun cdv A outer s H E => pss_one (ps_ost (pv 0) (pv 1))
theorem ok_iRepeatedName (T : Txt K mg) : FnOk P w K mg base CX0 1 T.iRepeatedName.f T.iRepeatedName.fd P_RepeatedName_init (spIni K T.cRepeatedName.C ["repeated"] 1 (mk1 "repeated")) :=
  T.iRepeatedName.ok1 sc_RepeatedName_init fun cdv A outer s H E => pss_one (ps_ost (pv 0) (pv 1))
theorem ok_iUnknownName (T : Txt K mg) : FnOk P w K mg base CX0 1 T.iUnknownName.f T.iUnknownName.fd P_UnknownName_init (spIni K T.cUnknownName.C ["unknown"] 1 (mk1 "unknown")) :=
  T.iUnknownName.ok1 sc_UnknownName_init fun cdv A outer s H E => pss_one (ps_ost (pv 0) (pv 1))
theorem ok_iBadText (T : Txt K mg) : FnOk P w K mg base CX0 1 T.iBadText.f T.iBadText.fd P_BadText_init (spIni K T.cBadText.C ["fault", "column", "line"] 3 (mk3 "line" "column" "fault")) := by
  refine T.iBadText.F.ok sc_BadText_init (fun vs H Q E h => ?_) fun cdv A outer s H vs Q E room h => ?_
  · obtain ⟨a, xs, rfl, hl, _⟩ := h
    show xs.length + 1 = 4
    rw [hl]
  · obtain ⟨a, xs, rfl, hl, o, n, ea, k⟩ := h
    match xs, hl with
    | [x, y, z], _ =>
      refine ⟨_, pss_cons (ps_ost (pv 0) (pv 1)) (pss_cons (ps_ost (pv 0) (pv 2)) (pss_one (ps_ost (pv 0) (pv 3)))), g_ost ?_⟩
      refine ⟨x, rfl, .ref a, rfl, a, _, rfl, o, n "line" (by simp), .inl ⟨ea, fun dx n1 n2 => ?_⟩⟩
      dsimp only [cxOf, tSeq]
      refine g_ost ?_
      refine ⟨y, rfl, .ref a, rfl, a, _, rfl, o, n "column" (by simp), .inr ⟨dx, _, upd_same, by rw [upd_ne n2, upd_same], by show 1 ≤ 900; decide, ?_⟩⟩
      dsimp only [cxOf, tSeq]
      refine g_ost ?_
      refine ⟨z, rfl, .ref a, rfl, a, _, rfl, o, n "fault" (by simp), .inr ⟨dx, _, by rw [upd_ne (Ne.symm n2), upd_same], upd_same, by show 2 ≤ 900; decide, ?_⟩⟩
      refine k dx _ n1 n2 (by rw [upd_ne (Ne.symm n2), upd_ne (Ne.symm n2), upd_same]) upd_same fun b u nb hb => ?_
      have nd := ne_of_none hb n1
      rw [upd_ne nd, upd_ne nd, upd_ne nb, upd_ne nd]
      exact hb
theorem ok_iUnsafe (T : Txt K mg) : FnOk P w K mg base CX0 1 T.iUnsafe.f T.iUnsafe.fd P_Unsafe_init (spUns K T.cUnsafe.C) := by
  refine T.iUnsafe.F.ok sc_Unsafe_init (fun vs H Q E h => ?_) fun cdv A outer s H vs Q E room h => ?_
  · obtain ⟨a, p, xs, rfl, _⟩ := h
    rfl
  · obtain ⟨a, p, xs, rfl, o, n, hp, ea, k⟩ := h
    refine ⟨_, pss_one (ps_ost (pv 0) (pe_ifExp (pt_val (pe_callB call_isi (by rfl) T.m_isinstance bt_isinstance (pa_cons (pv 1) (pa_cons (pe_bltn (v := .ty "list") (by rfl) T.m_list bt_list rfl) pa_nil)))) (pe_callTy c_list (by rfl) T.m_list bt_list (pa_cons (pv 1) pa_nil)) (pv 1))), g_ost ?_⟩
    refine ⟨.ref p, rfl, .ref p, .ty "list", .type "list", .type "list", true, rfl, .ty "list", .base (.lst hp), kit_ty k_list_list, true, rfl, iteT ?_⟩
    have na : ∀ {q : Addr}, H q = none → a ≠ q := fun {q} hq z => by
      rw [← z, ea] at hq
      cases hq
    refine ⟨.ref p, rfl, p, xs, rfl, .inl (SqL.of hp), fun q hq => ⟨.ref a, rfl, a, _, rfl, o, n, .inl ⟨by rw [upd_ne (na hq)]; exact ea, fun dx n1 n2 => ?_⟩⟩⟩
    have hd : dx ≠ q := fun z => by
      rw [z, upd_same] at n1
      cases n1
    rw [upd_ne hd] at n1
    refine k q dx _ hq n1 n2 (Ne.symm hd) upd_same (by rw [upd_ne n2, upd_same]) (by rw [upd_ne (Ne.symm (na hq)), upd_ne (Ne.symm hd), upd_same]) fun b u nb hb => ?_
    rw [upd_ne nb, upd_ne (ne_of_none hb n1), upd_ne (ne_of_none hb hq)]
    exact hb
end
end My
set_option exponentiation.threshold 100000
namespace My
open PySem PySem.Spec PyProof.Rows L2
local macro_rules | `(tactic| walk_at "dl") => `(tactic| simp only [startD, List.map_cons, List.map_nil, List.length_cons, List.length_nil, List.cons_append, List.nil_append, List.replicate_succ, List.replicate_zero, List.getElem?_cons_zero, List.getElem?_cons_succ, List.set_cons_zero, List.set_cons_succ,
  dVar, rdS, dC, dNew, dOp, onB, qB, dChain, qAnd, qOr, qNot, qTru, truD, dIf, dAnd, dOr, dNot, dUn, ddNeg, lNil, lCons, dTup, nLst, ddI, ddI0, ddAdd, isNonD, isBlD, ddIsN, ddIsB, ddIx_t0, ddIx_t1, ddIx_t2, ddIx_t3, ddIx_l0, ddIx_l1, ddIx_l2, dCB, ddLen, ddInt1, ddAbs, ddMM, ddTuple, nCB, nnList, ddIsi, dCall,
  sSkip, sSeq, sBreak, sCont, sExpr, sRet, sRetN, sIf, sNever, gdName, gdNil, gdCons, gdTup, sAsg, sSetN, sPar, sRaise, sFrz, owS, sApp, sIns, dLenO, dIxO, sTry, sFor, iL, iT, onL, onT, iR1, iR2, nComp, qYes,
  ddEq_ii, ddEq_ss, ddEq_bb, Bool.false_bne, Bool.true_bne, List.append_nil, true_and, and_true, if_true, if_false, Bool.not_true, Bool.not_false, Bool.true_eq_false, Bool.false_eq_true, ite_true, ite_false, id_eq])

local macro_rules | `(tactic| walk_at "is") => `(tactic| simp only [plain_non, isIn_non_int, isIn_non_str, isIn_non_bool, isIn_non_list, isIn_non_tuple, isIn_non_dict, plain_bl, isIn_bl_int, isIn_bl_str, isIn_bl_bool, isIn_bl_list, isIn_bl_tuple, isIn_bl_dict, plain_int, isIn_int_int, isIn_int_str, isIn_int_bool, isIn_int_list, isIn_int_tuple, isIn_int_dict, plain_str, isIn_str_int, isIn_str_str, isIn_str_bool, isIn_str_list, isIn_str_tuple, isIn_str_dict, plain_tup, isIn_tup_int, isIn_tup_str, isIn_tup_bool, isIn_tup_list, isIn_tup_tuple, isIn_tup_dict, plain_lst, isIn_lst_int, isIn_lst_str, isIn_lst_bool, isIn_lst_list, isIn_lst_tuple, isIn_lst_dict, sl0, sl1, sl2, sl3, sl4, decide_true, decide_false, ddIsi, ddIsi2, true_and, if_true, if_false, Bool.false_eq_true, Bool.not_true, Bool.not_false, Bool.or_true, Bool.or_false, Bool.true_or, and_true])
local macro_rules | `(tactic| walk_at "wk") => `(tactic| ((try walk_at "dl"); (try walk_at "is"); (try walk_at "dl")))

abbrev s_call : Stmt := topS 60
abbrev N_call : List Str := ["way", "plain", "factor", "under", "e"]
abbrev P_call : List Str := ["way", "plain", "factor", "under"]
theorem sc_call : FnScope N_call P_call (defScope s_call) := ⟨rfl, rfl, rfl, by decide +kernel, rfl, by decide +kernel, by decide +kernel⟩

abbrev s_made : Stmt := topS 63
abbrev N_made : List Str := ["thing", "out"]
abbrev P_made : List Str := ["thing"]
theorem sc_made : FnScope N_made P_made (defScope s_made) := ⟨rfl, rfl, rfl, by decide +kernel, rfl, by decide +kernel, by decide +kernel⟩

abbrev s_left_out : Stmt := topS 64
abbrev N_left_out : List Str := ["out"]
abbrev P_left_out : List Str := []
theorem sc_left_out : FnScope N_left_out P_left_out (defScope s_left_out) := ⟨rfl, rfl, rfl, by decide +kernel, rfl, by decide +kernel, by decide +kernel⟩

section
variable {X : Cx} {g : Gx} {EX : EXT} {pos p : Pos} {lv : Nat} {f : Addr} {fd : FuncData} {m : DF} {x : Str} {CX : CXT}
theorem pe_call0 {sp : Sp} {E : L2.St → XK} (F : FnOk X.prog X.w X.K X.mg X.base CX lv f fd [] sp) (hr : Room lv X.A) (hg : Gl X x) (hm : X.mg x = some (.ref f)) (hk : PySem.W.keepIn X.K (.ref f) = true) (hb : Binds X.K fd [] []) (hx : ∀ σ, PassesAt CX X σ (E σ))
    (hdb : (x == ("__debug__" : Str)) = false := by decide) : PE X (.Call (.Name x p) [] [] pos) (fun σ H Q => sp [] H Q (E σ)) := by
  refine ⟨fun pins s σ H Q I h => ?_⟩
  refine wpAny_Call_Name_kw (ld_glob I hg hm ?_ hdb)
  refine PySem.W.callWith_K0 I.kIn hk ?_
  exact run_fnS F hr hb (hx σ) I .nil h
def dCall0 (m : DF) : DE := fun _ Q E => m [] Q E
theorem pd_call0 (F : FnOk X.prog X.w X.K X.mg X.base CX lv f fd [] (spD X.K 0 m)) (hr : Room lv X.A) (hg : Gl X x) (hm : X.mg x = some (.ref f)) (hk : PySem.W.keepIn X.K (.ref f) = true) (hb : Binds X.K fd [] []) (hx : ∀ σ, PassesAt CX X σ (EX σ)) (hdb : (x == ("__debug__" : Str)) = false := by decide) :
    PD X g EX (.Call (.Name x p) [] [] pos) (dCall0 m) := ⟨(pe_call0 F hr hg hm hk hb hx hdb).imp fun σ H Q h => by
  obtain ⟨A, ρ, Qd, Ed, S, h, c, cx⟩ := h
  exact ⟨g.so, A, [], Qd, Ed, S.good, rfl, rfl, h, c, cx⟩⟩
theorem Ext.news {K : PySem.W.Frag} {so : Option Addr} {A H A' H' : Hp} (gd : Good K so A H) (h1 : ∀ b o, A' b = some o → A b = some o ∨ (H b = none ∧ H' b = some o)) (h2 : Sub A A') (k : ∀ b o, H b = some o → H' b = some o) : Ext K so A H A' H' := by
  refine ⟨⟨fun b o e => ?_, fun s e => ?_⟩, h2, fun b o _ e => k b o e, fun b o e => (h1 b o e).imp id And.left⟩
  · rcases h1 b o e with z | z
    · exact k b o (gd.sub b o z)
    · exact z.2
  · obtain ⟨x1, L, ns, p', i, j, c, d, x2, x3, r⟩ := gd.st s e
    refine ⟨?_, L, ns, p', i, j, c, d, k s _ x2, h2 _ _ x3, r⟩
    cases z : A' s with
    | none => rfl
    | some o =>
      rcases h1 s o z with y | y
      · rw [x1] at y
        cases y
      · rw [x2] at y
        cases y.1
/-- Unsafe(list): the list is copied -/
theorem uns_core {C : Addr} {l : List D} {xs : List V} {pa : Addr} (T : OexC X.K C) (no : PySem.W.findIn X.K (.ref C) "velocities" = some none) {A1 H1 : Hp} {Qd : D → Prop} {Q : VK} (gd : Good X.K g.so A1 H1) (hp : H1 pa = some (.lst xs)) (da : DaL X.K g.so A1 l xs)
    (q : Qd (.err C ["velocities"] [.lst l])) (c : Cont X.K g.so A1 H1 Qd Q) :
    [V.ref pa].length ≤ 1000 ∧ ∀ a, H1 a = none → spUns X.K C (.ref a :: ([V.ref pa] ++ [])) (upd H1 a (exo a C none)) (fun v H2 => v = .non ∧ Q (.ref a) H2) (fun _ _ _ => False) := by
  refine ⟨by show 1 ≤ 1000; decide, fun a ha => ⟨a, pa, xs, rfl, T, no, by rw [upd_ne (ne_of_none hp ha)]; exact hp, upd_same, fun r dx H' h1 h2 n1 n2 e1 e2 e3 k => ⟨rfl, ?_⟩⟩⟩
  have na : r ≠ a := fun z => by
    rw [z, upd_same] at h1
    cases h1
  rw [upd_ne na] at h1
  rw [upd_ne n1] at h2
  have nA : ∀ {b : Addr}, H1 b = none → A1 b = none := fun {b} h => by
    cases e : A1 b with
    | none => rfl
    | some v =>
      rw [gd.sub b v e] at h
      cases h
  have x : Ext X.K g.so A1 H1 (upd (upd (upd A1 r (.lst xs)) dx (exd dx [("velocities", .ref r)])) a (exo a C (some dx))) H' := by
    refine Ext.news gd (fun b o e => ?_) (fun b o e => ?_) fun b o e => k b o (ne_of_none e ha) (by rw [upd_ne (ne_of_none e ha)]; exact e)
    · by_cases z : b = a
      · subst z
        rw [upd_same] at e
        cases e
        exact .inr ⟨ha, e1⟩
      rw [upd_ne z] at e
      by_cases z : b = dx
      · subst z
        rw [upd_same] at e
        cases e
        exact .inr ⟨h2, e2⟩
      rw [upd_ne z] at e
      by_cases z : b = r
      · subst z
        rw [upd_same] at e
        cases e
        exact .inr ⟨h1, e3⟩
      rw [upd_ne z] at e
      exact .inl e
    · rw [upd_ne (ne_of_none e (nA ha)), upd_ne (ne_of_none e (nA h2)), upd_ne (ne_of_none e (nA h1))]
      exact e
  refine c (.err C ["velocities"] [.lst l]) (.ref a) _ H' x ⟨a, [.ref r], rfl, .inl ⟨dx, upd_same, by rw [upd_ne n1]; exact upd_same, rfl⟩, DaL.one ⟨r, xs, rfl, ?_, DaL.mono x.mono _ _ da⟩⟩ q
  rw [upd_ne na, upd_ne n2, upd_same]
def dMkUo (C : Addr) (i : Nat) : DE := fun ρ Q _ => owS ρ[i]? fun l => Q (.err C ["velocities"] [.lst l])
def dMkU (C : Addr) (ra : DE) : DE := fun ρ Q E => ra ρ (fun d => onL d fun l => Q (.err C ["velocities"] [.lst l])) E
variable {nm : Str} {C fI : Addr} {fdI : FuncData} {psI : List Str} {e : Expr} {ra : DE}
theorem pd_mkU (T : OexC X.K C) (no : PySem.W.findIn X.K (.ref C) "velocities" = some none)
    (iC : PySem.W.findIn X.K (.ref C) "__init__" = some (some (.ref fI))) (tI : PySem.W.typeIn X.K (.ref fI) = some (.type "function"))
    (FI : FnOk X.prog X.w X.K X.mg X.base CX0 lv fI fdI psI (spUns X.K C)) (room : Room (lv + 1) X.A) (bnd : Binds X.K fdI psI []) (gl : Gl X nm) (gm : X.mg nm = some (.ref C)) (he : PD X g EX e ra)
    (nd : (nm == ("__debug__" : Str)) = false := by decide) (st1 : starEach [e] X.env = (false, eval e X.env) :: starEach [] X.env := by rfl) (st2 : (backTo pos (starEach [] X.env)).any (·.1) = false := by rfl) :
    PD X g EX (.Call (.Name nm p) [e] [] pos) (dMkU C ra) := ⟨(pe_mkV (ds := []) (dvs := []) T iC tI FI room bnd .nil pass0 gl gm (pa_cons he.pe pa_nil st1) nd st1 st2).imp fun σ H Q h => by
  obtain ⟨A, ρ, Qd, Ed, S, h, c, cx⟩ := h
  refine ⟨A, ρ, _, Ed, S, h, fun d v A1 H1 x1 da q => ?_, cx⟩
  have q : onL d _ := q
  unfold onL at q
  split at q
  · obtain ⟨pa, xs, rfl, hs, dl⟩ := da
    exact uns_core T no x1.good (x1.good.sub _ _ hs) dl q (c.ext x1)
  · exact q.elim⟩
theorem pd_mkUo {i : Nat} (T : OexC X.K C) (no : PySem.W.findIn X.K (.ref C) "velocities" = some none)
    (iC : PySem.W.findIn X.K (.ref C) "__init__" = some (some (.ref fI))) (tI : PySem.W.typeIn X.K (.ref fI) = some (.type "function"))
    (FI : FnOk X.prog X.w X.K X.mg X.base CX0 lv fI fdI psI (spUns X.K C)) (room : Room (lv + 1) X.A) (bnd : Binds X.K fdI psI []) (gl : Gl X nm) (gm : X.mg nm = some (.ref C)) (ho : PE X e (tVar i))
    (nd : (nm == ("__debug__" : Str)) = false := by decide) (st1 : starEach [e] X.env = (false, eval e X.env) :: starEach [] X.env := by rfl) (st2 : (backTo pos (starEach [] X.env)).any (·.1) = false := by rfl) :
    PD X g EX (.Call (.Name nm p) [e] [] pos) (dMkUo C i) := ⟨(pe_mkV (ds := []) (dvs := []) T iC tI FI room bnd .nil pass0 gl gm (pa_cons ho pa_nil st1) nd st1 st2).imp fun σ H Q h => by
  obtain ⟨A, ρ, Qd, Ed, S, h, c, cx⟩ := h
  obtain ⟨l, e1, q⟩ := owS.out h
  obtain ⟨pa, xs, e2, hp, _, _, _, dl⟩ := S.e.ow e1
  exact ⟨.ref pa, e2, uns_core T no S.good hp dl q c⟩⟩
end
/-- what the call of root tells -/
noncomputable def rcD (p : D) : D := if isRat p = false then wkD "one" else match p with
  | .tup [.int a, .int b] => .tup [.str "told", rootD a b]
  | _ => .non
def m_call : DF := fun ds Q _ => match ds with
  | [.int w, p, f, u] => (w = 0 ∧ SzR 1000 p ∧ Q (rcD p)) ∨ (w = 1 ∧ SzR 881 p ∧ SzR 440 f ∧ SzR 881 u ∧ Q (rsD p f u))
  | _ => False
theorem dMk_1 {C : Addr} {fs : List Str} {r : DE} {ρ : DEnv} {Q : D → Prop} {E : XD → Prop} : dMk C fs 1 id [] (lCons r lNil) ρ Q E = r ρ (fun d => Q (.err C fs [d])) E := by
  simp [dMk, lCons, lNil]
theorem dMk_0 {C : Addr} {fs : List Str} {ρ : DEnv} {Q : D → Prop} {E : XD → Prop} : dMk C fs 1 id [.non] lNil ρ Q E = Q (.err C fs [.non]) := by
  simp [dMk, lNil]
section
variable {K : PySem.W.Frag} {mg : Str → Option Value} (T : Txt K mg)
def errL (d : D) : List D := (List.range 19).map fun k => .err (T.cl (7 + k)) ["subject"] [d]
def m_made : DF := fun ds Q _ => match ds with
  | [d] => Q (.lst (errL T d))
  | _ => False
def m_left_out : DF := fun ds Q _ => match ds with
  | [] => Q (.lst (errL T .non))
  | _ => False
end
section
variable {P : Program} {w : World} {K : PySem.W.Frag} {mg : Str → Option Value} {base : Heap}
theorem ok_call (T : Txt K mg) : FnOk P w K mg base (L2N.CX P w) 6 T.dcall.f T.dcall.fd P_call (spD K 4 m_call) := by
  have G_root : FnOk P w K mg base (L2N.CX P w) 5 T.droot.f T.droot.fd P_root (spD K 1 (m_root T)) := ok_root T
  have G_root_sign : FnOk P w K mg base (L2N.CX P w) 5 T.droot_sign.f T.droot_sign.fd P_root_sign (spD K 3 (m_root_sign T)) := ok_root_sign T
  have G_refused : FnE P w K mg base 2 T.drefused.f T.drefused.fd P_refused (fun q => spXD K (m_refusedH T) q.1 q.2.cls q.2.dict) := ok_refusedH T
  refine T.dcall.okD sc_call fun cdv A outer s H E so A0 hr tk hp => ⟨_, (pds_one (pds_tryE (i := 4) rfl rfl sc_call.nd rfl rfl ⟨rfl, by decide, .inl T.cFrameError.g⟩ (fun W pn xe tk hp =>
        (pds_cons (pds_if (pdt_cmp (oo_eq hr.units) ol_eq (pd_var (pv 0)) pd_int (nomark _))
          (pds_one (pds_ret (pd_tup (pda_cons pd_str (pda_cons (pd_call G_root (hr.mono (by omega)) (by rfl) T.droot.g T.droot.F.kp T.droot.b (fun σ => L2N.passAt tk σ) (pda_cons (pd_var (pv 1)) pda_nil)) pda_nil)))))
          pds_nil)
        (pds_one (pds_ret (pd_tup (pda_cons pd_str (pda_cons (pd_call G_root_sign (hr.mono (by omega)) (by rfl) T.droot_sign.g T.droot_sign.F.kp T.droot_sign.b (fun σ => L2N.passAt tk σ) (pda_cons (pd_var (pv 1)) (pda_cons (pd_var (pv 2)) (pda_cons (pd_var (pv 3)) pda_nil)))) pda_nil)))))))
        G_refused (hr.mono (by omega)) rfl T.drefused.g T.drefused.F.kp T.drefused.b (fun _ _ => pv 4))), fun ds Q E hl h => ?_⟩
  unfold m_call at h
  split at h
  · rename_i w p f u
    simp only [↓reduceIte, ↓startD, ↓List.map_cons, ↓List.map_nil, ↓List.length_cons, ↓List.length_nil, ↓List.cons_append, ↓List.nil_append, ↓List.replicate_succ, ↓List.replicate_zero, ↓List.getElem?_cons_zero, ↓List.getElem?_cons_succ, ↓List.set_cons_zero, ↓List.set_cons_succ, ↓dVar, ↓rdS, ↓dC, ↓dNew, ↓dOp, ↓onB, ↓qB, ↓dChain, ↓qAnd, ↓qOr, ↓qNot, ↓qTru, ↓truD, ↓dIf, ↓dAnd, ↓dOr, ↓dNot, ↓dUn, ↓ddNeg, ↓lNil, ↓lCons, ↓dTup, ↓nLst, ↓ddI, ↓ddI0, ↓ddAdd, ↓isNonD, ↓isBlD, ↓ddIsN, ↓ddIsB, ↓ddIx_t0, ↓ddIx_t1, ↓ddIx_t2, ↓ddIx_t3, ↓ddIx_l0, ↓ddIx_l1, ↓ddIx_l2, ↓dCB, ↓ddLen, ↓ddInt1, ↓ddAbs, ↓ddMM, ↓ddTuple, ↓nCB, ↓nnList, ↓ddIsi, ↓dCall, ↓sSkip, ↓sSeq, ↓sBreak, ↓sCont, ↓sExpr, ↓sRet, ↓sRetN, ↓sIf, ↓sNever, ↓gdName, ↓gdNil, ↓gdCons, ↓gdTup, ↓sAsg, ↓sSetN, ↓sPar, ↓sRaise, ↓sFrz, ↓owS, ↓sApp, ↓sIns, ↓dLenO, ↓dIxO, ↓sTry, ↓sFor, ↓iL, ↓iT, ↓onL, ↓onT, ↓iR1, ↓iR2, ↓nComp, ↓qYes, ↓ddEq_ii, ↓ddEq_ss, ↓ddEq_bb, ↓Bool.false_bne, ↓Bool.true_bne, ↓List.append_nil, ↓true_and, ↓and_true, ↓if_true, ↓if_false, ↓Bool.not_true, ↓Bool.not_false, ↓Bool.true_eq_false, ↓Bool.false_eq_true, ↓ite_true, ↓ite_false, ↓id_eq, ↓plain_non, ↓isIn_non_int, ↓isIn_non_str, ↓isIn_non_bool, ↓isIn_non_list, ↓isIn_non_tuple, ↓isIn_non_dict, ↓plain_bl, ↓isIn_bl_int, ↓isIn_bl_str, ↓isIn_bl_bool, ↓isIn_bl_list, ↓isIn_bl_tuple, ↓isIn_bl_dict, ↓plain_int, ↓isIn_int_int, ↓isIn_int_str, ↓isIn_int_bool, ↓isIn_int_list, ↓isIn_int_tuple, ↓isIn_int_dict, ↓plain_str, ↓isIn_str_int, ↓isIn_str_str, ↓isIn_str_bool, ↓isIn_str_list, ↓isIn_str_tuple, ↓isIn_str_dict, ↓plain_tup, ↓isIn_tup_int, ↓isIn_tup_str, ↓isIn_tup_bool, ↓isIn_tup_list, ↓isIn_tup_tuple, ↓isIn_tup_dict, ↓plain_lst, ↓isIn_lst_int, ↓isIn_lst_str, ↓isIn_lst_bool, ↓isIn_lst_list, ↓isIn_lst_tuple, ↓isIn_lst_dict, ↓sl0, ↓sl1, ↓sl2, ↓sl3, ↓sl4, ↓decide_true, ↓decide_false, ↓ddIsi2, ↓Bool.or_true, ↓Bool.or_false, ↓Bool.true_or]
    dsimp only [cxOf]
    refine ⟨by decide, ?_⟩
    have ex : ∃ EX : XD → Prop, (fun x : XD => PySem.W.exmOne K (.ref x.C) (.ref T.cFrameError.C) = some true ∧ m_refusedH T x Q) = EX ∧ (∀ s, Q (wkD s) → EX (wkX T s)) ∧ (∀ d, Q (.tup [.str "NegativeRoot", d]) → EX (nrX T d)) :=
      ⟨_, rfl, fun s h => ⟨T.xWrongKind, .inr ⟨s, rfl, h⟩⟩, fun d h => ⟨T.xNegativeRoot, .inl ⟨d, rfl, h⟩⟩⟩
    obtain ⟨EX, eX, wk, nr⟩ := ex
    rw [eX]
    clear eX
    rcases h with ⟨rfl, sp, q⟩ | ⟨rfl, sp, sf, su, q⟩
    · rw [if_pos (by decide)]
      unfold rcD at q
      refine ⟨sp, fun e => wk _ ?_, fun a b e r => ?_⟩
      · rw [if_pos e] at q
        exact q
      · rw [if_neg (by rw [r]; decide), e] at q
        exact q
    · rw [if_neg (by decide)]
      unfold rsD at q
      refine ⟨sp.up (by decide), sf.up (by decide), su.up (by decide), fun e => wk _ ?_, fun r e => wk _ ?_, fun r r2 e => wk _ ?_, fun p1 p2 f1 f2 u1 u2 e1 e2 e3 r1 r2 r3 => ⟨fun z => nr _ ?_, fun z => ?_⟩⟩
      · rw [if_pos e] at q
        exact q
      · rw [if_neg (by rw [r]; decide), if_pos e] at q
        exact q
      · rw [if_neg (by rw [r]; decide), if_neg (by rw [r2]; decide), if_pos e] at q
        exact q
      · rw [if_neg (by rw [r1]; decide), if_neg (by rw [r2]; decide), if_neg (by rw [r3]; decide), e1, e2, e3] at q
        simp only [ratD] at q
        rw [if_pos z] at q
        rw [e3]
        exact q
      · rw [if_neg (by rw [r1]; decide), if_neg (by rw [r2]; decide), if_neg (by rw [r3]; decide), e1, e2, e3] at q
        simp only [ratD] at q
        rw [if_neg (by omega)] at q
        exact q
  · exact h.elim
theorem ok_made (T : Txt K mg) : FnOk P w K mg base (L2N.CX P w) 3 T.dmade.f T.dmade.fd P_made (spD K 1 (m_made T)) := by
  refine T.dmade.okD sc_made fun cdv A outer s H E so A0 hr tk hp => ⟨_, (pds_cons (pds_set (i := 1) sc_made.nd rfl (by first | exact .inl rfl | exact .inr rfl) (pd_new (pdn_lst (pda_cons (pd_mk T.zUnfitError T.iUnfitError.i T.iUnfitError.t (ok_iSub (P := P) (w := w) (base := base) (mg := mg) (c := "UnfitError") T.iUnfitError) (hr.mono (by omega)) T.iUnfitError.b .nil (dd := []) (fun _ _ => rfl) (by rfl) T.cUnfitError.g (pda_cons (pd_var (pv 0)) pda_nil)) (pda_cons (pd_mk T.zZeroDivisor T.iZeroDivisor.i T.iZeroDivisor.t (ok_iSub (P := P) (w := w) (base := base) (mg := mg) (c := "ZeroDivisor") T.iZeroDivisor) (hr.mono (by omega)) T.iZeroDivisor.b .nil (dd := []) (fun _ _ => rfl) (by rfl) T.cZeroDivisor.g (pda_cons (pd_var (pv 0)) pda_nil)) (pda_cons (pd_mk T.zNegativeRoot T.iNegativeRoot.i T.iNegativeRoot.t (ok_iSub (P := P) (w := w) (base := base) (mg := mg) (c := "NegativeRoot") T.iNegativeRoot) (hr.mono (by omega)) T.iNegativeRoot.b .nil (dd := []) (fun _ _ => rfl) (by rfl) T.cNegativeRoot.g (pda_cons (pd_var (pv 0)) pda_nil)) (pda_cons (pd_mk T.zZeroBar T.iZeroBar.i T.iZeroBar.t (ok_iSub (P := P) (w := w) (base := base) (mg := mg) (c := "ZeroBar") T.iZeroBar) (hr.mono (by omega)) T.iZeroBar.b .nil (dd := []) (fun _ _ => rfl) (by rfl) T.cZeroBar.g (pda_cons (pd_var (pv 0)) pda_nil)) (pda_cons (pd_mk T.zFlatMap T.iFlatMap.i T.iFlatMap.t (ok_iSub (P := P) (w := w) (base := base) (mg := mg) (c := "FlatMap") T.iFlatMap) (hr.mono (by omega)) T.iFlatMap.b .nil (dd := []) (fun _ _ => rfl) (by rfl) T.cFlatMap.g (pda_cons (pd_var (pv 0)) pda_nil)) (pda_cons (pd_mk T.zBadSteps T.iBadSteps.i T.iBadSteps.t (ok_iSub (P := P) (w := w) (base := base) (mg := mg) (c := "BadSteps") T.iBadSteps) (hr.mono (by omega)) T.iBadSteps.b .nil (dd := []) (fun _ _ => rfl) (by rfl) T.cBadSteps.g (pda_cons (pd_var (pv 0)) pda_nil)) pda_nil)))))))))
      (pds_cons (pds_set (i := 1) sc_made.nd rfl (by first | exact .inl rfl | exact .inr rfl) (pd_op oo_add ol_add (pd_var (pv 1)) (pd_new (pdn_lst (pda_cons (pd_mk T.zNotOneWay T.iNotOneWay.i T.iNotOneWay.t (ok_iSub (P := P) (w := w) (base := base) (mg := mg) (c := "NotOneWay") T.iNotOneWay) (hr.mono (by omega)) T.iNotOneWay.b .nil (dd := []) (fun _ _ => rfl) (by rfl) T.cNotOneWay.g (pda_cons (pd_var (pv 0)) pda_nil)) (pda_cons (pd_mk T.zNotHeld T.iNotHeld.i T.iNotHeld.t (ok_iSub (P := P) (w := w) (base := base) (mg := mg) (c := "NotHeld") T.iNotHeld) (hr.mono (by omega)) T.iNotHeld.b .nil (dd := []) (fun _ _ => rfl) (by rfl) T.cNotHeld.g (pda_cons (pd_var (pv 0)) pda_nil)) (pda_cons (pd_mk T.zNotFlat T.iNotFlat.i T.iNotFlat.t (ok_iSub (P := P) (w := w) (base := base) (mg := mg) (c := "NotFlat") T.iNotFlat) (hr.mono (by omega)) T.iNotFlat.b .nil (dd := []) (fun _ _ => rfl) (by rfl) T.cNotFlat.g (pda_cons (pd_var (pv 0)) pda_nil)) (pda_cons (pd_mk T.zNotCover T.iNotCover.i T.iNotCover.t (ok_iSub (P := P) (w := w) (base := base) (mg := mg) (c := "NotCover") T.iNotCover) (hr.mono (by omega)) T.iNotCover.b .nil (dd := []) (fun _ _ => rfl) (by rfl) T.cNotCover.g (pda_cons (pd_var (pv 0)) pda_nil)) (pda_cons (pd_mk T.zNotOwnStress T.iNotOwnStress.i T.iNotOwnStress.t (ok_iSub (P := P) (w := w) (base := base) (mg := mg) (c := "NotOwnStress") T.iNotOwnStress) (hr.mono (by omega)) T.iNotOwnStress.b .nil (dd := []) (fun _ _ => rfl) (by rfl) T.cNotOwnStress.g (pda_cons (pd_var (pv 0)) pda_nil)) pda_nil)))))))))
      (pds_cons (pds_set (i := 1) sc_made.nd rfl (by first | exact .inl rfl | exact .inr rfl) (pd_op oo_add ol_add (pd_var (pv 1)) (pd_new (pdn_lst (pda_cons (pd_mk T.zNotPicture T.iNotPicture.i T.iNotPicture.t (ok_iSub (P := P) (w := w) (base := base) (mg := mg) (c := "NotPicture") T.iNotPicture) (hr.mono (by omega)) T.iNotPicture.b .nil (dd := []) (fun _ _ => rfl) (by rfl) T.cNotPicture.g (pda_cons (pd_var (pv 0)) pda_nil)) (pda_cons (pd_mk T.zNotLift T.iNotLift.i T.iNotLift.t (ok_iSub (P := P) (w := w) (base := base) (mg := mg) (c := "NotLift") T.iNotLift) (hr.mono (by omega)) T.iNotLift.b .nil (dd := []) (fun _ _ => rfl) (by rfl) T.cNotLift.g (pda_cons (pd_var (pv 0)) pda_nil)) (pda_cons (pd_mk T.zNoReciprocal T.iNoReciprocal.i T.iNoReciprocal.t (ok_iSub (P := P) (w := w) (base := base) (mg := mg) (c := "NoReciprocal") T.iNoReciprocal) (hr.mono (by omega)) T.iNoReciprocal.b .nil (dd := []) (fun _ _ => rfl) (by rfl) T.cNoReciprocal.g (pda_cons (pd_var (pv 0)) pda_nil)) (pda_cons (pd_mk T.zNotMotion T.iNotMotion.i T.iNotMotion.t (ok_iSub (P := P) (w := w) (base := base) (mg := mg) (c := "NotMotion") T.iNotMotion) (hr.mono (by omega)) T.iNotMotion.b .nil (dd := []) (fun _ _ => rfl) (by rfl) T.cNotMotion.g (pda_cons (pd_var (pv 0)) pda_nil)) (pda_cons (pd_mk T.zNotAlike T.iNotAlike.i T.iNotAlike.t (ok_iSub (P := P) (w := w) (base := base) (mg := mg) (c := "NotAlike") T.iNotAlike) (hr.mono (by omega)) T.iNotAlike.b .nil (dd := []) (fun _ _ => rfl) (by rfl) T.cNotAlike.g (pda_cons (pd_var (pv 0)) pda_nil)) pda_nil)))))))))
      (pds_one (pds_ret (pd_op oo_add ol_add (pd_var (pv 1)) (pd_new (pdn_lst (pda_cons (pd_mk T.zNotCrank T.iNotCrank.i T.iNotCrank.t (ok_iSub (P := P) (w := w) (base := base) (mg := mg) (c := "NotCrank") T.iNotCrank) (hr.mono (by omega)) T.iNotCrank.b .nil (dd := []) (fun _ _ => rfl) (by rfl) T.cNotCrank.g (pda_cons (pd_var (pv 0)) pda_nil)) (pda_cons (pd_mk T.zNothingToUndo T.iNothingToUndo.i T.iNothingToUndo.t (ok_iSub (P := P) (w := w) (base := base) (mg := mg) (c := "NothingToUndo") T.iNothingToUndo) (hr.mono (by omega)) T.iNothingToUndo.b .nil (dd := []) (fun _ _ => rfl) (by rfl) T.cNothingToUndo.g (pda_cons (pd_var (pv 0)) pda_nil)) (pda_cons (pd_mk T.zNothingToRedo T.iNothingToRedo.i T.iNothingToRedo.t (ok_iSub (P := P) (w := w) (base := base) (mg := mg) (c := "NothingToRedo") T.iNothingToRedo) (hr.mono (by omega)) T.iNothingToRedo.b .nil (dd := []) (fun _ _ => rfl) (by rfl) T.cNothingToRedo.g (pda_cons (pd_var (pv 0)) pda_nil)) pda_nil))))))))))), fun ds Q E hl h => ?_⟩
  match ds, hl with
  | [d], _ =>
    simp only [↓dMk_1, ↓reduceIte, ↓startD, ↓List.map_cons, ↓List.map_nil, ↓List.length_cons, ↓List.length_nil, ↓List.cons_append, ↓List.nil_append, ↓List.replicate_succ, ↓List.replicate_zero, ↓List.getElem?_cons_zero, ↓List.getElem?_cons_succ, ↓List.set_cons_zero, ↓List.set_cons_succ, ↓dVar, ↓rdS, ↓dC, ↓dNew, ↓dOp, ↓onB, ↓qB, ↓dChain, ↓qAnd, ↓qOr, ↓qNot, ↓qTru, ↓truD, ↓dIf, ↓dAnd, ↓dOr, ↓dNot, ↓dUn, ↓ddNeg, ↓lNil, ↓lCons, ↓dTup, ↓nLst, ↓ddI, ↓ddI0, ↓ddAdd, ↓isNonD, ↓isBlD, ↓ddIsN, ↓ddIsB, ↓ddIx_t0, ↓ddIx_t1, ↓ddIx_t2, ↓ddIx_t3, ↓ddIx_l0, ↓ddIx_l1, ↓ddIx_l2, ↓dCB, ↓ddLen, ↓ddInt1, ↓ddAbs, ↓ddMM, ↓ddTuple, ↓nCB, ↓nnList, ↓ddIsi, ↓dCall, ↓sSkip, ↓sSeq, ↓sBreak, ↓sCont, ↓sExpr, ↓sRet, ↓sRetN, ↓sIf, ↓sNever, ↓gdName, ↓gdNil, ↓gdCons, ↓gdTup, ↓sAsg, ↓sSetN, ↓sPar, ↓sRaise, ↓sFrz, ↓owS, ↓sApp, ↓sIns, ↓dLenO, ↓dIxO, ↓sTry, ↓sFor, ↓iL, ↓iT, ↓onL, ↓onT, ↓iR1, ↓iR2, ↓nComp, ↓qYes, ↓ddEq_ii, ↓ddEq_ss, ↓ddEq_bb, ↓Bool.false_bne, ↓Bool.true_bne, ↓List.append_nil, ↓true_and, ↓and_true, ↓if_true, ↓if_false, ↓Bool.not_true, ↓Bool.not_false, ↓Bool.true_eq_false, ↓Bool.false_eq_true, ↓ite_true, ↓ite_false, ↓id_eq, ↓plain_non, ↓isIn_non_int, ↓isIn_non_str, ↓isIn_non_bool, ↓isIn_non_list, ↓isIn_non_tuple, ↓isIn_non_dict, ↓plain_bl, ↓isIn_bl_int, ↓isIn_bl_str, ↓isIn_bl_bool, ↓isIn_bl_list, ↓isIn_bl_tuple, ↓isIn_bl_dict, ↓plain_int, ↓isIn_int_int, ↓isIn_int_str, ↓isIn_int_bool, ↓isIn_int_list, ↓isIn_int_tuple, ↓isIn_int_dict, ↓plain_str, ↓isIn_str_int, ↓isIn_str_str, ↓isIn_str_bool, ↓isIn_str_list, ↓isIn_str_tuple, ↓isIn_str_dict, ↓plain_tup, ↓isIn_tup_int, ↓isIn_tup_str, ↓isIn_tup_bool, ↓isIn_tup_list, ↓isIn_tup_tuple, ↓isIn_tup_dict, ↓plain_lst, ↓isIn_lst_int, ↓isIn_lst_str, ↓isIn_lst_bool, ↓isIn_lst_list, ↓isIn_lst_tuple, ↓isIn_lst_dict, ↓sl0, ↓sl1, ↓sl2, ↓sl3, ↓sl4, ↓decide_true, ↓decide_false, ↓ddIsi2, ↓Bool.or_true, ↓Bool.or_false, ↓Bool.true_or]
    exact ⟨by decide, by decide, by decide, by decide, by decide, by decide, h⟩
theorem ok_left_out (T : Txt K mg) : FnOk P w K mg base (L2N.CX P w) 3 T.dleft_out.f T.dleft_out.fd P_left_out (spD K 0 (m_left_out T)) := by
  refine T.dleft_out.okD sc_left_out fun cdv A outer s H E so A0 hr tk hp => ⟨_, (pds_cons (pds_set (i := 0) sc_left_out.nd rfl (by first | exact .inl rfl | exact .inr rfl) (pd_new (pdn_lst (pda_cons (pd_mk0 T.zUnfitError T.iUnfitError.i T.iUnfitError.t (ok_iSub (P := P) (w := w) (base := base) (mg := mg) (c := "UnfitError") T.iUnfitError) (hr.mono (by omega)) T.iUnfitError.bd T.iUnfitError.vd (dd := [.non]) (fun _ _ => DaL.one rfl) (by rfl) T.cUnfitError.g) (pda_cons (pd_mk0 T.zZeroDivisor T.iZeroDivisor.i T.iZeroDivisor.t (ok_iSub (P := P) (w := w) (base := base) (mg := mg) (c := "ZeroDivisor") T.iZeroDivisor) (hr.mono (by omega)) T.iZeroDivisor.bd T.iZeroDivisor.vd (dd := [.non]) (fun _ _ => DaL.one rfl) (by rfl) T.cZeroDivisor.g) (pda_cons (pd_mk0 T.zNegativeRoot T.iNegativeRoot.i T.iNegativeRoot.t (ok_iSub (P := P) (w := w) (base := base) (mg := mg) (c := "NegativeRoot") T.iNegativeRoot) (hr.mono (by omega)) T.iNegativeRoot.bd T.iNegativeRoot.vd (dd := [.non]) (fun _ _ => DaL.one rfl) (by rfl) T.cNegativeRoot.g) (pda_cons (pd_mk0 T.zZeroBar T.iZeroBar.i T.iZeroBar.t (ok_iSub (P := P) (w := w) (base := base) (mg := mg) (c := "ZeroBar") T.iZeroBar) (hr.mono (by omega)) T.iZeroBar.bd T.iZeroBar.vd (dd := [.non]) (fun _ _ => DaL.one rfl) (by rfl) T.cZeroBar.g) (pda_cons (pd_mk0 T.zFlatMap T.iFlatMap.i T.iFlatMap.t (ok_iSub (P := P) (w := w) (base := base) (mg := mg) (c := "FlatMap") T.iFlatMap) (hr.mono (by omega)) T.iFlatMap.bd T.iFlatMap.vd (dd := [.non]) (fun _ _ => DaL.one rfl) (by rfl) T.cFlatMap.g) (pda_cons (pd_mk0 T.zBadSteps T.iBadSteps.i T.iBadSteps.t (ok_iSub (P := P) (w := w) (base := base) (mg := mg) (c := "BadSteps") T.iBadSteps) (hr.mono (by omega)) T.iBadSteps.bd T.iBadSteps.vd (dd := [.non]) (fun _ _ => DaL.one rfl) (by rfl) T.cBadSteps.g) (pda_cons (pd_mk0 T.zNotOneWay T.iNotOneWay.i T.iNotOneWay.t (ok_iSub (P := P) (w := w) (base := base) (mg := mg) (c := "NotOneWay") T.iNotOneWay) (hr.mono (by omega)) T.iNotOneWay.bd T.iNotOneWay.vd (dd := [.non]) (fun _ _ => DaL.one rfl) (by rfl) T.cNotOneWay.g) (pda_cons (pd_mk0 T.zNotHeld T.iNotHeld.i T.iNotHeld.t (ok_iSub (P := P) (w := w) (base := base) (mg := mg) (c := "NotHeld") T.iNotHeld) (hr.mono (by omega)) T.iNotHeld.bd T.iNotHeld.vd (dd := [.non]) (fun _ _ => DaL.one rfl) (by rfl) T.cNotHeld.g) pda_nil)))))))))))
      (pds_cons (pds_set (i := 0) sc_left_out.nd rfl (by first | exact .inl rfl | exact .inr rfl) (pd_op oo_add ol_add (pd_var (pv 0)) (pd_new (pdn_lst (pda_cons (pd_mk0 T.zNotFlat T.iNotFlat.i T.iNotFlat.t (ok_iSub (P := P) (w := w) (base := base) (mg := mg) (c := "NotFlat") T.iNotFlat) (hr.mono (by omega)) T.iNotFlat.bd T.iNotFlat.vd (dd := [.non]) (fun _ _ => DaL.one rfl) (by rfl) T.cNotFlat.g) (pda_cons (pd_mk0 T.zNotCover T.iNotCover.i T.iNotCover.t (ok_iSub (P := P) (w := w) (base := base) (mg := mg) (c := "NotCover") T.iNotCover) (hr.mono (by omega)) T.iNotCover.bd T.iNotCover.vd (dd := [.non]) (fun _ _ => DaL.one rfl) (by rfl) T.cNotCover.g) (pda_cons (pd_mk0 T.zNotOwnStress T.iNotOwnStress.i T.iNotOwnStress.t (ok_iSub (P := P) (w := w) (base := base) (mg := mg) (c := "NotOwnStress") T.iNotOwnStress) (hr.mono (by omega)) T.iNotOwnStress.bd T.iNotOwnStress.vd (dd := [.non]) (fun _ _ => DaL.one rfl) (by rfl) T.cNotOwnStress.g) (pda_cons (pd_mk0 T.zNotPicture T.iNotPicture.i T.iNotPicture.t (ok_iSub (P := P) (w := w) (base := base) (mg := mg) (c := "NotPicture") T.iNotPicture) (hr.mono (by omega)) T.iNotPicture.bd T.iNotPicture.vd (dd := [.non]) (fun _ _ => DaL.one rfl) (by rfl) T.cNotPicture.g) (pda_cons (pd_mk0 T.zNotLift T.iNotLift.i T.iNotLift.t (ok_iSub (P := P) (w := w) (base := base) (mg := mg) (c := "NotLift") T.iNotLift) (hr.mono (by omega)) T.iNotLift.bd T.iNotLift.vd (dd := [.non]) (fun _ _ => DaL.one rfl) (by rfl) T.cNotLift.g) (pda_cons (pd_mk0 T.zNoReciprocal T.iNoReciprocal.i T.iNoReciprocal.t (ok_iSub (P := P) (w := w) (base := base) (mg := mg) (c := "NoReciprocal") T.iNoReciprocal) (hr.mono (by omega)) T.iNoReciprocal.bd T.iNoReciprocal.vd (dd := [.non]) (fun _ _ => DaL.one rfl) (by rfl) T.cNoReciprocal.g) (pda_cons (pd_mk0 T.zNotMotion T.iNotMotion.i T.iNotMotion.t (ok_iSub (P := P) (w := w) (base := base) (mg := mg) (c := "NotMotion") T.iNotMotion) (hr.mono (by omega)) T.iNotMotion.bd T.iNotMotion.vd (dd := [.non]) (fun _ _ => DaL.one rfl) (by rfl) T.cNotMotion.g) pda_nil)))))))))))
      (pds_one (pds_ret (pd_op oo_add ol_add (pd_var (pv 0)) (pd_new (pdn_lst (pda_cons (pd_mk0 T.zNotAlike T.iNotAlike.i T.iNotAlike.t (ok_iSub (P := P) (w := w) (base := base) (mg := mg) (c := "NotAlike") T.iNotAlike) (hr.mono (by omega)) T.iNotAlike.bd T.iNotAlike.vd (dd := [.non]) (fun _ _ => DaL.one rfl) (by rfl) T.cNotAlike.g) (pda_cons (pd_mk0 T.zNotCrank T.iNotCrank.i T.iNotCrank.t (ok_iSub (P := P) (w := w) (base := base) (mg := mg) (c := "NotCrank") T.iNotCrank) (hr.mono (by omega)) T.iNotCrank.bd T.iNotCrank.vd (dd := [.non]) (fun _ _ => DaL.one rfl) (by rfl) T.cNotCrank.g) (pda_cons (pd_mk0 T.zNothingToUndo T.iNothingToUndo.i T.iNothingToUndo.t (ok_iSub (P := P) (w := w) (base := base) (mg := mg) (c := "NothingToUndo") T.iNothingToUndo) (hr.mono (by omega)) T.iNothingToUndo.bd T.iNothingToUndo.vd (dd := [.non]) (fun _ _ => DaL.one rfl) (by rfl) T.cNothingToUndo.g) (pda_cons (pd_mk0 T.zNothingToRedo T.iNothingToRedo.i T.iNothingToRedo.t (ok_iSub (P := P) (w := w) (base := base) (mg := mg) (c := "NothingToRedo") T.iNothingToRedo) (hr.mono (by omega)) T.iNothingToRedo.bd T.iNothingToRedo.vd (dd := [.non]) (fun _ _ => DaL.one rfl) (by rfl) T.cNothingToRedo.g) pda_nil))))))))))), fun ds Q E hl h => ?_⟩
  match ds, hl with
  | [], _ =>
    simp only [↓dMk_0, ↓reduceIte, ↓startD, ↓List.map_cons, ↓List.map_nil, ↓List.length_cons, ↓List.length_nil, ↓List.cons_append, ↓List.nil_append, ↓List.replicate_succ, ↓List.replicate_zero, ↓List.getElem?_cons_zero, ↓List.getElem?_cons_succ, ↓List.set_cons_zero, ↓List.set_cons_succ, ↓dVar, ↓rdS, ↓dC, ↓dNew, ↓dOp, ↓onB, ↓qB, ↓dChain, ↓qAnd, ↓qOr, ↓qNot, ↓qTru, ↓truD, ↓dIf, ↓dAnd, ↓dOr, ↓dNot, ↓dUn, ↓ddNeg, ↓lNil, ↓lCons, ↓dTup, ↓nLst, ↓ddI, ↓ddI0, ↓ddAdd, ↓isNonD, ↓isBlD, ↓ddIsN, ↓ddIsB, ↓ddIx_t0, ↓ddIx_t1, ↓ddIx_t2, ↓ddIx_t3, ↓ddIx_l0, ↓ddIx_l1, ↓ddIx_l2, ↓dCB, ↓ddLen, ↓ddInt1, ↓ddAbs, ↓ddMM, ↓ddTuple, ↓nCB, ↓nnList, ↓ddIsi, ↓dCall, ↓sSkip, ↓sSeq, ↓sBreak, ↓sCont, ↓sExpr, ↓sRet, ↓sRetN, ↓sIf, ↓sNever, ↓gdName, ↓gdNil, ↓gdCons, ↓gdTup, ↓sAsg, ↓sSetN, ↓sPar, ↓sRaise, ↓sFrz, ↓owS, ↓sApp, ↓sIns, ↓dLenO, ↓dIxO, ↓sTry, ↓sFor, ↓iL, ↓iT, ↓onL, ↓onT, ↓iR1, ↓iR2, ↓nComp, ↓qYes, ↓ddEq_ii, ↓ddEq_ss, ↓ddEq_bb, ↓Bool.false_bne, ↓Bool.true_bne, ↓List.append_nil, ↓true_and, ↓and_true, ↓if_true, ↓if_false, ↓Bool.not_true, ↓Bool.not_false, ↓Bool.true_eq_false, ↓Bool.false_eq_true, ↓ite_true, ↓ite_false, ↓id_eq, ↓plain_non, ↓isIn_non_int, ↓isIn_non_str, ↓isIn_non_bool, ↓isIn_non_list, ↓isIn_non_tuple, ↓isIn_non_dict, ↓plain_bl, ↓isIn_bl_int, ↓isIn_bl_str, ↓isIn_bl_bool, ↓isIn_bl_list, ↓isIn_bl_tuple, ↓isIn_bl_dict, ↓plain_int, ↓isIn_int_int, ↓isIn_int_str, ↓isIn_int_bool, ↓isIn_int_list, ↓isIn_int_tuple, ↓isIn_int_dict, ↓plain_str, ↓isIn_str_int, ↓isIn_str_str, ↓isIn_str_bool, ↓isIn_str_list, ↓isIn_str_tuple, ↓isIn_str_dict, ↓plain_tup, ↓isIn_tup_int, ↓isIn_tup_str, ↓isIn_tup_bool, ↓isIn_tup_list, ↓isIn_tup_tuple, ↓isIn_tup_dict, ↓plain_lst, ↓isIn_lst_int, ↓isIn_lst_str, ↓isIn_lst_bool, ↓isIn_lst_list, ↓isIn_lst_tuple, ↓isIn_lst_dict, ↓sl0, ↓sl1, ↓sl2, ↓sl3, ↓sl4, ↓decide_true, ↓decide_false, ↓ddIsi2, ↓Bool.or_true, ↓Bool.or_false, ↓Bool.true_or]
    exact ⟨by decide, by decide, by decide, by decide, h⟩
end
end My
set_option exponentiation.threshold 100000
namespace My
open PySem PySem.Spec PyProof.Rows L2
local macro_rules | `(tactic| walk_at "dl") => `(tactic| simp only [startD, List.map_cons, List.map_nil, List.length_cons, List.length_nil, List.cons_append, List.nil_append, List.replicate_succ, List.replicate_zero, List.getElem?_cons_zero, List.getElem?_cons_succ, List.set_cons_zero, List.set_cons_succ,
  dVar, rdS, dC, dNew, dOp, onB, qB, dChain, qAnd, qOr, qNot, qTru, truD, dIf, dAnd, dOr, dNot, dUn, ddNeg, lNil, lCons, dTup, nLst, ddI, ddI0, ddAdd, isNonD, isBlD, ddIsN, ddIsB, ddIx_t0, ddIx_t1, ddIx_t2, ddIx_t3, ddIx_l0, ddIx_l1, ddIx_l2, dCB, ddLen, ddInt1, ddAbs, ddMM, ddTuple, nCB, nnList, ddIsi, dCall,
  sSkip, sSeq, sBreak, sCont, sExpr, sRet, sRetN, sIf, sNever, gdName, gdNil, gdCons, gdTup, sAsg, sSetN, sPar, sRaise, sFrz, owS, sApp, sIns, dLenO, dIxO, sTry, sFor, iL, iT, onL, onT, iR1, iR2, nComp, qYes,
  ddEq_ii, ddEq_ss, ddEq_bb, Bool.false_bne, Bool.true_bne, List.append_nil, true_and, and_true, if_true, if_false, Bool.not_true, Bool.not_false, Bool.true_eq_false, Bool.false_eq_true, ite_true, ite_false, id_eq])

local macro_rules | `(tactic| walk_at "is") => `(tactic| simp only [plain_non, isIn_non_int, isIn_non_str, isIn_non_bool, isIn_non_list, isIn_non_tuple, isIn_non_dict, plain_bl, isIn_bl_int, isIn_bl_str, isIn_bl_bool, isIn_bl_list, isIn_bl_tuple, isIn_bl_dict, plain_int, isIn_int_int, isIn_int_str, isIn_int_bool, isIn_int_list, isIn_int_tuple, isIn_int_dict, plain_str, isIn_str_int, isIn_str_str, isIn_str_bool, isIn_str_list, isIn_str_tuple, isIn_str_dict, plain_tup, isIn_tup_int, isIn_tup_str, isIn_tup_bool, isIn_tup_list, isIn_tup_tuple, isIn_tup_dict, plain_lst, isIn_lst_int, isIn_lst_str, isIn_lst_bool, isIn_lst_list, isIn_lst_tuple, isIn_lst_dict, sl0, sl1, sl2, sl3, sl4, decide_true, decide_false, ddIsi, ddIsi2, true_and, if_true, if_false, Bool.false_eq_true, Bool.not_true, Bool.not_false, Bool.or_true, Bool.or_false, Bool.true_or, and_true])
local macro_rules | `(tactic| walk_at "wk") => `(tactic| ((try walk_at "dl"); (try walk_at "is"); (try walk_at "dl")))

theorem seq_mid {r u : DS} {DD : DEnds} {ρ : DEnv} (P : DEnv → Prop) (h1 : ∀ R : DEnv → Prop, (∀ ρ', P ρ' → R ρ') → r { DD with nx := R } ρ) (h2 : ∀ ρ', P ρ' → u DD ρ') : sSeq r u DD ρ := h1 _ h2
theorem frz_at {i : Nat} {r : DS} {DD : DEnds} {ρ : DEnv} {l : List D} (e : ρ[i]? = some (.ow l)) (h : r DD (ρ.set i (.fr (.lst l)))) : sFrz i r DD ρ := by
  unfold sFrz
  rw [e]
  exact h
theorem exI0 {x : D} {l : List D} {Q : D → Prop} : (∃ d, atI (x :: l) 0 = some d ∧ Q d) = Q x := by
  rw [atI_0]
  simp
theorem exI1 {x y : D} {l : List D} {Q : D → Prop} : (∃ d, atI (x :: y :: l) 1 = some d ∧ Q d) = Q y := by
  rw [atI_1]
  simp
theorem exI2 {x y z : D} {l : List D} {Q : D → Prop} : (∃ d, atI (x :: y :: z :: l) 2 = some d ∧ Q d) = Q z := by
  rw [atI_2]
  simp
theorem TreeD.up : ∀ {n : Nat} {d : D}, TreeD n d → TreeD (n + 1) d
  | 0, _, h => h.elim
  | _ + 1, .tup _, ⟨h1, h2⟩ => ⟨h1, fun d hd => (h2 d hd).up⟩
  | _ + 1, .lst _, ⟨h1, h2⟩ => ⟨h1, fun d hd => (h2 d hd).up⟩
  | _ + 1, .non, _ => trivial
  | _ + 1, .bl _, _ => trivial
  | _ + 1, .int _, _ => trivial
  | _ + 1, .str _, _ => trivial
  | _ + 1, .dct _ _, h => h.elim
  | _ + 1, .ins _ _ _, h => h.elim
  | _ + 1, .scr _, h => h.elim
  | _ + 1, .sto, h => h.elim
  | _ + 1, .exc _, h => h.elim
  | _ + 1, .err _ _ _, h => h.elim
def ddStrI : DCall := fun ds Q => match ds with
  | [.int i] => i.natAbs.log2 < 1920 ∧ Q (.str (toString i))
  | _ => False
theorem cl_strI {K : PySem.W.Frag} : CallL K (fun xs H Q => ∃ i, xs = [.int i] ∧ i.natAbs.log2 < 1920 ∧ Q (.str (toString i)) H) ddStrI := by
  intro so A H ds vs Qd Q gd da q c
  unfold ddStrI at q
  split at q
  · obtain ⟨v, rfl, dv⟩ := da.one'
    have dv : v = _ := dv
    subst dv
    exact ⟨_, rfl, q.1, c.nowS gd q.2⟩
  · exact q.elim
abbrev s_errors_right : Stmt := topS 65
abbrev N_errors_right : List Str := ["store", "words", "some", "k", "kind", "moves", "passed", "others", "dues", "word", "e"]
abbrev P_errors_right : List Str := ["store"]
theorem sc_errors_right : FnScope N_errors_right P_errors_right (defScope s_errors_right) := ⟨rfl, rfl, rfl, by decide +kernel, rfl, by decide +kernel, by decide +kernel⟩

def m_errors_right : DF := fun ds Q _ => match ds with
  | [.sto] => Q (.bl true)
  | _ => False
abbrev eL (w s k kd m p o d wd e : Sl) : DEnv := [.fr .sto, w, s, k, kd, m, p, o, d, wd, e]
def wL : List D := (List.range 19).map fun k => .str (nmI (7 + k))
section
variable {K : PySem.W.Frag} {mg : Str → Option Value} (T : Txt K mg)
def ToldL : List D → List D → Prop
  | [], [] => True
  | e :: es, t :: ts => (∃ C fs vs, e = .err C fs vs ∧ ToldIs T C fs vs t) ∧ ToldL es ts
  | _, _ => False
theorem toldL_app : ∀ {a b c d : List D}, ToldL T a b → ToldL T c d → ToldL T (a ++ c) (b ++ d)
  | [], [], _, _, _, h => h
  | _ :: _, _ :: _, _, _, ⟨h1, h2⟩, h => ⟨h1, toldL_app h2 h⟩
theorem toldL_map {f g : Nat → D} : ∀ (l : List Nat), (∀ k ∈ l, ∃ C fs vs, f k = .err C fs vs ∧ ToldIs T C fs vs (g k)) → ToldL T (l.map f) (l.map g)
  | [], _ => trivial
  | k :: l, h => ⟨h k (List.mem_cons_self ..), toldL_map l fun c hc => h c (List.mem_cons_of_mem _ hc)⟩
theorem toldL_err (d : D) : ToldL T (errL T d) ((List.range 19).map fun k => .tup [.str (nmI (7 + k)), d]) :=
  toldL_map T _ fun k hk => ⟨_, _, _, rfl, .inl ⟨k, d, List.mem_range.mp hk, rfl, rfl, rfl, rfl⟩⟩
theorem compL_told {ρ : DEnv} {Q : List D → Prop} {j : Nat} (hj : j < ρ.length) : ∀ (es ts acc : List D), ToldL T es ts → acc.length + es.length ≤ sizeLine → Q (acc ++ ts) →
    compL (gdName j) qYes (dCall (0 + 1) (m_refusedF T) [] (lCons (dVar j) lNil)) ρ Q es acc
  | [], [], acc, _, _, q => by
    rw [List.append_nil] at q
    exact q
  | e :: es, t :: ts, acc, ⟨⟨C, fs, vs, he, h1⟩, h2⟩, hl, q => by
    subst he
    rw [List.length_cons] at hl
    show rdS (ρ.set j (.fr (.err C fs vs)))[j]? _
    rw [List.getElem?_set_self hj]
    refine ⟨rfl, t, h1, by omega, compL_told hj es ts (acc ++ [t]) h2 (by rw [List.length_append]; simp only [List.length_cons, List.length_nil]; omega) ?_⟩
    rw [List.append_assoc]
    exact q
def othL (x y z : D) (mv : List D) : List D := [.err (T.cl 1) ["argument"] [x], .err (T.cl 2) ["argument"] [y], .err (T.cl 3) ["repeated"] [z], .err (T.cl 4) ["unknown"] [y], .err (T.cl 0) [] [], .err (T.cl 6) ["fault", "column", "line"] [z, y, x], .err (T.cl 5) ["velocities"] [.lst mv], .err (T.cl 5) ["velocities"] [.lst []]]
def dueL (x y z : D) (mv : List D) : List D := [.tup [.str "WrongKind", x], .tup [.str "OutOfBounds", y], .tup [.str "RepeatedName", z], .tup [.str "UnknownName", y], .tup [.str "FrameError", .non], .tup [.str "BadText", .tup [x, y, z]], .tup [.str "Unsafe", .lst mv], .tup [.str "Unsafe", .lst []]]
theorem toldL_oth (x y z : D) (mv : List D) : ToldL T (othL T x y z mv) (dueL x y z mv) :=
  ⟨⟨_, _, _, rfl, .inr (.inr (.inl ⟨x, rfl, rfl, rfl, rfl⟩))⟩, ⟨_, _, _, rfl, .inr (.inr (.inr (.inl ⟨y, rfl, rfl, rfl, rfl⟩)))⟩, ⟨_, _, _, rfl, .inr (.inr (.inr (.inr (.inl ⟨z, rfl, rfl, rfl, rfl⟩))))⟩, ⟨_, _, _, rfl, .inr (.inr (.inr (.inr (.inr (.inl ⟨y, rfl, rfl, rfl, rfl⟩)))))⟩,
    ⟨_, _, _, rfl, .inr (.inl ⟨rfl, rfl, rfl, rfl⟩)⟩, ⟨_, _, _, rfl, .inr (.inr (.inr (.inr (.inr (.inr (.inr ⟨x, y, z, rfl, rfl, rfl, rfl⟩))))))⟩, ⟨_, _, _, rfl, .inr (.inr (.inr (.inr (.inr (.inr (.inl ⟨_, rfl, rfl, rfl, rfl⟩))))))⟩, ⟨_, _, _, rfl, .inr (.inr (.inr (.inr (.inr (.inr (.inl ⟨_, rfl, rfl, rfl, rfl⟩))))))⟩, trivial⟩
end
theorem dMk_3 {C : Addr} {fs : List Str} {mkD : List D → List D} {r1 r2 r3 : DE} {ρ : DEnv} {Q : D → Prop} {E : XD → Prop} : dMk C fs 3 mkD [] (lCons r1 (lCons r2 (lCons r3 lNil))) ρ Q E = r1 ρ (fun x => r2 ρ (fun y => r3 ρ (fun z => Q (.err C fs (mkD [x, y, z]))) E) E) E := by
  simp [dMk, lCons, lNil]
section
variable {P : Program} {w : World} {K : PySem.W.Frag} {mg : Str → Option Value} {base : Heap}
theorem ok_errors_right (T : Txt K mg) : FnOk P w K mg base (L2N.CX P w) 177 T.derrors_right.f T.derrors_right.fd P_errors_right (spD K 1 m_errors_right) := by
  have G_take : FnOk P w K mg base (L2N.CX P w) 171 T.dtake.f T.dtake.fd P_take (spD K 2 m_take) := ok_takeD T
  have G_edge : FnOk P w K mg base (L2N.CX P w) 172 T.dedge.f T.dedge.fd P_edge (spD K 2 m_take) := ok_edgeD T
  have G_integer : FnOk P w K mg base (L2N.CX P w) 174 T.dinteger.f T.dinteger.fd P_integer (spD K 2 m_integer) := ok_integerD T
  have G_ratio : FnOk P w K mg base (L2N.CX P w) 175 T.dratio.f T.dratio.fd P_ratio (spD K 2 m_lratio) := ok_lratio T
  have G_small : FnOk P w K mg base (L2N.CX P w) 174 T.dsmall.f T.dsmall.fd P_small (spD K 1 m_small) := ok_small T
  have G_made : FnOk P w K mg base (L2N.CX P w) 3 T.dmade.f T.dmade.fd P_made (spD K 1 (m_made T)) := ok_made T
  have G_left_out : FnOk P w K mg base (L2N.CX P w) 3 T.dleft_out.f T.dleft_out.fd P_left_out (spD K 0 (m_left_out T)) := ok_left_out T
  have G_refused : FnOk P w K mg base (L2N.CX P w) 2 T.drefused.f T.drefused.fd P_refused (spD K 1 (m_refusedF T)) := ok_refusedF T
  have G_same : FnOk P w K mg base (L2N.CX P w) 6 T.dsame.f T.dsame.fd P_same (spD K 2 (m_same 6)) := ok_same T 6
  have I_WrongKind := ok_iWrongKind (P := P) (w := w) (base := base) T
  have I_OutOfBounds := ok_iOutOfBounds (P := P) (w := w) (base := base) T
  have I_RepeatedName := ok_iRepeatedName (P := P) (w := w) (base := base) T
  have I_UnknownName := ok_iUnknownName (P := P) (w := w) (base := base) T
  have I_BadText := ok_iBadText (P := P) (w := w) (base := base) T
  have I_Unsafe := ok_iUnsafe (P := P) (w := w) (base := base) T
  refine T.derrors_right.okD sc_errors_right fun cdv A outer s H E so A0 hr tk hp => ⟨_, (pds_cons (pds_set (i := 1) sc_errors_right.nd rfl (by first | exact .inl rfl | exact .inr rfl) (pd_new (pdn_lst (pda_cons pd_str (pda_cons pd_str (pda_cons pd_str (pda_cons pd_str (pda_cons pd_str (pda_cons pd_str (pda_cons pd_str (pda_cons pd_str pda_nil)))))))))))
      (pds_cons (pds_set (i := 1) sc_errors_right.nd rfl (by first | exact .inl rfl | exact .inr rfl) (pd_op oo_add ol_add (pd_var (pv 1)) (pd_new (pdn_lst (pda_cons pd_str (pda_cons pd_str (pda_cons pd_str (pda_cons pd_str (pda_cons pd_str (pda_cons pd_str (pda_cons pd_str pda_nil)))))))))))
      (pds_cons (pds_set (i := 1) sc_errors_right.nd rfl (by first | exact .inl rfl | exact .inr rfl) (pd_op oo_add ol_add (pd_var (pv 1)) (pd_new (pdn_lst (pda_cons pd_str (pda_cons pd_str (pda_cons pd_str (pda_cons pd_str pda_nil))))))))
      (pds_cons (pds_setN (i := 2) sc_errors_right.nd rfl (by first | exact .inl rfl | exact .inr rfl) (pdn_lst pda_nil))
      (pds_cons (pds_for hp rfl (pdi_range1 (by rfl) T.m_range (pda_cons pd_int pda_nil)) (pdg_name (pg_name (i := 3) sc_errors_right.nd rfl (by first | exact .inl rfl | exact .inr rfl)))
        (pds_cons (pds_set (i := 4) sc_errors_right.nd rfl (by first | exact .inl rfl | exact .inr rfl) (pd_new (pdn_lst (pda_cons pd_non (pda_cons pd_int (pda_cons (pd_call G_integer (hr.mono (by omega)) (by rfl) T.dinteger.g T.dinteger.F.kp T.dinteger.b (fun σ => L2N.passAt tk σ) (pda_cons (pd_var (pv 0)) (pda_cons pd_int pda_nil))) (pda_cons pd_str (pda_cons pd_str (pda_cons pd_str (pda_cons (pd_call G_ratio (hr.mono (by omega)) (by rfl) T.dratio.g T.dratio.F.kp T.dratio.b (fun σ => L2N.passAt tk σ) (pda_cons (pd_var (pv 0)) (pda_cons pd_int pda_nil))) (pda_cons (pd_tup (pda_cons pd_int (pda_cons pd_int pda_nil))) pda_nil)))))))))))
        (pds_one (pds_app (pv 2) (pd_ix ix_seq ol_ix (pd_var (pv 4)) (pd_call G_take (hr.mono (by omega)) (by rfl) T.dtake.g T.dtake.F.kp T.dtake.b (fun σ => L2N.passAt tk σ) (pda_cons (pd_var (pv 0)) (pda_cons pd_int pda_nil))) (fun _ _ => rfl)) rfl rfl rfl rfl rfl rfl))))
      (pds_cons (pds_setLc (i := 5) (own := [("k", 3)]) rfl sc_errors_right.nd rfl rfl (sw_true rfl rfl rfl (by decide +kernel)) (pdi_range1 (by rfl) T.m_range (pda_cons (pd_call G_edge (hr.mono (by omega)) (by rfl) T.dedge.g T.dedge.F.kp T.dedge.b (fun σ => L2N.passAt tk σ) (pda_cons (pd_var (pv 0)) (pda_cons pd_int pda_nil))) pda_nil)) (blkOk_by (own := [("k", 3)]) (N := N_errors_right) (sc := defScope s_errors_right) (by decide +kernel)) (fun _ _ _ _ _ => (pdgw_name (pg_name (i := 3) sc_errors_right.nd rfl (by first | exact .inl rfl | exact .inr rfl)) (by simp))) (fun _ _ _ _ _ => pdts_nil) (fun _ _ _ _ _ => (pd_tup (pda_cons (pd_op oo_add ol_add pd_str (pd_callTy call_str_int cl_strI (by rfl) T.m_str bt_str (pda_cons (pd_var (pv 3)) pda_nil))) (pda_cons (pd_call G_small (hr.mono (by omega)) (by rfl) T.dsmall.g T.dsmall.F.kp T.dsmall.b (fun σ => passN0 σ) (pda_cons (pd_var (pv 0)) pda_nil)) (pda_cons (pd_call G_small (hr.mono (by omega)) (by rfl) T.dsmall.g T.dsmall.F.kp T.dsmall.b (fun σ => passN0 σ) (pda_cons (pd_var (pv 0)) pda_nil)) pda_nil))))))
      (pds_frz 5 (pds_cons (pds_setN (i := 6) sc_errors_right.nd rfl (by first | exact .inl rfl | exact .inr rfl) (pdn_list (by rfl) T.m_list (pda_cons (pd_var (pv 5)) pda_nil)))
      (pds_cons (pds_set (i := 7) sc_errors_right.nd rfl (by first | exact .inl rfl | exact .inr rfl) (pd_new (pdn_lst (pda_cons (pd_mk T.zWrongKind T.iWrongKind.i T.iWrongKind.t I_WrongKind (hr.mono (by omega)) T.iWrongKind.b .nil (dd := []) (fun _ _ => rfl) (by rfl) T.cWrongKind.g (pda_cons (pd_ixO (pv 2) pd_int (fun _ _ => rfl)) pda_nil)) (pda_cons (pd_mk T.zOutOfBounds T.iOutOfBounds.i T.iOutOfBounds.t I_OutOfBounds (hr.mono (by omega)) T.iOutOfBounds.b .nil (dd := []) (fun _ _ => rfl) (by rfl) T.cOutOfBounds.g (pda_cons (pd_ixO (pv 2) pd_int (fun _ _ => rfl)) pda_nil)) (pda_cons (pd_mk T.zRepeatedName T.iRepeatedName.i T.iRepeatedName.t I_RepeatedName (hr.mono (by omega)) T.iRepeatedName.b .nil (dd := []) (fun _ _ => rfl) (by rfl) T.cRepeatedName.g (pda_cons (pd_ixO (pv 2) pd_int (fun _ _ => rfl)) pda_nil)) (pda_cons (pd_mk T.zUnknownName T.iUnknownName.i T.iUnknownName.t I_UnknownName (hr.mono (by omega)) T.iUnknownName.b .nil (dd := []) (fun _ _ => rfl) (by rfl) T.cUnknownName.g (pda_cons (pd_ixO (pv 2) pd_int (fun _ _ => rfl)) pda_nil)) (pda_cons (pd_mkB F.excBase_ValueError T.cFrameError.q T.cFrameError.g T.cFrameError.k (by rfl)) pda_nil))))))))
      (pds_cons (pds_set (i := 7) sc_errors_right.nd rfl (by first | exact .inl rfl | exact .inr rfl) (pd_op oo_add ol_add (pd_op oo_add ol_add (pd_var (pv 7)) (pd_new (pdn_lst (pda_cons (pd_mk T.zBadText T.iBadText.i T.iBadText.t I_BadText (hr.mono (by omega)) T.iBadText.b .nil (dd := []) (fun _ _ => rfl) (by rfl) T.cBadText.g (pda_cons (pd_ixO (pv 2) pd_int (fun _ _ => rfl)) (pda_cons (pd_ixO (pv 2) pd_int (fun _ _ => rfl)) (pda_cons (pd_ixO (pv 2) pd_int (fun _ _ => rfl)) pda_nil)))) (pda_cons (pd_mkUo T.zUnsafe.o (T.zUnsafe.nf _ (by simp)) T.iUnsafe.i T.iUnsafe.t I_Unsafe (hr.mono (by omega)) T.iUnsafe.b (by rfl) T.cUnsafe.g (pv 6)) (pda_cons (pd_mkU T.zUnsafe.o (T.zUnsafe.nf _ (by simp)) T.iUnsafe.i T.iUnsafe.t I_Unsafe (hr.mono (by omega)) T.iUnsafe.b (by rfl) T.cUnsafe.g (pd_new (pdn_lst pda_nil))) pda_nil)))))) (pd_call G_made (hr.mono (by omega)) (by rfl) T.dmade.g T.dmade.F.kp T.dmade.b (fun σ => L2N.passAt tk σ) (pda_cons (pd_ixO (pv 2) pd_int (fun _ _ => rfl)) pda_nil))))
      (pds_cons (pds_app (pv 6) (pd_tup (pda_cons pd_str (pda_cons (pd_tup (pda_cons pd_int (pda_cons pd_int pda_nil))) (pda_cons (pd_tup (pda_cons pd_int (pda_cons pd_int pda_nil))) pda_nil)))) rfl rfl rfl rfl rfl rfl)
      (pds_cons (pds_set (i := 8) sc_errors_right.nd rfl (by first | exact .inl rfl | exact .inr rfl) (pd_new (pdn_lst (pda_cons (pd_tup (pda_cons pd_str (pda_cons (pd_ixO (pv 2) pd_int (fun _ _ => rfl)) pda_nil))) (pda_cons (pd_tup (pda_cons pd_str (pda_cons (pd_ixO (pv 2) pd_int (fun _ _ => rfl)) pda_nil))) (pda_cons (pd_tup (pda_cons pd_str (pda_cons (pd_ixO (pv 2) pd_int (fun _ _ => rfl)) pda_nil))) (pda_cons (pd_tup (pda_cons pd_str (pda_cons (pd_ixO (pv 2) pd_int (fun _ _ => rfl)) pda_nil))) pda_nil)))))))
      (pds_cons (pds_set (i := 8) sc_errors_right.nd rfl (by first | exact .inl rfl | exact .inr rfl) (pd_op oo_add ol_add (pd_var (pv 8)) (pd_new (pdn_lst (pda_cons (pd_tup (pda_cons pd_str (pda_cons pd_non pda_nil))) (pda_cons (pd_tup (pda_cons pd_str (pda_cons (pd_tup (pda_cons (pd_ixO (pv 2) pd_int (fun _ _ => rfl)) (pda_cons (pd_ixO (pv 2) pd_int (fun _ _ => rfl)) (pda_cons (pd_ixO (pv 2) pd_int (fun _ _ => rfl)) pda_nil)))) pda_nil))) (pda_cons (pd_tup (pda_cons pd_str (pda_cons (pd_var (pv 5)) pda_nil))) (pda_cons (pd_tup (pda_cons pd_str (pda_cons (pd_new (pdn_lst pda_nil)) pda_nil))) pda_nil))))))))
      (pds_cons (pds_set (i := 8) sc_errors_right.nd rfl (by first | exact .inl rfl | exact .inr rfl) (pd_op oo_add ol_add (pd_op oo_add ol_add (pd_var (pv 8)) (pd_new (pdn_lc (own := [("word", 9)]) rfl sc_errors_right.nd (pdi_list (pd_var (pv 1))) (blkOk_by (own := [("word", 9)]) (N := N_errors_right) (sc := defScope s_errors_right) (by decide +kernel)) (fun _ _ _ _ _ => (pdgw_name (pg_name (i := 9) sc_errors_right.nd rfl (by first | exact .inl rfl | exact .inr rfl)) (by simp))) (fun _ _ _ _ _ => pdts_nil) (fun _ _ _ _ _ => (pd_tup (pda_cons (pd_var (pv 9)) (pda_cons (pd_ixO (pv 2) pd_int (fun _ _ => rfl)) pda_nil))))))) (pd_new (pdn_lc (own := [("word", 9)]) rfl sc_errors_right.nd (pdi_list (pd_var (pv 1))) (blkOk_by (own := [("word", 9)]) (N := N_errors_right) (sc := defScope s_errors_right) (by decide +kernel)) (fun _ _ _ _ _ => (pdgw_name (pg_name (i := 9) sc_errors_right.nd rfl (by first | exact .inl rfl | exact .inr rfl)) (by simp))) (fun _ _ _ _ _ => pdts_nil) (fun _ _ _ _ _ => (pd_tup (pda_cons (pd_var (pv 9)) (pda_cons pd_non pda_nil))))))))
      (pds_one (pds_ret (pd_call G_same (hr.mono (by omega)) (by rfl) T.dsame.g T.dsame.F.kp T.dsame.b (fun σ => L2N.passAt tk σ) (pda_cons (pd_new (pdn_lc (own := [("e", 10)]) rfl sc_errors_right.nd (pdi_list (pd_op oo_add ol_add (pd_var (pv 7)) (pd_call0 G_left_out (hr.mono (by omega)) (by rfl) T.dleft_out.g T.dleft_out.F.kp T.dleft_out.b (fun σ => L2N.passAt tk σ)))) (blkOk_by (own := [("e", 10)]) (N := N_errors_right) (sc := defScope s_errors_right) (by decide +kernel)) (fun _ _ _ _ _ => (pdgw_name (pg_name (i := 10) sc_errors_right.nd rfl (by first | exact .inl rfl | exact .inr rfl)) (by simp))) (fun _ _ _ _ _ => pdts_nil) (fun _ _ _ _ _ => (pd_call G_refused (hr.mono (by omega)) (by rfl) T.drefused.g T.drefused.F.kp T.drefused.b (fun σ => passN0 σ) (pda_cons (pd_var (pv 10)) pda_nil))))) (pda_cons (pd_var (pv 8)) pda_nil))))))))))))))))))), fun ds Q E hl h => ?_⟩
  unfold m_errors_right at h
  split at h
  · show sSeq _ _ _ (eL .no .no .no .no .no .no .no .no .no .no)
    refine seq_mid (P := fun ρ => ρ = eL (.fr (.lst (wL.take 8))) .no .no .no .no .no .no .no .no .no) (fun R hR => ?_) ?_
    · walk_at "wk"
      exact ⟨by decide, hR _ rfl⟩
    rintro _ rfl
    refine seq_mid (P := fun ρ => ρ = eL (.fr (.lst (wL.take 15))) .no .no .no .no .no .no .no .no .no) (fun R hR => ?_) ?_
    · walk_at "wk"
      exact ⟨by decide, by decide, hR _ rfl⟩
    rintro _ rfl
    refine seq_mid (P := fun ρ => ρ = eL (.fr (.lst wL)) .no .no .no .no .no .no .no .no .no) (fun R hR => ?_) ?_
    · walk_at "wk"
      exact ⟨by decide, hR _ rfl⟩
    rintro _ rfl
    refine seq_mid (P := fun ρ => ρ = eL (.fr (.lst wL)) (.ow []) .no .no .no .no .no .no .no .no) (fun R hR => ?_) ?_
    · walk_at "wk"
      exact hR _ rfl
    rintro _ rfl
    have tw : ∀ (d : D) (v : Int) (r : D), TreeD 2 r → RatN 40 d → d ∈ [D.non, .int 0, .int v, .str "", .str "ab", .str "row", d, .tup [.int 0, .int 1]] := fun d v r _ _ => by simp
    refine seq_mid (P := fun ρ => ∃ x y z k kd, TreeD 2 x ∧ TreeD 2 y ∧ TreeD 2 z ∧ ρ = eL (.fr (.lst wL)) (.ow [x, y, z]) k kd .no .no .no .no .no .no) (fun R hR => ?_) ?_
    · walk_at "wk"
      refine ⟨by decide, by decide, ?_⟩
      refine forL_inv (P := fun i ρ => ∃ l k kd, l.length = i ∧ (∀ d ∈ l, TreeD 2 d) ∧ ρ = eL (.fr (.lst wL)) (.ow l) k kd .no .no .no .no .no .no) _ _ 0 ?_ ?_ ⟨[], .no, .no, rfl, by simp, rfl⟩
      · rintro i d ρ R' hi ⟨l, k, kd, hl, ht, rfl⟩ hR'
        obtain ⟨hj, rfl⟩ := rangeD_at hi
        have hj : i < 3 := hj
        walk_at "wk"
        simp only [m_integer, m_lratio, m_take]
        refine ⟨by decide, by decide, fun a ha => ⟨by decide, by decide, fun r hr => ?_⟩⟩
        walk_at "wk"
        have tr : TreeD 2 r := by
          obtain ⟨_, _, rfl, _⟩ := hr
          exact tree_rat _ _
        refine ⟨by decide, by decide, fun j j0 j1 => ddIx_any j0 (by show j < 8; omega) fun d hd => ⟨by rw [sizeLine_eq]; omega, hR' _ ⟨l ++ [d], _, _, by rw [List.length_append, hl]; rfl, fun e he => ?_, rfl⟩⟩⟩
        rcases List.mem_append.mp he with he | he
        · exact ht e he
        · rw [List.mem_singleton.mp he]
          simp only [List.mem_cons, List.not_mem_nil, or_false] at hd
          rcases hd with rfl | rfl | rfl | rfl | rfl | rfl | rfl | rfl
          · simp [TreeD]
          · simp [TreeD]
          · simp [TreeD]
          · simp [TreeD]
          · simp [TreeD]
          · simp [TreeD]
          · exact tr
          · exact tree_rat 0 1
      · rintro ρ ⟨l, k, kd, hl, ht, rfl⟩
        have hl : l.length = 3 := by rw [hl, rangeD_len]; rfl
        match l, hl, ht with
        | [x, y, z], _, ht => exact hR _ ⟨x, y, z, k, kd, ht x (by simp), ht y (by simp), ht z (by simp), rfl⟩
    rintro _ ⟨x, y, z, k, kd, tx, ty, tz, rfl⟩
    refine seq_mid (P := fun ρ => ∃ mv, mv.length ≤ 4 ∧ (∀ d ∈ mv, TreeD 3 d) ∧ ρ = eL (.fr (.lst wL)) (.ow [x, y, z]) k kd (.ow mv) .no .no .no .no .no) (fun R hR => ?_) ?_
    · walk_at "wk"
      simp only [m_take]
      refine ⟨by decide, fun r r0 r1 => ?_⟩
      walk_at "wk"
      refine ⟨by omega, by omega, compL_any (TreeD 3) _ _ (fun d hd R q => ?_) (by rw [rangeD_len, sizeLine_eq, List.length_nil]; omega) fun l e pl => hR _ ⟨l, by rw [e, rangeD_len]; omega, pl, rfl⟩⟩
      obtain ⟨i, hi⟩ := List.getElem?_of_mem hd
      obtain ⟨hj, rfl⟩ := rangeD_at hi
      simp only [List.map_cons, List.map_nil, wipeD]
      walk_at "wk"
      simp only [ddStrI, m_small]
      walk_at "wk"
      have hi : (0 : Int) + (i : Int) = 0 ∨ (0 : Int) + (i : Int) = 1 ∨ (0 : Int) + (i : Int) = 2 ∨ (0 : Int) + (i : Int) = 3 := by omega
      generalize (0 : Int) + (i : Int) = v at *
      have ok : v.natAbs.log2 < 1920 ∧ ("a" : Str).length + (toString v : Str).length ≤ sizeLine := by
        rcases hi with rfl | rfl | rfl | rfl <;> decide +kernel
      refine ⟨ok.1, ok.2, fun a ha b hb => q _ ?_⟩
      obtain ⟨a1, a2, rfl, _⟩ := ha
      obtain ⟨b1, b2, rfl, _⟩ := hb
      have := tree_rat a1 a2
      have := tree_rat b1 b2
      simp [TreeD, *]
    rintro _ ⟨mv, m4, tm, rfl⟩
    refine frz_at (l := mv) rfl ?_
    show sSeq _ _ _ (eL (.fr (.lst wL)) (.ow [x, y, z]) k kd (.fr (.lst mv)) .no .no .no .no .no)
    refine seq_mid (P := fun ρ => ρ = eL (.fr (.lst wL)) (.ow [x, y, z]) k kd (.fr (.lst mv)) (.ow mv) .no .no .no .no) (fun R hR => ?_) ?_
    · walk_at "wk"
      exact hR _ rfl
    rintro _ rfl
    have le : ∀ d, (errL T d).length = 19 := fun d => by unfold errL; rw [List.length_map, List.length_range]
    refine seq_mid (P := fun ρ => ρ = eL (.fr (.lst wL)) (.ow [x, y, z]) k kd (.fr (.lst mv)) (.ow mv) (.fr (.lst ((othL T x y z mv).take 5))) .no .no .no) (fun R hR => ?_) ?_
    · simp only [↓dMk_1, ↓dMkB, exI0, exI1, exI2, ↓reduceIte, ↓startD, ↓List.map_cons, ↓List.map_nil, ↓List.length_cons, ↓List.length_nil, ↓List.cons_append, ↓List.nil_append, ↓List.replicate_succ, ↓List.replicate_zero, ↓List.getElem?_cons_zero, ↓List.getElem?_cons_succ, ↓List.set_cons_zero, ↓List.set_cons_succ, ↓dVar, ↓rdS, ↓dC, ↓dNew, ↓dOp, ↓onB, ↓qB, ↓dChain, ↓qAnd, ↓qOr, ↓qNot, ↓qTru, ↓truD, ↓dIf, ↓dAnd, ↓dOr, ↓dNot, ↓dUn, ↓ddNeg, ↓lNil, ↓lCons, ↓dTup, ↓nLst, ↓ddI, ↓ddI0, ↓ddAdd, ↓isNonD, ↓isBlD, ↓ddIsN, ↓ddIsB, ↓ddIx_t0, ↓ddIx_t1, ↓ddIx_t2, ↓ddIx_t3, ↓ddIx_l0, ↓ddIx_l1, ↓ddIx_l2, ↓dCB, ↓ddLen, ↓ddInt1, ↓ddAbs, ↓ddMM, ↓ddTuple, ↓nCB, ↓nnList, ↓ddIsi, ↓dCall, ↓sSkip, ↓sSeq, ↓sBreak, ↓sCont, ↓sExpr, ↓sRet, ↓sRetN, ↓sIf, ↓sNever, ↓gdName, ↓gdNil, ↓gdCons, ↓gdTup, ↓sAsg, ↓sSetN, ↓sPar, ↓sRaise, ↓sFrz, ↓owS, ↓sApp, ↓sIns, ↓dLenO, ↓dIxO, ↓sTry, ↓sFor, ↓iL, ↓iT, ↓onL, ↓onT, ↓iR1, ↓iR2, ↓nComp, ↓qYes, ↓ddEq_ii, ↓ddEq_ss, ↓ddEq_bb, ↓Bool.false_bne, ↓Bool.true_bne, ↓List.append_nil, ↓true_and, ↓and_true, ↓if_true, ↓if_false, ↓Bool.not_true, ↓Bool.not_false, ↓Bool.true_eq_false, ↓Bool.false_eq_true, ↓ite_true, ↓ite_false, ↓id_eq, ↓plain_non, ↓isIn_non_int, ↓isIn_non_str, ↓isIn_non_bool, ↓isIn_non_list, ↓isIn_non_tuple, ↓isIn_non_dict, ↓plain_bl, ↓isIn_bl_int, ↓isIn_bl_str, ↓isIn_bl_bool, ↓isIn_bl_list, ↓isIn_bl_tuple, ↓isIn_bl_dict, ↓plain_int, ↓isIn_int_int, ↓isIn_int_str, ↓isIn_int_bool, ↓isIn_int_list, ↓isIn_int_tuple, ↓isIn_int_dict, ↓plain_str, ↓isIn_str_int, ↓isIn_str_str, ↓isIn_str_bool, ↓isIn_str_list, ↓isIn_str_tuple, ↓isIn_str_dict, ↓plain_tup, ↓isIn_tup_int, ↓isIn_tup_str, ↓isIn_tup_bool, ↓isIn_tup_list, ↓isIn_tup_tuple, ↓isIn_tup_dict, ↓plain_lst, ↓isIn_lst_int, ↓isIn_lst_str, ↓isIn_lst_bool, ↓isIn_lst_list, ↓isIn_lst_tuple, ↓isIn_lst_dict, ↓sl0, ↓sl1, ↓sl2, ↓sl3, ↓sl4, ↓decide_true, ↓decide_false, ↓ddIsi2, ↓Bool.or_true, ↓Bool.or_false, ↓Bool.true_or]
      exact ⟨by decide, hR _ rfl⟩
    rintro _ rfl
    refine seq_mid (P := fun ρ => ρ = eL (.fr (.lst wL)) (.ow [x, y, z]) k kd (.fr (.lst mv)) (.ow mv) (.fr (.lst (othL T x y z mv ++ errL T x))) .no .no .no) (fun R hR => ?_) ?_
    · simp only [↓dMk_1, ↓dMkB, ↓dMk_3, ↓dMkUo, ↓dMkU, exI0, exI1, exI2, ↓reduceIte, ↓startD, ↓List.map_cons, ↓List.map_nil, ↓List.length_cons, ↓List.length_nil, ↓List.cons_append, ↓List.nil_append, ↓List.replicate_succ, ↓List.replicate_zero, ↓List.getElem?_cons_zero, ↓List.getElem?_cons_succ, ↓List.set_cons_zero, ↓List.set_cons_succ, ↓dVar, ↓rdS, ↓dC, ↓dNew, ↓dOp, ↓onB, ↓qB, ↓dChain, ↓qAnd, ↓qOr, ↓qNot, ↓qTru, ↓truD, ↓dIf, ↓dAnd, ↓dOr, ↓dNot, ↓dUn, ↓ddNeg, ↓lNil, ↓lCons, ↓dTup, ↓nLst, ↓ddI, ↓ddI0, ↓ddAdd, ↓isNonD, ↓isBlD, ↓ddIsN, ↓ddIsB, ↓ddIx_t0, ↓ddIx_t1, ↓ddIx_t2, ↓ddIx_t3, ↓ddIx_l0, ↓ddIx_l1, ↓ddIx_l2, ↓dCB, ↓ddLen, ↓ddInt1, ↓ddAbs, ↓ddMM, ↓ddTuple, ↓nCB, ↓nnList, ↓ddIsi, ↓dCall, ↓sSkip, ↓sSeq, ↓sBreak, ↓sCont, ↓sExpr, ↓sRet, ↓sRetN, ↓sIf, ↓sNever, ↓gdName, ↓gdNil, ↓gdCons, ↓gdTup, ↓sAsg, ↓sSetN, ↓sPar, ↓sRaise, ↓sFrz, ↓owS, ↓sApp, ↓sIns, ↓dLenO, ↓dIxO, ↓sTry, ↓sFor, ↓iL, ↓iT, ↓onL, ↓onT, ↓iR1, ↓iR2, ↓nComp, ↓qYes, ↓ddEq_ii, ↓ddEq_ss, ↓ddEq_bb, ↓Bool.false_bne, ↓Bool.true_bne, ↓List.append_nil, ↓true_and, ↓and_true, ↓if_true, ↓if_false, ↓Bool.not_true, ↓Bool.not_false, ↓Bool.true_eq_false, ↓Bool.false_eq_true, ↓ite_true, ↓ite_false, ↓id_eq, ↓plain_non, ↓isIn_non_int, ↓isIn_non_str, ↓isIn_non_bool, ↓isIn_non_list, ↓isIn_non_tuple, ↓isIn_non_dict, ↓plain_bl, ↓isIn_bl_int, ↓isIn_bl_str, ↓isIn_bl_bool, ↓isIn_bl_list, ↓isIn_bl_tuple, ↓isIn_bl_dict, ↓plain_int, ↓isIn_int_int, ↓isIn_int_str, ↓isIn_int_bool, ↓isIn_int_list, ↓isIn_int_tuple, ↓isIn_int_dict, ↓plain_str, ↓isIn_str_int, ↓isIn_str_str, ↓isIn_str_bool, ↓isIn_str_list, ↓isIn_str_tuple, ↓isIn_str_dict, ↓plain_tup, ↓isIn_tup_int, ↓isIn_tup_str, ↓isIn_tup_bool, ↓isIn_tup_list, ↓isIn_tup_tuple, ↓isIn_tup_dict, ↓plain_lst, ↓isIn_lst_int, ↓isIn_lst_str, ↓isIn_lst_bool, ↓isIn_lst_list, ↓isIn_lst_tuple, ↓isIn_lst_dict, ↓sl0, ↓sl1, ↓sl2, ↓sl3, ↓sl4, ↓decide_true, ↓decide_false, ↓ddIsi2, ↓Bool.or_true, ↓Bool.or_false, ↓Bool.true_or]
      refine ⟨by show 5 + 3 ≤ sizeLine; decide, ?_⟩
      simp only [m_made]
      exact ⟨by rw [le]; show 8 + 19 ≤ sizeLine; decide, hR _ rfl⟩
    rintro _ rfl
    refine seq_mid (P := fun ρ => ∃ p, ρ = eL (.fr (.lst wL)) (.ow [x, y, z]) k kd (.fr (.lst mv)) (.ow p) (.fr (.lst (othL T x y z mv ++ errL T x))) .no .no .no) (fun R hR => ?_) ?_
    · walk_at "wk"
      exact ⟨by rw [sizeLine_eq]; omega, hR _ ⟨_, rfl⟩⟩
    rintro _ ⟨pp, rfl⟩
    refine seq_mid (P := fun ρ => ρ = eL (.fr (.lst wL)) (.ow [x, y, z]) k kd (.fr (.lst mv)) (.ow pp) (.fr (.lst (othL T x y z mv ++ errL T x))) (.fr (.lst ((dueL x y z mv).take 4))) .no .no) (fun R hR => ?_) ?_
    · simp only [exI0, exI1, exI2, ↓reduceIte, ↓startD, ↓List.map_cons, ↓List.map_nil, ↓List.length_cons, ↓List.length_nil, ↓List.cons_append, ↓List.nil_append, ↓List.replicate_succ, ↓List.replicate_zero, ↓List.getElem?_cons_zero, ↓List.getElem?_cons_succ, ↓List.set_cons_zero, ↓List.set_cons_succ, ↓dVar, ↓rdS, ↓dC, ↓dNew, ↓dOp, ↓onB, ↓qB, ↓dChain, ↓qAnd, ↓qOr, ↓qNot, ↓qTru, ↓truD, ↓dIf, ↓dAnd, ↓dOr, ↓dNot, ↓dUn, ↓ddNeg, ↓lNil, ↓lCons, ↓dTup, ↓nLst, ↓ddI, ↓ddI0, ↓ddAdd, ↓isNonD, ↓isBlD, ↓ddIsN, ↓ddIsB, ↓ddIx_t0, ↓ddIx_t1, ↓ddIx_t2, ↓ddIx_t3, ↓ddIx_l0, ↓ddIx_l1, ↓ddIx_l2, ↓dCB, ↓ddLen, ↓ddInt1, ↓ddAbs, ↓ddMM, ↓ddTuple, ↓nCB, ↓nnList, ↓ddIsi, ↓dCall, ↓sSkip, ↓sSeq, ↓sBreak, ↓sCont, ↓sExpr, ↓sRet, ↓sRetN, ↓sIf, ↓sNever, ↓gdName, ↓gdNil, ↓gdCons, ↓gdTup, ↓sAsg, ↓sSetN, ↓sPar, ↓sRaise, ↓sFrz, ↓owS, ↓sApp, ↓sIns, ↓dLenO, ↓dIxO, ↓sTry, ↓sFor, ↓iL, ↓iT, ↓onL, ↓onT, ↓iR1, ↓iR2, ↓nComp, ↓qYes, ↓ddEq_ii, ↓ddEq_ss, ↓ddEq_bb, ↓Bool.false_bne, ↓Bool.true_bne, ↓List.append_nil, ↓true_and, ↓and_true, ↓if_true, ↓if_false, ↓Bool.not_true, ↓Bool.not_false, ↓Bool.true_eq_false, ↓Bool.false_eq_true, ↓ite_true, ↓ite_false, ↓id_eq, ↓plain_non, ↓isIn_non_int, ↓isIn_non_str, ↓isIn_non_bool, ↓isIn_non_list, ↓isIn_non_tuple, ↓isIn_non_dict, ↓plain_bl, ↓isIn_bl_int, ↓isIn_bl_str, ↓isIn_bl_bool, ↓isIn_bl_list, ↓isIn_bl_tuple, ↓isIn_bl_dict, ↓plain_int, ↓isIn_int_int, ↓isIn_int_str, ↓isIn_int_bool, ↓isIn_int_list, ↓isIn_int_tuple, ↓isIn_int_dict, ↓plain_str, ↓isIn_str_int, ↓isIn_str_str, ↓isIn_str_bool, ↓isIn_str_list, ↓isIn_str_tuple, ↓isIn_str_dict, ↓plain_tup, ↓isIn_tup_int, ↓isIn_tup_str, ↓isIn_tup_bool, ↓isIn_tup_list, ↓isIn_tup_tuple, ↓isIn_tup_dict, ↓plain_lst, ↓isIn_lst_int, ↓isIn_lst_str, ↓isIn_lst_bool, ↓isIn_lst_list, ↓isIn_lst_tuple, ↓isIn_lst_dict, ↓sl0, ↓sl1, ↓sl2, ↓sl3, ↓sl4, ↓decide_true, ↓decide_false, ↓ddIsi2, ↓Bool.or_true, ↓Bool.or_false, ↓Bool.true_or]
      exact hR _ rfl
    rintro _ rfl
    refine seq_mid (P := fun ρ => ρ = eL (.fr (.lst wL)) (.ow [x, y, z]) k kd (.fr (.lst mv)) (.ow pp) (.fr (.lst (othL T x y z mv ++ errL T x))) (.fr (.lst (dueL x y z mv))) .no .no) (fun R hR => ?_) ?_
    · simp only [exI0, exI1, exI2, ↓reduceIte, ↓startD, ↓List.map_cons, ↓List.map_nil, ↓List.length_cons, ↓List.length_nil, ↓List.cons_append, ↓List.nil_append, ↓List.replicate_succ, ↓List.replicate_zero, ↓List.getElem?_cons_zero, ↓List.getElem?_cons_succ, ↓List.set_cons_zero, ↓List.set_cons_succ, ↓dVar, ↓rdS, ↓dC, ↓dNew, ↓dOp, ↓onB, ↓qB, ↓dChain, ↓qAnd, ↓qOr, ↓qNot, ↓qTru, ↓truD, ↓dIf, ↓dAnd, ↓dOr, ↓dNot, ↓dUn, ↓ddNeg, ↓lNil, ↓lCons, ↓dTup, ↓nLst, ↓ddI, ↓ddI0, ↓ddAdd, ↓isNonD, ↓isBlD, ↓ddIsN, ↓ddIsB, ↓ddIx_t0, ↓ddIx_t1, ↓ddIx_t2, ↓ddIx_t3, ↓ddIx_l0, ↓ddIx_l1, ↓ddIx_l2, ↓dCB, ↓ddLen, ↓ddInt1, ↓ddAbs, ↓ddMM, ↓ddTuple, ↓nCB, ↓nnList, ↓ddIsi, ↓dCall, ↓sSkip, ↓sSeq, ↓sBreak, ↓sCont, ↓sExpr, ↓sRet, ↓sRetN, ↓sIf, ↓sNever, ↓gdName, ↓gdNil, ↓gdCons, ↓gdTup, ↓sAsg, ↓sSetN, ↓sPar, ↓sRaise, ↓sFrz, ↓owS, ↓sApp, ↓sIns, ↓dLenO, ↓dIxO, ↓sTry, ↓sFor, ↓iL, ↓iT, ↓onL, ↓onT, ↓iR1, ↓iR2, ↓nComp, ↓qYes, ↓ddEq_ii, ↓ddEq_ss, ↓ddEq_bb, ↓Bool.false_bne, ↓Bool.true_bne, ↓List.append_nil, ↓true_and, ↓and_true, ↓if_true, ↓if_false, ↓Bool.not_true, ↓Bool.not_false, ↓Bool.true_eq_false, ↓Bool.false_eq_true, ↓ite_true, ↓ite_false, ↓id_eq, ↓plain_non, ↓isIn_non_int, ↓isIn_non_str, ↓isIn_non_bool, ↓isIn_non_list, ↓isIn_non_tuple, ↓isIn_non_dict, ↓plain_bl, ↓isIn_bl_int, ↓isIn_bl_str, ↓isIn_bl_bool, ↓isIn_bl_list, ↓isIn_bl_tuple, ↓isIn_bl_dict, ↓plain_int, ↓isIn_int_int, ↓isIn_int_str, ↓isIn_int_bool, ↓isIn_int_list, ↓isIn_int_tuple, ↓isIn_int_dict, ↓plain_str, ↓isIn_str_int, ↓isIn_str_str, ↓isIn_str_bool, ↓isIn_str_list, ↓isIn_str_tuple, ↓isIn_str_dict, ↓plain_tup, ↓isIn_tup_int, ↓isIn_tup_str, ↓isIn_tup_bool, ↓isIn_tup_list, ↓isIn_tup_tuple, ↓isIn_tup_dict, ↓plain_lst, ↓isIn_lst_int, ↓isIn_lst_str, ↓isIn_lst_bool, ↓isIn_lst_list, ↓isIn_lst_tuple, ↓isIn_lst_dict, ↓sl0, ↓sl1, ↓sl2, ↓sl3, ↓sl4, ↓decide_true, ↓decide_false, ↓ddIsi2, ↓Bool.or_true, ↓Bool.or_false, ↓Bool.true_or]
      exact ⟨by show 4 + 4 ≤ sizeLine; decide, hR _ rfl⟩
    rintro _ rfl
    refine seq_mid (P := fun ρ => ρ = eL (.fr (.lst wL)) (.ow [x, y, z]) k kd (.fr (.lst mv)) (.ow pp) (.fr (.lst (othL T x y z mv ++ errL T x))) (.fr (.lst (dueL x y z mv ++ wL.map (fun w => .tup [w, x]) ++ wL.map (fun w => .tup [w, .non])))) .no .no) (fun R hR => ?_) ?_
    · have lw : wL.length = 19 := rfl
      have ld : (dueL x y z mv).length = 8 := rfl
      walk_at "wk"
      refine compL_map (fun w => .tup [w, x]) _ _ (fun d hd R q => ?_) (by rw [sizeLine_eq, lw]; decide) ?_
      · simp only [List.map_cons, List.map_nil, wipeD]
        walk_at "wk"
        simp only [exI0]
        exact q
      rw [List.nil_append]
      refine ⟨by rw [ld, List.length_map, lw]; decide, ?_⟩
      refine compL_map (fun w => .tup [w, .non]) _ _ (fun d hd R q => ?_) (by rw [sizeLine_eq, lw]; decide) ?_
      · simp only [List.map_cons, List.map_nil, wipeD]
        walk_at "wk"
        exact q
      rw [List.nil_append]
      refine ⟨by rw [List.length_append, ld, List.length_map, List.length_map, lw]; decide, hR _ rfl⟩
    rintro _ rfl
    have lo : (othL T x y z mv).length = 8 := rfl
    walk_at "wk"
    simp only [dCall0, m_left_out]
    have ea : ∀ v : D, wL.map (fun w => D.tup [w, v]) = (List.range 19).map fun k => .tup [.str (nmI (7 + k)), v] := fun v => by
      unfold wL
      rw [List.map_map]
      rfl
    refine ⟨by rw [List.length_append, lo, le, le]; decide, ?_⟩
    refine compL_told T (by show 10 < 11; decide) _ (dueL x y z mv ++ wL.map (fun w => .tup [w, x]) ++ wL.map (fun w => .tup [w, .non])) [] ?_ (by rw [List.length_append, List.length_append, lo, le, le]; decide) ?_
    · rw [ea, ea]
      exact toldL_app T (toldL_app T (toldL_oth T x y z mv) (toldL_err T x)) (toldL_err T .non)
    rw [List.nil_append]
    have tr : TreeD 6 (.lst (dueL x y z mv ++ wL.map (fun w => .tup [w, x]) ++ wL.map (fun w => .tup [w, .non]))) := by
      refine ⟨by rw [List.length_append, List.length_append, List.length_map, List.length_map]; show 8 + 19 + 19 ≤ 1000000; decide, fun d hd => ?_⟩
      have pair : ∀ (n : Str) (v : D), TreeD 4 v → TreeD 5 (.tup [.str n, v]) := fun n v hv => by
        refine ⟨by show 2 ≤ 1000000; decide, fun e he => ?_⟩
        simp only [List.mem_cons, List.not_mem_nil, or_false] at he
        rcases he with rfl | rfl
        · exact trivial
        · exact hv
      have t4 : ∀ v, TreeD 2 v → TreeD 4 v := fun v h => h.up.up
      have wt : ∀ (v : D), TreeD 4 v → ∀ e ∈ wL.map (fun w => D.tup [w, v]), TreeD 5 e := fun v hv e he => by
        rw [ea] at he
        obtain ⟨k, _, rfl⟩ := List.mem_map.mp he
        exact pair _ _ hv
      rcases List.mem_append.mp hd with hd | hd
      · rcases List.mem_append.mp hd with hd | hd
        · simp only [dueL, List.mem_cons, List.not_mem_nil, or_false] at hd
          rcases hd with rfl | rfl | rfl | rfl | rfl | rfl | rfl | rfl
          · exact pair _ _ (t4 _ tx)
          · exact pair _ _ (t4 _ ty)
          · exact pair _ _ (t4 _ tz)
          · exact pair _ _ (t4 _ ty)
          · exact pair _ _ trivial
          · refine pair _ _ ⟨by show 3 ≤ 1000000; decide, fun e he => ?_⟩
            simp only [List.mem_cons, List.not_mem_nil, or_false] at he
            rcases he with rfl | rfl | rfl
            · exact tx.up
            · exact ty.up
            · exact tz.up
          · exact pair _ _ ⟨by omega, tm⟩
          · exact pair _ _ ⟨by show 0 ≤ 1000000; decide, fun e he => by cases he⟩
        · exact wt _ (t4 _ tx) _ hd
      · exact wt .non trivial _ hd
    exact ⟨tr, tr, fun b hb => by rw [hb.mpr rfl]; exact h⟩
  · exact h.elim
end
end My
namespace My
open PySem PySem.Spec PyProof.Rows L2
local macro_rules | `(tactic| walk_at "arith") => `(tactic| first
  | (with_reducible show _ ≠ _; omega)
  | (unfold CMul; omega)
  | (unfold CPow; omega)
  | (unfold CPow; decide)
  | exact wide_div (b := 100) (by decide) (by decide) (by decide) (by decide))
local macro_rules | `(tactic| walk_at "go") => `(tactic| repeat (first
  | with_reducible refine g_seq ?_
  | with_reducible refine g_asg ?_
  | with_reducible refine g_name ?_
  | with_reducible refine g_sub ?_
  | with_reducible refine g_ret ?_
  | with_reducible refine g_drop ?_
  | ((with_reducible refine g_next ?_); dsimp only)
  | with_reducible refine g_if ?_
  | with_reducible refine g_var rfl ?_
  | with_reducible refine g_c ?_
  | with_reducible refine g_op ?_
  | with_reducible refine g_un ?_
  | with_reducible refine g_I0 ?_
  | with_reducible refine g_U ?_
  | with_reducible refine g_eq rfl ?_
  | with_reducible refine g_test ?_
  | with_reducible refine g_bl ?_
  | with_reducible refine iteF ?_
  | with_reducible refine iteT ?_
  | ((with_reducible apply g_iteT); (case e => rfl))
  | ((with_reducible apply g_iteF); (case e => rfl))
  | with_reducible refine g_int1 ?_
  | with_reducible refine g_max2 ?_
  | with_reducible refine g_min2 ?_
  | with_reducible refine g_isN ?_
  | with_reducible refine g_notN ?_
  | ((with_reducible apply g_lenL); (case hs => assumption))
  | ((with_reducible apply g_ixL); (case hs => exact SqL.of (by assumption)); (case ha => rfl))
  | with_reducible refine g_pow9 ?_
  | with_reducible refine g_pow18 ?_
  | ((with_reducible apply g_I); (case c => walk_at "arith"))
  | ((with_reducible apply g_st); (case hs => assumption); (case hL => assumption); (case ne => assumption); (case x0 => assumption); (case hj => rfl); (case j0 => decide); intro _ _ _ _)
  | with_reducible refine g_and ?_
  | with_reducible refine g_or ?_
  | with_reducible refine g_not ?_
  | with_reducible refine g_nil ?_
  | with_reducible refine g_cons ?_
  | with_reducible refine g_callB ?_
  | with_reducible refine g_call ?_
  | with_reducible refine g_tup ?_
  | with_reducible refine g_lst ?_
  | with_reducible refine g_andV ?_
  | with_reducible refine g_orV ?_
  | with_reducible refine g_notV ?_
  | with_reducible refine g_tB ?_
  | with_reducible refine g_ne rfl ?_
  | with_reducible refine g_abs ?_
  | with_reducible refine g_isB ?_
  | with_reducible refine g_for ?_
  | with_reducible refine g_rng1 ?_
  | with_reducible refine g_rng2 ?_
  | with_reducible refine g_iList ?_
  | ((with_reducible refine g_break ?_); dsimp only)
  | ((with_reducible refine g_cont ?_); dsimp only)
  | with_reducible refine g_retN ?_
  | ((with_reducible apply isi_go (T := "int")); (case h => assumption); (case hb => exact k_int_ _))
  | ((with_reducible apply isi_go (T := "str")); (case h => assumption); (case hb => exact k_str_ _))
  | ((with_reducible apply isi_go (T := "bool")); (case h => assumption); (case hb => exact k_bool_ _))
  | ((with_reducible apply isi_go (T := "list")); (case h => assumption); (case hb => exact k_list_ _))
  | ((with_reducible apply isi_go (T := "tuple")); (case h => assumption); (case hb => exact k_tuple_ _))
  | ((with_reducible apply isi_go (T := "dict")); (case h => assumption); (case hb => exact k_dict_ _))
  | with_reducible refine g_intb ?_))

/-! ### what the law alone needs: the store laid, lists thawed -/
def spStoreL (K : PySem.W.Frag) : Sp := fun vs H Q _ => ∃ (a : Addr) (ns : List Int), vs = [.ref a] ∧ SqL K H a (ns.map V.int) ∧ ns.length ≤ 63 ∧
  ∀ (L s : Addr) (H' : Hp), L ≠ s → H' s = some (.lst (StL L 0 0 0 0 0)) → H' L = some (.lst (ns.map V.int)) → Q (.ref s) H'
section
variable {P : Program} {w : World} {K : PySem.W.Frag} {mg : Str → Option Value} {base : Heap}
theorem ok_storeL (T : Txt K mg) : FnOk P w K mg base CX0 1 T.dstore.f T.dstore.fd P_store (spStoreL K) := by
  refine T.dstore.F.ok sc_store (fun vs H Q E h => ?_) (fun cdv A outer s H vs Q E hr h => ?_)
  · obtain ⟨a, ns, rfl, _⟩ := h
    rfl
  · obtain ⟨a, ns, rfl, hq, hl, k⟩ := h
    refine ⟨_, (pss_one (ps_ret (pe_lst (pa_cons (pe_callTy c_list (by rfl) T.m_list bt_list (pa_cons (pv 0) pa_nil)) (pa_cons pe_int (pa_cons pe_int (pa_cons pe_int (pa_cons pe_int (pa_cons pe_int pa_nil))))))))), ?_⟩
    try dsimp only [cxOf, Cx.nox, Cx.wish]
    walk_at "go"
    refine ⟨a, _, rfl, .inl hq, fun L hL => ?_⟩
    walk_at "go"
    refine ⟨by show 6 ≤ sizeLine; decide, fun p hp => ?_⟩
    have nLp : L ≠ p := fun e => by
      rw [← e, upd_same] at hp
      cases hp
    exact k L p _ nLp upd_same (by rw [upd_ne nLp, upd_same])
end
mutual
/-- no list within -/
def lfD : D → Bool
  | .non => true
  | .bl _ => true
  | .int _ => true
  | .str _ => true
  | .tup l => lfL l
  | _ => false
def lfL : List D → Bool
  | [] => true
  | d :: l => lfD d && lfL l
end
def noL (A : Hp) : Hp := fun b => match A b with
  | some (.lst _) => none
  | o => o
theorem noL_sub {A : Hp} {b : Addr} {o : HO} (h : noL A b = some o) : A b = some o := by
  unfold noL at h
  split at h
  · cases h
  · exact h
theorem noL_of {A : Hp} {b : Addr} {o : HO} (h : A b = some o) (n : ∀ xs, o ≠ .lst xs) : noL A b = some o := by
  unfold noL
  rw [h]
  cases o <;> first | rfl | exact absurd rfl (n _)
theorem noL_lst {A : Hp} {b : Addr} {xs : List V} (h : A b = some (.lst xs)) : noL A b = none := by
  unfold noL
  rw [h]
mutual
theorem Da.noL {K : PySem.W.Frag} {so so' : Option Addr} {A : Hp} : ∀ (d : D) (v : V), lfD d = true → Da K so A d v → Da K so' (noL A) d v
  | .non, _, _, h => h
  | .bl _, _, _, h => h
  | .int _, _, _, h => h
  | .str _, _, _, h => h
  | .tup l, _, e, ⟨a, xs, e1, h, q⟩ => by
    refine ⟨a, xs, e1, ?_, DaL.noL l xs e q⟩
    rcases h with (h | ⟨o, h⟩) | h
    · exact .inl (.inl (noL_of h (fun xs z => by cases z)))
    · exact .inl (.inr ⟨o, noL_of h (fun xs z => by cases z)⟩)
    · exact .inr h
  | .lst _, _, e, _ => by cases e
  | .dct _ _, _, e, _ => by cases e
  | .ins _ _ _, _, e, _ => by cases e
  | .scr _, _, e, _ => by cases e
  | .sto, _, e, _ => by cases e
  | .exc _, _, e, _ => by cases e
  | .err _ _ _, _, e, _ => by cases e
theorem DaL.noL {K : PySem.W.Frag} {so so' : Option Addr} {A : Hp} : ∀ (l : List D) (xs : List V), lfL l = true → DaL K so A l xs → DaL K so' (noL A) l xs
  | [], _, _, h => h
  | d :: l, _, e, ⟨v, r, e1, h, q⟩ => by
    have e : (lfD d && lfL l) = true := e
    rw [Bool.and_eq_true] at e
    exact ⟨v, r, e1, Da.noL d v e.1 h, DaL.noL l r e.2 q⟩
end
def thawS : Sl → Sl
  | .fr d => if lfD d = true then .fr d else .no
  | _ => .no
def thawD (i : Nat) (l : List D) (ρ : DEnv) : DEnv := (ρ.map thawS).set i (.ow l)
def lawEnds : DEnds := ⟨fun _ => False, fun d => d = .bl true, fun _ => False, fun _ => False, fun _ => False, True⟩
def sThaw (i : Nat) (r : DS) : DS := fun DD ρ => DD.fr ∧ ∃ l, ρ[i]? = some (.fr (.lst l)) ∧ lfL l = true ∧ r lawEnds (thawD i l ρ)
section
variable {X : Cx} {g : Gx} {EX : EXT} {rest : List Stmt} {r : DS}
theorem lawEnds_ok {g : Gx} {n : Nat} {B : Hp} {De : Ends} (h : ∀ H, De.rt (.bl true) H) : EndsOk X.K g EX n B lawEnds De :=
  ⟨fun _ _ _ _ _ _ _ q => q.elim, fun A H d v x da q => by
    have q : d = .bl true := q
    subst q
    have da : v = _ := da
    subst da
    exact h H, fun _ _ _ _ _ _ _ q => q.elim, fun _ _ _ _ _ _ _ q => q.elim, fun _ _ _ _ _ _ _ _ _ _ _ _ q => q.elim, fun _ => h⟩
theorem pds_thaw (i : Nat) (h : ∀ g', PDSs X g' EX rest r) : PDSs X g EX rest (sThaw i r) := by
  refine ⟨⟨fun pins s σ H De I q => ?_⟩⟩
  obtain ⟨A, ρ, DD, S, ⟨hf, l, hi, hl, q⟩, k⟩ := q
  obtain ⟨o, so, v, ev, a, xs, e2, ha, da⟩ := S.e.ok i _ hi
  subst ev e2
  have g1 : Good X.K none (noL A) H := ⟨fun b o e => S.good.sub b o (noL_sub e), fun s e => by cases e⟩
  have x1 : Ext X.K none (noL A) (noL A) (noL A) H := ⟨g1, fun _ _ e => e, fun b o _ e => g1.sub b o e, fun b o e => .inl e⟩
  refine (h ⟨none, noL A, noL A⟩).pss.run pins s σ H De I ⟨noL A, thawD i l ρ, lawEnds, ⟨x1, ?_⟩, q, lawEnds_ok (k.fr hf)⟩
  refine ⟨by rw [thawD, List.length_set, List.length_map]; exact S.e.len, fun j sl e => ?_, fun j1 j2 sl1 sl2 b n e1 e2 o1 o2 _ _ => ?_⟩
  · by_cases hj : i = j
    · subst hj
      have hlt : i < ρ.length := (List.getElem?_eq_some_iff.mp hi).1
      rw [thawD, List.getElem?_set_self (by rw [List.length_map]; exact hlt)] at e
      cases e
      exact ⟨_, so, a, xs, rfl, S.x.good.sub _ _ ha, noL_lst ha, noL_lst ha, (fun z => by cases z), DaL.noL l xs hl da⟩
    · rw [thawD, List.getElem?_set_ne hj, List.getElem?_map] at e
      cases e0 : ρ[j]? with
      | none =>
        rw [e0] at e
        cases e
      | some sl0 =>
        rw [e0] at e
        cases e
        obtain ⟨o, so2, h2⟩ := S.e.ok j sl0 e0
        refine ⟨o, so2, ?_⟩
        cases sl0 with
        | fr d =>
          show SlOk X.K none (My.noL A) (My.noL A) H (if lfD d = true then .fr d else .no) o
          split
          · rename_i hd
            obtain ⟨u, eu, du⟩ := h2
            exact ⟨u, eu, Da.noL d u hd du⟩
          · trivial
        | _ => exact trivial
  · have own : ∀ (j : Nat) (sl : Sl), (thawD i l ρ)[j]? = some sl → sl.own = true → i = j := fun j sl e o => by
      by_cases hj : i = j
      · exact hj
      · rw [thawD, List.getElem?_set_ne hj, List.getElem?_map] at e
        cases e0 : ρ[j]? with
        | none =>
          rw [e0] at e
          cases e
        | some sl0 =>
          rw [e0] at e
          cases e
          cases sl0 with
          | fr d =>
            have o : (if lfD d = true then Sl.fr d else Sl.no).own = true := o
            split at o <;> cases o
          | _ => cases o
    exact n ((own _ _ e1 o1).symm.trans (own _ _ e2 o2))
def onlyAt (H : Hp) (L : Addr) : Hp := fun b => if b = L then H L else none
theorem onlyAt_sub {H : Hp} {L b : Addr} {o : HO} (e : onlyAt H L b = some o) : H b = some o := by
  unfold onlyAt at e
  by_cases z : b = L
  · rw [if_pos z] at e
    rw [z]
    exact e
  · rw [if_neg z] at e
    cases e
theorem onlyAt_at {H : Hp} {L : Addr} : onlyAt H L L = H L := if_pos rfl
theorem onlyAt_ne {H : Hp} {L b : Addr} (n : b ≠ L) : onlyAt H L b = none := if_neg n
/-- the store is laid: nothing else is looked at behind it -/
def sStore (i : Nat) (r : DS) : DS := fun DD ρ => DD.fr ∧ i < ρ.length ∧ ∃ ns : List Int, ρ[0]? = some (.fr (.scr ns)) ∧ ns.length ≤ 63 ∧ r lawEnds ((ρ.map fun _ => Sl.no).set i (.fr .sto))
theorem pds_storeL {i lv : Nat} {y x : Str} {py p pos spos : Pos} {o : Expr} {f : Addr} {fd : FuncData} {ps : List Str} (F : FnOk X.prog X.w X.K X.mg X.base CX0 lv f fd ps (spStoreL X.K)) (hr : Room lv X.A) (hg : Gl X x) (hm : X.mg x = some (.ref f)) (hk : PySem.W.keepIn X.K (.ref f) = true) (hb : Binds X.K fd ps [])
    (ho : PE X o (tVar 0)) (hN : X.N.Nodup) (hi : X.N[i]? = some y) (hx : Loc X.env.scope y) (h : ∀ g', PDSs X g' EX rest r) (hs1 : starEach [o] X.env = (false, eval o X.env) :: starEach [] X.env) (hsw : swapsWith (.Call (.Name x p) [o] [] pos) (some (.Name y py)) spos.line X.env = pure false)
    (hf : X.fn y = true ∨ X.env.scope.names.lookup y = some .local) (nd : (x == ("__debug__" : Str)) = false := by decide) : PDSs X g EX (.Assign [.Name y py] (.Call (.Name x p) [o] [] pos) spos :: rest) (sStore i r) := by
  have h2 : PSs X rest (fun De σ H => ∃ g', lS X.K g' EX r De σ H) := ⟨fun pins s σ H De I ⟨g', q⟩ => (h g').pss.run pins s σ H De I q⟩
  refine ⟨(pss_cons (ps_set (pos := spos) hN hi hx (pe_callS F hr hg hm hk hb (fun σ => pass00 EX σ) (pa_cons ho pa_nil hs1) nd hs1 rfl) hsw hf) h2).imp fun De σ H q => ?_⟩
  obtain ⟨A, ρ, DD, S, ⟨hfr, hlt, ns, h0, hl, q⟩, k⟩ := q
  obtain ⟨o, so, v, ev, a, e2, hq⟩ := S.e.ok 0 _ h0
  subst ev e2
  refine ⟨_, so, a, ns, rfl, Sub.sqL S.good.sub hq, hl, fun L s H' ne h1 h2 => ?_⟩
  refine ⟨⟨some s, onlyAt H' L, H'⟩, onlyAt H' L, _, lawEnds, ⟨Ext.refl ⟨fun b o e => ?_, fun s' e => ?_⟩, ?_⟩, q, lawEnds_ok (k.fr hfr)⟩
  · exact onlyAt_sub e
  · cases e
    exact ⟨onlyAt_ne (Ne.symm ne), L, ns, 0, 0, 0, 0, 0, h1, onlyAt_at.trans h2, by decide, by decide, by decide, by decide, by decide, hl⟩
  · have hls := S.e.len
    refine ⟨by rw [List.length_set, List.length_set, List.length_map]; exact hls, fun j sl e => ?_, fun j1 j2 sl1 sl2 b n e1 e2 o1 o2 _ _ => ?_⟩
    · by_cases hj : i = j
      · subst hj
        rw [List.getElem?_set_self (by rw [List.length_map]; exact hlt)] at e
        cases e
        exact ⟨_, List.getElem?_set_self (by rw [hls]; exact hlt), .ref s, rfl, s, rfl, rfl⟩
      · rw [List.getElem?_set_ne hj, List.getElem?_map] at e
        rw [List.getElem?_set_ne hj]
        cases e0 : ρ[j]? with
        | none =>
          rw [e0] at e
          cases e
        | some sl0 =>
          rw [e0] at e
          cases e
          obtain ⟨o, so2, _⟩ := S.e.ok j sl0 e0
          exact ⟨o, so2, trivial⟩
    · have own : ∀ (j : Nat) (sl : Sl), ((ρ.map fun _ => Sl.no).set i (.fr .sto))[j]? = some sl → sl.own = true → False := fun j sl e o => by
        by_cases hj : i = j
        · subst hj
          rw [List.getElem?_set_self (by rw [List.length_map]; exact hlt)] at e
          cases e
          cases o
        · rw [List.getElem?_set_ne hj, List.getElem?_map] at e
          cases e0 : ρ[j]? with
          | none =>
            rw [e0] at e
            cases e
          | some sl0 =>
            rw [e0] at e
            cases e
            cases o
      exact (own _ _ e1 o1).elim
end
/-! ### the law's promise -/
def spLaw (K : PySem.W.Frag) : Sp := fun vs H Q _ => ∃ (a : Addr) (ns : List Int), vs = [.ref a] ∧ SqL K H a (ns.map V.int) ∧ ns.length ≤ 63 ∧ ∀ H', Q (.bl true) H'
section
variable {P : Program} {w : World} {K : PySem.W.Frag} {mg : Str → Option Value} {base : Heap}
theorem Df.okLaw {y : Str} {st : Stmt} {N : List Str} {pn : Str} {lv : Nat} (D : Df K mg y st [pn]) (S : FnScope N [pn] (defScope st))
    (body : ∀ (cdv : Value) (A : Around) (outer : List PySem.Env) (s : Shared) (H : Hp) (E : XK) (g : Gx), Room lv (A.deeper (envOfC y (defScope st) s.heap.objs.size D.f cdv)) →
      L2N.Takes (cxOf (L2N.CX P w) P w K mg base N y (defScope st) D.f cdv A outer s H E) (fun c d _ H => E c d H) →
      PassesOwn (model P w) (A.deeper (envOfC y (defScope st) s.heap.objs.size D.f cdv)) (envOfC y (defScope st) s.heap.objs.size D.f cdv) (cxOf (L2N.CX P w) P w K mg base N y (defScope st) D.f cdv A outer s H E).xe →
      ∃ r, PDSs (cxOf (L2N.CX P w) P w K mg base N y (defScope st) D.f cdv A outer s H E) g (fun _ => E) (defBody st) r ∧ ∀ ns : List Int, ns.length ≤ 63 → r lawEnds (startD N [.scr ns])) :
    FnOk P w K mg base (L2N.CX P w) (lv + 1) D.f D.fd [pn] (spLaw K) := by
  refine D.okN S (fun vs H Q E h => ?_) fun cdv A outer s H vs Q E room h => ?_
  · obtain ⟨_, _, rfl, _⟩ := h
    rfl
  · obtain ⟨a, ns, rfl, hq, hl, k⟩ := h
    obtain ⟨r, hr, kr⟩ := body cdv A outer s H E ⟨none, H, H⟩ room (L2N.takes_of rfl rfl rfl rfl) PassesOwn.leaving
    have gd : Good K none H H := ⟨fun _ _ e => e, fun s e => by cases e⟩
    exact ⟨_, hr.pss, H, startD N [.scr ns], lawEnds, ⟨Ext.refl gd, startOk gd (DaL.one ⟨a, rfl, hq⟩)⟩, kr ns hl, lawEnds_ok k⟩
end
end My
set_option exponentiation.threshold 100000
namespace My
open PySem PySem.Spec PyProof.Rows L2
local macro_rules | `(tactic| walk_at "dl") => `(tactic| simp only [startD, List.map_cons, List.map_nil, List.length_cons, List.length_nil, List.cons_append, List.nil_append, List.replicate_succ, List.replicate_zero, List.getElem?_cons_zero, List.getElem?_cons_succ, List.set_cons_zero, List.set_cons_succ,
  dVar, rdS, dC, dNew, dOp, onB, qB, dChain, qAnd, qOr, qNot, qTru, truD, dIf, dAnd, dOr, dNot, dUn, ddNeg, lNil, lCons, dTup, nLst, ddI, ddI0, ddAdd, isNonD, isBlD, ddIsN, ddIsB, ddIx_t0, ddIx_t1, ddIx_t2, ddIx_t3, ddIx_l0, ddIx_l1, ddIx_l2, dCB, ddLen, ddInt1, ddAbs, ddMM, ddTuple, nCB, nnList, ddIsi, dCall,
  sSkip, sSeq, sBreak, sCont, sExpr, sRet, sRetN, sIf, sNever, gdName, gdNil, gdCons, gdTup, sAsg, sSetN, sPar, sRaise, sFrz, owS, sApp, sIns, dLenO, dIxO, sTry, sFor, iL, iT, onL, onT, iR1, iR2, nComp, qYes,
  ddEq_ii, ddEq_ss, ddEq_bb, Bool.false_bne, Bool.true_bne, List.append_nil, true_and, and_true, if_true, if_false, Bool.not_true, Bool.not_false, Bool.true_eq_false, Bool.false_eq_true, ite_true, ite_false, id_eq])

local macro_rules | `(tactic| walk_at "is") => `(tactic| simp only [plain_non, isIn_non_int, isIn_non_str, isIn_non_bool, isIn_non_list, isIn_non_tuple, isIn_non_dict, plain_bl, isIn_bl_int, isIn_bl_str, isIn_bl_bool, isIn_bl_list, isIn_bl_tuple, isIn_bl_dict, plain_int, isIn_int_int, isIn_int_str, isIn_int_bool, isIn_int_list, isIn_int_tuple, isIn_int_dict, plain_str, isIn_str_int, isIn_str_str, isIn_str_bool, isIn_str_list, isIn_str_tuple, isIn_str_dict, plain_tup, isIn_tup_int, isIn_tup_str, isIn_tup_bool, isIn_tup_list, isIn_tup_tuple, isIn_tup_dict, plain_lst, isIn_lst_int, isIn_lst_str, isIn_lst_bool, isIn_lst_list, isIn_lst_tuple, isIn_lst_dict, sl0, sl1, sl2, sl3, sl4, decide_true, decide_false, ddIsi, ddIsi2, true_and, if_true, if_false, Bool.false_eq_true, Bool.not_true, Bool.not_false, Bool.or_true, Bool.or_false, Bool.true_or, and_true])
local macro_rules | `(tactic| walk_at "wk") => `(tactic| ((try walk_at "dl"); (try walk_at "is"); (try walk_at "dl")))

/-- the first of a list -/
def nHead (k : Nat) (r : DE) : DL := fun ρ Q E => r ρ (fun d => onL d fun l => Q (l.take k)) E
theorem pdn_head {X : Cx} {g : Gx} {EX : EXT} {e : Expr} {ra : DE} {pos p1 p2 : Pos} {k : Nat} {j} (he : PD X g EX e ra) : PDN X g EX (.Subscript e (.Slice none (some (.Constant (.int (k : Int)) j p1)) none p2) pos) (nHead k ra) := ⟨(pe_slice sl_list he.pe po_none (po_some pe_int)).imp fun σ H Q h => by
  obtain ⟨A, ρ, Qd, Ed, S, h, c, cx⟩ := h
  refine ⟨A, ρ, _, Ed, S, h, fun d v A1 H1 x1 da q => ?_, cx⟩
  have q : onL d _ := q
  unfold onL at q
  split at q
  · obtain ⟨p, xs, rfl, hs, dl⟩ := da
    refine ⟨_, rfl, p, xs, rfl, SqL.of (x1.good.sub _ _ hs), fun p' hp' => ?_⟩
    have e : cutV xs none (some (k : Int)) = xs.take k := by
      unfold cutV
      rw [HT.sIx_none, HT.sIx_nat, List.drop_zero, Nat.sub_zero, List.take_eq_take_iff]
      omega
    rw [e]
    exact c _ _ p' A1 H1 x1 hp' (dl.take k) q
  · exact q.elim⟩
abbrev s_law : Stmt := topS 66
abbrev N_law : List Str := ["script", "store", "figures", "squares_asked", "triples", "again", "one", "three", "told", "due", "bad", "k"]
abbrev P_law : List Str := ["script"]
theorem sc_law : FnScope N_law P_law (defScope s_law) := ⟨rfl, rfl, rfl, by decide +kernel, rfl, by decide +kernel, by decide +kernel⟩

abbrev lL (f sq tr ag on th to du ba k : Sl) : DEnv := [.no, .fr .sto, f, sq, tr, ag, on, th, to, du, ba, k]
def Tr (d : D) : Prop := ∃ x y z, d = .lst [x, y, z] ∧ RatN 881 x ∧ RatN 440 y ∧ RatN 881 z
def TrS (d : D) : Prop := ∃ x y z, d = .lst [x, y, z] ∧ SzR 881 x ∧ SzR 440 y ∧ SzR 881 z
theorem Tr.s {d : D} (h : Tr d) : TrS d := let ⟨x, y, z, e, a, b, c⟩ := h; ⟨x, y, z, e, a.szr (by decide), b.szr (by decide), c.szr (by decide)⟩
theorem tree_rs (p f u : D) (hp : SzR 881 p) (hf : SzR 440 f) (hu : SzR 881 u) : TreeD 4 (rsD p f u) := by
  unfold rsD
  split
  · simp [TreeD, wkD]
  split
  · simp [TreeD, wkD]
  split
  · simp [TreeD, wkD]
  rename_i h1 h2 h3
  obtain ⟨p1, p2, rfl, _⟩ := hp.2.2 (by simpa using h1)
  obtain ⟨f1, f2, rfl, _⟩ := hf.2.2 (by simpa using h2)
  obtain ⟨u1, u2, rfl, _⟩ := hu.2.2 (by simpa using h3)
  simp only [ratD]
  split
  · simp [TreeD]
  · simp [TreeD]
section
variable {P : Program} {w : World} {K : PySem.W.Frag} {mg : Str → Option Value} {base : Heap}
theorem ok_law (T : Txt K mg) : FnOk P w K mg base (L2N.CX P w) 178 T.dlaw.f T.dlaw.fd P_law (spLaw K) := by
  have G_store : FnOk P w K mg base CX0 1 T.dstore.f T.dstore.fd P_store (spStoreL K) := ok_storeL T
  have G_take : FnOk P w K mg base (L2N.CX P w) 171 T.dtake.f T.dtake.fd P_take (spD K 2 m_take) := ok_takeD T
  have G_squared : FnOk P w K mg base (L2N.CX P w) 176 T.dsquared.f T.dsquared.fd P_squared (spD K 2 m_squared) := ok_squared T
  have G_triple : FnOk P w K mg base (L2N.CX P w) 177 T.dtriple.f T.dtriple.fd P_triple (spD K 2 m_triple) := ok_triple T
  have G_bad_triple : FnOk P w K mg base (L2N.CX P w) 175 T.dbad_triple.f T.dbad_triple.fd P_bad_triple (spD K 2 m_bad_triple) := ok_bad_triple T
  have G_call : FnOk P w K mg base (L2N.CX P w) 6 T.dcall.f T.dcall.fd P_call (spD K 4 m_call) := ok_call T
  have G_same : FnOk P w K mg base (L2N.CX P w) 4 T.dsame.f T.dsame.fd P_same (spD K 2 (m_same 4)) := ok_same T 4
  have G_is_root : FnOk P w K mg base (L2N.CX P w) 3 T.dis_root.f T.dis_root.fd P_is_root (spD K 2 m_is_root) := ok_is_root T
  have G_sign_call_due : FnOk P w K mg base (L2N.CX P w) 4 T.dsign_call_due.f T.dsign_call_due.fd P_sign_call_due (spD K 3 m_sign_call_due) := ok_sign_call_due T
  have G_sign_due : FnOk P w K mg base (L2N.CX P w) 3 T.dsign_due.f T.dsign_due.fd P_sign_due (spD K 3 m_sign_due) := ok_sign_due T
  have G_root_sign : FnOk P w K mg base (L2N.CX P w) 5 T.droot_sign.f T.droot_sign.fd P_root_sign (spD K 3 (m_root_sign T)) := ok_root_sign T
  have G_neg : FnOk P w K mg base (L2N.CX P w) 1 T.dneg.f T.dneg.fd P_neg (spD K 1 m_lneg) := ok_lneg T
  have G_not_ratio : FnOk P w K mg base (L2N.CX P w) 174 T.dnot_ratio.f T.dnot_ratio.fd P_not_ratio (spD K 2 m_not_ratio) := ok_not_ratio T
  have G_errors_right : FnOk P w K mg base (L2N.CX P w) 177 T.derrors_right.f T.derrors_right.fd P_errors_right (spD K 1 m_errors_right) := ok_errors_right T
  refine T.dlaw.okLaw sc_law fun cdv A outer s H E g hr tk hp => ⟨_, (pds_storeL (i := 1) G_store (hr.mono (by omega)) (by rfl) T.dstore.g T.dstore.F.kp T.dstore.b (pv 0) sc_law.nd rfl (by first | exact .inl rfl | exact .inr rfl) (hs1 := rfl) (hsw := rfl) (hf := by first | exact .inl rfl | exact .inr rfl) (h := fun _ => (pds_cons (pds_set (i := 2) sc_law.nd rfl (by first | exact .inl rfl | exact .inr rfl) (pd_ix ix_seq ol_ix (pd_new (pdn_lst (pda_cons pd_int (pda_cons pd_int (pda_cons pd_int (pda_cons pd_int (pda_cons pd_int pda_nil))))))) (pd_call G_take (hr.mono (by omega)) (by rfl) T.dtake.g T.dtake.F.kp T.dtake.b (fun σ => L2N.passAt tk σ) (pda_cons (pd_var (pv 1)) (pda_cons pd_int pda_nil))) (fun _ _ => rfl)))
      (pds_cons (pds_if (pdt_cmp (oo_eq hr.units) ol_eq (pd_call G_take (hr.mono (by omega)) (by rfl) T.dtake.g T.dtake.F.kp T.dtake.b (fun σ => L2N.passAt tk σ) (pda_cons (pd_var (pv 1)) (pda_cons pd_int pda_nil))) pd_int (nomark _))
        (pds_one (pds_set (i := 2) sc_law.nd rfl (by first | exact .inl rfl | exact .inr rfl) pd_int))
        pds_nil)
      (pds_cons (pds_setLc (i := 3) (own := [("k", 11)]) rfl sc_law.nd rfl rfl (sw_true rfl rfl rfl (by decide +kernel)) (pdi_range1 (by rfl) T.m_range (pda_cons pd_int pda_nil)) (blkOk_by (own := [("k", 11)]) (N := N_law) (sc := defScope s_law) (by decide +kernel)) (fun _ _ _ _ _ => (pdgw_name (pg_name (i := 11) sc_law.nd rfl (by first | exact .inl rfl | exact .inr rfl)) (by simp))) (fun _ _ _ _ _ => pdts_nil) (fun _ _ _ _ _ => (pd_call G_squared (hr.mono (by omega)) (by rfl) T.dsquared.g T.dsquared.F.kp T.dsquared.b (fun σ => passN0 σ) (pda_cons (pd_var (pv 1)) (pda_cons (pd_var (pv 2)) pda_nil)))))
      (pds_frz 3 (pds_cons (pds_setLc (i := 4) (own := [("k", 11)]) rfl sc_law.nd rfl rfl (sw_true rfl rfl rfl (by decide +kernel)) (pdi_range1 (by rfl) T.m_range (pda_cons pd_int pda_nil)) (blkOk_by (own := [("k", 11)]) (N := N_law) (sc := defScope s_law) (by decide +kernel)) (fun _ _ _ _ _ => (pdgw_name (pg_name (i := 11) sc_law.nd rfl (by first | exact .inl rfl | exact .inr rfl)) (by simp))) (fun _ _ _ _ _ => pdts_nil) (fun _ _ _ _ _ => (pd_call G_triple (hr.mono (by omega)) (by rfl) T.dtriple.g T.dtriple.F.kp T.dtriple.b (fun σ => passN0 σ) (pda_cons (pd_var (pv 1)) (pda_cons (pd_var (pv 2)) pda_nil)))))
      (pds_cons (pds_app (pv 4) (pd_call G_bad_triple (hr.mono (by omega)) (by rfl) T.dbad_triple.g T.dbad_triple.F.kp T.dbad_triple.b (fun σ => L2N.passAt tk σ) (pda_cons (pd_var (pv 1)) (pda_cons (pd_ixO (pv 4) pd_int (fun _ _ => rfl)) pda_nil))) rfl rfl rfl rfl rfl rfl)
      (pds_frz 4 (pds_cons (pds_for hp rfl (pdi_range1 (by rfl) T.m_range (pda_cons pd_int pda_nil)) (pdg_name (pg_name (i := 5) sc_law.nd rfl (by first | exact .inl rfl | exact .inr rfl)))
        (pds_cons (pds_for hp rfl (pdi_list (pd_var (pv 3))) (pdg_name (pg_name (i := 6) sc_law.nd rfl (by first | exact .inl rfl | exact .inr rfl)))
          (pds_cons (pds_set (i := 8) sc_law.nd rfl (by first | exact .inl rfl | exact .inr rfl) (pd_call G_call (hr.mono (by omega)) (by rfl) T.dcall.g T.dcall.F.kp T.dcall.b (fun σ => L2N.passAt tk σ) (pda_cons pd_int (pda_cons (pd_var (pv 6)) (pda_cons pd_non (pda_cons pd_non pda_nil))))))
          (pds_one (pds_if (PDW.t (pdw_or (pdt_not (pdt_tru (pd_call G_same (hr.mono (by omega)) (by rfl) T.dsame.g T.dsame.F.kp T.dsame.b (fun σ => L2N.passAt tk σ) (pda_cons (pd_ix ix_seq ol_ix (pd_var (pv 8)) pd_int (fun _ _ => rfl)) (pda_cons pd_str pda_nil))))) (pdw_or1 (pdt_not (pdt_tru (pd_call G_is_root (hr.mono (by omega)) (by rfl) T.dis_root.g T.dis_root.F.kp T.dis_root.b (fun σ => L2N.passAt tk σ) (pda_cons (pd_var (pv 6)) (pda_cons (pd_ix ix_seq ol_ix (pd_var (pv 8)) pd_int (fun _ _ => rfl)) pda_nil))))))))
            (pds_one (pds_ret pd_bl))
            pds_nil))))
        (pds_one (pds_for hp rfl (pdi_list (pd_var (pv 4))) (pdg_name (pg_name (i := 7) sc_law.nd rfl (by first | exact .inl rfl | exact .inr rfl)))
          (pds_cons (pds_set (i := 9) sc_law.nd rfl (by first | exact .inl rfl | exact .inr rfl) (pd_call G_sign_call_due (hr.mono (by omega)) (by rfl) T.dsign_call_due.g T.dsign_call_due.F.kp T.dsign_call_due.b (fun σ => L2N.passAt tk σ) (pda_cons (pd_ix ix_seq ol_ix (pd_var (pv 7)) pd_int (fun _ _ => rfl)) (pda_cons (pd_ix ix_seq ol_ix (pd_var (pv 7)) pd_int (fun _ _ => rfl)) (pda_cons (pd_ix ix_seq ol_ix (pd_var (pv 7)) pd_int (fun _ _ => rfl)) pda_nil)))))
          (pds_one (pds_if (pdt_not (pdt_tru (pd_call G_same (hr.mono (by omega)) (by rfl) T.dsame.g T.dsame.F.kp T.dsame.b (fun σ => L2N.passAt tk σ) (pda_cons (pd_call G_call (hr.mono (by omega)) (by rfl) T.dcall.g T.dcall.F.kp T.dcall.b (fun σ => L2N.passAt tk σ) (pda_cons pd_int (pda_cons (pd_ix ix_seq ol_ix (pd_var (pv 7)) pd_int (fun _ _ => rfl)) (pda_cons (pd_ix ix_seq ol_ix (pd_var (pv 7)) pd_int (fun _ _ => rfl)) (pda_cons (pd_ix ix_seq ol_ix (pd_var (pv 7)) pd_int (fun _ _ => rfl)) pda_nil))))) (pda_cons (pd_var (pv 9)) pda_nil)))))
            (pds_one (pds_ret pd_bl))
            pds_nil)))))))
      (pds_cons (pds_for hp rfl (pdi_list (pd_new (pdn_head (k := 3) (pd_var (pv 4))))) (pdg_name (pg_name (i := 7) sc_law.nd rfl (by first | exact .inl rfl | exact .inr rfl)))
        (pds_one (pds_if (pdt_cmp op_ge ol_ge (pd_ix ix_seq ol_ix (pd_ix ix_seq ol_ix (pd_var (pv 7)) pd_int (fun _ _ => rfl)) pd_int (fun _ _ => rfl)) pd_int (nomark _))
          (pds_cons (pds_set (i := 8) sc_law.nd rfl (by first | exact .inl rfl | exact .inr rfl) (pd_call G_root_sign (hr.mono (by omega)) (by rfl) T.droot_sign.g T.droot_sign.F.kp T.droot_sign.b (fun σ => L2N.passAt tk σ) (pda_cons (pd_call G_neg (hr.mono (by omega)) (by rfl) T.dneg.g T.dneg.F.kp T.dneg.b (fun σ => L2N.passAt tk σ) (pda_cons (pd_ix ix_seq ol_ix (pd_var (pv 7)) pd_int (fun _ _ => rfl)) pda_nil)) (pda_cons (pd_call G_neg (hr.mono (by omega)) (by rfl) T.dneg.g T.dneg.F.kp T.dneg.b (fun σ => L2N.passAt tk σ) (pda_cons (pd_ix ix_seq ol_ix (pd_var (pv 7)) pd_int (fun _ _ => rfl)) pda_nil)) (pda_cons (pd_ix ix_seq ol_ix (pd_var (pv 7)) pd_int (fun _ _ => rfl)) pda_nil)))))
          (pds_one (pds_if (pdt_not (pdt_tru (pd_call G_same (hr.mono (by omega)) (by rfl) T.dsame.g T.dsame.F.kp T.dsame.b (fun σ => L2N.passAt tk σ) (pda_cons (pd_var (pv 8)) (pda_cons (pd_neg (pd_call G_sign_due (hr.mono (by omega)) (by rfl) T.dsign_due.g T.dsign_due.F.kp T.dsign_due.b (fun σ => L2N.passAt tk σ) (pda_cons (pd_ix ix_seq ol_ix (pd_var (pv 7)) pd_int (fun _ _ => rfl)) (pda_cons (pd_ix ix_seq ol_ix (pd_var (pv 7)) pd_int (fun _ _ => rfl)) (pda_cons (pd_ix ix_seq ol_ix (pd_var (pv 7)) pd_int (fun _ _ => rfl)) pda_nil))))) pda_nil)))))
            (pds_one (pds_ret pd_bl))
            pds_nil)))
          pds_nil)))
      (pds_cons (pds_set (i := 10) sc_law.nd rfl (by first | exact .inl rfl | exact .inr rfl) (pd_call G_not_ratio (hr.mono (by omega)) (by rfl) T.dnot_ratio.g T.dnot_ratio.F.kp T.dnot_ratio.b (fun σ => L2N.passAt tk σ) (pda_cons (pd_var (pv 1)) (pda_cons pd_bl pda_nil))))
      (pds_one (pds_ret (pd_and (pd_call G_same (hr.mono (by omega)) (by rfl) T.dsame.g T.dsame.F.kp T.dsame.b (fun σ => L2N.passAt tk σ) (pda_cons (pd_call G_call (hr.mono (by omega)) (by rfl) T.dcall.g T.dcall.F.kp T.dcall.b (fun σ => L2N.passAt tk σ) (pda_cons pd_int (pda_cons (pd_var (pv 10)) (pda_cons pd_non (pda_cons pd_non pda_nil))))) (pda_cons (pd_tup (pda_cons pd_str (pda_cons pd_str pda_nil))) pda_nil))) (pd_one (pd_call G_errors_right (hr.mono (by omega)) (by rfl) T.derrors_right.g T.derrors_right.F.kp T.derrors_right.b (fun σ => L2N.passAt tk σ) (pda_cons (pd_var (pv 1)) pda_nil)))))))))))))))))), fun ns hns => ?_⟩
  refine ⟨trivial, (by show 1 < 12; decide), ns, rfl, hns, ?_⟩
  show sSeq _ _ lawEnds (lL .no .no .no .no .no .no .no .no .no .no)
  refine seq_mid (P := fun ρ => ∃ n : Nat, 4 ≤ n ∧ n ≤ 440 ∧ ρ = lL (.fr (.int n)) .no .no .no .no .no .no .no .no .no) (fun R hR => ?_) ?_
  · walk_at "wk"
    refine ⟨by decide, by decide, fun r r0 r1 => ddIx_any (l := [.int 4, .int 4, .int 20, .int 20, .int 120]) r0 (by show r < 5; omega) fun d hd => ?_⟩
    simp only [List.mem_cons, List.not_mem_nil, or_false] at hd
    rcases hd with rfl | rfl | rfl | rfl | rfl
    · exact hR _ ⟨4, by decide, by decide, rfl⟩
    · exact hR _ ⟨4, by decide, by decide, rfl⟩
    · exact hR _ ⟨20, by decide, by decide, rfl⟩
    · exact hR _ ⟨20, by decide, by decide, rfl⟩
    · exact hR _ ⟨120, by decide, by decide, rfl⟩
  rintro _ ⟨n0, a1, a2, rfl⟩
  refine seq_mid (P := fun ρ => ∃ n : Nat, 4 ≤ n ∧ n ≤ 440 ∧ ρ = lL (.fr (.int n)) .no .no .no .no .no .no .no .no .no) (fun R hR => ?_) ?_
  · walk_at "wk"
    refine ⟨by decide, fun r r0 r1 => ?_⟩
    walk_at "wk"
    by_cases z : r = 1
    · simp only [decide_eq_true z, if_true]
      exact hR _ ⟨440, by decide, by decide, rfl⟩
    · simp only [decide_eq_false z, Bool.false_eq_true, if_false]
      exact hR _ ⟨n0, a1, a2, rfl⟩
  rintro _ ⟨n, n1, n2, rfl⟩
  have en : ((n : Int)).toNat = n := by omega
  refine seq_mid (P := fun ρ => ∃ sq, (∀ d ∈ sq, RatN 881 d) ∧ ρ = lL (.fr (.int n)) (.ow sq) .no .no .no .no .no .no .no .no) (fun R hR => ?_) ?_
  · walk_at "wk"
    refine ⟨by decide, by decide, compL_any (RatN 881) _ _ (fun d hd R q => ?_) (by rw [rangeD_len, sizeLine_eq]; decide) fun l e pl => hR _ ⟨l, pl, rfl⟩⟩
    simp only [List.map_cons, List.map_nil, wipeD]
    walk_at "wk"
    exact ⟨by omega, by omega, fun d hd => q _ (hd.up (by omega))⟩
  rintro _ ⟨sq, hsq, rfl⟩
  refine frz_at (l := sq) rfl ?_
  show sSeq _ _ lawEnds (lL (.fr (.int n)) (.fr (.lst sq)) .no .no .no .no .no .no .no .no)
  refine seq_mid (P := fun ρ => ∃ tr, tr.length = 3 ∧ (∀ d ∈ tr, Tr d) ∧ ρ = lL (.fr (.int n)) (.fr (.lst sq)) (.ow tr) .no .no .no .no .no .no .no) (fun R hR => ?_) ?_
  · walk_at "wk"
    refine ⟨by decide, by decide, compL_any Tr _ _ (fun d hd R q => ?_) (by rw [rangeD_len, sizeLine_eq]; decide) fun l e pl => hR _ ⟨l, by rw [e, rangeD_len]; rfl, pl, rfl⟩⟩
    simp only [List.map_cons, List.map_nil, wipeD]
    walk_at "wk"
    exact ⟨by omega, by omega, fun x y z hx hy hz => q _ ⟨x, y, z, rfl, hx, hy, hz⟩⟩
  rintro _ ⟨tr, ltr, htr, rfl⟩
  refine seq_mid (P := fun ρ => ∃ b, TrS b ∧ ρ = lL (.fr (.int n)) (.fr (.lst sq)) (.ow (tr ++ [b])) .no .no .no .no .no .no .no) (fun R hR => ?_) ?_
  · match tr, ltr, htr with
    | [t1, t2, t3], _, htr =>
      obtain ⟨x, y, z, rfl, hx, hy, hz⟩ := htr t1 (by simp)
      walk_at "wk"
      simp only [exI0]
      refine ⟨hx.szr (by decide), hy.szr (by decide), hz.szr (by decide), fun x y z hx hy hz => ⟨by show 3 < sizeLine; decide, hR _ ⟨.lst [x, y, z], ⟨x, y, z, rfl, hx, hy, hz⟩, rfl⟩⟩⟩
  rintro _ ⟨b, hb, rfl⟩
  have hall : ∀ d ∈ tr ++ [b], TrS d := fun d hd => by
    rcases List.mem_append.mp hd with hd | hd
    · exact (htr d hd).s
    · rw [List.mem_singleton.mp hd]
      exact hb
  have htk : (tr ++ [b]).take 3 = tr := by rw [← ltr]; exact List.take_left
  generalize tr ++ [b] = trb at *
  refine frz_at (l := trb) rfl ?_
  show sSeq _ _ lawEnds (lL (.fr (.int n)) (.fr (.lst sq)) (.fr (.lst trb)) .no .no .no .no .no .no .no)
  refine seq_mid (P := fun ρ => ∃ ag on th to du, ρ = lL (.fr (.int n)) (.fr (.lst sq)) (.fr (.lst trb)) ag on th to du .no .no) (fun R hR => ?_) ?_
  · walk_at "wk"
    refine ⟨by decide, by decide, ?_⟩
    refine forL_inv (P := fun i ρ => ∃ ag on th to du, ρ = lL (.fr (.int n)) (.fr (.lst sq)) (.fr (.lst trb)) ag on th to du .no .no) _ _ 0 ?_ ?_ ⟨.no, .no, .no, .no, .no, rfl⟩
    · rintro i d ρ R' hi ⟨ag, on, th, to, du, rfl⟩ hR'
      refine seq_mid (P := fun ρ => ∃ ag on th to du, ρ = lL (.fr (.int n)) (.fr (.lst sq)) (.fr (.lst trb)) ag on th to du .no .no) (fun R hR => ?_) ?_
      · walk_at "wk"
        refine forL_inv (P := fun i ρ => ∃ ag on th to du, ρ = lL (.fr (.int n)) (.fr (.lst sq)) (.fr (.lst trb)) ag on th to du .no .no) _ _ 0 ?_ ?_ ⟨_, _, _, _, _, rfl⟩
        · rintro i d ρ R' hi ⟨ag, on, th, to, du, rfl⟩ hR'
          obtain ⟨a, b', rfl, r, da, db⟩ := hsq d (List.mem_of_getElem? hi)
          have rq := RatN.szr (n := 881) ⟨a, b', rfl, r, da, db⟩ (by decide)
          walk_at "wk"
          refine .inl ⟨rfl, rq.up (by decide), ?_⟩
          have e : rcD (ratD a b') = .tup [.str "told", rootD a b'] := by
            unfold rcD
            rw [if_neg (by rw [r]; decide)]
            rfl
          rw [e]
          walk_at "wk"
          refine ⟨by simp [TreeD], by simp [TreeD], fun b hb => ?_⟩
          rw [hb.mpr rfl]
          simp only [ratD]
          walk_at "wk"
          refine ⟨da.up (by decide), db.up (by decide), r, rfl, ?_⟩
          walk_at "wk"
          exact hR' _ ⟨_, _, _, _, _, rfl⟩
        · rintro ρ ⟨ag, on, th, to, du, rfl⟩
          exact hR _ ⟨_, _, _, _, _, rfl⟩
      rintro _ ⟨ag, on, th, to, du, rfl⟩
      walk_at "wk"
      refine forL_inv (P := fun i ρ => ∃ ag on th to du, ρ = lL (.fr (.int n)) (.fr (.lst sq)) (.fr (.lst trb)) ag on th to du .no .no) _ _ 0 ?_ ?_ ⟨_, _, _, _, _, rfl⟩
      · rintro i d ρ R' hi ⟨ag, on, th, to, du, rfl⟩ hR'
        obtain ⟨x, y, z, rfl, hx, hy, hz⟩ := hall d (List.mem_of_getElem? hi)
        walk_at "wk"
        refine ⟨hx, hy, hz, ?_⟩
        walk_at "wk"
        refine .inr ⟨rfl, hx, hy, hz, ?_⟩
        have t := tree_rs x y z hx hy hz
        refine ⟨t, t, fun b hb => ?_⟩
        rw [hb.mpr rfl]
        walk_at "wk"
        exact hR' _ ⟨_, _, _, _, _, rfl⟩
      · rintro ρ ⟨ag, on, th, to, du, rfl⟩
        exact hR' _ ⟨_, _, _, _, _, rfl⟩
    · rintro ρ ⟨ag, on, th, to, du, rfl⟩
      exact hR _ ⟨_, _, _, _, _, rfl⟩
  rintro _ ⟨ag, on, th, to, du, rfl⟩
  refine seq_mid (P := fun ρ => ∃ th to, ρ = lL (.fr (.int n)) (.fr (.lst sq)) (.fr (.lst trb)) ag on th to du .no .no) (fun R hR => ?_) ?_
  · walk_at "wk"
    simp only [nHead]
    walk_at "wk"
    rw [htk]
    refine forL_inv (P := fun i ρ => ∃ th to, ρ = lL (.fr (.int n)) (.fr (.lst sq)) (.fr (.lst trb)) ag on th to du .no .no) _ _ 0 ?_ ?_ ⟨_, _, rfl⟩
    · rintro i d ρ R' hi ⟨th, to, rfl⟩ hR'
      obtain ⟨_, _, _, rfl, ⟨p1, p2, rfl, rp, d1, d2⟩, ⟨f1, f2, rfl, rf, d3, d4⟩, ⟨u1, u2, rfl, ru, d5, d6⟩⟩ := htr d (List.mem_of_getElem? hi)
      obtain ⟨_, _, e, p21, _⟩ := rat_shape rp
      cases e
      obtain ⟨_, _, e, f21, _⟩ := rat_shape rf
      cases e
      obtain ⟨_, _, e, u21, _⟩ := rat_shape ru
      cases e
      simp only [ratD]
      walk_at "wk"
      by_cases c : 0 ≤ u1
      · rw [if_pos (decide_eq_true c)]
        simp only [m_lneg]
        walk_at "wk"
        refine ⟨RatN.szr (n := 881) ⟨_, _, rfl, neg_rat rp, d1.neg, d2⟩ (by decide) |>.up (by decide), RatN.szr (n := 440) ⟨_, _, rfl, neg_rat rf, d3.neg, d4⟩ (by decide) |>.up (by decide), RatN.szr (n := 881) ⟨_, _, rfl, ru, d5, d6⟩ (by decide) |>.up (by decide), fun e => (by rw [neg_rat rp] at e; cases e), fun _ e => (by rw [neg_rat rf] at e; cases e), fun _ _ e => (by have := ru; unfold ratD at this; rw [this] at e; cases e), fun a1 a2 a3 a4 a5 a6 e1 e2 e3 _ _ _ => ?_⟩
        cases e1
        cases e2
        cases e3
        refine ⟨fun z => absurd z (by omega), fun _ => ?_⟩
        walk_at "wk"
        refine ⟨d1, d2, d3, d4, d5, d6, ?_⟩
        rw [due_eq p21 f21 c u21, rsF_opp]
        walk_at "wk"
        refine ⟨by simp [TreeD], by simp [TreeD], fun b hb => ?_⟩
        rw [hb.mpr rfl]
        walk_at "wk"
        exact hR' _ ⟨_, _, rfl⟩
      · rw [if_neg (by rw [decide_eq_true_iff]; exact c)]
        exact hR' _ ⟨_, _, rfl⟩
    · rintro ρ ⟨th, to, rfl⟩
      exact hR _ ⟨_, _, rfl⟩
  rintro _ ⟨th, to, rfl⟩
  refine seq_mid (P := fun ρ => ∃ d, NotR d ∧ ρ = lL (.fr (.int n)) (.fr (.lst sq)) (.fr (.lst trb)) ag on th to du (.fr d) .no) (fun R hR => ?_) ?_
  · walk_at "wk"
    exact fun d hd => hR _ ⟨d, hd, rfl⟩
  rintro _ ⟨d, hd, rfl⟩
  walk_at "wk"
  refine .inl ⟨rfl, hd.szr, ?_⟩
  have e : rcD d = wkD "one" := by
    unfold rcD
    rw [if_pos hd.2.2]
  rw [e]
  unfold wkD
  refine ⟨by simp [TreeD], by simp [TreeD], fun b hb => ?_⟩
  rw [hb.mpr rfl]
  walk_at "wk"
  rfl
end
end My
namespace My
open PySem PySem.Spec PyProof.Rows L2
/-! ### which class is below which -/
theorem cl_of {K : PySem.W.Frag} {C N : Addr} {nm q : Str} {bs bm : List Value} {sn : List Str} {sub : List Value} {ab : Bool} {col : Option Bool} {dd : Option Addr} {m0 m1 m2 m3 m5 : Option Value}
    (h : K.lookup C = some (excClassObj nm q C N bs bm true sn sub ab col dd m0 m1 m2 m3 m5 "ValueError.__new__")) : (PySem.W.clsIn K C).isSome = true := by
  unfold PySem.W.clsIn
  rw [h]
  rfl
theorem sub_of {K : PySem.W.Frag} {C N : Addr} {nm q : Str} {bs bm : List Value} {sn : List Str} {sub : List Value} {ab : Bool} {col : Option Bool} {dd : Option Addr} {m0 m1 m2 m3 m5 : Option Value}
    (h : K.lookup C = some (excClassObj nm q C N bs bm true sn sub ab col dd m0 m1 m2 m3 m5 "ValueError.__new__")) (t : Value) : PySem.W.subIn K (.ref C) t = some ((Value.ref C :: bm).contains t) := by
  show PySem.W.mroIn K C t = _
  unfold PySem.W.mroIn PySem.W.clsIn
  rw [h]
  rfl
def anc (i : Nat) : List Nat := if i = 0 then [0] else if i ≤ 7 then [i, 0] else [i, 7, 0]
theorem anc_sub : ∀ i : Fin 26, ∀ j : Fin 26, (anc i.val).contains j.val = subI i.val j.val := by decide +kernel
theorem anc_lt : ∀ i : Fin 26, ∀ a ∈ anc i.val, a < 26 := by decide +kernel
def mroL (L : List Addr) (i : Nat) : List Value := (anc i).map (fun a => Value.ref (L.getD a 0)) ++ PySem.HandSPX.veTail
theorem nodup_at {L : List Addr} (nd : L.Nodup) {i j : Nat} (hi : i < L.length) (hj : j < L.length) (e : L.getD i 0 = L.getD j 0) : i = j := by
  rw [List.getD_eq_getElem?_getD, List.getD_eq_getElem?_getD, List.getElem?_eq_getElem hi, List.getElem?_eq_getElem hj] at e
  have e : L[i] = L[j] := e
  rcases Nat.lt_trichotomy i j with h | h | h
  · exact absurd e (List.pairwise_iff_getElem.mp nd i j hi hj h)
  · exact h
  · exact absurd e.symm (List.pairwise_iff_getElem.mp nd j i hj hi h)
theorem mro_has {L : List Addr} (nd : L.Nodup) (hl : L.length = 26) {i j : Nat} (hi : i < 26) (hj : j < 26) : (mroL L i).contains (.ref (L.getD j 0)) = subI i j := by
  rw [← anc_sub ⟨i, hi⟩ ⟨j, hj⟩]
  rw [Bool.eq_iff_iff, List.contains_iff_mem, List.contains_iff_mem]
  unfold mroL
  rw [List.mem_append, List.mem_map]
  constructor
  · rintro (⟨a, ha, e⟩ | h)
    · have e : L.getD a 0 = L.getD j 0 := by injection e
      have := anc_lt ⟨i, hi⟩ a ha
      have z := nodup_at nd (by omega) (by omega) e
      subst z
      exact ha
    · simp [PySem.HandSPX.veTail] at h
  · intro h
    exact .inl ⟨j, h, rfl⟩
theorem mro_ve (L : List Addr) (i : Nat) : (mroL L i).contains (.type "ValueError") = true := by
  rw [List.contains_iff_mem]
  unfold mroL
  exact List.mem_append.mpr (.inr (by simp [PySem.HandSPX.veTail]))
theorem kcls_r {K : PySem.W.Frag} {C D : Addr} {v : Bool} (h1 : PySem.W.isClsIn K D = true) (h2 : PySem.W.typeIn K (.ref D) = some (.type "type")) (h : PySem.W.subIn K (.ref C) (.ref D) = some v) : PySem.W.kitCls K (.ref C) (.ref D) = some v := by
  unfold PySem.W.kitCls
  dsimp only
  rw [h2, show (PySem.W.clsIn K D).isSome = true from h1, h]
  rfl
section
variable {K : PySem.W.Frag} {L : List Addr} (nd : L.Nodup) (hl : L.length = 26) (F : ∀ i, i < 26 → ∀ t, PySem.W.subIn K (.ref (L.getD i 0)) t = some ((mroL L i).contains t))
include nd hl F
theorem kk_all (hc : ∀ i, i < 26 → PySem.W.isClsIn K (L.getD i 0) = true) (ht : ∀ i, i < 26 → PySem.W.typeIn K (.ref (L.getD i 0)) = some (.type "type")) (i j : Nat) (hi : i < 26) (hj : j < 26) :
    PySem.W.kitOne K (.ref (L.getD i 0)) (.ref (L.getD j 0)) = some (subI i j) := by
  have h := F i hi (.ref (L.getD j 0))
  rw [mro_has nd hl hi hj] at h
  unfold PySem.W.kitOne
  split
  · rename_i e
    have e : L.getD i 0 = L.getD j 0 := by
      have := beq_iff_eq.mp e
      injection this
    have e := nodup_at nd (by omega) (by omega) e
    subst e
    unfold subI
    simp
  · exact kcls_r (hc j hj) (ht j hj) h
theorem kv_all (i : Nat) (hi : i < 26) : PySem.W.kitOne K (.ref (L.getD i 0)) (.type "ValueError") = some true := by
  have h := F i hi (.type "ValueError")
  rw [mro_ve] at h
  unfold PySem.W.kitOne
  split
  · rfl
  · unfold PySem.W.kitCls
    dsimp only
    rw [show PySem.W.kitMeta "ValueError" = true from by kernel_rfl]
    exact h
end
theorem exm_t {K : PySem.W.Frag} {C D : Addr} (h0 : PySem.W.subIn K (.ref D) (.type "BaseException") = some true) (h1 : PySem.W.isClsIn K D = true) (h2 : PySem.W.typeIn K (.ref D) = some (.type "type")) (h : PySem.W.subIn K (.ref C) (.ref D) = some true) : PySem.W.exmOne K (.ref C) (.ref D) = some true := by
  unfold PySem.W.exmOne
  rw [h0]
  exact kcls_r h1 h2 h
end My
namespace My
open PySem PySem.Spec PyProof.Rows L2
theorem all_mk {l : PySem.W.OpenLaw} {w : World} {K : PySem.W.Frag} {h : Heap} {mg : Str → Option Value} {fa : Addr} (X : K.In h) (G : h.Ns mainGlobals mg) (hfa : mg "law" = some (.ref fa))
    {CFrameError CWrongKind COutOfBounds CRepeatedName CUnknownName CUnsafe CBadText CUnfitError CZeroDivisor CNegativeRoot CZeroBar CFlatMap CBadSteps CNotOneWay CNotHeld CNotFlat CNotCover CNotOwnStress CNotPicture CNotLift CNoReciprocal CNotMotion CNotAlike CNotCrank CNothingToUndo CNothingToRedo : Addr}
    {f_is_whole : Addr} {od_is_whole an_is_whole : Option Addr} {sl_is_whole : Array (Option Value)} {oc_is_whole kV_is_whole dc_is_whole pm_is_whole cd_is_whole ct_is_whole : Value}
    {f_divisor : Addr} {od_divisor an_divisor : Option Addr} {sl_divisor : Array (Option Value)} {oc_divisor kV_divisor dc_divisor pm_divisor cd_divisor ct_divisor : Value}
    {f_sign_of : Addr} {od_sign_of an_sign_of : Option Addr} {sl_sign_of : Array (Option Value)} {oc_sign_of kV_sign_of dc_sign_of pm_sign_of cd_sign_of ct_sign_of : Value}
    {f_floor_root : Addr} {od_floor_root an_floor_root : Option Addr} {sl_floor_root : Array (Option Value)} {oc_floor_root kV_floor_root dc_floor_root pm_floor_root cd_floor_root ct_floor_root : Value}
    {f_need_ratio : Addr} {od_need_ratio an_need_ratio : Option Addr} {sl_need_ratio : Array (Option Value)} {oc_need_ratio kV_need_ratio dc_need_ratio pm_need_ratio cd_need_ratio ct_need_ratio : Value}
    {f_is_ratio : Addr} {od_is_ratio an_is_ratio : Option Addr} {sl_is_ratio : Array (Option Value)} {oc_is_ratio kV_is_ratio dc_is_ratio pm_is_ratio cd_is_ratio ct_is_ratio : Value}
    {f_root : Addr} {od_root an_root : Option Addr} {sl_root : Array (Option Value)} {oc_root kV_root dc_root pm_root cd_root ct_root : Value}
    {f_root_sign : Addr} {od_root_sign an_root_sign : Option Addr} {sl_root_sign : Array (Option Value)} {oc_root_sign kV_root_sign dc_root_sign pm_root_sign cd_root_sign ct_root_sign : Value}
    {f_store : Addr} {od_store an_store : Option Addr} {sl_store : Array (Option Value)} {oc_store kV_store dc_store pm_store cd_store ct_store : Value}
    {f_take : Addr} {od_take an_take : Option Addr} {sl_take : Array (Option Value)} {oc_take kV_take dc_take pm_take cd_take ct_take : Value}
    {f_edge : Addr} {od_edge an_edge : Option Addr} {sl_edge : Array (Option Value)} {oc_edge kV_edge dc_edge pm_edge cd_edge ct_edge : Value}
    {f_between : Addr} {od_between an_between : Option Addr} {sl_between : Array (Option Value)} {oc_between kV_between dc_between pm_between cd_between ct_between : Value}
    {f_tens : Addr} {od_tens an_tens : Option Addr} {sl_tens : Array (Option Value)} {oc_tens kV_tens dc_tens pm_tens cd_tens ct_tens : Value}
    {f_integer : Addr} {od_integer an_integer : Option Addr} {sl_integer : Array (Option Value)} {oc_integer kV_integer dc_integer pm_integer cd_integer ct_integer : Value}
    {f_low : Addr} {od_low an_low : Option Addr} {sl_low : Array (Option Value)} {oc_low kV_low dc_low pm_low cd_low ct_low : Value}
    {f_times : Addr} {od_times an_times : Option Addr} {sl_times : Array (Option Value)} {oc_times kV_times dc_times pm_times cd_times ct_times : Value}
    {f_neg : Addr} {od_neg an_neg : Option Addr} {sl_neg : Array (Option Value)} {oc_neg kV_neg dc_neg pm_neg cd_neg ct_neg : Value}
    {f_small : Addr} {od_small an_small : Option Addr} {sl_small : Array (Option Value)} {oc_small kV_small dc_small pm_small cd_small ct_small : Value}
    {f_ratio : Addr} {od_ratio an_ratio : Option Addr} {sl_ratio : Array (Option Value)} {oc_ratio kV_ratio dc_ratio pm_ratio cd_ratio ct_ratio : Value}
    {f_not_ratio : Addr} {od_not_ratio an_not_ratio : Option Addr} {sl_not_ratio : Array (Option Value)} {oc_not_ratio kV_not_ratio dc_not_ratio pm_not_ratio cd_not_ratio ct_not_ratio : Value}
    {f_same : Addr} {od_same an_same : Option Addr} {sl_same : Array (Option Value)} {oc_same kV_same dc_same pm_same cd_same ct_same : Value}
    {f_is_int : Addr} {od_is_int an_is_int : Option Addr} {sl_is_int : Array (Option Value)} {oc_is_int kV_is_int dc_is_int pm_is_int cd_is_int ct_is_int : Value}
    {f_lis_ratio : Addr} {od_lis_ratio an_lis_ratio : Option Addr} {sl_lis_ratio : Array (Option Value)} {oc_lis_ratio kV_lis_ratio dc_lis_ratio pm_lis_ratio cd_lis_ratio ct_lis_ratio : Value}
    {f_refused : Addr} {od_refused an_refused : Option Addr} {sl_refused : Array (Option Value)} {oc_refused kV_refused dc_refused pm_refused cd_refused ct_refused : Value}
    {f_unfit : Addr} {od_unfit an_unfit : Option Addr} {sl_unfit : Array (Option Value)} {oc_unfit kV_unfit dc_unfit pm_unfit cd_unfit ct_unfit : Value}
    {f_lfloor_root : Addr} {od_lfloor_root an_lfloor_root : Option Addr} {sl_lfloor_root : Array (Option Value)} {oc_lfloor_root kV_lfloor_root dc_lfloor_root pm_lfloor_root cd_lfloor_root ct_lfloor_root : Value}
    {f_above : Addr} {od_above an_above : Option Addr} {sl_above : Array (Option Value)} {oc_above kV_above dc_above pm_above cd_above ct_above : Value}
    {f_sign_due : Addr} {od_sign_due an_sign_due : Option Addr} {sl_sign_due : Array (Option Value)} {oc_sign_due kV_sign_due dc_sign_due pm_sign_due cd_sign_due ct_sign_due : Value}
    {f_is_root : Addr} {od_is_root an_is_root : Option Addr} {sl_is_root : Array (Option Value)} {oc_is_root kV_is_root dc_is_root pm_is_root cd_is_root ct_is_root : Value}
    {f_squared : Addr} {od_squared an_squared : Option Addr} {sl_squared : Array (Option Value)} {oc_squared kV_squared dc_squared pm_squared cd_squared ct_squared : Value}
    {f_triple : Addr} {od_triple an_triple : Option Addr} {sl_triple : Array (Option Value)} {oc_triple kV_triple dc_triple pm_triple cd_triple ct_triple : Value}
    {f_call : Addr} {od_call an_call : Option Addr} {sl_call : Array (Option Value)} {oc_call kV_call dc_call pm_call cd_call ct_call : Value}
    {f_sign_call_due : Addr} {od_sign_call_due an_sign_call_due : Option Addr} {sl_sign_call_due : Array (Option Value)} {oc_sign_call_due kV_sign_call_due dc_sign_call_due pm_sign_call_due cd_sign_call_due ct_sign_call_due : Value}
    {f_bad_triple : Addr} {od_bad_triple an_bad_triple : Option Addr} {sl_bad_triple : Array (Option Value)} {oc_bad_triple kV_bad_triple dc_bad_triple pm_bad_triple cd_bad_triple ct_bad_triple : Value}
    {f_made : Addr} {od_made an_made : Option Addr} {sl_made : Array (Option Value)} {oc_made kV_made dc_made pm_made cd_made ct_made : Value}
    {f_left_out : Addr} {od_left_out an_left_out : Option Addr} {sl_left_out : Array (Option Value)} {oc_left_out kV_left_out dc_left_out pm_left_out cd_left_out ct_left_out : Value}
    {f_errors_right : Addr} {od_errors_right an_errors_right : Option Addr} {sl_errors_right : Array (Option Value)} {oc_errors_right kV_errors_right dc_errors_right pm_errors_right cd_errors_right ct_errors_right : Value}
    {f_law : Addr} {od_law an_law : Option Addr} {sl_law : Array (Option Value)} {oc_law kV_law dc_law pm_law cd_law ct_law : Value}
    {nmFrameError qnFrameError : Str} {NFrameError : Addr} {bsFrameError : List Value} {snFrameError : List Str} {subFrameError : List Value} {abFrameError : Bool} {colFrameError : Option Bool} {ddFrameError : Option Addr} {m0FrameError m1FrameError m2FrameError m3FrameError m5FrameError : Option Value}
    {nmWrongKind qnWrongKind : Str} {NWrongKind : Addr} {bsWrongKind : List Value} {snWrongKind : List Str} {subWrongKind : List Value} {abWrongKind : Bool} {colWrongKind : Option Bool} {ddWrongKind : Option Addr} {m0WrongKind m1WrongKind m2WrongKind m3WrongKind m5WrongKind : Option Value}
    {fiWrongKind : Addr} {odiWrongKind aniWrongKind : Option Addr} {sliWrongKind : Array (Option Value)} {ociWrongKind kViWrongKind dciWrongKind pmiWrongKind cdiWrongKind ctiWrongKind : Value}
    {nmOutOfBounds qnOutOfBounds : Str} {NOutOfBounds : Addr} {bsOutOfBounds : List Value} {snOutOfBounds : List Str} {subOutOfBounds : List Value} {abOutOfBounds : Bool} {colOutOfBounds : Option Bool} {ddOutOfBounds : Option Addr} {m0OutOfBounds m1OutOfBounds m2OutOfBounds m3OutOfBounds m5OutOfBounds : Option Value}
    {fiOutOfBounds : Addr} {odiOutOfBounds aniOutOfBounds : Option Addr} {sliOutOfBounds : Array (Option Value)} {ociOutOfBounds kViOutOfBounds dciOutOfBounds pmiOutOfBounds cdiOutOfBounds ctiOutOfBounds : Value}
    {nmRepeatedName qnRepeatedName : Str} {NRepeatedName : Addr} {bsRepeatedName : List Value} {snRepeatedName : List Str} {subRepeatedName : List Value} {abRepeatedName : Bool} {colRepeatedName : Option Bool} {ddRepeatedName : Option Addr} {m0RepeatedName m1RepeatedName m2RepeatedName m3RepeatedName m5RepeatedName : Option Value}
    {fiRepeatedName : Addr} {odiRepeatedName aniRepeatedName : Option Addr} {sliRepeatedName : Array (Option Value)} {ociRepeatedName kViRepeatedName dciRepeatedName pmiRepeatedName cdiRepeatedName ctiRepeatedName : Value}
    {nmUnknownName qnUnknownName : Str} {NUnknownName : Addr} {bsUnknownName : List Value} {snUnknownName : List Str} {subUnknownName : List Value} {abUnknownName : Bool} {colUnknownName : Option Bool} {ddUnknownName : Option Addr} {m0UnknownName m1UnknownName m2UnknownName m3UnknownName m5UnknownName : Option Value}
    {fiUnknownName : Addr} {odiUnknownName aniUnknownName : Option Addr} {sliUnknownName : Array (Option Value)} {ociUnknownName kViUnknownName dciUnknownName pmiUnknownName cdiUnknownName ctiUnknownName : Value}
    {nmUnsafe qnUnsafe : Str} {NUnsafe : Addr} {bsUnsafe : List Value} {snUnsafe : List Str} {subUnsafe : List Value} {abUnsafe : Bool} {colUnsafe : Option Bool} {ddUnsafe : Option Addr} {m0Unsafe m1Unsafe m2Unsafe m3Unsafe m5Unsafe : Option Value}
    {fiUnsafe : Addr} {odiUnsafe aniUnsafe : Option Addr} {sliUnsafe : Array (Option Value)} {ociUnsafe kViUnsafe dciUnsafe pmiUnsafe cdiUnsafe ctiUnsafe : Value}
    {nmBadText qnBadText : Str} {NBadText : Addr} {bsBadText : List Value} {snBadText : List Str} {subBadText : List Value} {abBadText : Bool} {colBadText : Option Bool} {ddBadText : Option Addr} {m0BadText m1BadText m2BadText m3BadText m5BadText : Option Value}
    {fiBadText : Addr} {odiBadText aniBadText : Option Addr} {sliBadText : Array (Option Value)} {ociBadText kViBadText dciBadText pmiBadText cdiBadText ctiBadText : Value}
    {nmUnfitError qnUnfitError : Str} {NUnfitError : Addr} {bsUnfitError : List Value} {snUnfitError : List Str} {subUnfitError : List Value} {abUnfitError : Bool} {colUnfitError : Option Bool} {ddUnfitError : Option Addr} {m0UnfitError m1UnfitError m2UnfitError m3UnfitError m5UnfitError : Option Value}
    {fiUnfitError : Addr} {odiUnfitError aniUnfitError : Option Addr} {sliUnfitError : Array (Option Value)} {ociUnfitError kViUnfitError dciUnfitError pmiUnfitError cdiUnfitError ctiUnfitError : Value}
    {TiUnfitError : Addr} {oTiUnfitError : Value} {dTiUnfitError : Option Addr} {nTiUnfitError : Nat} {sTiUnfitError : Array (Option Value)}
    {nmZeroDivisor qnZeroDivisor : Str} {NZeroDivisor : Addr} {bsZeroDivisor : List Value} {snZeroDivisor : List Str} {subZeroDivisor : List Value} {abZeroDivisor : Bool} {colZeroDivisor : Option Bool} {ddZeroDivisor : Option Addr} {m0ZeroDivisor m1ZeroDivisor m2ZeroDivisor m3ZeroDivisor m5ZeroDivisor : Option Value}
    {nmNegativeRoot qnNegativeRoot : Str} {NNegativeRoot : Addr} {bsNegativeRoot : List Value} {snNegativeRoot : List Str} {subNegativeRoot : List Value} {abNegativeRoot : Bool} {colNegativeRoot : Option Bool} {ddNegativeRoot : Option Addr} {m0NegativeRoot m1NegativeRoot m2NegativeRoot m3NegativeRoot m5NegativeRoot : Option Value}
    {nmZeroBar qnZeroBar : Str} {NZeroBar : Addr} {bsZeroBar : List Value} {snZeroBar : List Str} {subZeroBar : List Value} {abZeroBar : Bool} {colZeroBar : Option Bool} {ddZeroBar : Option Addr} {m0ZeroBar m1ZeroBar m2ZeroBar m3ZeroBar m5ZeroBar : Option Value}
    {nmFlatMap qnFlatMap : Str} {NFlatMap : Addr} {bsFlatMap : List Value} {snFlatMap : List Str} {subFlatMap : List Value} {abFlatMap : Bool} {colFlatMap : Option Bool} {ddFlatMap : Option Addr} {m0FlatMap m1FlatMap m2FlatMap m3FlatMap m5FlatMap : Option Value}
    {nmBadSteps qnBadSteps : Str} {NBadSteps : Addr} {bsBadSteps : List Value} {snBadSteps : List Str} {subBadSteps : List Value} {abBadSteps : Bool} {colBadSteps : Option Bool} {ddBadSteps : Option Addr} {m0BadSteps m1BadSteps m2BadSteps m3BadSteps m5BadSteps : Option Value}
    {nmNotOneWay qnNotOneWay : Str} {NNotOneWay : Addr} {bsNotOneWay : List Value} {snNotOneWay : List Str} {subNotOneWay : List Value} {abNotOneWay : Bool} {colNotOneWay : Option Bool} {ddNotOneWay : Option Addr} {m0NotOneWay m1NotOneWay m2NotOneWay m3NotOneWay m5NotOneWay : Option Value}
    {nmNotHeld qnNotHeld : Str} {NNotHeld : Addr} {bsNotHeld : List Value} {snNotHeld : List Str} {subNotHeld : List Value} {abNotHeld : Bool} {colNotHeld : Option Bool} {ddNotHeld : Option Addr} {m0NotHeld m1NotHeld m2NotHeld m3NotHeld m5NotHeld : Option Value}
    {nmNotFlat qnNotFlat : Str} {NNotFlat : Addr} {bsNotFlat : List Value} {snNotFlat : List Str} {subNotFlat : List Value} {abNotFlat : Bool} {colNotFlat : Option Bool} {ddNotFlat : Option Addr} {m0NotFlat m1NotFlat m2NotFlat m3NotFlat m5NotFlat : Option Value}
    {nmNotCover qnNotCover : Str} {NNotCover : Addr} {bsNotCover : List Value} {snNotCover : List Str} {subNotCover : List Value} {abNotCover : Bool} {colNotCover : Option Bool} {ddNotCover : Option Addr} {m0NotCover m1NotCover m2NotCover m3NotCover m5NotCover : Option Value}
    {nmNotOwnStress qnNotOwnStress : Str} {NNotOwnStress : Addr} {bsNotOwnStress : List Value} {snNotOwnStress : List Str} {subNotOwnStress : List Value} {abNotOwnStress : Bool} {colNotOwnStress : Option Bool} {ddNotOwnStress : Option Addr} {m0NotOwnStress m1NotOwnStress m2NotOwnStress m3NotOwnStress m5NotOwnStress : Option Value}
    {nmNotPicture qnNotPicture : Str} {NNotPicture : Addr} {bsNotPicture : List Value} {snNotPicture : List Str} {subNotPicture : List Value} {abNotPicture : Bool} {colNotPicture : Option Bool} {ddNotPicture : Option Addr} {m0NotPicture m1NotPicture m2NotPicture m3NotPicture m5NotPicture : Option Value}
    {nmNotLift qnNotLift : Str} {NNotLift : Addr} {bsNotLift : List Value} {snNotLift : List Str} {subNotLift : List Value} {abNotLift : Bool} {colNotLift : Option Bool} {ddNotLift : Option Addr} {m0NotLift m1NotLift m2NotLift m3NotLift m5NotLift : Option Value}
    {nmNoReciprocal qnNoReciprocal : Str} {NNoReciprocal : Addr} {bsNoReciprocal : List Value} {snNoReciprocal : List Str} {subNoReciprocal : List Value} {abNoReciprocal : Bool} {colNoReciprocal : Option Bool} {ddNoReciprocal : Option Addr} {m0NoReciprocal m1NoReciprocal m2NoReciprocal m3NoReciprocal m5NoReciprocal : Option Value}
    {nmNotMotion qnNotMotion : Str} {NNotMotion : Addr} {bsNotMotion : List Value} {snNotMotion : List Str} {subNotMotion : List Value} {abNotMotion : Bool} {colNotMotion : Option Bool} {ddNotMotion : Option Addr} {m0NotMotion m1NotMotion m2NotMotion m3NotMotion m5NotMotion : Option Value}
    {nmNotAlike qnNotAlike : Str} {NNotAlike : Addr} {bsNotAlike : List Value} {snNotAlike : List Str} {subNotAlike : List Value} {abNotAlike : Bool} {colNotAlike : Option Bool} {ddNotAlike : Option Addr} {m0NotAlike m1NotAlike m2NotAlike m3NotAlike m5NotAlike : Option Value}
    {nmNotCrank qnNotCrank : Str} {NNotCrank : Addr} {bsNotCrank : List Value} {snNotCrank : List Str} {subNotCrank : List Value} {abNotCrank : Bool} {colNotCrank : Option Bool} {ddNotCrank : Option Addr} {m0NotCrank m1NotCrank m2NotCrank m3NotCrank m5NotCrank : Option Value}
    {nmNothingToUndo qnNothingToUndo : Str} {NNothingToUndo : Addr} {bsNothingToUndo : List Value} {snNothingToUndo : List Str} {subNothingToUndo : List Value} {abNothingToUndo : Bool} {colNothingToUndo : Option Bool} {ddNothingToUndo : Option Addr} {m0NothingToUndo m1NothingToUndo m2NothingToUndo m3NothingToUndo m5NothingToUndo : Option Value}
    {nmNothingToRedo qnNothingToRedo : Str} {NNothingToRedo : Addr} {bsNothingToRedo : List Value} {snNothingToRedo : List Str} {subNothingToRedo : List Value} {abNothingToRedo : Bool} {colNothingToRedo : Option Bool} {ddNothingToRedo : Option Addr} {m0NothingToRedo m1NothingToRedo m2NothingToRedo m3NothingToRedo m5NothingToRedo : Option Value}
    (aFrameError : PySem.W.nsIn K mainGlobals "FrameError" = some (some (.ref CFrameError)))
    (aWrongKind : PySem.W.nsIn K mainGlobals "WrongKind" = some (some (.ref CWrongKind)))
    (aOutOfBounds : PySem.W.nsIn K mainGlobals "OutOfBounds" = some (some (.ref COutOfBounds)))
    (aRepeatedName : PySem.W.nsIn K mainGlobals "RepeatedName" = some (some (.ref CRepeatedName)))
    (aUnknownName : PySem.W.nsIn K mainGlobals "UnknownName" = some (some (.ref CUnknownName)))
    (aUnsafe : PySem.W.nsIn K mainGlobals "Unsafe" = some (some (.ref CUnsafe)))
    (aBadText : PySem.W.nsIn K mainGlobals "BadText" = some (some (.ref CBadText)))
    (aUnfitError : PySem.W.nsIn K mainGlobals "UnfitError" = some (some (.ref CUnfitError)))
    (aZeroDivisor : PySem.W.nsIn K mainGlobals "ZeroDivisor" = some (some (.ref CZeroDivisor)))
    (aNegativeRoot : PySem.W.nsIn K mainGlobals "NegativeRoot" = some (some (.ref CNegativeRoot)))
    (aZeroBar : PySem.W.nsIn K mainGlobals "ZeroBar" = some (some (.ref CZeroBar)))
    (aFlatMap : PySem.W.nsIn K mainGlobals "FlatMap" = some (some (.ref CFlatMap)))
    (aBadSteps : PySem.W.nsIn K mainGlobals "BadSteps" = some (some (.ref CBadSteps)))
    (aNotOneWay : PySem.W.nsIn K mainGlobals "NotOneWay" = some (some (.ref CNotOneWay)))
    (aNotHeld : PySem.W.nsIn K mainGlobals "NotHeld" = some (some (.ref CNotHeld)))
    (aNotFlat : PySem.W.nsIn K mainGlobals "NotFlat" = some (some (.ref CNotFlat)))
    (aNotCover : PySem.W.nsIn K mainGlobals "NotCover" = some (some (.ref CNotCover)))
    (aNotOwnStress : PySem.W.nsIn K mainGlobals "NotOwnStress" = some (some (.ref CNotOwnStress)))
    (aNotPicture : PySem.W.nsIn K mainGlobals "NotPicture" = some (some (.ref CNotPicture)))
    (aNotLift : PySem.W.nsIn K mainGlobals "NotLift" = some (some (.ref CNotLift)))
    (aNoReciprocal : PySem.W.nsIn K mainGlobals "NoReciprocal" = some (some (.ref CNoReciprocal)))
    (aNotMotion : PySem.W.nsIn K mainGlobals "NotMotion" = some (some (.ref CNotMotion)))
    (aNotAlike : PySem.W.nsIn K mainGlobals "NotAlike" = some (some (.ref CNotAlike)))
    (aNotCrank : PySem.W.nsIn K mainGlobals "NotCrank" = some (some (.ref CNotCrank)))
    (aNothingToUndo : PySem.W.nsIn K mainGlobals "NothingToUndo" = some (some (.ref CNothingToUndo)))
    (aNothingToRedo : PySem.W.nsIn K mainGlobals "NothingToRedo" = some (some (.ref CNothingToRedo)))
    (a_is_whole : PySem.W.nsIn K mainGlobals "is_whole" = some (some (.ref f_is_whole)))
    (l_is_whole : K.lookup f_is_whole = some ⟨oc_is_whole, od_is_whole, .func (PySem.W.fnOf "is_whole" "is_whole" (defArgs (topS 28)) (defBody (topS 28)) (defScope (topS 28)) .none kV_is_whole dc_is_whole pm_is_whole an_is_whole cd_is_whole ct_is_whole), sl_is_whole⟩)
    (c_is_whole : PySem.W.codeIn K cd_is_whole "is_whole" = true)
    (k_is_whole : PySem.W.keepIn K (.ref f_is_whole) = true)
    (a_divisor : PySem.W.nsIn K mainGlobals "divisor" = some (some (.ref f_divisor)))
    (l_divisor : K.lookup f_divisor = some ⟨oc_divisor, od_divisor, .func (PySem.W.fnOf "divisor" "divisor" (defArgs (topS 29)) (defBody (topS 29)) (defScope (topS 29)) .none kV_divisor dc_divisor pm_divisor an_divisor cd_divisor ct_divisor), sl_divisor⟩)
    (c_divisor : PySem.W.codeIn K cd_divisor "divisor" = true)
    (k_divisor : PySem.W.keepIn K (.ref f_divisor) = true)
    (a_sign_of : PySem.W.nsIn K mainGlobals "sign_of" = some (some (.ref f_sign_of)))
    (l_sign_of : K.lookup f_sign_of = some ⟨oc_sign_of, od_sign_of, .func (PySem.W.fnOf "sign_of" "sign_of" (defArgs (topS 30)) (defBody (topS 30)) (defScope (topS 30)) .none kV_sign_of dc_sign_of pm_sign_of an_sign_of cd_sign_of ct_sign_of), sl_sign_of⟩)
    (c_sign_of : PySem.W.codeIn K cd_sign_of "sign_of" = true)
    (k_sign_of : PySem.W.keepIn K (.ref f_sign_of) = true)
    (a_floor_root : PySem.W.nsIn K mainGlobals "floor_root" = some (some (.ref f_floor_root)))
    (l_floor_root : K.lookup f_floor_root = some ⟨oc_floor_root, od_floor_root, .func (PySem.W.fnOf "floor_root" "floor_root" (defArgs (topS 31)) (defBody (topS 31)) (defScope (topS 31)) .none kV_floor_root dc_floor_root pm_floor_root an_floor_root cd_floor_root ct_floor_root), sl_floor_root⟩)
    (c_floor_root : PySem.W.codeIn K cd_floor_root "floor_root" = true)
    (k_floor_root : PySem.W.keepIn K (.ref f_floor_root) = true)
    (a_need_ratio : PySem.W.nsIn K mainGlobals "need_ratio" = some (some (.ref f_need_ratio)))
    (l_need_ratio : K.lookup f_need_ratio = some ⟨oc_need_ratio, od_need_ratio, .func (PySem.W.fnOf "need_ratio" "need_ratio" (defArgs (topS 32)) (defBody (topS 32)) (defScope (topS 32)) .none kV_need_ratio dc_need_ratio pm_need_ratio an_need_ratio cd_need_ratio ct_need_ratio), sl_need_ratio⟩)
    (c_need_ratio : PySem.W.codeIn K cd_need_ratio "need_ratio" = true)
    (k_need_ratio : PySem.W.keepIn K (.ref f_need_ratio) = true)
    (a_is_ratio : PySem.W.nsIn K mainGlobals "is_ratio" = some (some (.ref f_is_ratio)))
    (l_is_ratio : K.lookup f_is_ratio = some ⟨oc_is_ratio, od_is_ratio, .func (PySem.W.fnOf "is_ratio" "is_ratio" (defArgs (topS 33)) (defBody (topS 33)) (defScope (topS 33)) .none kV_is_ratio dc_is_ratio pm_is_ratio an_is_ratio cd_is_ratio ct_is_ratio), sl_is_ratio⟩)
    (c_is_ratio : PySem.W.codeIn K cd_is_ratio "is_ratio" = true)
    (k_is_ratio : PySem.W.keepIn K (.ref f_is_ratio) = true)
    (a_root : PySem.W.nsIn K mainGlobals "root" = some (some (.ref f_root)))
    (l_root : K.lookup f_root = some ⟨oc_root, od_root, .func (PySem.W.fnOf "root" "root" (defArgs (topS 34)) (defBody (topS 34)) (defScope (topS 34)) .none kV_root dc_root pm_root an_root cd_root ct_root), sl_root⟩)
    (c_root : PySem.W.codeIn K cd_root "root" = true)
    (k_root : PySem.W.keepIn K (.ref f_root) = true)
    (a_root_sign : PySem.W.nsIn K mainGlobals "root_sign" = some (some (.ref f_root_sign)))
    (l_root_sign : K.lookup f_root_sign = some ⟨oc_root_sign, od_root_sign, .func (PySem.W.fnOf "root_sign" "root_sign" (defArgs (topS 35)) (defBody (topS 35)) (defScope (topS 35)) .none kV_root_sign dc_root_sign pm_root_sign an_root_sign cd_root_sign ct_root_sign), sl_root_sign⟩)
    (c_root_sign : PySem.W.codeIn K cd_root_sign "root_sign" = true)
    (k_root_sign : PySem.W.keepIn K (.ref f_root_sign) = true)
    (a_store : PySem.W.nsIn K mainGlobals "_law_store" = some (some (.ref f_store)))
    (l_store : K.lookup f_store = some ⟨oc_store, od_store, .func (PySem.W.fnOf "_law_store" "_law_store" (defArgs (topS 37)) (defBody (topS 37)) (defScope (topS 37)) .none kV_store dc_store pm_store an_store cd_store ct_store), sl_store⟩)
    (c_store : PySem.W.codeIn K cd_store "_law_store" = true)
    (k_store : PySem.W.keepIn K (.ref f_store) = true)
    (a_take : PySem.W.nsIn K mainGlobals "_law_take" = some (some (.ref f_take)))
    (l_take : K.lookup f_take = some ⟨oc_take, od_take, .func (PySem.W.fnOf "_law_take" "_law_take" (defArgs (topS 38)) (defBody (topS 38)) (defScope (topS 38)) .none kV_take dc_take pm_take an_take cd_take ct_take), sl_take⟩)
    (c_take : PySem.W.codeIn K cd_take "_law_take" = true)
    (k_take : PySem.W.keepIn K (.ref f_take) = true)
    (a_edge : PySem.W.nsIn K mainGlobals "_law_edge" = some (some (.ref f_edge)))
    (l_edge : K.lookup f_edge = some ⟨oc_edge, od_edge, .func (PySem.W.fnOf "_law_edge" "_law_edge" (defArgs (topS 39)) (defBody (topS 39)) (defScope (topS 39)) .none kV_edge dc_edge pm_edge an_edge cd_edge ct_edge), sl_edge⟩)
    (c_edge : PySem.W.codeIn K cd_edge "_law_edge" = true)
    (k_edge : PySem.W.keepIn K (.ref f_edge) = true)
    (a_between : PySem.W.nsIn K mainGlobals "_law_between" = some (some (.ref f_between)))
    (l_between : K.lookup f_between = some ⟨oc_between, od_between, .func (PySem.W.fnOf "_law_between" "_law_between" (defArgs (topS 40)) (defBody (topS 40)) (defScope (topS 40)) .none kV_between dc_between pm_between an_between cd_between ct_between), sl_between⟩)
    (c_between : PySem.W.codeIn K cd_between "_law_between" = true)
    (k_between : PySem.W.keepIn K (.ref f_between) = true)
    (a_tens : PySem.W.nsIn K mainGlobals "_law_tens" = some (some (.ref f_tens)))
    (l_tens : K.lookup f_tens = some ⟨oc_tens, od_tens, .func (PySem.W.fnOf "_law_tens" "_law_tens" (defArgs (topS 41)) (defBody (topS 41)) (defScope (topS 41)) .none kV_tens dc_tens pm_tens an_tens cd_tens ct_tens), sl_tens⟩)
    (c_tens : PySem.W.codeIn K cd_tens "_law_tens" = true)
    (k_tens : PySem.W.keepIn K (.ref f_tens) = true)
    (a_integer : PySem.W.nsIn K mainGlobals "_law_integer" = some (some (.ref f_integer)))
    (l_integer : K.lookup f_integer = some ⟨oc_integer, od_integer, .func (PySem.W.fnOf "_law_integer" "_law_integer" (defArgs (topS 42)) (defBody (topS 42)) (defScope (topS 42)) .none kV_integer dc_integer pm_integer an_integer cd_integer ct_integer), sl_integer⟩)
    (c_integer : PySem.W.codeIn K cd_integer "_law_integer" = true)
    (k_integer : PySem.W.keepIn K (.ref f_integer) = true)
    (a_low : PySem.W.nsIn K mainGlobals "_law_low" = some (some (.ref f_low)))
    (l_low : K.lookup f_low = some ⟨oc_low, od_low, .func (PySem.W.fnOf "_law_low" "_law_low" (defArgs (topS 43)) (defBody (topS 43)) (defScope (topS 43)) .none kV_low dc_low pm_low an_low cd_low ct_low), sl_low⟩)
    (c_low : PySem.W.codeIn K cd_low "_law_low" = true)
    (k_low : PySem.W.keepIn K (.ref f_low) = true)
    (a_times : PySem.W.nsIn K mainGlobals "_law_times" = some (some (.ref f_times)))
    (l_times : K.lookup f_times = some ⟨oc_times, od_times, .func (PySem.W.fnOf "_law_times" "_law_times" (defArgs (topS 44)) (defBody (topS 44)) (defScope (topS 44)) .none kV_times dc_times pm_times an_times cd_times ct_times), sl_times⟩)
    (c_times : PySem.W.codeIn K cd_times "_law_times" = true)
    (k_times : PySem.W.keepIn K (.ref f_times) = true)
    (a_neg : PySem.W.nsIn K mainGlobals "_law_neg" = some (some (.ref f_neg)))
    (l_neg : K.lookup f_neg = some ⟨oc_neg, od_neg, .func (PySem.W.fnOf "_law_neg" "_law_neg" (defArgs (topS 45)) (defBody (topS 45)) (defScope (topS 45)) .none kV_neg dc_neg pm_neg an_neg cd_neg ct_neg), sl_neg⟩)
    (c_neg : PySem.W.codeIn K cd_neg "_law_neg" = true)
    (k_neg : PySem.W.keepIn K (.ref f_neg) = true)
    (a_small : PySem.W.nsIn K mainGlobals "_law_small" = some (some (.ref f_small)))
    (l_small : K.lookup f_small = some ⟨oc_small, od_small, .func (PySem.W.fnOf "_law_small" "_law_small" (defArgs (topS 46)) (defBody (topS 46)) (defScope (topS 46)) .none kV_small dc_small pm_small an_small cd_small ct_small), sl_small⟩)
    (c_small : PySem.W.codeIn K cd_small "_law_small" = true)
    (k_small : PySem.W.keepIn K (.ref f_small) = true)
    (a_ratio : PySem.W.nsIn K mainGlobals "_law_ratio" = some (some (.ref f_ratio)))
    (l_ratio : K.lookup f_ratio = some ⟨oc_ratio, od_ratio, .func (PySem.W.fnOf "_law_ratio" "_law_ratio" (defArgs (topS 47)) (defBody (topS 47)) (defScope (topS 47)) .none kV_ratio dc_ratio pm_ratio an_ratio cd_ratio ct_ratio), sl_ratio⟩)
    (c_ratio : PySem.W.codeIn K cd_ratio "_law_ratio" = true)
    (k_ratio : PySem.W.keepIn K (.ref f_ratio) = true)
    (a_not_ratio : PySem.W.nsIn K mainGlobals "_law_not_ratio" = some (some (.ref f_not_ratio)))
    (l_not_ratio : K.lookup f_not_ratio = some ⟨oc_not_ratio, od_not_ratio, .func (PySem.W.fnOf "_law_not_ratio" "_law_not_ratio" (defArgs (topS 48)) (defBody (topS 48)) (defScope (topS 48)) .none kV_not_ratio dc_not_ratio pm_not_ratio an_not_ratio cd_not_ratio ct_not_ratio), sl_not_ratio⟩)
    (c_not_ratio : PySem.W.codeIn K cd_not_ratio "_law_not_ratio" = true)
    (k_not_ratio : PySem.W.keepIn K (.ref f_not_ratio) = true)
    (a_same : PySem.W.nsIn K mainGlobals "_law_same" = some (some (.ref f_same)))
    (l_same : K.lookup f_same = some ⟨oc_same, od_same, .func (PySem.W.fnOf "_law_same" "_law_same" (defArgs (topS 49)) (defBody (topS 49)) (defScope (topS 49)) .none kV_same dc_same pm_same an_same cd_same ct_same), sl_same⟩)
    (c_same : PySem.W.codeIn K cd_same "_law_same" = true)
    (k_same : PySem.W.keepIn K (.ref f_same) = true)
    (a_is_int : PySem.W.nsIn K mainGlobals "_law_is_int" = some (some (.ref f_is_int)))
    (l_is_int : K.lookup f_is_int = some ⟨oc_is_int, od_is_int, .func (PySem.W.fnOf "_law_is_int" "_law_is_int" (defArgs (topS 50)) (defBody (topS 50)) (defScope (topS 50)) .none kV_is_int dc_is_int pm_is_int an_is_int cd_is_int ct_is_int), sl_is_int⟩)
    (c_is_int : PySem.W.codeIn K cd_is_int "_law_is_int" = true)
    (k_is_int : PySem.W.keepIn K (.ref f_is_int) = true)
    (a_lis_ratio : PySem.W.nsIn K mainGlobals "_law_is_ratio" = some (some (.ref f_lis_ratio)))
    (l_lis_ratio : K.lookup f_lis_ratio = some ⟨oc_lis_ratio, od_lis_ratio, .func (PySem.W.fnOf "_law_is_ratio" "_law_is_ratio" (defArgs (topS 51)) (defBody (topS 51)) (defScope (topS 51)) .none kV_lis_ratio dc_lis_ratio pm_lis_ratio an_lis_ratio cd_lis_ratio ct_lis_ratio), sl_lis_ratio⟩)
    (c_lis_ratio : PySem.W.codeIn K cd_lis_ratio "_law_is_ratio" = true)
    (k_lis_ratio : PySem.W.keepIn K (.ref f_lis_ratio) = true)
    (a_refused : PySem.W.nsIn K mainGlobals "_law_refused" = some (some (.ref f_refused)))
    (l_refused : K.lookup f_refused = some ⟨oc_refused, od_refused, .func (PySem.W.fnOf "_law_refused" "_law_refused" (defArgs (topS 52)) (defBody (topS 52)) (defScope (topS 52)) .none kV_refused dc_refused pm_refused an_refused cd_refused ct_refused), sl_refused⟩)
    (c_refused : PySem.W.codeIn K cd_refused "_law_refused" = true)
    (k_refused : PySem.W.keepIn K (.ref f_refused) = true)
    (a_unfit : PySem.W.nsIn K mainGlobals "_law_unfit" = some (some (.ref f_unfit)))
    (l_unfit : K.lookup f_unfit = some ⟨oc_unfit, od_unfit, .func (PySem.W.fnOf "_law_unfit" "_law_unfit" (defArgs (topS 53)) (defBody (topS 53)) (defScope (topS 53)) .none kV_unfit dc_unfit pm_unfit an_unfit cd_unfit ct_unfit), sl_unfit⟩)
    (c_unfit : PySem.W.codeIn K cd_unfit "_law_unfit" = true)
    (k_unfit : PySem.W.keepIn K (.ref f_unfit) = true)
    (a_lfloor_root : PySem.W.nsIn K mainGlobals "_law_floor_root" = some (some (.ref f_lfloor_root)))
    (l_lfloor_root : K.lookup f_lfloor_root = some ⟨oc_lfloor_root, od_lfloor_root, .func (PySem.W.fnOf "_law_floor_root" "_law_floor_root" (defArgs (topS 54)) (defBody (topS 54)) (defScope (topS 54)) .none kV_lfloor_root dc_lfloor_root pm_lfloor_root an_lfloor_root cd_lfloor_root ct_lfloor_root), sl_lfloor_root⟩)
    (c_lfloor_root : PySem.W.codeIn K cd_lfloor_root "_law_floor_root" = true)
    (k_lfloor_root : PySem.W.keepIn K (.ref f_lfloor_root) = true)
    (a_above : PySem.W.nsIn K mainGlobals "_law_above" = some (some (.ref f_above)))
    (l_above : K.lookup f_above = some ⟨oc_above, od_above, .func (PySem.W.fnOf "_law_above" "_law_above" (defArgs (topS 55)) (defBody (topS 55)) (defScope (topS 55)) .none kV_above dc_above pm_above an_above cd_above ct_above), sl_above⟩)
    (c_above : PySem.W.codeIn K cd_above "_law_above" = true)
    (k_above : PySem.W.keepIn K (.ref f_above) = true)
    (a_sign_due : PySem.W.nsIn K mainGlobals "_law_sign_due" = some (some (.ref f_sign_due)))
    (l_sign_due : K.lookup f_sign_due = some ⟨oc_sign_due, od_sign_due, .func (PySem.W.fnOf "_law_sign_due" "_law_sign_due" (defArgs (topS 56)) (defBody (topS 56)) (defScope (topS 56)) .none kV_sign_due dc_sign_due pm_sign_due an_sign_due cd_sign_due ct_sign_due), sl_sign_due⟩)
    (c_sign_due : PySem.W.codeIn K cd_sign_due "_law_sign_due" = true)
    (k_sign_due : PySem.W.keepIn K (.ref f_sign_due) = true)
    (a_is_root : PySem.W.nsIn K mainGlobals "_law_is_root" = some (some (.ref f_is_root)))
    (l_is_root : K.lookup f_is_root = some ⟨oc_is_root, od_is_root, .func (PySem.W.fnOf "_law_is_root" "_law_is_root" (defArgs (topS 57)) (defBody (topS 57)) (defScope (topS 57)) .none kV_is_root dc_is_root pm_is_root an_is_root cd_is_root ct_is_root), sl_is_root⟩)
    (c_is_root : PySem.W.codeIn K cd_is_root "_law_is_root" = true)
    (k_is_root : PySem.W.keepIn K (.ref f_is_root) = true)
    (a_squared : PySem.W.nsIn K mainGlobals "_law_squared" = some (some (.ref f_squared)))
    (l_squared : K.lookup f_squared = some ⟨oc_squared, od_squared, .func (PySem.W.fnOf "_law_squared" "_law_squared" (defArgs (topS 58)) (defBody (topS 58)) (defScope (topS 58)) .none kV_squared dc_squared pm_squared an_squared cd_squared ct_squared), sl_squared⟩)
    (c_squared : PySem.W.codeIn K cd_squared "_law_squared" = true)
    (k_squared : PySem.W.keepIn K (.ref f_squared) = true)
    (a_triple : PySem.W.nsIn K mainGlobals "_law_triple" = some (some (.ref f_triple)))
    (l_triple : K.lookup f_triple = some ⟨oc_triple, od_triple, .func (PySem.W.fnOf "_law_triple" "_law_triple" (defArgs (topS 59)) (defBody (topS 59)) (defScope (topS 59)) .none kV_triple dc_triple pm_triple an_triple cd_triple ct_triple), sl_triple⟩)
    (c_triple : PySem.W.codeIn K cd_triple "_law_triple" = true)
    (k_triple : PySem.W.keepIn K (.ref f_triple) = true)
    (a_call : PySem.W.nsIn K mainGlobals "_law_call" = some (some (.ref f_call)))
    (l_call : K.lookup f_call = some ⟨oc_call, od_call, .func (PySem.W.fnOf "_law_call" "_law_call" (defArgs (topS 60)) (defBody (topS 60)) (defScope (topS 60)) .none kV_call dc_call pm_call an_call cd_call ct_call), sl_call⟩)
    (c_call : PySem.W.codeIn K cd_call "_law_call" = true)
    (k_call : PySem.W.keepIn K (.ref f_call) = true)
    (a_sign_call_due : PySem.W.nsIn K mainGlobals "_law_sign_call_due" = some (some (.ref f_sign_call_due)))
    (l_sign_call_due : K.lookup f_sign_call_due = some ⟨oc_sign_call_due, od_sign_call_due, .func (PySem.W.fnOf "_law_sign_call_due" "_law_sign_call_due" (defArgs (topS 61)) (defBody (topS 61)) (defScope (topS 61)) .none kV_sign_call_due dc_sign_call_due pm_sign_call_due an_sign_call_due cd_sign_call_due ct_sign_call_due), sl_sign_call_due⟩)
    (c_sign_call_due : PySem.W.codeIn K cd_sign_call_due "_law_sign_call_due" = true)
    (k_sign_call_due : PySem.W.keepIn K (.ref f_sign_call_due) = true)
    (a_bad_triple : PySem.W.nsIn K mainGlobals "_law_bad_triple" = some (some (.ref f_bad_triple)))
    (l_bad_triple : K.lookup f_bad_triple = some ⟨oc_bad_triple, od_bad_triple, .func (PySem.W.fnOf "_law_bad_triple" "_law_bad_triple" (defArgs (topS 62)) (defBody (topS 62)) (defScope (topS 62)) .none kV_bad_triple dc_bad_triple pm_bad_triple an_bad_triple cd_bad_triple ct_bad_triple), sl_bad_triple⟩)
    (c_bad_triple : PySem.W.codeIn K cd_bad_triple "_law_bad_triple" = true)
    (k_bad_triple : PySem.W.keepIn K (.ref f_bad_triple) = true)
    (a_made : PySem.W.nsIn K mainGlobals "_law_made" = some (some (.ref f_made)))
    (l_made : K.lookup f_made = some ⟨oc_made, od_made, .func (PySem.W.fnOf "_law_made" "_law_made" (defArgs (topS 63)) (defBody (topS 63)) (defScope (topS 63)) .none kV_made dc_made pm_made an_made cd_made ct_made), sl_made⟩)
    (c_made : PySem.W.codeIn K cd_made "_law_made" = true)
    (k_made : PySem.W.keepIn K (.ref f_made) = true)
    (a_left_out : PySem.W.nsIn K mainGlobals "_law_left_out" = some (some (.ref f_left_out)))
    (l_left_out : K.lookup f_left_out = some ⟨oc_left_out, od_left_out, .func (PySem.W.fnOf "_law_left_out" "_law_left_out" (defArgs (topS 64)) (defBody (topS 64)) (defScope (topS 64)) .none kV_left_out dc_left_out pm_left_out an_left_out cd_left_out ct_left_out), sl_left_out⟩)
    (c_left_out : PySem.W.codeIn K cd_left_out "_law_left_out" = true)
    (k_left_out : PySem.W.keepIn K (.ref f_left_out) = true)
    (a_errors_right : PySem.W.nsIn K mainGlobals "_law_errors_right" = some (some (.ref f_errors_right)))
    (l_errors_right : K.lookup f_errors_right = some ⟨oc_errors_right, od_errors_right, .func (PySem.W.fnOf "_law_errors_right" "_law_errors_right" (defArgs (topS 65)) (defBody (topS 65)) (defScope (topS 65)) .none kV_errors_right dc_errors_right pm_errors_right an_errors_right cd_errors_right ct_errors_right), sl_errors_right⟩)
    (c_errors_right : PySem.W.codeIn K cd_errors_right "_law_errors_right" = true)
    (k_errors_right : PySem.W.keepIn K (.ref f_errors_right) = true)
    (a_law : PySem.W.nsIn K mainGlobals "law" = some (some (.ref f_law)))
    (l_law : K.lookup f_law = some ⟨oc_law, od_law, .func (PySem.W.fnOf "law" "law" (defArgs (topS 66)) (defBody (topS 66)) (defScope (topS 66)) .none kV_law dc_law pm_law an_law cd_law ct_law), sl_law⟩)
    (c_law : PySem.W.codeIn K cd_law "law" = true)
    (k_law : PySem.W.keepIn K (.ref f_law) = true)
    (xLFrameError : K.lookup CFrameError = some (excClassObj nmFrameError qnFrameError CFrameError NFrameError bsFrameError [.type "ValueError", .type "Exception", .type "BaseException", .type "object"] true snFrameError subFrameError abFrameError colFrameError ddFrameError m0FrameError m1FrameError m2FrameError m3FrameError m5FrameError "ValueError.__new__"))
    (saFrameError : PySem.W.findIn K (.ref CFrameError) "__setattr__" = some (some (.builtin "object.__setattr__")))
    (exFrameError : PySem.W.subIn K (.ref CFrameError) (.type "BaseException") = some true)
    (tyFrameError : PySem.W.typeIn K (.ref CFrameError) = some (.type "type"))
    (isFrameError : PySem.W.isClsIn K CFrameError = true)
    (kcFrameError : PySem.W.keepIn K (.ref CFrameError) = true)
    (hgFrameError : PySem.W.findIn K (.ref CFrameError) "__getattribute__" = some (some (.builtin "BaseException.__getattribute__")))
    (hkFrameError : PySem.W.findIn K (.ref CFrameError) "__getattr__" = some none)
    (hdFrameError : PySem.W.hasDictIn K CFrameError = true)
    (haFrameError : PySem.W.findIn K (.ref CFrameError) "__class__" = some (some (.builtin "object.__class__")))
    (hmFrameError : PySem.W.mroIn K CFrameError (.type "object") = some true)
    (xLWrongKind : K.lookup CWrongKind = some (excClassObj nmWrongKind qnWrongKind CWrongKind NWrongKind bsWrongKind [.ref CFrameError, .type "ValueError", .type "Exception", .type "BaseException", .type "object"] true snWrongKind subWrongKind abWrongKind colWrongKind ddWrongKind m0WrongKind m1WrongKind m2WrongKind m3WrongKind m5WrongKind "ValueError.__new__"))
    (saWrongKind : PySem.W.findIn K (.ref CWrongKind) "__setattr__" = some (some (.builtin "object.__setattr__")))
    (exWrongKind : PySem.W.subIn K (.ref CWrongKind) (.type "BaseException") = some true)
    (tyWrongKind : PySem.W.typeIn K (.ref CWrongKind) = some (.type "type"))
    (isWrongKind : PySem.W.isClsIn K CWrongKind = true)
    (kcWrongKind : PySem.W.keepIn K (.ref CWrongKind) = true)
    (hgWrongKind : PySem.W.findIn K (.ref CWrongKind) "__getattribute__" = some (some (.builtin "BaseException.__getattribute__")))
    (hkWrongKind : PySem.W.findIn K (.ref CWrongKind) "__getattr__" = some none)
    (hdWrongKind : PySem.W.hasDictIn K CWrongKind = true)
    (haWrongKind : PySem.W.findIn K (.ref CWrongKind) "__class__" = some (some (.builtin "object.__class__")))
    (hmWrongKind : PySem.W.mroIn K CWrongKind (.type "object") = some true)
    (aiWrongKind : PySem.W.findIn K (.ref CWrongKind) "__init__" = some (some (.ref fiWrongKind)))
    (liWrongKind : K.lookup fiWrongKind = some ⟨ociWrongKind, odiWrongKind, .func (PySem.W.fnOf "__init__" "WrongKind.__init__" (defArgs (inClass (topS 2) 0)) (defBody (inClass (topS 2) 0)) (defScope (inClass (topS 2) 0)) .none kViWrongKind dciWrongKind pmiWrongKind aniWrongKind cdiWrongKind ctiWrongKind), sliWrongKind⟩)
    (ciWrongKind : PySem.W.codeIn K cdiWrongKind "WrongKind.__init__" = true)
    (kiWrongKind : PySem.W.keepIn K (.ref fiWrongKind) = true)
    (tiWrongKind : PySem.W.typeIn K (.ref fiWrongKind) = some (.type "function"))
    (nWrongKind_argument : PySem.W.findIn K (.ref CWrongKind) "argument" = some none)
    (xLOutOfBounds : K.lookup COutOfBounds = some (excClassObj nmOutOfBounds qnOutOfBounds COutOfBounds NOutOfBounds bsOutOfBounds [.ref CFrameError, .type "ValueError", .type "Exception", .type "BaseException", .type "object"] true snOutOfBounds subOutOfBounds abOutOfBounds colOutOfBounds ddOutOfBounds m0OutOfBounds m1OutOfBounds m2OutOfBounds m3OutOfBounds m5OutOfBounds "ValueError.__new__"))
    (saOutOfBounds : PySem.W.findIn K (.ref COutOfBounds) "__setattr__" = some (some (.builtin "object.__setattr__")))
    (exOutOfBounds : PySem.W.subIn K (.ref COutOfBounds) (.type "BaseException") = some true)
    (tyOutOfBounds : PySem.W.typeIn K (.ref COutOfBounds) = some (.type "type"))
    (isOutOfBounds : PySem.W.isClsIn K COutOfBounds = true)
    (kcOutOfBounds : PySem.W.keepIn K (.ref COutOfBounds) = true)
    (hgOutOfBounds : PySem.W.findIn K (.ref COutOfBounds) "__getattribute__" = some (some (.builtin "BaseException.__getattribute__")))
    (hkOutOfBounds : PySem.W.findIn K (.ref COutOfBounds) "__getattr__" = some none)
    (hdOutOfBounds : PySem.W.hasDictIn K COutOfBounds = true)
    (haOutOfBounds : PySem.W.findIn K (.ref COutOfBounds) "__class__" = some (some (.builtin "object.__class__")))
    (hmOutOfBounds : PySem.W.mroIn K COutOfBounds (.type "object") = some true)
    (aiOutOfBounds : PySem.W.findIn K (.ref COutOfBounds) "__init__" = some (some (.ref fiOutOfBounds)))
    (liOutOfBounds : K.lookup fiOutOfBounds = some ⟨ociOutOfBounds, odiOutOfBounds, .func (PySem.W.fnOf "__init__" "OutOfBounds.__init__" (defArgs (inClass (topS 3) 0)) (defBody (inClass (topS 3) 0)) (defScope (inClass (topS 3) 0)) .none kViOutOfBounds dciOutOfBounds pmiOutOfBounds aniOutOfBounds cdiOutOfBounds ctiOutOfBounds), sliOutOfBounds⟩)
    (ciOutOfBounds : PySem.W.codeIn K cdiOutOfBounds "OutOfBounds.__init__" = true)
    (kiOutOfBounds : PySem.W.keepIn K (.ref fiOutOfBounds) = true)
    (tiOutOfBounds : PySem.W.typeIn K (.ref fiOutOfBounds) = some (.type "function"))
    (nOutOfBounds_argument : PySem.W.findIn K (.ref COutOfBounds) "argument" = some none)
    (xLRepeatedName : K.lookup CRepeatedName = some (excClassObj nmRepeatedName qnRepeatedName CRepeatedName NRepeatedName bsRepeatedName [.ref CFrameError, .type "ValueError", .type "Exception", .type "BaseException", .type "object"] true snRepeatedName subRepeatedName abRepeatedName colRepeatedName ddRepeatedName m0RepeatedName m1RepeatedName m2RepeatedName m3RepeatedName m5RepeatedName "ValueError.__new__"))
    (saRepeatedName : PySem.W.findIn K (.ref CRepeatedName) "__setattr__" = some (some (.builtin "object.__setattr__")))
    (exRepeatedName : PySem.W.subIn K (.ref CRepeatedName) (.type "BaseException") = some true)
    (tyRepeatedName : PySem.W.typeIn K (.ref CRepeatedName) = some (.type "type"))
    (isRepeatedName : PySem.W.isClsIn K CRepeatedName = true)
    (kcRepeatedName : PySem.W.keepIn K (.ref CRepeatedName) = true)
    (hgRepeatedName : PySem.W.findIn K (.ref CRepeatedName) "__getattribute__" = some (some (.builtin "BaseException.__getattribute__")))
    (hkRepeatedName : PySem.W.findIn K (.ref CRepeatedName) "__getattr__" = some none)
    (hdRepeatedName : PySem.W.hasDictIn K CRepeatedName = true)
    (haRepeatedName : PySem.W.findIn K (.ref CRepeatedName) "__class__" = some (some (.builtin "object.__class__")))
    (hmRepeatedName : PySem.W.mroIn K CRepeatedName (.type "object") = some true)
    (aiRepeatedName : PySem.W.findIn K (.ref CRepeatedName) "__init__" = some (some (.ref fiRepeatedName)))
    (liRepeatedName : K.lookup fiRepeatedName = some ⟨ociRepeatedName, odiRepeatedName, .func (PySem.W.fnOf "__init__" "RepeatedName.__init__" (defArgs (inClass (topS 4) 0)) (defBody (inClass (topS 4) 0)) (defScope (inClass (topS 4) 0)) .none kViRepeatedName dciRepeatedName pmiRepeatedName aniRepeatedName cdiRepeatedName ctiRepeatedName), sliRepeatedName⟩)
    (ciRepeatedName : PySem.W.codeIn K cdiRepeatedName "RepeatedName.__init__" = true)
    (kiRepeatedName : PySem.W.keepIn K (.ref fiRepeatedName) = true)
    (tiRepeatedName : PySem.W.typeIn K (.ref fiRepeatedName) = some (.type "function"))
    (nRepeatedName_repeated : PySem.W.findIn K (.ref CRepeatedName) "repeated" = some none)
    (xLUnknownName : K.lookup CUnknownName = some (excClassObj nmUnknownName qnUnknownName CUnknownName NUnknownName bsUnknownName [.ref CFrameError, .type "ValueError", .type "Exception", .type "BaseException", .type "object"] true snUnknownName subUnknownName abUnknownName colUnknownName ddUnknownName m0UnknownName m1UnknownName m2UnknownName m3UnknownName m5UnknownName "ValueError.__new__"))
    (saUnknownName : PySem.W.findIn K (.ref CUnknownName) "__setattr__" = some (some (.builtin "object.__setattr__")))
    (exUnknownName : PySem.W.subIn K (.ref CUnknownName) (.type "BaseException") = some true)
    (tyUnknownName : PySem.W.typeIn K (.ref CUnknownName) = some (.type "type"))
    (isUnknownName : PySem.W.isClsIn K CUnknownName = true)
    (kcUnknownName : PySem.W.keepIn K (.ref CUnknownName) = true)
    (hgUnknownName : PySem.W.findIn K (.ref CUnknownName) "__getattribute__" = some (some (.builtin "BaseException.__getattribute__")))
    (hkUnknownName : PySem.W.findIn K (.ref CUnknownName) "__getattr__" = some none)
    (hdUnknownName : PySem.W.hasDictIn K CUnknownName = true)
    (haUnknownName : PySem.W.findIn K (.ref CUnknownName) "__class__" = some (some (.builtin "object.__class__")))
    (hmUnknownName : PySem.W.mroIn K CUnknownName (.type "object") = some true)
    (aiUnknownName : PySem.W.findIn K (.ref CUnknownName) "__init__" = some (some (.ref fiUnknownName)))
    (liUnknownName : K.lookup fiUnknownName = some ⟨ociUnknownName, odiUnknownName, .func (PySem.W.fnOf "__init__" "UnknownName.__init__" (defArgs (inClass (topS 5) 0)) (defBody (inClass (topS 5) 0)) (defScope (inClass (topS 5) 0)) .none kViUnknownName dciUnknownName pmiUnknownName aniUnknownName cdiUnknownName ctiUnknownName), sliUnknownName⟩)
    (ciUnknownName : PySem.W.codeIn K cdiUnknownName "UnknownName.__init__" = true)
    (kiUnknownName : PySem.W.keepIn K (.ref fiUnknownName) = true)
    (tiUnknownName : PySem.W.typeIn K (.ref fiUnknownName) = some (.type "function"))
    (nUnknownName_unknown : PySem.W.findIn K (.ref CUnknownName) "unknown" = some none)
    (xLUnsafe : K.lookup CUnsafe = some (excClassObj nmUnsafe qnUnsafe CUnsafe NUnsafe bsUnsafe [.ref CFrameError, .type "ValueError", .type "Exception", .type "BaseException", .type "object"] true snUnsafe subUnsafe abUnsafe colUnsafe ddUnsafe m0Unsafe m1Unsafe m2Unsafe m3Unsafe m5Unsafe "ValueError.__new__"))
    (saUnsafe : PySem.W.findIn K (.ref CUnsafe) "__setattr__" = some (some (.builtin "object.__setattr__")))
    (exUnsafe : PySem.W.subIn K (.ref CUnsafe) (.type "BaseException") = some true)
    (tyUnsafe : PySem.W.typeIn K (.ref CUnsafe) = some (.type "type"))
    (isUnsafe : PySem.W.isClsIn K CUnsafe = true)
    (kcUnsafe : PySem.W.keepIn K (.ref CUnsafe) = true)
    (hgUnsafe : PySem.W.findIn K (.ref CUnsafe) "__getattribute__" = some (some (.builtin "BaseException.__getattribute__")))
    (hkUnsafe : PySem.W.findIn K (.ref CUnsafe) "__getattr__" = some none)
    (hdUnsafe : PySem.W.hasDictIn K CUnsafe = true)
    (haUnsafe : PySem.W.findIn K (.ref CUnsafe) "__class__" = some (some (.builtin "object.__class__")))
    (hmUnsafe : PySem.W.mroIn K CUnsafe (.type "object") = some true)
    (aiUnsafe : PySem.W.findIn K (.ref CUnsafe) "__init__" = some (some (.ref fiUnsafe)))
    (liUnsafe : K.lookup fiUnsafe = some ⟨ociUnsafe, odiUnsafe, .func (PySem.W.fnOf "__init__" "Unsafe.__init__" (defArgs (inClass (topS 25) 0)) (defBody (inClass (topS 25) 0)) (defScope (inClass (topS 25) 0)) .none kViUnsafe dciUnsafe pmiUnsafe aniUnsafe cdiUnsafe ctiUnsafe), sliUnsafe⟩)
    (ciUnsafe : PySem.W.codeIn K cdiUnsafe "Unsafe.__init__" = true)
    (kiUnsafe : PySem.W.keepIn K (.ref fiUnsafe) = true)
    (tiUnsafe : PySem.W.typeIn K (.ref fiUnsafe) = some (.type "function"))
    (nUnsafe_velocities : PySem.W.findIn K (.ref CUnsafe) "velocities" = some none)
    (xLBadText : K.lookup CBadText = some (excClassObj nmBadText qnBadText CBadText NBadText bsBadText [.ref CFrameError, .type "ValueError", .type "Exception", .type "BaseException", .type "object"] true snBadText subBadText abBadText colBadText ddBadText m0BadText m1BadText m2BadText m3BadText m5BadText "ValueError.__new__"))
    (saBadText : PySem.W.findIn K (.ref CBadText) "__setattr__" = some (some (.builtin "object.__setattr__")))
    (exBadText : PySem.W.subIn K (.ref CBadText) (.type "BaseException") = some true)
    (tyBadText : PySem.W.typeIn K (.ref CBadText) = some (.type "type"))
    (isBadText : PySem.W.isClsIn K CBadText = true)
    (kcBadText : PySem.W.keepIn K (.ref CBadText) = true)
    (hgBadText : PySem.W.findIn K (.ref CBadText) "__getattribute__" = some (some (.builtin "BaseException.__getattribute__")))
    (hkBadText : PySem.W.findIn K (.ref CBadText) "__getattr__" = some none)
    (hdBadText : PySem.W.hasDictIn K CBadText = true)
    (haBadText : PySem.W.findIn K (.ref CBadText) "__class__" = some (some (.builtin "object.__class__")))
    (hmBadText : PySem.W.mroIn K CBadText (.type "object") = some true)
    (aiBadText : PySem.W.findIn K (.ref CBadText) "__init__" = some (some (.ref fiBadText)))
    (liBadText : K.lookup fiBadText = some ⟨ociBadText, odiBadText, .func (PySem.W.fnOf "__init__" "BadText.__init__" (defArgs (inClass (topS 26) 0)) (defBody (inClass (topS 26) 0)) (defScope (inClass (topS 26) 0)) .none kViBadText dciBadText pmiBadText aniBadText cdiBadText ctiBadText), sliBadText⟩)
    (ciBadText : PySem.W.codeIn K cdiBadText "BadText.__init__" = true)
    (kiBadText : PySem.W.keepIn K (.ref fiBadText) = true)
    (tiBadText : PySem.W.typeIn K (.ref fiBadText) = some (.type "function"))
    (nBadText_line : PySem.W.findIn K (.ref CBadText) "line" = some none)
    (nBadText_column : PySem.W.findIn K (.ref CBadText) "column" = some none)
    (nBadText_fault : PySem.W.findIn K (.ref CBadText) "fault" = some none)
    (xLUnfitError : K.lookup CUnfitError = some (excClassObj nmUnfitError qnUnfitError CUnfitError NUnfitError bsUnfitError [.ref CFrameError, .type "ValueError", .type "Exception", .type "BaseException", .type "object"] true snUnfitError subUnfitError abUnfitError colUnfitError ddUnfitError m0UnfitError m1UnfitError m2UnfitError m3UnfitError m5UnfitError "ValueError.__new__"))
    (saUnfitError : PySem.W.findIn K (.ref CUnfitError) "__setattr__" = some (some (.builtin "object.__setattr__")))
    (exUnfitError : PySem.W.subIn K (.ref CUnfitError) (.type "BaseException") = some true)
    (tyUnfitError : PySem.W.typeIn K (.ref CUnfitError) = some (.type "type"))
    (isUnfitError : PySem.W.isClsIn K CUnfitError = true)
    (kcUnfitError : PySem.W.keepIn K (.ref CUnfitError) = true)
    (hgUnfitError : PySem.W.findIn K (.ref CUnfitError) "__getattribute__" = some (some (.builtin "BaseException.__getattribute__")))
    (hkUnfitError : PySem.W.findIn K (.ref CUnfitError) "__getattr__" = some none)
    (hdUnfitError : PySem.W.hasDictIn K CUnfitError = true)
    (haUnfitError : PySem.W.findIn K (.ref CUnfitError) "__class__" = some (some (.builtin "object.__class__")))
    (hmUnfitError : PySem.W.mroIn K CUnfitError (.type "object") = some true)
    (aiUnfitError : PySem.W.findIn K (.ref CUnfitError) "__init__" = some (some (.ref fiUnfitError)))
    (liUnfitError : K.lookup fiUnfitError = some ⟨ociUnfitError, odiUnfitError, .func (PySem.W.fnOf "__init__" "UnfitError.__init__" (defArgs (inClass (topS 6) 0)) (defBody (inClass (topS 6) 0)) (defScope (inClass (topS 6) 0)) (.ref TiUnfitError) kViUnfitError dciUnfitError pmiUnfitError aniUnfitError cdiUnfitError ctiUnfitError), sliUnfitError⟩)
    (diUnfitError : K.lookup TiUnfitError = some ⟨oTiUnfitError, dTiUnfitError, .seq [.none].toArray nTiUnfitError, sTiUnfitError⟩)
    (ciUnfitError : PySem.W.codeIn K cdiUnfitError "UnfitError.__init__" = true)
    (kiUnfitError : PySem.W.keepIn K (.ref fiUnfitError) = true)
    (tiUnfitError : PySem.W.typeIn K (.ref fiUnfitError) = some (.type "function"))
    (nUnfitError_subject : PySem.W.findIn K (.ref CUnfitError) "subject" = some none)
    (xLZeroDivisor : K.lookup CZeroDivisor = some (excClassObj nmZeroDivisor qnZeroDivisor CZeroDivisor NZeroDivisor bsZeroDivisor [.ref CUnfitError, .ref CFrameError, .type "ValueError", .type "Exception", .type "BaseException", .type "object"] true snZeroDivisor subZeroDivisor abZeroDivisor colZeroDivisor ddZeroDivisor m0ZeroDivisor m1ZeroDivisor m2ZeroDivisor m3ZeroDivisor m5ZeroDivisor "ValueError.__new__"))
    (saZeroDivisor : PySem.W.findIn K (.ref CZeroDivisor) "__setattr__" = some (some (.builtin "object.__setattr__")))
    (exZeroDivisor : PySem.W.subIn K (.ref CZeroDivisor) (.type "BaseException") = some true)
    (tyZeroDivisor : PySem.W.typeIn K (.ref CZeroDivisor) = some (.type "type"))
    (isZeroDivisor : PySem.W.isClsIn K CZeroDivisor = true)
    (kcZeroDivisor : PySem.W.keepIn K (.ref CZeroDivisor) = true)
    (hgZeroDivisor : PySem.W.findIn K (.ref CZeroDivisor) "__getattribute__" = some (some (.builtin "BaseException.__getattribute__")))
    (hkZeroDivisor : PySem.W.findIn K (.ref CZeroDivisor) "__getattr__" = some none)
    (hdZeroDivisor : PySem.W.hasDictIn K CZeroDivisor = true)
    (haZeroDivisor : PySem.W.findIn K (.ref CZeroDivisor) "__class__" = some (some (.builtin "object.__class__")))
    (hmZeroDivisor : PySem.W.mroIn K CZeroDivisor (.type "object") = some true)
    (aiZeroDivisor : PySem.W.findIn K (.ref CZeroDivisor) "__init__" = some (some (.ref fiUnfitError)))
    (nZeroDivisor_subject : PySem.W.findIn K (.ref CZeroDivisor) "subject" = some none)
    (xLNegativeRoot : K.lookup CNegativeRoot = some (excClassObj nmNegativeRoot qnNegativeRoot CNegativeRoot NNegativeRoot bsNegativeRoot [.ref CUnfitError, .ref CFrameError, .type "ValueError", .type "Exception", .type "BaseException", .type "object"] true snNegativeRoot subNegativeRoot abNegativeRoot colNegativeRoot ddNegativeRoot m0NegativeRoot m1NegativeRoot m2NegativeRoot m3NegativeRoot m5NegativeRoot "ValueError.__new__"))
    (saNegativeRoot : PySem.W.findIn K (.ref CNegativeRoot) "__setattr__" = some (some (.builtin "object.__setattr__")))
    (exNegativeRoot : PySem.W.subIn K (.ref CNegativeRoot) (.type "BaseException") = some true)
    (tyNegativeRoot : PySem.W.typeIn K (.ref CNegativeRoot) = some (.type "type"))
    (isNegativeRoot : PySem.W.isClsIn K CNegativeRoot = true)
    (kcNegativeRoot : PySem.W.keepIn K (.ref CNegativeRoot) = true)
    (hgNegativeRoot : PySem.W.findIn K (.ref CNegativeRoot) "__getattribute__" = some (some (.builtin "BaseException.__getattribute__")))
    (hkNegativeRoot : PySem.W.findIn K (.ref CNegativeRoot) "__getattr__" = some none)
    (hdNegativeRoot : PySem.W.hasDictIn K CNegativeRoot = true)
    (haNegativeRoot : PySem.W.findIn K (.ref CNegativeRoot) "__class__" = some (some (.builtin "object.__class__")))
    (hmNegativeRoot : PySem.W.mroIn K CNegativeRoot (.type "object") = some true)
    (aiNegativeRoot : PySem.W.findIn K (.ref CNegativeRoot) "__init__" = some (some (.ref fiUnfitError)))
    (nNegativeRoot_subject : PySem.W.findIn K (.ref CNegativeRoot) "subject" = some none)
    (xLZeroBar : K.lookup CZeroBar = some (excClassObj nmZeroBar qnZeroBar CZeroBar NZeroBar bsZeroBar [.ref CUnfitError, .ref CFrameError, .type "ValueError", .type "Exception", .type "BaseException", .type "object"] true snZeroBar subZeroBar abZeroBar colZeroBar ddZeroBar m0ZeroBar m1ZeroBar m2ZeroBar m3ZeroBar m5ZeroBar "ValueError.__new__"))
    (saZeroBar : PySem.W.findIn K (.ref CZeroBar) "__setattr__" = some (some (.builtin "object.__setattr__")))
    (exZeroBar : PySem.W.subIn K (.ref CZeroBar) (.type "BaseException") = some true)
    (tyZeroBar : PySem.W.typeIn K (.ref CZeroBar) = some (.type "type"))
    (isZeroBar : PySem.W.isClsIn K CZeroBar = true)
    (kcZeroBar : PySem.W.keepIn K (.ref CZeroBar) = true)
    (hgZeroBar : PySem.W.findIn K (.ref CZeroBar) "__getattribute__" = some (some (.builtin "BaseException.__getattribute__")))
    (hkZeroBar : PySem.W.findIn K (.ref CZeroBar) "__getattr__" = some none)
    (hdZeroBar : PySem.W.hasDictIn K CZeroBar = true)
    (haZeroBar : PySem.W.findIn K (.ref CZeroBar) "__class__" = some (some (.builtin "object.__class__")))
    (hmZeroBar : PySem.W.mroIn K CZeroBar (.type "object") = some true)
    (aiZeroBar : PySem.W.findIn K (.ref CZeroBar) "__init__" = some (some (.ref fiUnfitError)))
    (nZeroBar_subject : PySem.W.findIn K (.ref CZeroBar) "subject" = some none)
    (xLFlatMap : K.lookup CFlatMap = some (excClassObj nmFlatMap qnFlatMap CFlatMap NFlatMap bsFlatMap [.ref CUnfitError, .ref CFrameError, .type "ValueError", .type "Exception", .type "BaseException", .type "object"] true snFlatMap subFlatMap abFlatMap colFlatMap ddFlatMap m0FlatMap m1FlatMap m2FlatMap m3FlatMap m5FlatMap "ValueError.__new__"))
    (saFlatMap : PySem.W.findIn K (.ref CFlatMap) "__setattr__" = some (some (.builtin "object.__setattr__")))
    (exFlatMap : PySem.W.subIn K (.ref CFlatMap) (.type "BaseException") = some true)
    (tyFlatMap : PySem.W.typeIn K (.ref CFlatMap) = some (.type "type"))
    (isFlatMap : PySem.W.isClsIn K CFlatMap = true)
    (kcFlatMap : PySem.W.keepIn K (.ref CFlatMap) = true)
    (hgFlatMap : PySem.W.findIn K (.ref CFlatMap) "__getattribute__" = some (some (.builtin "BaseException.__getattribute__")))
    (hkFlatMap : PySem.W.findIn K (.ref CFlatMap) "__getattr__" = some none)
    (hdFlatMap : PySem.W.hasDictIn K CFlatMap = true)
    (haFlatMap : PySem.W.findIn K (.ref CFlatMap) "__class__" = some (some (.builtin "object.__class__")))
    (hmFlatMap : PySem.W.mroIn K CFlatMap (.type "object") = some true)
    (aiFlatMap : PySem.W.findIn K (.ref CFlatMap) "__init__" = some (some (.ref fiUnfitError)))
    (nFlatMap_subject : PySem.W.findIn K (.ref CFlatMap) "subject" = some none)
    (xLBadSteps : K.lookup CBadSteps = some (excClassObj nmBadSteps qnBadSteps CBadSteps NBadSteps bsBadSteps [.ref CUnfitError, .ref CFrameError, .type "ValueError", .type "Exception", .type "BaseException", .type "object"] true snBadSteps subBadSteps abBadSteps colBadSteps ddBadSteps m0BadSteps m1BadSteps m2BadSteps m3BadSteps m5BadSteps "ValueError.__new__"))
    (saBadSteps : PySem.W.findIn K (.ref CBadSteps) "__setattr__" = some (some (.builtin "object.__setattr__")))
    (exBadSteps : PySem.W.subIn K (.ref CBadSteps) (.type "BaseException") = some true)
    (tyBadSteps : PySem.W.typeIn K (.ref CBadSteps) = some (.type "type"))
    (isBadSteps : PySem.W.isClsIn K CBadSteps = true)
    (kcBadSteps : PySem.W.keepIn K (.ref CBadSteps) = true)
    (hgBadSteps : PySem.W.findIn K (.ref CBadSteps) "__getattribute__" = some (some (.builtin "BaseException.__getattribute__")))
    (hkBadSteps : PySem.W.findIn K (.ref CBadSteps) "__getattr__" = some none)
    (hdBadSteps : PySem.W.hasDictIn K CBadSteps = true)
    (haBadSteps : PySem.W.findIn K (.ref CBadSteps) "__class__" = some (some (.builtin "object.__class__")))
    (hmBadSteps : PySem.W.mroIn K CBadSteps (.type "object") = some true)
    (aiBadSteps : PySem.W.findIn K (.ref CBadSteps) "__init__" = some (some (.ref fiUnfitError)))
    (nBadSteps_subject : PySem.W.findIn K (.ref CBadSteps) "subject" = some none)
    (xLNotOneWay : K.lookup CNotOneWay = some (excClassObj nmNotOneWay qnNotOneWay CNotOneWay NNotOneWay bsNotOneWay [.ref CUnfitError, .ref CFrameError, .type "ValueError", .type "Exception", .type "BaseException", .type "object"] true snNotOneWay subNotOneWay abNotOneWay colNotOneWay ddNotOneWay m0NotOneWay m1NotOneWay m2NotOneWay m3NotOneWay m5NotOneWay "ValueError.__new__"))
    (saNotOneWay : PySem.W.findIn K (.ref CNotOneWay) "__setattr__" = some (some (.builtin "object.__setattr__")))
    (exNotOneWay : PySem.W.subIn K (.ref CNotOneWay) (.type "BaseException") = some true)
    (tyNotOneWay : PySem.W.typeIn K (.ref CNotOneWay) = some (.type "type"))
    (isNotOneWay : PySem.W.isClsIn K CNotOneWay = true)
    (kcNotOneWay : PySem.W.keepIn K (.ref CNotOneWay) = true)
    (hgNotOneWay : PySem.W.findIn K (.ref CNotOneWay) "__getattribute__" = some (some (.builtin "BaseException.__getattribute__")))
    (hkNotOneWay : PySem.W.findIn K (.ref CNotOneWay) "__getattr__" = some none)
    (hdNotOneWay : PySem.W.hasDictIn K CNotOneWay = true)
    (haNotOneWay : PySem.W.findIn K (.ref CNotOneWay) "__class__" = some (some (.builtin "object.__class__")))
    (hmNotOneWay : PySem.W.mroIn K CNotOneWay (.type "object") = some true)
    (aiNotOneWay : PySem.W.findIn K (.ref CNotOneWay) "__init__" = some (some (.ref fiUnfitError)))
    (nNotOneWay_subject : PySem.W.findIn K (.ref CNotOneWay) "subject" = some none)
    (xLNotHeld : K.lookup CNotHeld = some (excClassObj nmNotHeld qnNotHeld CNotHeld NNotHeld bsNotHeld [.ref CUnfitError, .ref CFrameError, .type "ValueError", .type "Exception", .type "BaseException", .type "object"] true snNotHeld subNotHeld abNotHeld colNotHeld ddNotHeld m0NotHeld m1NotHeld m2NotHeld m3NotHeld m5NotHeld "ValueError.__new__"))
    (saNotHeld : PySem.W.findIn K (.ref CNotHeld) "__setattr__" = some (some (.builtin "object.__setattr__")))
    (exNotHeld : PySem.W.subIn K (.ref CNotHeld) (.type "BaseException") = some true)
    (tyNotHeld : PySem.W.typeIn K (.ref CNotHeld) = some (.type "type"))
    (isNotHeld : PySem.W.isClsIn K CNotHeld = true)
    (kcNotHeld : PySem.W.keepIn K (.ref CNotHeld) = true)
    (hgNotHeld : PySem.W.findIn K (.ref CNotHeld) "__getattribute__" = some (some (.builtin "BaseException.__getattribute__")))
    (hkNotHeld : PySem.W.findIn K (.ref CNotHeld) "__getattr__" = some none)
    (hdNotHeld : PySem.W.hasDictIn K CNotHeld = true)
    (haNotHeld : PySem.W.findIn K (.ref CNotHeld) "__class__" = some (some (.builtin "object.__class__")))
    (hmNotHeld : PySem.W.mroIn K CNotHeld (.type "object") = some true)
    (aiNotHeld : PySem.W.findIn K (.ref CNotHeld) "__init__" = some (some (.ref fiUnfitError)))
    (nNotHeld_subject : PySem.W.findIn K (.ref CNotHeld) "subject" = some none)
    (xLNotFlat : K.lookup CNotFlat = some (excClassObj nmNotFlat qnNotFlat CNotFlat NNotFlat bsNotFlat [.ref CUnfitError, .ref CFrameError, .type "ValueError", .type "Exception", .type "BaseException", .type "object"] true snNotFlat subNotFlat abNotFlat colNotFlat ddNotFlat m0NotFlat m1NotFlat m2NotFlat m3NotFlat m5NotFlat "ValueError.__new__"))
    (saNotFlat : PySem.W.findIn K (.ref CNotFlat) "__setattr__" = some (some (.builtin "object.__setattr__")))
    (exNotFlat : PySem.W.subIn K (.ref CNotFlat) (.type "BaseException") = some true)
    (tyNotFlat : PySem.W.typeIn K (.ref CNotFlat) = some (.type "type"))
    (isNotFlat : PySem.W.isClsIn K CNotFlat = true)
    (kcNotFlat : PySem.W.keepIn K (.ref CNotFlat) = true)
    (hgNotFlat : PySem.W.findIn K (.ref CNotFlat) "__getattribute__" = some (some (.builtin "BaseException.__getattribute__")))
    (hkNotFlat : PySem.W.findIn K (.ref CNotFlat) "__getattr__" = some none)
    (hdNotFlat : PySem.W.hasDictIn K CNotFlat = true)
    (haNotFlat : PySem.W.findIn K (.ref CNotFlat) "__class__" = some (some (.builtin "object.__class__")))
    (hmNotFlat : PySem.W.mroIn K CNotFlat (.type "object") = some true)
    (aiNotFlat : PySem.W.findIn K (.ref CNotFlat) "__init__" = some (some (.ref fiUnfitError)))
    (nNotFlat_subject : PySem.W.findIn K (.ref CNotFlat) "subject" = some none)
    (xLNotCover : K.lookup CNotCover = some (excClassObj nmNotCover qnNotCover CNotCover NNotCover bsNotCover [.ref CUnfitError, .ref CFrameError, .type "ValueError", .type "Exception", .type "BaseException", .type "object"] true snNotCover subNotCover abNotCover colNotCover ddNotCover m0NotCover m1NotCover m2NotCover m3NotCover m5NotCover "ValueError.__new__"))
    (saNotCover : PySem.W.findIn K (.ref CNotCover) "__setattr__" = some (some (.builtin "object.__setattr__")))
    (exNotCover : PySem.W.subIn K (.ref CNotCover) (.type "BaseException") = some true)
    (tyNotCover : PySem.W.typeIn K (.ref CNotCover) = some (.type "type"))
    (isNotCover : PySem.W.isClsIn K CNotCover = true)
    (kcNotCover : PySem.W.keepIn K (.ref CNotCover) = true)
    (hgNotCover : PySem.W.findIn K (.ref CNotCover) "__getattribute__" = some (some (.builtin "BaseException.__getattribute__")))
    (hkNotCover : PySem.W.findIn K (.ref CNotCover) "__getattr__" = some none)
    (hdNotCover : PySem.W.hasDictIn K CNotCover = true)
    (haNotCover : PySem.W.findIn K (.ref CNotCover) "__class__" = some (some (.builtin "object.__class__")))
    (hmNotCover : PySem.W.mroIn K CNotCover (.type "object") = some true)
    (aiNotCover : PySem.W.findIn K (.ref CNotCover) "__init__" = some (some (.ref fiUnfitError)))
    (nNotCover_subject : PySem.W.findIn K (.ref CNotCover) "subject" = some none)
    (xLNotOwnStress : K.lookup CNotOwnStress = some (excClassObj nmNotOwnStress qnNotOwnStress CNotOwnStress NNotOwnStress bsNotOwnStress [.ref CUnfitError, .ref CFrameError, .type "ValueError", .type "Exception", .type "BaseException", .type "object"] true snNotOwnStress subNotOwnStress abNotOwnStress colNotOwnStress ddNotOwnStress m0NotOwnStress m1NotOwnStress m2NotOwnStress m3NotOwnStress m5NotOwnStress "ValueError.__new__"))
    (saNotOwnStress : PySem.W.findIn K (.ref CNotOwnStress) "__setattr__" = some (some (.builtin "object.__setattr__")))
    (exNotOwnStress : PySem.W.subIn K (.ref CNotOwnStress) (.type "BaseException") = some true)
    (tyNotOwnStress : PySem.W.typeIn K (.ref CNotOwnStress) = some (.type "type"))
    (isNotOwnStress : PySem.W.isClsIn K CNotOwnStress = true)
    (kcNotOwnStress : PySem.W.keepIn K (.ref CNotOwnStress) = true)
    (hgNotOwnStress : PySem.W.findIn K (.ref CNotOwnStress) "__getattribute__" = some (some (.builtin "BaseException.__getattribute__")))
    (hkNotOwnStress : PySem.W.findIn K (.ref CNotOwnStress) "__getattr__" = some none)
    (hdNotOwnStress : PySem.W.hasDictIn K CNotOwnStress = true)
    (haNotOwnStress : PySem.W.findIn K (.ref CNotOwnStress) "__class__" = some (some (.builtin "object.__class__")))
    (hmNotOwnStress : PySem.W.mroIn K CNotOwnStress (.type "object") = some true)
    (aiNotOwnStress : PySem.W.findIn K (.ref CNotOwnStress) "__init__" = some (some (.ref fiUnfitError)))
    (nNotOwnStress_subject : PySem.W.findIn K (.ref CNotOwnStress) "subject" = some none)
    (xLNotPicture : K.lookup CNotPicture = some (excClassObj nmNotPicture qnNotPicture CNotPicture NNotPicture bsNotPicture [.ref CUnfitError, .ref CFrameError, .type "ValueError", .type "Exception", .type "BaseException", .type "object"] true snNotPicture subNotPicture abNotPicture colNotPicture ddNotPicture m0NotPicture m1NotPicture m2NotPicture m3NotPicture m5NotPicture "ValueError.__new__"))
    (saNotPicture : PySem.W.findIn K (.ref CNotPicture) "__setattr__" = some (some (.builtin "object.__setattr__")))
    (exNotPicture : PySem.W.subIn K (.ref CNotPicture) (.type "BaseException") = some true)
    (tyNotPicture : PySem.W.typeIn K (.ref CNotPicture) = some (.type "type"))
    (isNotPicture : PySem.W.isClsIn K CNotPicture = true)
    (kcNotPicture : PySem.W.keepIn K (.ref CNotPicture) = true)
    (hgNotPicture : PySem.W.findIn K (.ref CNotPicture) "__getattribute__" = some (some (.builtin "BaseException.__getattribute__")))
    (hkNotPicture : PySem.W.findIn K (.ref CNotPicture) "__getattr__" = some none)
    (hdNotPicture : PySem.W.hasDictIn K CNotPicture = true)
    (haNotPicture : PySem.W.findIn K (.ref CNotPicture) "__class__" = some (some (.builtin "object.__class__")))
    (hmNotPicture : PySem.W.mroIn K CNotPicture (.type "object") = some true)
    (aiNotPicture : PySem.W.findIn K (.ref CNotPicture) "__init__" = some (some (.ref fiUnfitError)))
    (nNotPicture_subject : PySem.W.findIn K (.ref CNotPicture) "subject" = some none)
    (xLNotLift : K.lookup CNotLift = some (excClassObj nmNotLift qnNotLift CNotLift NNotLift bsNotLift [.ref CUnfitError, .ref CFrameError, .type "ValueError", .type "Exception", .type "BaseException", .type "object"] true snNotLift subNotLift abNotLift colNotLift ddNotLift m0NotLift m1NotLift m2NotLift m3NotLift m5NotLift "ValueError.__new__"))
    (saNotLift : PySem.W.findIn K (.ref CNotLift) "__setattr__" = some (some (.builtin "object.__setattr__")))
    (exNotLift : PySem.W.subIn K (.ref CNotLift) (.type "BaseException") = some true)
    (tyNotLift : PySem.W.typeIn K (.ref CNotLift) = some (.type "type"))
    (isNotLift : PySem.W.isClsIn K CNotLift = true)
    (kcNotLift : PySem.W.keepIn K (.ref CNotLift) = true)
    (hgNotLift : PySem.W.findIn K (.ref CNotLift) "__getattribute__" = some (some (.builtin "BaseException.__getattribute__")))
    (hkNotLift : PySem.W.findIn K (.ref CNotLift) "__getattr__" = some none)
    (hdNotLift : PySem.W.hasDictIn K CNotLift = true)
    (haNotLift : PySem.W.findIn K (.ref CNotLift) "__class__" = some (some (.builtin "object.__class__")))
    (hmNotLift : PySem.W.mroIn K CNotLift (.type "object") = some true)
    (aiNotLift : PySem.W.findIn K (.ref CNotLift) "__init__" = some (some (.ref fiUnfitError)))
    (nNotLift_subject : PySem.W.findIn K (.ref CNotLift) "subject" = some none)
    (xLNoReciprocal : K.lookup CNoReciprocal = some (excClassObj nmNoReciprocal qnNoReciprocal CNoReciprocal NNoReciprocal bsNoReciprocal [.ref CUnfitError, .ref CFrameError, .type "ValueError", .type "Exception", .type "BaseException", .type "object"] true snNoReciprocal subNoReciprocal abNoReciprocal colNoReciprocal ddNoReciprocal m0NoReciprocal m1NoReciprocal m2NoReciprocal m3NoReciprocal m5NoReciprocal "ValueError.__new__"))
    (saNoReciprocal : PySem.W.findIn K (.ref CNoReciprocal) "__setattr__" = some (some (.builtin "object.__setattr__")))
    (exNoReciprocal : PySem.W.subIn K (.ref CNoReciprocal) (.type "BaseException") = some true)
    (tyNoReciprocal : PySem.W.typeIn K (.ref CNoReciprocal) = some (.type "type"))
    (isNoReciprocal : PySem.W.isClsIn K CNoReciprocal = true)
    (kcNoReciprocal : PySem.W.keepIn K (.ref CNoReciprocal) = true)
    (hgNoReciprocal : PySem.W.findIn K (.ref CNoReciprocal) "__getattribute__" = some (some (.builtin "BaseException.__getattribute__")))
    (hkNoReciprocal : PySem.W.findIn K (.ref CNoReciprocal) "__getattr__" = some none)
    (hdNoReciprocal : PySem.W.hasDictIn K CNoReciprocal = true)
    (haNoReciprocal : PySem.W.findIn K (.ref CNoReciprocal) "__class__" = some (some (.builtin "object.__class__")))
    (hmNoReciprocal : PySem.W.mroIn K CNoReciprocal (.type "object") = some true)
    (aiNoReciprocal : PySem.W.findIn K (.ref CNoReciprocal) "__init__" = some (some (.ref fiUnfitError)))
    (nNoReciprocal_subject : PySem.W.findIn K (.ref CNoReciprocal) "subject" = some none)
    (xLNotMotion : K.lookup CNotMotion = some (excClassObj nmNotMotion qnNotMotion CNotMotion NNotMotion bsNotMotion [.ref CUnfitError, .ref CFrameError, .type "ValueError", .type "Exception", .type "BaseException", .type "object"] true snNotMotion subNotMotion abNotMotion colNotMotion ddNotMotion m0NotMotion m1NotMotion m2NotMotion m3NotMotion m5NotMotion "ValueError.__new__"))
    (saNotMotion : PySem.W.findIn K (.ref CNotMotion) "__setattr__" = some (some (.builtin "object.__setattr__")))
    (exNotMotion : PySem.W.subIn K (.ref CNotMotion) (.type "BaseException") = some true)
    (tyNotMotion : PySem.W.typeIn K (.ref CNotMotion) = some (.type "type"))
    (isNotMotion : PySem.W.isClsIn K CNotMotion = true)
    (kcNotMotion : PySem.W.keepIn K (.ref CNotMotion) = true)
    (hgNotMotion : PySem.W.findIn K (.ref CNotMotion) "__getattribute__" = some (some (.builtin "BaseException.__getattribute__")))
    (hkNotMotion : PySem.W.findIn K (.ref CNotMotion) "__getattr__" = some none)
    (hdNotMotion : PySem.W.hasDictIn K CNotMotion = true)
    (haNotMotion : PySem.W.findIn K (.ref CNotMotion) "__class__" = some (some (.builtin "object.__class__")))
    (hmNotMotion : PySem.W.mroIn K CNotMotion (.type "object") = some true)
    (aiNotMotion : PySem.W.findIn K (.ref CNotMotion) "__init__" = some (some (.ref fiUnfitError)))
    (nNotMotion_subject : PySem.W.findIn K (.ref CNotMotion) "subject" = some none)
    (xLNotAlike : K.lookup CNotAlike = some (excClassObj nmNotAlike qnNotAlike CNotAlike NNotAlike bsNotAlike [.ref CUnfitError, .ref CFrameError, .type "ValueError", .type "Exception", .type "BaseException", .type "object"] true snNotAlike subNotAlike abNotAlike colNotAlike ddNotAlike m0NotAlike m1NotAlike m2NotAlike m3NotAlike m5NotAlike "ValueError.__new__"))
    (saNotAlike : PySem.W.findIn K (.ref CNotAlike) "__setattr__" = some (some (.builtin "object.__setattr__")))
    (exNotAlike : PySem.W.subIn K (.ref CNotAlike) (.type "BaseException") = some true)
    (tyNotAlike : PySem.W.typeIn K (.ref CNotAlike) = some (.type "type"))
    (isNotAlike : PySem.W.isClsIn K CNotAlike = true)
    (kcNotAlike : PySem.W.keepIn K (.ref CNotAlike) = true)
    (hgNotAlike : PySem.W.findIn K (.ref CNotAlike) "__getattribute__" = some (some (.builtin "BaseException.__getattribute__")))
    (hkNotAlike : PySem.W.findIn K (.ref CNotAlike) "__getattr__" = some none)
    (hdNotAlike : PySem.W.hasDictIn K CNotAlike = true)
    (haNotAlike : PySem.W.findIn K (.ref CNotAlike) "__class__" = some (some (.builtin "object.__class__")))
    (hmNotAlike : PySem.W.mroIn K CNotAlike (.type "object") = some true)
    (aiNotAlike : PySem.W.findIn K (.ref CNotAlike) "__init__" = some (some (.ref fiUnfitError)))
    (nNotAlike_subject : PySem.W.findIn K (.ref CNotAlike) "subject" = some none)
    (xLNotCrank : K.lookup CNotCrank = some (excClassObj nmNotCrank qnNotCrank CNotCrank NNotCrank bsNotCrank [.ref CUnfitError, .ref CFrameError, .type "ValueError", .type "Exception", .type "BaseException", .type "object"] true snNotCrank subNotCrank abNotCrank colNotCrank ddNotCrank m0NotCrank m1NotCrank m2NotCrank m3NotCrank m5NotCrank "ValueError.__new__"))
    (saNotCrank : PySem.W.findIn K (.ref CNotCrank) "__setattr__" = some (some (.builtin "object.__setattr__")))
    (exNotCrank : PySem.W.subIn K (.ref CNotCrank) (.type "BaseException") = some true)
    (tyNotCrank : PySem.W.typeIn K (.ref CNotCrank) = some (.type "type"))
    (isNotCrank : PySem.W.isClsIn K CNotCrank = true)
    (kcNotCrank : PySem.W.keepIn K (.ref CNotCrank) = true)
    (hgNotCrank : PySem.W.findIn K (.ref CNotCrank) "__getattribute__" = some (some (.builtin "BaseException.__getattribute__")))
    (hkNotCrank : PySem.W.findIn K (.ref CNotCrank) "__getattr__" = some none)
    (hdNotCrank : PySem.W.hasDictIn K CNotCrank = true)
    (haNotCrank : PySem.W.findIn K (.ref CNotCrank) "__class__" = some (some (.builtin "object.__class__")))
    (hmNotCrank : PySem.W.mroIn K CNotCrank (.type "object") = some true)
    (aiNotCrank : PySem.W.findIn K (.ref CNotCrank) "__init__" = some (some (.ref fiUnfitError)))
    (nNotCrank_subject : PySem.W.findIn K (.ref CNotCrank) "subject" = some none)
    (xLNothingToUndo : K.lookup CNothingToUndo = some (excClassObj nmNothingToUndo qnNothingToUndo CNothingToUndo NNothingToUndo bsNothingToUndo [.ref CUnfitError, .ref CFrameError, .type "ValueError", .type "Exception", .type "BaseException", .type "object"] true snNothingToUndo subNothingToUndo abNothingToUndo colNothingToUndo ddNothingToUndo m0NothingToUndo m1NothingToUndo m2NothingToUndo m3NothingToUndo m5NothingToUndo "ValueError.__new__"))
    (saNothingToUndo : PySem.W.findIn K (.ref CNothingToUndo) "__setattr__" = some (some (.builtin "object.__setattr__")))
    (exNothingToUndo : PySem.W.subIn K (.ref CNothingToUndo) (.type "BaseException") = some true)
    (tyNothingToUndo : PySem.W.typeIn K (.ref CNothingToUndo) = some (.type "type"))
    (isNothingToUndo : PySem.W.isClsIn K CNothingToUndo = true)
    (kcNothingToUndo : PySem.W.keepIn K (.ref CNothingToUndo) = true)
    (hgNothingToUndo : PySem.W.findIn K (.ref CNothingToUndo) "__getattribute__" = some (some (.builtin "BaseException.__getattribute__")))
    (hkNothingToUndo : PySem.W.findIn K (.ref CNothingToUndo) "__getattr__" = some none)
    (hdNothingToUndo : PySem.W.hasDictIn K CNothingToUndo = true)
    (haNothingToUndo : PySem.W.findIn K (.ref CNothingToUndo) "__class__" = some (some (.builtin "object.__class__")))
    (hmNothingToUndo : PySem.W.mroIn K CNothingToUndo (.type "object") = some true)
    (aiNothingToUndo : PySem.W.findIn K (.ref CNothingToUndo) "__init__" = some (some (.ref fiUnfitError)))
    (nNothingToUndo_subject : PySem.W.findIn K (.ref CNothingToUndo) "subject" = some none)
    (xLNothingToRedo : K.lookup CNothingToRedo = some (excClassObj nmNothingToRedo qnNothingToRedo CNothingToRedo NNothingToRedo bsNothingToRedo [.ref CUnfitError, .ref CFrameError, .type "ValueError", .type "Exception", .type "BaseException", .type "object"] true snNothingToRedo subNothingToRedo abNothingToRedo colNothingToRedo ddNothingToRedo m0NothingToRedo m1NothingToRedo m2NothingToRedo m3NothingToRedo m5NothingToRedo "ValueError.__new__"))
    (saNothingToRedo : PySem.W.findIn K (.ref CNothingToRedo) "__setattr__" = some (some (.builtin "object.__setattr__")))
    (exNothingToRedo : PySem.W.subIn K (.ref CNothingToRedo) (.type "BaseException") = some true)
    (tyNothingToRedo : PySem.W.typeIn K (.ref CNothingToRedo) = some (.type "type"))
    (isNothingToRedo : PySem.W.isClsIn K CNothingToRedo = true)
    (kcNothingToRedo : PySem.W.keepIn K (.ref CNothingToRedo) = true)
    (hgNothingToRedo : PySem.W.findIn K (.ref CNothingToRedo) "__getattribute__" = some (some (.builtin "BaseException.__getattribute__")))
    (hkNothingToRedo : PySem.W.findIn K (.ref CNothingToRedo) "__getattr__" = some none)
    (hdNothingToRedo : PySem.W.hasDictIn K CNothingToRedo = true)
    (haNothingToRedo : PySem.W.findIn K (.ref CNothingToRedo) "__class__" = some (some (.builtin "object.__class__")))
    (hmNothingToRedo : PySem.W.mroIn K CNothingToRedo (.type "object") = some true)
    (aiNothingToRedo : PySem.W.findIn K (.ref CNothingToRedo) "__init__" = some (some (.ref fiUnfitError)))
    (nNothingToRedo_subject : PySem.W.findIn K (.ref CNothingToRedo) "subject" = some none)
    (nd : ([CFrameError, CWrongKind, COutOfBounds, CRepeatedName, CUnknownName, CUnsafe, CBadText, CUnfitError, CZeroDivisor, CNegativeRoot, CZeroBar, CFlatMap, CBadSteps, CNotOneWay, CNotHeld, CNotFlat, CNotCover, CNotOwnStress, CNotPicture, CNotLift, CNoReciprocal, CNotMotion, CNotAlike, CNotCrank, CNothingToUndo, CNothingToRedo] : List Addr).Nodup)
    (qFrameError : PySem.W.excIn K CFrameError PySem.HandSPX.veTail "ValueError.__new__" = true)
    (hn : PySem.W.specialIn K (.builtin "object.__class__") "__get__" = some (some (.builtin "getset_descriptor.__get__")))
    (ht : PySem.W.takesIn K (.builtin "object.__class__") = some true)
    (z_len : PySem.W.nsIn K mainGlobals "len" = some none)
    (z_max : PySem.W.nsIn K mainGlobals "max" = some none)
    (z_min : PySem.W.nsIn K mainGlobals "min" = some none)
    (z_abs : PySem.W.nsIn K mainGlobals "abs" = some none)
    (z_int : PySem.W.nsIn K mainGlobals "int" = some none)
    (z_str : PySem.W.nsIn K mainGlobals "str" = some none)
    (z_bool : PySem.W.nsIn K mainGlobals "bool" = some none)
    (z_list : PySem.W.nsIn K mainGlobals "list" = some none)
    (z_tuple : PySem.W.nsIn K mainGlobals "tuple" = some none)
    (z_dict : PySem.W.nsIn K mainGlobals "dict" = some none)
    (z_isinstance : PySem.W.nsIn K mainGlobals "isinstance" = some none)
    (z_range : PySem.W.nsIn K mainGlobals "range" = some none)
    (z_all : PySem.W.nsIn K mainGlobals "all" = some none)
    (z_ValueError : PySem.W.nsIn K mainGlobals "ValueError" = some none)
    (dig : PySem.W.nsIn K cStatics "sys.int_max_str_digits" = some none) :
    ∃ fd : FuncData, (∀ (s : Shared) (v : Value), BindsTo s fd ⟨[v], []⟩ [("script", v)]) ∧ ∀ base : Heap, K.In base → base.Ns mainGlobals mg → FnOk l.prog w K mg base (L2N.CX l.prog w) 178 fa fd ["script"] (spLaw K) := by
  have e := hfa.symm.trans (PySem.W.mg_of X G a_law)
  cases e
  have F_is_whole := fun_mk (st := topS 28) l_is_whole c_is_whole k_is_whole
  have b_is_whole := F_is_whole.binds (ps := ["value"]) fun _ _ _ _ _ _ us hl => match us, hl with | [_], _ => rfl
  have F_divisor := fun_mk (st := topS 29) l_divisor c_divisor k_divisor
  have b_divisor := F_divisor.binds (ps := ["one", "other"]) fun _ _ _ _ _ _ us hl => match us, hl with | [_, _], _ => rfl
  have F_sign_of := fun_mk (st := topS 30) l_sign_of c_sign_of k_sign_of
  have b_sign_of := F_sign_of.binds (ps := ["number"]) fun _ _ _ _ _ _ us hl => match us, hl with | [_], _ => rfl
  have F_floor_root := fun_mk (st := topS 31) l_floor_root c_floor_root k_floor_root
  have b_floor_root := F_floor_root.binds (ps := ["number"]) fun _ _ _ _ _ _ us hl => match us, hl with | [_], _ => rfl
  have F_need_ratio := fun_mk (st := topS 32) l_need_ratio c_need_ratio k_need_ratio
  have b_need_ratio := F_need_ratio.binds (ps := ["value", "argument"]) fun _ _ _ _ _ _ us hl => match us, hl with | [_, _], _ => rfl
  have F_is_ratio := fun_mk (st := topS 33) l_is_ratio c_is_ratio k_is_ratio
  have b_is_ratio := F_is_ratio.binds (ps := ["value"]) fun _ _ _ _ _ _ us hl => match us, hl with | [_], _ => rfl
  have F_root := fun_mk (st := topS 34) l_root c_root k_root
  have b_root := F_root.binds (ps := ["one"]) fun _ _ _ _ _ _ us hl => match us, hl with | [_], _ => rfl
  have F_root_sign := fun_mk (st := topS 35) l_root_sign c_root_sign k_root_sign
  have b_root_sign := F_root_sign.binds (ps := ["plain", "factor", "under"]) fun _ _ _ _ _ _ us hl => match us, hl with | [_, _, _], _ => rfl
  have F_store := fun_mk (st := topS 37) l_store c_store k_store
  have b_store := F_store.binds (ps := ["script"]) fun _ _ _ _ _ _ us hl => match us, hl with | [_], _ => rfl
  have F_take := fun_mk (st := topS 38) l_take c_take k_take
  have b_take := F_take.binds (ps := ["store", "many"]) fun _ _ _ _ _ _ us hl => match us, hl with | [_, _], _ => rfl
  have F_edge := fun_mk (st := topS 39) l_edge c_edge k_edge
  have b_edge := F_edge.binds (ps := ["store", "many"]) fun _ _ _ _ _ _ us hl => match us, hl with | [_, _], _ => rfl
  have F_between := fun_mk (st := topS 40) l_between c_between k_between
  have b_between := F_between.binds (ps := ["store", "low", "high"]) fun _ _ _ _ _ _ us hl => match us, hl with | [_, _, _], _ => rfl
  have F_tens := fun_mk (st := topS 41) l_tens c_tens k_tens
  have b_tens := F_tens.binds (ps := ["figures"]) fun _ _ _ _ _ _ us hl => match us, hl with | [_], _ => rfl
  have F_integer := fun_mk (st := topS 42) l_integer c_integer k_integer
  have b_integer := F_integer.binds (ps := ["store", "figures"]) fun _ _ _ _ _ _ us hl => match us, hl with | [_, _], _ => rfl
  have F_low := fun_mk (st := topS 43) l_low c_low k_low
  have b_low := F_low.binds (ps := ["up", "down"]) fun _ _ _ _ _ _ us hl => match us, hl with | [_, _], _ => rfl
  have F_times := fun_mk (st := topS 44) l_times c_times k_times
  have b_times := F_times.binds (ps := ["one", "two"]) fun _ _ _ _ _ _ us hl => match us, hl with | [_, _], _ => rfl
  have F_neg := fun_mk (st := topS 45) l_neg c_neg k_neg
  have b_neg := F_neg.binds (ps := ["one"]) fun _ _ _ _ _ _ us hl => match us, hl with | [_], _ => rfl
  have F_small := fun_mk (st := topS 46) l_small c_small k_small
  have b_small := F_small.binds (ps := ["store"]) fun _ _ _ _ _ _ us hl => match us, hl with | [_], _ => rfl
  have F_ratio := fun_mk (st := topS 47) l_ratio c_ratio k_ratio
  have b_ratio := F_ratio.binds (ps := ["store", "figures"]) fun _ _ _ _ _ _ us hl => match us, hl with | [_, _], _ => rfl
  have F_not_ratio := fun_mk (st := topS 48) l_not_ratio c_not_ratio k_not_ratio
  have b_not_ratio := F_not_ratio.binds (ps := ["store", "none_too"]) fun _ _ _ _ _ _ us hl => match us, hl with | [_, _], _ => rfl
  have F_same := fun_mk (st := topS 49) l_same c_same k_same
  have b_same := F_same.binds (ps := ["got", "due"]) fun _ _ _ _ _ _ us hl => match us, hl with | [_, _], _ => rfl
  have F_is_int := fun_mk (st := topS 50) l_is_int c_is_int k_is_int
  have b_is_int := F_is_int.binds (ps := ["thing"]) fun _ _ _ _ _ _ us hl => match us, hl with | [_], _ => rfl
  have F_lis_ratio := fun_mk (st := topS 51) l_lis_ratio c_lis_ratio k_lis_ratio
  have b_lis_ratio := F_lis_ratio.binds (ps := ["thing"]) fun _ _ _ _ _ _ us hl => match us, hl with | [_], _ => rfl
  have F_refused := fun_mk (st := topS 52) l_refused c_refused k_refused
  have b_refused := F_refused.binds (ps := ["e"]) fun _ _ _ _ _ _ us hl => match us, hl with | [_], _ => rfl
  have F_unfit := fun_mk (st := topS 53) l_unfit c_unfit k_unfit
  have b_unfit := F_unfit.binds (ps := ["e"]) fun _ _ _ _ _ _ us hl => match us, hl with | [_], _ => rfl
  have F_lfloor_root := fun_mk (st := topS 54) l_lfloor_root c_lfloor_root k_lfloor_root
  have b_lfloor_root := F_lfloor_root.binds (ps := ["number"]) fun _ _ _ _ _ _ us hl => match us, hl with | [_], _ => rfl
  have F_above := fun_mk (st := topS 55) l_above c_above k_above
  have b_above := F_above.binds (ps := ["whole", "square"]) fun _ _ _ _ _ _ us hl => match us, hl with | [_, _], _ => rfl
  have F_sign_due := fun_mk (st := topS 56) l_sign_due c_sign_due k_sign_due
  have b_sign_due := F_sign_due.binds (ps := ["plain", "factor", "under"]) fun _ _ _ _ _ _ us hl => match us, hl with | [_, _, _], _ => rfl
  have F_is_root := fun_mk (st := topS 57) l_is_root c_is_root k_is_root
  have b_is_root := F_is_root.binds (ps := ["one", "told"]) fun _ _ _ _ _ _ us hl => match us, hl with | [_, _], _ => rfl
  have F_squared := fun_mk (st := topS 58) l_squared c_squared k_squared
  have b_squared := F_squared.binds (ps := ["store", "figures"]) fun _ _ _ _ _ _ us hl => match us, hl with | [_, _], _ => rfl
  have F_triple := fun_mk (st := topS 59) l_triple c_triple k_triple
  have b_triple := F_triple.binds (ps := ["store", "figures"]) fun _ _ _ _ _ _ us hl => match us, hl with | [_, _], _ => rfl
  have F_call := fun_mk (st := topS 60) l_call c_call k_call
  have b_call := F_call.binds (ps := ["way", "plain", "factor", "under"]) fun _ _ _ _ _ _ us hl => match us, hl with | [_, _, _, _], _ => rfl
  have F_sign_call_due := fun_mk (st := topS 61) l_sign_call_due c_sign_call_due k_sign_call_due
  have b_sign_call_due := F_sign_call_due.binds (ps := ["plain", "factor", "under"]) fun _ _ _ _ _ _ us hl => match us, hl with | [_, _, _], _ => rfl
  have F_bad_triple := fun_mk (st := topS 62) l_bad_triple c_bad_triple k_bad_triple
  have b_bad_triple := F_bad_triple.binds (ps := ["store", "three"]) fun _ _ _ _ _ _ us hl => match us, hl with | [_, _], _ => rfl
  have F_made := fun_mk (st := topS 63) l_made c_made k_made
  have b_made := F_made.binds (ps := ["thing"]) fun _ _ _ _ _ _ us hl => match us, hl with | [_], _ => rfl
  have F_left_out := fun_mk (st := topS 64) l_left_out c_left_out k_left_out
  have b_left_out := F_left_out.binds (ps := []) fun _ _ _ _ _ _ us hl => match us, hl with | [], _ => rfl
  have F_errors_right := fun_mk (st := topS 65) l_errors_right c_errors_right k_errors_right
  have b_errors_right := F_errors_right.binds (ps := ["store"]) fun _ _ _ _ _ _ us hl => match us, hl with | [_], _ => rfl
  have F_law := fun_mk (st := topS 66) l_law c_law k_law
  have b_law := F_law.binds (ps := ["script"]) fun _ _ _ _ _ _ us hl => match us, hl with | [_], _ => rfl
  have FiWrongKind : FunD K "__init__" "WrongKind.__init__" (defArgs (inClass (topS 2) 0)) (defBody (inClass (topS 2) 0)) (defScope (inClass (topS 2) 0)) [] [] fiWrongKind _ := ⟨⟨_, _, _, _, _, _, _, _, _, _, rfl, liWrongKind, ciWrongKind, .inl ⟨rfl, rfl⟩, .inl rfl⟩, kiWrongKind⟩
  have b1iWrongKind := FiWrongKind.bindsN (ps := ["self", "argument"]) fun _ _ _ _ _ _ us hl => match us, hl with | [_, _], _ => rfl
  have FiOutOfBounds : FunD K "__init__" "OutOfBounds.__init__" (defArgs (inClass (topS 3) 0)) (defBody (inClass (topS 3) 0)) (defScope (inClass (topS 3) 0)) [] [] fiOutOfBounds _ := ⟨⟨_, _, _, _, _, _, _, _, _, _, rfl, liOutOfBounds, ciOutOfBounds, .inl ⟨rfl, rfl⟩, .inl rfl⟩, kiOutOfBounds⟩
  have b1iOutOfBounds := FiOutOfBounds.bindsN (ps := ["self", "argument"]) fun _ _ _ _ _ _ us hl => match us, hl with | [_, _], _ => rfl
  have FiRepeatedName : FunD K "__init__" "RepeatedName.__init__" (defArgs (inClass (topS 4) 0)) (defBody (inClass (topS 4) 0)) (defScope (inClass (topS 4) 0)) [] [] fiRepeatedName _ := ⟨⟨_, _, _, _, _, _, _, _, _, _, rfl, liRepeatedName, ciRepeatedName, .inl ⟨rfl, rfl⟩, .inl rfl⟩, kiRepeatedName⟩
  have b1iRepeatedName := FiRepeatedName.bindsN (ps := ["self", "repeated"]) fun _ _ _ _ _ _ us hl => match us, hl with | [_, _], _ => rfl
  have FiUnknownName : FunD K "__init__" "UnknownName.__init__" (defArgs (inClass (topS 5) 0)) (defBody (inClass (topS 5) 0)) (defScope (inClass (topS 5) 0)) [] [] fiUnknownName _ := ⟨⟨_, _, _, _, _, _, _, _, _, _, rfl, liUnknownName, ciUnknownName, .inl ⟨rfl, rfl⟩, .inl rfl⟩, kiUnknownName⟩
  have b1iUnknownName := FiUnknownName.bindsN (ps := ["self", "unknown"]) fun _ _ _ _ _ _ us hl => match us, hl with | [_, _], _ => rfl
  have FiUnsafe : FunD K "__init__" "Unsafe.__init__" (defArgs (inClass (topS 25) 0)) (defBody (inClass (topS 25) 0)) (defScope (inClass (topS 25) 0)) [] [] fiUnsafe _ := ⟨⟨_, _, _, _, _, _, _, _, _, _, rfl, liUnsafe, ciUnsafe, .inl ⟨rfl, rfl⟩, .inl rfl⟩, kiUnsafe⟩
  have b1iUnsafe := FiUnsafe.bindsN (ps := ["self", "velocities"]) fun _ _ _ _ _ _ us hl => match us, hl with | [_, _], _ => rfl
  have FiBadText : FunD K "__init__" "BadText.__init__" (defArgs (inClass (topS 26) 0)) (defBody (inClass (topS 26) 0)) (defScope (inClass (topS 26) 0)) [] [] fiBadText _ := ⟨⟨_, _, _, _, _, _, _, _, _, _, rfl, liBadText, ciBadText, .inl ⟨rfl, rfl⟩, .inl rfl⟩, kiBadText⟩
  have b1iBadText := FiBadText.bindsN (ps := ["self", "line", "column", "fault"]) fun _ _ _ _ _ _ us hl => match us, hl with | [_, _, _, _], _ => rfl
  have FiUnfitError : FunD K "__init__" "UnfitError.__init__" (defArgs (inClass (topS 6) 0)) (defBody (inClass (topS 6) 0)) (defScope (inClass (topS 6) 0)) [.non] [] fiUnfitError _ := ⟨⟨_, _, _, _, _, _, _, _, _, _, rfl, liUnfitError, ciUnfitError, .inr ⟨by simp, TiUnfitError, _, [.none], _, rfl, diUnfitError, rfl, .cons rfl .nil⟩, .inl rfl⟩, kiUnfitError⟩
  obtain ⟨ds1iUnfitError, vd1iUnfitError, b1iUnfitError⟩ := FiUnfitError.binds1 (ps := ["self", "subject"]) 2 1 (by simp) rfl fun _ _ _ _ _ _ _ us its h1 h2 => match us, its, h1, h2 with | [_, _], [_], _, _ => ⟨_, rfl, rfl⟩
  cases vd1iUnfitError
  obtain ⟨ds0iUnfitError, vd0iUnfitError, b0iUnfitError⟩ := FiUnfitError.binds1 (ps := ["self", "subject"]) 1 0 (by simp) rfl fun _ _ _ _ _ _ _ us its h1 h2 => match us, its, h1, h2 with | [_], [_], _, _ => ⟨_, rfl, rfl⟩
  have Fs : ∀ i, i < 26 → ∀ t, PySem.W.subIn K (.ref (([CFrameError, CWrongKind, COutOfBounds, CRepeatedName, CUnknownName, CUnsafe, CBadText, CUnfitError, CZeroDivisor, CNegativeRoot, CZeroBar, CFlatMap, CBadSteps, CNotOneWay, CNotHeld, CNotFlat, CNotCover, CNotOwnStress, CNotPicture, CNotLift, CNoReciprocal, CNotMotion, CNotAlike, CNotCrank, CNothingToUndo, CNothingToRedo] : List Addr).getD i 0)) t = some ((mroL [CFrameError, CWrongKind, COutOfBounds, CRepeatedName, CUnknownName, CUnsafe, CBadText, CUnfitError, CZeroDivisor, CNegativeRoot, CZeroBar, CFlatMap, CBadSteps, CNotOneWay, CNotHeld, CNotFlat, CNotCover, CNotOwnStress, CNotPicture, CNotLift, CNoReciprocal, CNotMotion, CNotAlike, CNotCrank, CNothingToUndo, CNothingToRedo] i).contains t) := fun i hi => match i, hi with
    | 0, _ => fun t => sub_of xLFrameError t
    | 1, _ => fun t => sub_of xLWrongKind t
    | 2, _ => fun t => sub_of xLOutOfBounds t
    | 3, _ => fun t => sub_of xLRepeatedName t
    | 4, _ => fun t => sub_of xLUnknownName t
    | 5, _ => fun t => sub_of xLUnsafe t
    | 6, _ => fun t => sub_of xLBadText t
    | 7, _ => fun t => sub_of xLUnfitError t
    | 8, _ => fun t => sub_of xLZeroDivisor t
    | 9, _ => fun t => sub_of xLNegativeRoot t
    | 10, _ => fun t => sub_of xLZeroBar t
    | 11, _ => fun t => sub_of xLFlatMap t
    | 12, _ => fun t => sub_of xLBadSteps t
    | 13, _ => fun t => sub_of xLNotOneWay t
    | 14, _ => fun t => sub_of xLNotHeld t
    | 15, _ => fun t => sub_of xLNotFlat t
    | 16, _ => fun t => sub_of xLNotCover t
    | 17, _ => fun t => sub_of xLNotOwnStress t
    | 18, _ => fun t => sub_of xLNotPicture t
    | 19, _ => fun t => sub_of xLNotLift t
    | 20, _ => fun t => sub_of xLNoReciprocal t
    | 21, _ => fun t => sub_of xLNotMotion t
    | 22, _ => fun t => sub_of xLNotAlike t
    | 23, _ => fun t => sub_of xLNotCrank t
    | 24, _ => fun t => sub_of xLNothingToUndo t
    | 25, _ => fun t => sub_of xLNothingToRedo t
    | n + 26, h => absurd h (by omega)
  have Hc : ∀ i, i < 26 → PySem.W.isClsIn K (([CFrameError, CWrongKind, COutOfBounds, CRepeatedName, CUnknownName, CUnsafe, CBadText, CUnfitError, CZeroDivisor, CNegativeRoot, CZeroBar, CFlatMap, CBadSteps, CNotOneWay, CNotHeld, CNotFlat, CNotCover, CNotOwnStress, CNotPicture, CNotLift, CNoReciprocal, CNotMotion, CNotAlike, CNotCrank, CNothingToUndo, CNothingToRedo] : List Addr).getD i 0) = true := fun i hi => match i, hi with
    | 0, _ => isFrameError
    | 1, _ => isWrongKind
    | 2, _ => isOutOfBounds
    | 3, _ => isRepeatedName
    | 4, _ => isUnknownName
    | 5, _ => isUnsafe
    | 6, _ => isBadText
    | 7, _ => isUnfitError
    | 8, _ => isZeroDivisor
    | 9, _ => isNegativeRoot
    | 10, _ => isZeroBar
    | 11, _ => isFlatMap
    | 12, _ => isBadSteps
    | 13, _ => isNotOneWay
    | 14, _ => isNotHeld
    | 15, _ => isNotFlat
    | 16, _ => isNotCover
    | 17, _ => isNotOwnStress
    | 18, _ => isNotPicture
    | 19, _ => isNotLift
    | 20, _ => isNoReciprocal
    | 21, _ => isNotMotion
    | 22, _ => isNotAlike
    | 23, _ => isNotCrank
    | 24, _ => isNothingToUndo
    | 25, _ => isNothingToRedo
    | n + 26, h => absurd h (by omega)
  have Ht : ∀ i, i < 26 → PySem.W.typeIn K (.ref (([CFrameError, CWrongKind, COutOfBounds, CRepeatedName, CUnknownName, CUnsafe, CBadText, CUnfitError, CZeroDivisor, CNegativeRoot, CZeroBar, CFlatMap, CBadSteps, CNotOneWay, CNotHeld, CNotFlat, CNotCover, CNotOwnStress, CNotPicture, CNotLift, CNoReciprocal, CNotMotion, CNotAlike, CNotCrank, CNothingToUndo, CNothingToRedo] : List Addr).getD i 0)) = some (.type "type") := fun i hi => match i, hi with
    | 0, _ => tyFrameError
    | 1, _ => tyWrongKind
    | 2, _ => tyOutOfBounds
    | 3, _ => tyRepeatedName
    | 4, _ => tyUnknownName
    | 5, _ => tyUnsafe
    | 6, _ => tyBadText
    | 7, _ => tyUnfitError
    | 8, _ => tyZeroDivisor
    | 9, _ => tyNegativeRoot
    | 10, _ => tyZeroBar
    | 11, _ => tyFlatMap
    | 12, _ => tyBadSteps
    | 13, _ => tyNotOneWay
    | 14, _ => tyNotHeld
    | 15, _ => tyNotFlat
    | 16, _ => tyNotCover
    | 17, _ => tyNotOwnStress
    | 18, _ => tyNotPicture
    | 19, _ => tyNotLift
    | 20, _ => tyNoReciprocal
    | 21, _ => tyNotMotion
    | 22, _ => tyNotAlike
    | 23, _ => tyNotCrank
    | 24, _ => tyNothingToUndo
    | 25, _ => tyNothingToRedo
    | n + 26, h => absurd h (by omega)
  have sWrongKind : PySem.W.subIn K (.ref CWrongKind) (.ref CFrameError) = some true := (Fs 1 (by decide) (.ref CFrameError)).trans (congrArg some (mro_has (i := 1) (j := 0) nd rfl (by decide) (by decide)))
  have sNegativeRoot : PySem.W.subIn K (.ref CNegativeRoot) (.ref CFrameError) = some true := (Fs 9 (by decide) (.ref CFrameError)).trans (congrArg some (mro_has (i := 9) (j := 0) nd rfl (by decide) (by decide)))
  let T : Txt K mg := {
    dis_whole := ⟨f_is_whole, _, F_is_whole, b_is_whole, PySem.W.mg_of X G a_is_whole⟩
    ddivisor := ⟨f_divisor, _, F_divisor, b_divisor, PySem.W.mg_of X G a_divisor⟩
    dsign_of := ⟨f_sign_of, _, F_sign_of, b_sign_of, PySem.W.mg_of X G a_sign_of⟩
    dfloor_root := ⟨f_floor_root, _, F_floor_root, b_floor_root, PySem.W.mg_of X G a_floor_root⟩
    dneed_ratio := ⟨f_need_ratio, _, F_need_ratio, b_need_ratio, PySem.W.mg_of X G a_need_ratio⟩
    dis_ratio := ⟨f_is_ratio, _, F_is_ratio, b_is_ratio, PySem.W.mg_of X G a_is_ratio⟩
    droot := ⟨f_root, _, F_root, b_root, PySem.W.mg_of X G a_root⟩
    droot_sign := ⟨f_root_sign, _, F_root_sign, b_root_sign, PySem.W.mg_of X G a_root_sign⟩
    dstore := ⟨f_store, _, F_store, b_store, PySem.W.mg_of X G a_store⟩
    dtake := ⟨f_take, _, F_take, b_take, PySem.W.mg_of X G a_take⟩
    dedge := ⟨f_edge, _, F_edge, b_edge, PySem.W.mg_of X G a_edge⟩
    dbetween := ⟨f_between, _, F_between, b_between, PySem.W.mg_of X G a_between⟩
    dtens := ⟨f_tens, _, F_tens, b_tens, PySem.W.mg_of X G a_tens⟩
    dinteger := ⟨f_integer, _, F_integer, b_integer, PySem.W.mg_of X G a_integer⟩
    dlow := ⟨f_low, _, F_low, b_low, PySem.W.mg_of X G a_low⟩
    dtimes := ⟨f_times, _, F_times, b_times, PySem.W.mg_of X G a_times⟩
    dneg := ⟨f_neg, _, F_neg, b_neg, PySem.W.mg_of X G a_neg⟩
    dsmall := ⟨f_small, _, F_small, b_small, PySem.W.mg_of X G a_small⟩
    dratio := ⟨f_ratio, _, F_ratio, b_ratio, PySem.W.mg_of X G a_ratio⟩
    dnot_ratio := ⟨f_not_ratio, _, F_not_ratio, b_not_ratio, PySem.W.mg_of X G a_not_ratio⟩
    dsame := ⟨f_same, _, F_same, b_same, PySem.W.mg_of X G a_same⟩
    dis_int := ⟨f_is_int, _, F_is_int, b_is_int, PySem.W.mg_of X G a_is_int⟩
    dlis_ratio := ⟨f_lis_ratio, _, F_lis_ratio, b_lis_ratio, PySem.W.mg_of X G a_lis_ratio⟩
    drefused := ⟨f_refused, _, F_refused, b_refused, PySem.W.mg_of X G a_refused⟩
    dunfit := ⟨f_unfit, _, F_unfit, b_unfit, PySem.W.mg_of X G a_unfit⟩
    dlfloor_root := ⟨f_lfloor_root, _, F_lfloor_root, b_lfloor_root, PySem.W.mg_of X G a_lfloor_root⟩
    dabove := ⟨f_above, _, F_above, b_above, PySem.W.mg_of X G a_above⟩
    dsign_due := ⟨f_sign_due, _, F_sign_due, b_sign_due, PySem.W.mg_of X G a_sign_due⟩
    dis_root := ⟨f_is_root, _, F_is_root, b_is_root, PySem.W.mg_of X G a_is_root⟩
    dsquared := ⟨f_squared, _, F_squared, b_squared, PySem.W.mg_of X G a_squared⟩
    dtriple := ⟨f_triple, _, F_triple, b_triple, PySem.W.mg_of X G a_triple⟩
    dcall := ⟨f_call, _, F_call, b_call, PySem.W.mg_of X G a_call⟩
    dsign_call_due := ⟨f_sign_call_due, _, F_sign_call_due, b_sign_call_due, PySem.W.mg_of X G a_sign_call_due⟩
    dbad_triple := ⟨f_bad_triple, _, F_bad_triple, b_bad_triple, PySem.W.mg_of X G a_bad_triple⟩
    dmade := ⟨f_made, _, F_made, b_made, PySem.W.mg_of X G a_made⟩
    dleft_out := ⟨f_left_out, _, F_left_out, b_left_out, PySem.W.mg_of X G a_left_out⟩
    derrors_right := ⟨f_errors_right, _, F_errors_right, b_errors_right, PySem.W.mg_of X G a_errors_right⟩
    dlaw := ⟨fa, _, F_law, b_law, PySem.W.mg_of X G a_law⟩
    m_len := PySem.W.mg_none_of X G z_len
    m_max := PySem.W.mg_none_of X G z_max
    m_min := PySem.W.mg_none_of X G z_min
    m_abs := PySem.W.mg_none_of X G z_abs
    m_int := PySem.W.mg_none_of X G z_int
    m_str := PySem.W.mg_none_of X G z_str
    m_bool := PySem.W.mg_none_of X G z_bool
    m_list := PySem.W.mg_none_of X G z_list
    m_tuple := PySem.W.mg_none_of X G z_tuple
    m_dict := PySem.W.mg_none_of X G z_dict
    m_isinstance := PySem.W.mg_none_of X G z_isinstance
    m_range := PySem.W.mg_none_of X G z_range
    m_all := PySem.W.mg_none_of X G z_all
    m_ValueError := PySem.W.mg_none_of X G z_ValueError
    dig := dig
    cFrameError := ⟨CFrameError, PySem.W.mg_of X G aFrameError, ⟨⟨hgFrameError, hkFrameError, exFrameError, hdFrameError, haFrameError, hn, ht, hmFrameError⟩, cl_of xLFrameError⟩, qFrameError, kcFrameError⟩
    cWrongKind := ⟨CWrongKind, PySem.W.mg_of X G aWrongKind, ⟨⟨_, _, _, _, _, _, _, _, _, _, _, _, _, _, _, xLWrongKind, rfl⟩, saWrongKind, exWrongKind, tyWrongKind, kcWrongKind⟩, ⟨⟨hgWrongKind, hkWrongKind, exWrongKind, hdWrongKind, haWrongKind, hn, ht, hmWrongKind⟩, cl_of xLWrongKind⟩⟩
    cOutOfBounds := ⟨COutOfBounds, PySem.W.mg_of X G aOutOfBounds, ⟨⟨_, _, _, _, _, _, _, _, _, _, _, _, _, _, _, xLOutOfBounds, rfl⟩, saOutOfBounds, exOutOfBounds, tyOutOfBounds, kcOutOfBounds⟩, ⟨⟨hgOutOfBounds, hkOutOfBounds, exOutOfBounds, hdOutOfBounds, haOutOfBounds, hn, ht, hmOutOfBounds⟩, cl_of xLOutOfBounds⟩⟩
    cRepeatedName := ⟨CRepeatedName, PySem.W.mg_of X G aRepeatedName, ⟨⟨_, _, _, _, _, _, _, _, _, _, _, _, _, _, _, xLRepeatedName, rfl⟩, saRepeatedName, exRepeatedName, tyRepeatedName, kcRepeatedName⟩, ⟨⟨hgRepeatedName, hkRepeatedName, exRepeatedName, hdRepeatedName, haRepeatedName, hn, ht, hmRepeatedName⟩, cl_of xLRepeatedName⟩⟩
    cUnknownName := ⟨CUnknownName, PySem.W.mg_of X G aUnknownName, ⟨⟨_, _, _, _, _, _, _, _, _, _, _, _, _, _, _, xLUnknownName, rfl⟩, saUnknownName, exUnknownName, tyUnknownName, kcUnknownName⟩, ⟨⟨hgUnknownName, hkUnknownName, exUnknownName, hdUnknownName, haUnknownName, hn, ht, hmUnknownName⟩, cl_of xLUnknownName⟩⟩
    cUnsafe := ⟨CUnsafe, PySem.W.mg_of X G aUnsafe, ⟨⟨_, _, _, _, _, _, _, _, _, _, _, _, _, _, _, xLUnsafe, rfl⟩, saUnsafe, exUnsafe, tyUnsafe, kcUnsafe⟩, ⟨⟨hgUnsafe, hkUnsafe, exUnsafe, hdUnsafe, haUnsafe, hn, ht, hmUnsafe⟩, cl_of xLUnsafe⟩⟩
    cBadText := ⟨CBadText, PySem.W.mg_of X G aBadText, ⟨⟨_, _, _, _, _, _, _, _, _, _, _, _, _, _, _, xLBadText, rfl⟩, saBadText, exBadText, tyBadText, kcBadText⟩, ⟨⟨hgBadText, hkBadText, exBadText, hdBadText, haBadText, hn, ht, hmBadText⟩, cl_of xLBadText⟩⟩
    cUnfitError := ⟨CUnfitError, PySem.W.mg_of X G aUnfitError, ⟨⟨_, _, _, _, _, _, _, _, _, _, _, _, _, _, _, xLUnfitError, rfl⟩, saUnfitError, exUnfitError, tyUnfitError, kcUnfitError⟩, ⟨⟨hgUnfitError, hkUnfitError, exUnfitError, hdUnfitError, haUnfitError, hn, ht, hmUnfitError⟩, cl_of xLUnfitError⟩⟩
    cZeroDivisor := ⟨CZeroDivisor, PySem.W.mg_of X G aZeroDivisor, ⟨⟨_, _, _, _, _, _, _, _, _, _, _, _, _, _, _, xLZeroDivisor, rfl⟩, saZeroDivisor, exZeroDivisor, tyZeroDivisor, kcZeroDivisor⟩, ⟨⟨hgZeroDivisor, hkZeroDivisor, exZeroDivisor, hdZeroDivisor, haZeroDivisor, hn, ht, hmZeroDivisor⟩, cl_of xLZeroDivisor⟩⟩
    cNegativeRoot := ⟨CNegativeRoot, PySem.W.mg_of X G aNegativeRoot, ⟨⟨_, _, _, _, _, _, _, _, _, _, _, _, _, _, _, xLNegativeRoot, rfl⟩, saNegativeRoot, exNegativeRoot, tyNegativeRoot, kcNegativeRoot⟩, ⟨⟨hgNegativeRoot, hkNegativeRoot, exNegativeRoot, hdNegativeRoot, haNegativeRoot, hn, ht, hmNegativeRoot⟩, cl_of xLNegativeRoot⟩⟩
    cZeroBar := ⟨CZeroBar, PySem.W.mg_of X G aZeroBar, ⟨⟨_, _, _, _, _, _, _, _, _, _, _, _, _, _, _, xLZeroBar, rfl⟩, saZeroBar, exZeroBar, tyZeroBar, kcZeroBar⟩, ⟨⟨hgZeroBar, hkZeroBar, exZeroBar, hdZeroBar, haZeroBar, hn, ht, hmZeroBar⟩, cl_of xLZeroBar⟩⟩
    cFlatMap := ⟨CFlatMap, PySem.W.mg_of X G aFlatMap, ⟨⟨_, _, _, _, _, _, _, _, _, _, _, _, _, _, _, xLFlatMap, rfl⟩, saFlatMap, exFlatMap, tyFlatMap, kcFlatMap⟩, ⟨⟨hgFlatMap, hkFlatMap, exFlatMap, hdFlatMap, haFlatMap, hn, ht, hmFlatMap⟩, cl_of xLFlatMap⟩⟩
    cBadSteps := ⟨CBadSteps, PySem.W.mg_of X G aBadSteps, ⟨⟨_, _, _, _, _, _, _, _, _, _, _, _, _, _, _, xLBadSteps, rfl⟩, saBadSteps, exBadSteps, tyBadSteps, kcBadSteps⟩, ⟨⟨hgBadSteps, hkBadSteps, exBadSteps, hdBadSteps, haBadSteps, hn, ht, hmBadSteps⟩, cl_of xLBadSteps⟩⟩
    cNotOneWay := ⟨CNotOneWay, PySem.W.mg_of X G aNotOneWay, ⟨⟨_, _, _, _, _, _, _, _, _, _, _, _, _, _, _, xLNotOneWay, rfl⟩, saNotOneWay, exNotOneWay, tyNotOneWay, kcNotOneWay⟩, ⟨⟨hgNotOneWay, hkNotOneWay, exNotOneWay, hdNotOneWay, haNotOneWay, hn, ht, hmNotOneWay⟩, cl_of xLNotOneWay⟩⟩
    cNotHeld := ⟨CNotHeld, PySem.W.mg_of X G aNotHeld, ⟨⟨_, _, _, _, _, _, _, _, _, _, _, _, _, _, _, xLNotHeld, rfl⟩, saNotHeld, exNotHeld, tyNotHeld, kcNotHeld⟩, ⟨⟨hgNotHeld, hkNotHeld, exNotHeld, hdNotHeld, haNotHeld, hn, ht, hmNotHeld⟩, cl_of xLNotHeld⟩⟩
    cNotFlat := ⟨CNotFlat, PySem.W.mg_of X G aNotFlat, ⟨⟨_, _, _, _, _, _, _, _, _, _, _, _, _, _, _, xLNotFlat, rfl⟩, saNotFlat, exNotFlat, tyNotFlat, kcNotFlat⟩, ⟨⟨hgNotFlat, hkNotFlat, exNotFlat, hdNotFlat, haNotFlat, hn, ht, hmNotFlat⟩, cl_of xLNotFlat⟩⟩
    cNotCover := ⟨CNotCover, PySem.W.mg_of X G aNotCover, ⟨⟨_, _, _, _, _, _, _, _, _, _, _, _, _, _, _, xLNotCover, rfl⟩, saNotCover, exNotCover, tyNotCover, kcNotCover⟩, ⟨⟨hgNotCover, hkNotCover, exNotCover, hdNotCover, haNotCover, hn, ht, hmNotCover⟩, cl_of xLNotCover⟩⟩
    cNotOwnStress := ⟨CNotOwnStress, PySem.W.mg_of X G aNotOwnStress, ⟨⟨_, _, _, _, _, _, _, _, _, _, _, _, _, _, _, xLNotOwnStress, rfl⟩, saNotOwnStress, exNotOwnStress, tyNotOwnStress, kcNotOwnStress⟩, ⟨⟨hgNotOwnStress, hkNotOwnStress, exNotOwnStress, hdNotOwnStress, haNotOwnStress, hn, ht, hmNotOwnStress⟩, cl_of xLNotOwnStress⟩⟩
    cNotPicture := ⟨CNotPicture, PySem.W.mg_of X G aNotPicture, ⟨⟨_, _, _, _, _, _, _, _, _, _, _, _, _, _, _, xLNotPicture, rfl⟩, saNotPicture, exNotPicture, tyNotPicture, kcNotPicture⟩, ⟨⟨hgNotPicture, hkNotPicture, exNotPicture, hdNotPicture, haNotPicture, hn, ht, hmNotPicture⟩, cl_of xLNotPicture⟩⟩
    cNotLift := ⟨CNotLift, PySem.W.mg_of X G aNotLift, ⟨⟨_, _, _, _, _, _, _, _, _, _, _, _, _, _, _, xLNotLift, rfl⟩, saNotLift, exNotLift, tyNotLift, kcNotLift⟩, ⟨⟨hgNotLift, hkNotLift, exNotLift, hdNotLift, haNotLift, hn, ht, hmNotLift⟩, cl_of xLNotLift⟩⟩
    cNoReciprocal := ⟨CNoReciprocal, PySem.W.mg_of X G aNoReciprocal, ⟨⟨_, _, _, _, _, _, _, _, _, _, _, _, _, _, _, xLNoReciprocal, rfl⟩, saNoReciprocal, exNoReciprocal, tyNoReciprocal, kcNoReciprocal⟩, ⟨⟨hgNoReciprocal, hkNoReciprocal, exNoReciprocal, hdNoReciprocal, haNoReciprocal, hn, ht, hmNoReciprocal⟩, cl_of xLNoReciprocal⟩⟩
    cNotMotion := ⟨CNotMotion, PySem.W.mg_of X G aNotMotion, ⟨⟨_, _, _, _, _, _, _, _, _, _, _, _, _, _, _, xLNotMotion, rfl⟩, saNotMotion, exNotMotion, tyNotMotion, kcNotMotion⟩, ⟨⟨hgNotMotion, hkNotMotion, exNotMotion, hdNotMotion, haNotMotion, hn, ht, hmNotMotion⟩, cl_of xLNotMotion⟩⟩
    cNotAlike := ⟨CNotAlike, PySem.W.mg_of X G aNotAlike, ⟨⟨_, _, _, _, _, _, _, _, _, _, _, _, _, _, _, xLNotAlike, rfl⟩, saNotAlike, exNotAlike, tyNotAlike, kcNotAlike⟩, ⟨⟨hgNotAlike, hkNotAlike, exNotAlike, hdNotAlike, haNotAlike, hn, ht, hmNotAlike⟩, cl_of xLNotAlike⟩⟩
    cNotCrank := ⟨CNotCrank, PySem.W.mg_of X G aNotCrank, ⟨⟨_, _, _, _, _, _, _, _, _, _, _, _, _, _, _, xLNotCrank, rfl⟩, saNotCrank, exNotCrank, tyNotCrank, kcNotCrank⟩, ⟨⟨hgNotCrank, hkNotCrank, exNotCrank, hdNotCrank, haNotCrank, hn, ht, hmNotCrank⟩, cl_of xLNotCrank⟩⟩
    cNothingToUndo := ⟨CNothingToUndo, PySem.W.mg_of X G aNothingToUndo, ⟨⟨_, _, _, _, _, _, _, _, _, _, _, _, _, _, _, xLNothingToUndo, rfl⟩, saNothingToUndo, exNothingToUndo, tyNothingToUndo, kcNothingToUndo⟩, ⟨⟨hgNothingToUndo, hkNothingToUndo, exNothingToUndo, hdNothingToUndo, haNothingToUndo, hn, ht, hmNothingToUndo⟩, cl_of xLNothingToUndo⟩⟩
    cNothingToRedo := ⟨CNothingToRedo, PySem.W.mg_of X G aNothingToRedo, ⟨⟨_, _, _, _, _, _, _, _, _, _, _, _, _, _, _, xLNothingToRedo, rfl⟩, saNothingToRedo, exNothingToRedo, tyNothingToRedo, kcNothingToRedo⟩, ⟨⟨hgNothingToRedo, hkNothingToRedo, exNothingToRedo, hdNothingToRedo, haNothingToRedo, hn, ht, hmNothingToRedo⟩, cl_of xLNothingToRedo⟩⟩
    iWrongKind := ⟨fiWrongKind, _, FiWrongKind, b1iWrongKind, [], .nil, b1iWrongKind, aiWrongKind, tiWrongKind⟩
    zWrongKind := ⟨fun f hf => by rw [List.mem_singleton.mp hf]; exact nWrongKind_argument, ⟨⟨_, _, _, _, _, _, _, _, _, _, _, _, _, _, _, xLWrongKind, rfl⟩, saWrongKind, exWrongKind, tyWrongKind, kcWrongKind⟩, mk1_da⟩
    iOutOfBounds := ⟨fiOutOfBounds, _, FiOutOfBounds, b1iOutOfBounds, [], .nil, b1iOutOfBounds, aiOutOfBounds, tiOutOfBounds⟩
    zOutOfBounds := ⟨fun f hf => by rw [List.mem_singleton.mp hf]; exact nOutOfBounds_argument, ⟨⟨_, _, _, _, _, _, _, _, _, _, _, _, _, _, _, xLOutOfBounds, rfl⟩, saOutOfBounds, exOutOfBounds, tyOutOfBounds, kcOutOfBounds⟩, mk1_da⟩
    iRepeatedName := ⟨fiRepeatedName, _, FiRepeatedName, b1iRepeatedName, [], .nil, b1iRepeatedName, aiRepeatedName, tiRepeatedName⟩
    zRepeatedName := ⟨fun f hf => by rw [List.mem_singleton.mp hf]; exact nRepeatedName_repeated, ⟨⟨_, _, _, _, _, _, _, _, _, _, _, _, _, _, _, xLRepeatedName, rfl⟩, saRepeatedName, exRepeatedName, tyRepeatedName, kcRepeatedName⟩, mk1_da⟩
    iUnknownName := ⟨fiUnknownName, _, FiUnknownName, b1iUnknownName, [], .nil, b1iUnknownName, aiUnknownName, tiUnknownName⟩
    zUnknownName := ⟨fun f hf => by rw [List.mem_singleton.mp hf]; exact nUnknownName_unknown, ⟨⟨_, _, _, _, _, _, _, _, _, _, _, _, _, _, _, xLUnknownName, rfl⟩, saUnknownName, exUnknownName, tyUnknownName, kcUnknownName⟩, mk1_da⟩
    iUnsafe := ⟨fiUnsafe, _, FiUnsafe, b1iUnsafe, [], .nil, b1iUnsafe, aiUnsafe, tiUnsafe⟩
    zUnsafe := ⟨fun f hf => by rw [List.mem_singleton.mp hf]; exact nUnsafe_velocities, ⟨⟨_, _, _, _, _, _, _, _, _, _, _, _, _, _, _, xLUnsafe, rfl⟩, saUnsafe, exUnsafe, tyUnsafe, kcUnsafe⟩, mk1_da⟩
    iBadText := ⟨fiBadText, _, FiBadText, b1iBadText, [], .nil, b1iBadText, aiBadText, tiBadText⟩
    zBadText := ⟨(fun f hf => by
      simp only [List.mem_cons, List.not_mem_nil, or_false] at hf
      rcases hf with rfl | rfl | rfl
      · exact nBadText_fault
      · exact nBadText_column
      · exact nBadText_line), ⟨⟨_, _, _, _, _, _, _, _, _, _, _, _, _, _, _, xLBadText, rfl⟩, saBadText, exBadText, tyBadText, kcBadText⟩, mk3_da⟩
    iUnfitError := ⟨fiUnfitError, _, FiUnfitError, b1iUnfitError, ds0iUnfitError, vd0iUnfitError, b0iUnfitError, aiUnfitError, tiUnfitError⟩
    zUnfitError := ⟨fun f hf => by rw [List.mem_singleton.mp hf]; exact nUnfitError_subject, ⟨⟨_, _, _, _, _, _, _, _, _, _, _, _, _, _, _, xLUnfitError, rfl⟩, saUnfitError, exUnfitError, tyUnfitError, kcUnfitError⟩, mk1_da⟩
    iZeroDivisor := ⟨fiUnfitError, _, FiUnfitError, b1iUnfitError, ds0iUnfitError, vd0iUnfitError, b0iUnfitError, aiZeroDivisor, tiUnfitError⟩
    zZeroDivisor := ⟨fun f hf => by rw [List.mem_singleton.mp hf]; exact nZeroDivisor_subject, ⟨⟨_, _, _, _, _, _, _, _, _, _, _, _, _, _, _, xLZeroDivisor, rfl⟩, saZeroDivisor, exZeroDivisor, tyZeroDivisor, kcZeroDivisor⟩, mk1_da⟩
    iNegativeRoot := ⟨fiUnfitError, _, FiUnfitError, b1iUnfitError, ds0iUnfitError, vd0iUnfitError, b0iUnfitError, aiNegativeRoot, tiUnfitError⟩
    zNegativeRoot := ⟨fun f hf => by rw [List.mem_singleton.mp hf]; exact nNegativeRoot_subject, ⟨⟨_, _, _, _, _, _, _, _, _, _, _, _, _, _, _, xLNegativeRoot, rfl⟩, saNegativeRoot, exNegativeRoot, tyNegativeRoot, kcNegativeRoot⟩, mk1_da⟩
    iZeroBar := ⟨fiUnfitError, _, FiUnfitError, b1iUnfitError, ds0iUnfitError, vd0iUnfitError, b0iUnfitError, aiZeroBar, tiUnfitError⟩
    zZeroBar := ⟨fun f hf => by rw [List.mem_singleton.mp hf]; exact nZeroBar_subject, ⟨⟨_, _, _, _, _, _, _, _, _, _, _, _, _, _, _, xLZeroBar, rfl⟩, saZeroBar, exZeroBar, tyZeroBar, kcZeroBar⟩, mk1_da⟩
    iFlatMap := ⟨fiUnfitError, _, FiUnfitError, b1iUnfitError, ds0iUnfitError, vd0iUnfitError, b0iUnfitError, aiFlatMap, tiUnfitError⟩
    zFlatMap := ⟨fun f hf => by rw [List.mem_singleton.mp hf]; exact nFlatMap_subject, ⟨⟨_, _, _, _, _, _, _, _, _, _, _, _, _, _, _, xLFlatMap, rfl⟩, saFlatMap, exFlatMap, tyFlatMap, kcFlatMap⟩, mk1_da⟩
    iBadSteps := ⟨fiUnfitError, _, FiUnfitError, b1iUnfitError, ds0iUnfitError, vd0iUnfitError, b0iUnfitError, aiBadSteps, tiUnfitError⟩
    zBadSteps := ⟨fun f hf => by rw [List.mem_singleton.mp hf]; exact nBadSteps_subject, ⟨⟨_, _, _, _, _, _, _, _, _, _, _, _, _, _, _, xLBadSteps, rfl⟩, saBadSteps, exBadSteps, tyBadSteps, kcBadSteps⟩, mk1_da⟩
    iNotOneWay := ⟨fiUnfitError, _, FiUnfitError, b1iUnfitError, ds0iUnfitError, vd0iUnfitError, b0iUnfitError, aiNotOneWay, tiUnfitError⟩
    zNotOneWay := ⟨fun f hf => by rw [List.mem_singleton.mp hf]; exact nNotOneWay_subject, ⟨⟨_, _, _, _, _, _, _, _, _, _, _, _, _, _, _, xLNotOneWay, rfl⟩, saNotOneWay, exNotOneWay, tyNotOneWay, kcNotOneWay⟩, mk1_da⟩
    iNotHeld := ⟨fiUnfitError, _, FiUnfitError, b1iUnfitError, ds0iUnfitError, vd0iUnfitError, b0iUnfitError, aiNotHeld, tiUnfitError⟩
    zNotHeld := ⟨fun f hf => by rw [List.mem_singleton.mp hf]; exact nNotHeld_subject, ⟨⟨_, _, _, _, _, _, _, _, _, _, _, _, _, _, _, xLNotHeld, rfl⟩, saNotHeld, exNotHeld, tyNotHeld, kcNotHeld⟩, mk1_da⟩
    iNotFlat := ⟨fiUnfitError, _, FiUnfitError, b1iUnfitError, ds0iUnfitError, vd0iUnfitError, b0iUnfitError, aiNotFlat, tiUnfitError⟩
    zNotFlat := ⟨fun f hf => by rw [List.mem_singleton.mp hf]; exact nNotFlat_subject, ⟨⟨_, _, _, _, _, _, _, _, _, _, _, _, _, _, _, xLNotFlat, rfl⟩, saNotFlat, exNotFlat, tyNotFlat, kcNotFlat⟩, mk1_da⟩
    iNotCover := ⟨fiUnfitError, _, FiUnfitError, b1iUnfitError, ds0iUnfitError, vd0iUnfitError, b0iUnfitError, aiNotCover, tiUnfitError⟩
    zNotCover := ⟨fun f hf => by rw [List.mem_singleton.mp hf]; exact nNotCover_subject, ⟨⟨_, _, _, _, _, _, _, _, _, _, _, _, _, _, _, xLNotCover, rfl⟩, saNotCover, exNotCover, tyNotCover, kcNotCover⟩, mk1_da⟩
    iNotOwnStress := ⟨fiUnfitError, _, FiUnfitError, b1iUnfitError, ds0iUnfitError, vd0iUnfitError, b0iUnfitError, aiNotOwnStress, tiUnfitError⟩
    zNotOwnStress := ⟨fun f hf => by rw [List.mem_singleton.mp hf]; exact nNotOwnStress_subject, ⟨⟨_, _, _, _, _, _, _, _, _, _, _, _, _, _, _, xLNotOwnStress, rfl⟩, saNotOwnStress, exNotOwnStress, tyNotOwnStress, kcNotOwnStress⟩, mk1_da⟩
    iNotPicture := ⟨fiUnfitError, _, FiUnfitError, b1iUnfitError, ds0iUnfitError, vd0iUnfitError, b0iUnfitError, aiNotPicture, tiUnfitError⟩
    zNotPicture := ⟨fun f hf => by rw [List.mem_singleton.mp hf]; exact nNotPicture_subject, ⟨⟨_, _, _, _, _, _, _, _, _, _, _, _, _, _, _, xLNotPicture, rfl⟩, saNotPicture, exNotPicture, tyNotPicture, kcNotPicture⟩, mk1_da⟩
    iNotLift := ⟨fiUnfitError, _, FiUnfitError, b1iUnfitError, ds0iUnfitError, vd0iUnfitError, b0iUnfitError, aiNotLift, tiUnfitError⟩
    zNotLift := ⟨fun f hf => by rw [List.mem_singleton.mp hf]; exact nNotLift_subject, ⟨⟨_, _, _, _, _, _, _, _, _, _, _, _, _, _, _, xLNotLift, rfl⟩, saNotLift, exNotLift, tyNotLift, kcNotLift⟩, mk1_da⟩
    iNoReciprocal := ⟨fiUnfitError, _, FiUnfitError, b1iUnfitError, ds0iUnfitError, vd0iUnfitError, b0iUnfitError, aiNoReciprocal, tiUnfitError⟩
    zNoReciprocal := ⟨fun f hf => by rw [List.mem_singleton.mp hf]; exact nNoReciprocal_subject, ⟨⟨_, _, _, _, _, _, _, _, _, _, _, _, _, _, _, xLNoReciprocal, rfl⟩, saNoReciprocal, exNoReciprocal, tyNoReciprocal, kcNoReciprocal⟩, mk1_da⟩
    iNotMotion := ⟨fiUnfitError, _, FiUnfitError, b1iUnfitError, ds0iUnfitError, vd0iUnfitError, b0iUnfitError, aiNotMotion, tiUnfitError⟩
    zNotMotion := ⟨fun f hf => by rw [List.mem_singleton.mp hf]; exact nNotMotion_subject, ⟨⟨_, _, _, _, _, _, _, _, _, _, _, _, _, _, _, xLNotMotion, rfl⟩, saNotMotion, exNotMotion, tyNotMotion, kcNotMotion⟩, mk1_da⟩
    iNotAlike := ⟨fiUnfitError, _, FiUnfitError, b1iUnfitError, ds0iUnfitError, vd0iUnfitError, b0iUnfitError, aiNotAlike, tiUnfitError⟩
    zNotAlike := ⟨fun f hf => by rw [List.mem_singleton.mp hf]; exact nNotAlike_subject, ⟨⟨_, _, _, _, _, _, _, _, _, _, _, _, _, _, _, xLNotAlike, rfl⟩, saNotAlike, exNotAlike, tyNotAlike, kcNotAlike⟩, mk1_da⟩
    iNotCrank := ⟨fiUnfitError, _, FiUnfitError, b1iUnfitError, ds0iUnfitError, vd0iUnfitError, b0iUnfitError, aiNotCrank, tiUnfitError⟩
    zNotCrank := ⟨fun f hf => by rw [List.mem_singleton.mp hf]; exact nNotCrank_subject, ⟨⟨_, _, _, _, _, _, _, _, _, _, _, _, _, _, _, xLNotCrank, rfl⟩, saNotCrank, exNotCrank, tyNotCrank, kcNotCrank⟩, mk1_da⟩
    iNothingToUndo := ⟨fiUnfitError, _, FiUnfitError, b1iUnfitError, ds0iUnfitError, vd0iUnfitError, b0iUnfitError, aiNothingToUndo, tiUnfitError⟩
    zNothingToUndo := ⟨fun f hf => by rw [List.mem_singleton.mp hf]; exact nNothingToUndo_subject, ⟨⟨_, _, _, _, _, _, _, _, _, _, _, _, _, _, _, xLNothingToUndo, rfl⟩, saNothingToUndo, exNothingToUndo, tyNothingToUndo, kcNothingToUndo⟩, mk1_da⟩
    iNothingToRedo := ⟨fiUnfitError, _, FiUnfitError, b1iUnfitError, ds0iUnfitError, vd0iUnfitError, b0iUnfitError, aiNothingToRedo, tiUnfitError⟩
    zNothingToRedo := ⟨fun f hf => by rw [List.mem_singleton.mp hf]; exact nNothingToRedo_subject, ⟨⟨_, _, _, _, _, _, _, _, _, _, _, _, _, _, _, xLNothingToRedo, rfl⟩, saNothingToRedo, exNothingToRedo, tyNothingToRedo, kcNothingToRedo⟩, mk1_da⟩
    kk := kk_all nd rfl Fs Hc Ht
    kv := kv_all nd rfl Fs
    xWrongKind := exm_t exFrameError isFrameError tyFrameError sWrongKind
    xNegativeRoot := exm_t exFrameError isFrameError tyFrameError sNegativeRoot
  }
  exact ⟨PySem.W.fnOf "law" "law" (defArgs (topS 66)) (defBody (topS 66)) (defScope (topS 66)) .none kV_law dc_law pm_law an_law cd_law ct_law, fun s v => .of_eq rfl, fun base _ _ => ok_law T⟩
theorem walk {l : PySem.W.OpenLaw} {q : Program} {loose : List Str} {XP : (Str → Option Value) → Heap → Prop} {YP : World → Heap → Prop} {d : DefRec} {K : Params → PySem.W.Frag} (hn : l.most = some 63) (hdf : d.params.defaults = [])
    (hY : ∀ (w : World) (h : Heap), YP w h → (K w.params).In h)
    (F : ∀ (w : World) (mg : Str → Option Value) (fa : Addr) (h : Heap), (K w.params).In h → h.Ns mainGlobals mg → mg d.name = some (.ref fa) →
      ∃ fd : FuncData, (∀ (s : Shared) (u : Value), BindsTo s fd ⟨[u], []⟩ [("script", u)]) ∧ ∀ base : Heap, (K w.params).In base → base.Ns mainGlobals mg → FnOk l.prog w (K w.params) mg base (L2N.CX l.prog w) 178 fa fd ["script"] (spLaw (K w.params))) :
    PySem.W.WalkO q loose XP YP l.row.toRowW d [] (fun f vs => PySem.call f vs) :=
  L2.walk_of (n := 63) (k := 178) (x := "script") (CX := fun w => L2N.CX l.prog w) (sp := fun w => spLaw (K w.params)) hn (by decide) hdf ⟨rfl, by decide, by decide⟩ hY F (fun _ _ a ns hl _ hS => ⟨a, ns, rfl, hS, hl, fun _ => rfl⟩) fun w H s e s' z => by
    obtain ⟨_, _, _, _, _, _, _, _, _, _, _, _, z⟩ := z
    exact z
end My
open PySem PySem.W PyProof.Rows in
set_option maxRecDepth 100000 in
set_option maxHeartbeats 0 in
theorem PySem.Challenge.cw_standframes_k02_roots_and_their_signs_holds : PySem.Challenge.rw_standframes_k02_roots_and_their_signs.Holds := by
  w_on; o_law; k_head; (case hw => w_witness2)
  k_fill
  refine My.walk (l := PySem.Challenge.rw_standframes_k02_roots_and_their_signs) rfl rfl (fun w h Y => PySem.W.kIn_of Y) ?F
  case F =>
    intro w mg fa h KX G hmg
    refine' My.all_mk KX G hmg ?aFrameError ?aWrongKind ?aOutOfBounds ?aRepeatedName ?aUnknownName ?aUnsafe ?aBadText ?aUnfitError ?aZeroDivisor ?aNegativeRoot ?aZeroBar ?aFlatMap ?aBadSteps ?aNotOneWay ?aNotHeld ?aNotFlat ?aNotCover ?aNotOwnStress ?aNotPicture ?aNotLift ?aNoReciprocal ?aNotMotion ?aNotAlike ?aNotCrank ?aNothingToUndo ?aNothingToRedo ?a_is_whole ?l_is_whole ?c_is_whole ?k_is_whole ?a_divisor ?l_divisor ?c_divisor ?k_divisor ?a_sign_of ?l_sign_of ?c_sign_of ?k_sign_of ?a_floor_root ?l_floor_root ?c_floor_root ?k_floor_root ?a_need_ratio ?l_need_ratio ?c_need_ratio ?k_need_ratio ?a_is_ratio ?l_is_ratio ?c_is_ratio ?k_is_ratio ?a_root ?l_root ?c_root ?k_root ?a_root_sign ?l_root_sign ?c_root_sign ?k_root_sign ?a_store ?l_store ?c_store ?k_store ?a_take ?l_take ?c_take ?k_take ?a_edge ?l_edge ?c_edge ?k_edge ?a_between ?l_between ?c_between ?k_between ?a_tens ?l_tens ?c_tens ?k_tens ?a_integer ?l_integer ?c_integer ?k_integer ?a_low ?l_low ?c_low ?k_low ?a_times ?l_times ?c_times ?k_times ?a_neg ?l_neg ?c_neg ?k_neg ?a_small ?l_small ?c_small ?k_small ?a_ratio ?l_ratio ?c_ratio ?k_ratio ?a_not_ratio ?l_not_ratio ?c_not_ratio ?k_not_ratio ?a_same ?l_same ?c_same ?k_same ?a_is_int ?l_is_int ?c_is_int ?k_is_int ?a_lis_ratio ?l_lis_ratio ?c_lis_ratio ?k_lis_ratio ?a_refused ?l_refused ?c_refused ?k_refused ?a_unfit ?l_unfit ?c_unfit ?k_unfit ?a_lfloor_root ?l_lfloor_root ?c_lfloor_root ?k_lfloor_root ?a_above ?l_above ?c_above ?k_above ?a_sign_due ?l_sign_due ?c_sign_due ?k_sign_due ?a_is_root ?l_is_root ?c_is_root ?k_is_root ?a_squared ?l_squared ?c_squared ?k_squared ?a_triple ?l_triple ?c_triple ?k_triple ?a_call ?l_call ?c_call ?k_call ?a_sign_call_due ?l_sign_call_due ?c_sign_call_due ?k_sign_call_due ?a_bad_triple ?l_bad_triple ?c_bad_triple ?k_bad_triple ?a_made ?l_made ?c_made ?k_made ?a_left_out ?l_left_out ?c_left_out ?k_left_out ?a_errors_right ?l_errors_right ?c_errors_right ?k_errors_right ?a_law ?l_law ?c_law ?k_law ?xLFrameError ?saFrameError ?exFrameError ?tyFrameError ?isFrameError ?kcFrameError ?hgFrameError ?hkFrameError ?hdFrameError ?haFrameError ?hmFrameError ?xLWrongKind ?saWrongKind ?exWrongKind ?tyWrongKind ?isWrongKind ?kcWrongKind ?hgWrongKind ?hkWrongKind ?hdWrongKind ?haWrongKind ?hmWrongKind ?aiWrongKind ?liWrongKind ?ciWrongKind ?kiWrongKind ?tiWrongKind ?nWrongKind_argument ?xLOutOfBounds ?saOutOfBounds ?exOutOfBounds ?tyOutOfBounds ?isOutOfBounds ?kcOutOfBounds ?hgOutOfBounds ?hkOutOfBounds ?hdOutOfBounds ?haOutOfBounds ?hmOutOfBounds ?aiOutOfBounds ?liOutOfBounds ?ciOutOfBounds ?kiOutOfBounds ?tiOutOfBounds ?nOutOfBounds_argument ?xLRepeatedName ?saRepeatedName ?exRepeatedName ?tyRepeatedName ?isRepeatedName ?kcRepeatedName ?hgRepeatedName ?hkRepeatedName ?hdRepeatedName ?haRepeatedName ?hmRepeatedName ?aiRepeatedName ?liRepeatedName ?ciRepeatedName ?kiRepeatedName ?tiRepeatedName ?nRepeatedName_repeated ?xLUnknownName ?saUnknownName ?exUnknownName ?tyUnknownName ?isUnknownName ?kcUnknownName ?hgUnknownName ?hkUnknownName ?hdUnknownName ?haUnknownName ?hmUnknownName ?aiUnknownName ?liUnknownName ?ciUnknownName ?kiUnknownName ?tiUnknownName ?nUnknownName_unknown ?xLUnsafe ?saUnsafe ?exUnsafe ?tyUnsafe ?isUnsafe ?kcUnsafe ?hgUnsafe ?hkUnsafe ?hdUnsafe ?haUnsafe ?hmUnsafe ?aiUnsafe ?liUnsafe ?ciUnsafe ?kiUnsafe ?tiUnsafe ?nUnsafe_velocities ?xLBadText ?saBadText ?exBadText ?tyBadText ?isBadText ?kcBadText ?hgBadText ?hkBadText ?hdBadText ?haBadText ?hmBadText ?aiBadText ?liBadText ?ciBadText ?kiBadText ?tiBadText ?nBadText_line ?nBadText_column ?nBadText_fault ?xLUnfitError ?saUnfitError ?exUnfitError ?tyUnfitError ?isUnfitError ?kcUnfitError ?hgUnfitError ?hkUnfitError ?hdUnfitError ?haUnfitError ?hmUnfitError ?aiUnfitError ?liUnfitError ?diUnfitError ?ciUnfitError ?kiUnfitError ?tiUnfitError ?nUnfitError_subject ?xLZeroDivisor ?saZeroDivisor ?exZeroDivisor ?tyZeroDivisor ?isZeroDivisor ?kcZeroDivisor ?hgZeroDivisor ?hkZeroDivisor ?hdZeroDivisor ?haZeroDivisor ?hmZeroDivisor ?aiZeroDivisor ?nZeroDivisor_subject ?xLNegativeRoot ?saNegativeRoot ?exNegativeRoot ?tyNegativeRoot ?isNegativeRoot ?kcNegativeRoot ?hgNegativeRoot ?hkNegativeRoot ?hdNegativeRoot ?haNegativeRoot ?hmNegativeRoot ?aiNegativeRoot ?nNegativeRoot_subject ?xLZeroBar ?saZeroBar ?exZeroBar ?tyZeroBar ?isZeroBar ?kcZeroBar ?hgZeroBar ?hkZeroBar ?hdZeroBar ?haZeroBar ?hmZeroBar ?aiZeroBar ?nZeroBar_subject ?xLFlatMap ?saFlatMap ?exFlatMap ?tyFlatMap ?isFlatMap ?kcFlatMap ?hgFlatMap ?hkFlatMap ?hdFlatMap ?haFlatMap ?hmFlatMap ?aiFlatMap ?nFlatMap_subject ?xLBadSteps ?saBadSteps ?exBadSteps ?tyBadSteps ?isBadSteps ?kcBadSteps ?hgBadSteps ?hkBadSteps ?hdBadSteps ?haBadSteps ?hmBadSteps ?aiBadSteps ?nBadSteps_subject ?xLNotOneWay ?saNotOneWay ?exNotOneWay ?tyNotOneWay ?isNotOneWay ?kcNotOneWay ?hgNotOneWay ?hkNotOneWay ?hdNotOneWay ?haNotOneWay ?hmNotOneWay ?aiNotOneWay ?nNotOneWay_subject ?xLNotHeld ?saNotHeld ?exNotHeld ?tyNotHeld ?isNotHeld ?kcNotHeld ?hgNotHeld ?hkNotHeld ?hdNotHeld ?haNotHeld ?hmNotHeld ?aiNotHeld ?nNotHeld_subject ?xLNotFlat ?saNotFlat ?exNotFlat ?tyNotFlat ?isNotFlat ?kcNotFlat ?hgNotFlat ?hkNotFlat ?hdNotFlat ?haNotFlat ?hmNotFlat ?aiNotFlat ?nNotFlat_subject ?xLNotCover ?saNotCover ?exNotCover ?tyNotCover ?isNotCover ?kcNotCover ?hgNotCover ?hkNotCover ?hdNotCover ?haNotCover ?hmNotCover ?aiNotCover ?nNotCover_subject ?xLNotOwnStress ?saNotOwnStress ?exNotOwnStress ?tyNotOwnStress ?isNotOwnStress ?kcNotOwnStress ?hgNotOwnStress ?hkNotOwnStress ?hdNotOwnStress ?haNotOwnStress ?hmNotOwnStress ?aiNotOwnStress ?nNotOwnStress_subject ?xLNotPicture ?saNotPicture ?exNotPicture ?tyNotPicture ?isNotPicture ?kcNotPicture ?hgNotPicture ?hkNotPicture ?hdNotPicture ?haNotPicture ?hmNotPicture ?aiNotPicture ?nNotPicture_subject ?xLNotLift ?saNotLift ?exNotLift ?tyNotLift ?isNotLift ?kcNotLift ?hgNotLift ?hkNotLift ?hdNotLift ?haNotLift ?hmNotLift ?aiNotLift ?nNotLift_subject ?xLNoReciprocal ?saNoReciprocal ?exNoReciprocal ?tyNoReciprocal ?isNoReciprocal ?kcNoReciprocal ?hgNoReciprocal ?hkNoReciprocal ?hdNoReciprocal ?haNoReciprocal ?hmNoReciprocal ?aiNoReciprocal ?nNoReciprocal_subject ?xLNotMotion ?saNotMotion ?exNotMotion ?tyNotMotion ?isNotMotion ?kcNotMotion ?hgNotMotion ?hkNotMotion ?hdNotMotion ?haNotMotion ?hmNotMotion ?aiNotMotion ?nNotMotion_subject ?xLNotAlike ?saNotAlike ?exNotAlike ?tyNotAlike ?isNotAlike ?kcNotAlike ?hgNotAlike ?hkNotAlike ?hdNotAlike ?haNotAlike ?hmNotAlike ?aiNotAlike ?nNotAlike_subject ?xLNotCrank ?saNotCrank ?exNotCrank ?tyNotCrank ?isNotCrank ?kcNotCrank ?hgNotCrank ?hkNotCrank ?hdNotCrank ?haNotCrank ?hmNotCrank ?aiNotCrank ?nNotCrank_subject ?xLNothingToUndo ?saNothingToUndo ?exNothingToUndo ?tyNothingToUndo ?isNothingToUndo ?kcNothingToUndo ?hgNothingToUndo ?hkNothingToUndo ?hdNothingToUndo ?haNothingToUndo ?hmNothingToUndo ?aiNothingToUndo ?nNothingToUndo_subject ?xLNothingToRedo ?saNothingToRedo ?exNothingToRedo ?tyNothingToRedo ?isNothingToRedo ?kcNothingToRedo ?hgNothingToRedo ?hkNothingToRedo ?hdNothingToRedo ?haNothingToRedo ?hmNothingToRedo ?aiNothingToRedo ?nNothingToRedo_subject ?nd ?qFrameError ?hn ?ht ?z_len ?z_max ?z_min ?z_abs ?z_int ?z_str ?z_bool ?z_list ?z_tuple ?z_dict ?z_isinstance ?z_range ?z_all ?z_ValueError ?dig
    (case aFrameError => k_is)
    (case aWrongKind => k_is)
    (case aOutOfBounds => k_is)
    (case aRepeatedName => k_is)
    (case aUnknownName => k_is)
    (case aUnsafe => k_is)
    (case aBadText => k_is)
    (case aUnfitError => k_is)
    (case aZeroDivisor => k_is)
    (case aNegativeRoot => k_is)
    (case aZeroBar => k_is)
    (case aFlatMap => k_is)
    (case aBadSteps => k_is)
    (case aNotOneWay => k_is)
    (case aNotHeld => k_is)
    (case aNotFlat => k_is)
    (case aNotCover => k_is)
    (case aNotOwnStress => k_is)
    (case aNotPicture => k_is)
    (case aNotLift => k_is)
    (case aNoReciprocal => k_is)
    (case aNotMotion => k_is)
    (case aNotAlike => k_is)
    (case aNotCrank => k_is)
    (case aNothingToUndo => k_is)
    (case aNothingToRedo => k_is)
    (case a_is_whole => k_is)
    (case l_is_whole => k_is)
    (case c_is_whole => k_is)
    (case k_is_whole => k_is)
    (case a_divisor => k_is)
    (case l_divisor => k_is)
    (case c_divisor => k_is)
    (case k_divisor => k_is)
    (case a_sign_of => k_is)
    (case l_sign_of => k_is)
    (case c_sign_of => k_is)
    (case k_sign_of => k_is)
    (case a_floor_root => k_is)
    (case l_floor_root => k_is)
    (case c_floor_root => k_is)
    (case k_floor_root => k_is)
    (case a_need_ratio => k_is)
    (case l_need_ratio => k_is)
    (case c_need_ratio => k_is)
    (case k_need_ratio => k_is)
    (case a_is_ratio => k_is)
    (case l_is_ratio => k_is)
    (case c_is_ratio => k_is)
    (case k_is_ratio => k_is)
    (case a_root => k_is)
    (case l_root => k_is)
    (case c_root => k_is)
    (case k_root => k_is)
    (case a_root_sign => k_is)
    (case l_root_sign => k_is)
    (case c_root_sign => k_is)
    (case k_root_sign => k_is)
    (case a_store => k_is)
    (case l_store => k_is)
    (case c_store => k_is)
    (case k_store => k_is)
    (case a_take => k_is)
    (case l_take => k_is)
    (case c_take => k_is)
    (case k_take => k_is)
    (case a_edge => k_is)
    (case l_edge => k_is)
    (case c_edge => k_is)
    (case k_edge => k_is)
    (case a_between => k_is)
    (case l_between => k_is)
    (case c_between => k_is)
    (case k_between => k_is)
    (case a_tens => k_is)
    (case l_tens => k_is)
    (case c_tens => k_is)
    (case k_tens => k_is)
    (case a_integer => k_is)
    (case l_integer => k_is)
    (case c_integer => k_is)
    (case k_integer => k_is)
    (case a_low => k_is)
    (case l_low => k_is)
    (case c_low => k_is)
    (case k_low => k_is)
    (case a_times => k_is)
    (case l_times => k_is)
    (case c_times => k_is)
    (case k_times => k_is)
    (case a_neg => k_is)
    (case l_neg => k_is)
    (case c_neg => k_is)
    (case k_neg => k_is)
    (case a_small => k_is)
    (case l_small => k_is)
    (case c_small => k_is)
    (case k_small => k_is)
    (case a_ratio => k_is)
    (case l_ratio => k_is)
    (case c_ratio => k_is)
    (case k_ratio => k_is)
    (case a_not_ratio => k_is)
    (case l_not_ratio => k_is)
    (case c_not_ratio => k_is)
    (case k_not_ratio => k_is)
    (case a_same => k_is)
    (case l_same => k_is)
    (case c_same => k_is)
    (case k_same => k_is)
    (case a_is_int => k_is)
    (case l_is_int => k_is)
    (case c_is_int => k_is)
    (case k_is_int => k_is)
    (case a_lis_ratio => k_is)
    (case l_lis_ratio => k_is)
    (case c_lis_ratio => k_is)
    (case k_lis_ratio => k_is)
    (case a_refused => k_is)
    (case l_refused => k_is)
    (case c_refused => k_is)
    (case k_refused => k_is)
    (case a_unfit => k_is)
    (case l_unfit => k_is)
    (case c_unfit => k_is)
    (case k_unfit => k_is)
    (case a_lfloor_root => k_is)
    (case l_lfloor_root => k_is)
    (case c_lfloor_root => k_is)
    (case k_lfloor_root => k_is)
    (case a_above => k_is)
    (case l_above => k_is)
    (case c_above => k_is)
    (case k_above => k_is)
    (case a_sign_due => k_is)
    (case l_sign_due => k_is)
    (case c_sign_due => k_is)
    (case k_sign_due => k_is)
    (case a_is_root => k_is)
    (case l_is_root => k_is)
    (case c_is_root => k_is)
    (case k_is_root => k_is)
    (case a_squared => k_is)
    (case l_squared => k_is)
    (case c_squared => k_is)
    (case k_squared => k_is)
    (case a_triple => k_is)
    (case l_triple => k_is)
    (case c_triple => k_is)
    (case k_triple => k_is)
    (case a_call => k_is)
    (case l_call => k_is)
    (case c_call => k_is)
    (case k_call => k_is)
    (case a_sign_call_due => k_is)
    (case l_sign_call_due => k_is)
    (case c_sign_call_due => k_is)
    (case k_sign_call_due => k_is)
    (case a_bad_triple => k_is)
    (case l_bad_triple => k_is)
    (case c_bad_triple => k_is)
    (case k_bad_triple => k_is)
    (case a_made => k_is)
    (case l_made => k_is)
    (case c_made => k_is)
    (case k_made => k_is)
    (case a_left_out => k_is)
    (case l_left_out => k_is)
    (case c_left_out => k_is)
    (case k_left_out => k_is)
    (case a_errors_right => k_is)
    (case l_errors_right => k_is)
    (case c_errors_right => k_is)
    (case k_errors_right => k_is)
    (case a_law => k_is)
    (case l_law => k_is)
    (case c_law => k_is)
    (case k_law => k_is)
    (case xLFrameError => k_is)
    (case saFrameError => k_is)
    (case exFrameError => k_is)
    (case tyFrameError => k_is)
    (case isFrameError => k_is)
    (case kcFrameError => k_is)
    (case hgFrameError => k_is)
    (case hkFrameError => k_is)
    (case hdFrameError => k_is)
    (case haFrameError => k_is)
    (case hmFrameError => k_is)
    (case xLWrongKind => k_is)
    (case saWrongKind => k_is)
    (case exWrongKind => k_is)
    (case tyWrongKind => k_is)
    (case isWrongKind => k_is)
    (case kcWrongKind => k_is)
    (case hgWrongKind => k_is)
    (case hkWrongKind => k_is)
    (case hdWrongKind => k_is)
    (case haWrongKind => k_is)
    (case hmWrongKind => k_is)
    (case aiWrongKind => k_is)
    (case liWrongKind => k_is)
    (case ciWrongKind => k_is)
    (case kiWrongKind => k_is)
    (case tiWrongKind => k_is)
    (case nWrongKind_argument => k_is)
    (case xLOutOfBounds => k_is)
    (case saOutOfBounds => k_is)
    (case exOutOfBounds => k_is)
    (case tyOutOfBounds => k_is)
    (case isOutOfBounds => k_is)
    (case kcOutOfBounds => k_is)
    (case hgOutOfBounds => k_is)
    (case hkOutOfBounds => k_is)
    (case hdOutOfBounds => k_is)
    (case haOutOfBounds => k_is)
    (case hmOutOfBounds => k_is)
    (case aiOutOfBounds => k_is)
    (case liOutOfBounds => k_is)
    (case ciOutOfBounds => k_is)
    (case kiOutOfBounds => k_is)
    (case tiOutOfBounds => k_is)
    (case nOutOfBounds_argument => k_is)
    (case xLRepeatedName => k_is)
    (case saRepeatedName => k_is)
    (case exRepeatedName => k_is)
    (case tyRepeatedName => k_is)
    (case isRepeatedName => k_is)
    (case kcRepeatedName => k_is)
    (case hgRepeatedName => k_is)
    (case hkRepeatedName => k_is)
    (case hdRepeatedName => k_is)
    (case haRepeatedName => k_is)
    (case hmRepeatedName => k_is)
    (case aiRepeatedName => k_is)
    (case liRepeatedName => k_is)
    (case ciRepeatedName => k_is)
    (case kiRepeatedName => k_is)
    (case tiRepeatedName => k_is)
    (case nRepeatedName_repeated => k_is)
    (case xLUnknownName => k_is)
    (case saUnknownName => k_is)
    (case exUnknownName => k_is)
    (case tyUnknownName => k_is)
    (case isUnknownName => k_is)
    (case kcUnknownName => k_is)
    (case hgUnknownName => k_is)
    (case hkUnknownName => k_is)
    (case hdUnknownName => k_is)
    (case haUnknownName => k_is)
    (case hmUnknownName => k_is)
    (case aiUnknownName => k_is)
    (case liUnknownName => k_is)
    (case ciUnknownName => k_is)
    (case kiUnknownName => k_is)
    (case tiUnknownName => k_is)
    (case nUnknownName_unknown => k_is)
    (case xLUnsafe => k_is)
    (case saUnsafe => k_is)
    (case exUnsafe => k_is)
    (case tyUnsafe => k_is)
    (case isUnsafe => k_is)
    (case kcUnsafe => k_is)
    (case hgUnsafe => k_is)
    (case hkUnsafe => k_is)
    (case hdUnsafe => k_is)
    (case haUnsafe => k_is)
    (case hmUnsafe => k_is)
    (case aiUnsafe => k_is)
    (case liUnsafe => k_is)
    (case ciUnsafe => k_is)
    (case kiUnsafe => k_is)
    (case tiUnsafe => k_is)
    (case nUnsafe_velocities => k_is)
    (case xLBadText => k_is)
    (case saBadText => k_is)
    (case exBadText => k_is)
    (case tyBadText => k_is)
    (case isBadText => k_is)
    (case kcBadText => k_is)
    (case hgBadText => k_is)
    (case hkBadText => k_is)
    (case hdBadText => k_is)
    (case haBadText => k_is)
    (case hmBadText => k_is)
    (case aiBadText => k_is)
    (case liBadText => k_is)
    (case ciBadText => k_is)
    (case kiBadText => k_is)
    (case tiBadText => k_is)
    (case nBadText_line => k_is)
    (case nBadText_column => k_is)
    (case nBadText_fault => k_is)
    (case xLUnfitError => k_is)
    (case saUnfitError => k_is)
    (case exUnfitError => k_is)
    (case tyUnfitError => k_is)
    (case isUnfitError => k_is)
    (case kcUnfitError => k_is)
    (case hgUnfitError => k_is)
    (case hkUnfitError => k_is)
    (case hdUnfitError => k_is)
    (case haUnfitError => k_is)
    (case hmUnfitError => k_is)
    (case aiUnfitError => k_is)
    (case liUnfitError => k_is)
    (case diUnfitError => k_is)
    (case ciUnfitError => k_is)
    (case kiUnfitError => k_is)
    (case tiUnfitError => k_is)
    (case nUnfitError_subject => k_is)
    (case xLZeroDivisor => k_is)
    (case saZeroDivisor => k_is)
    (case exZeroDivisor => k_is)
    (case tyZeroDivisor => k_is)
    (case isZeroDivisor => k_is)
    (case kcZeroDivisor => k_is)
    (case hgZeroDivisor => k_is)
    (case hkZeroDivisor => k_is)
    (case hdZeroDivisor => k_is)
    (case haZeroDivisor => k_is)
    (case hmZeroDivisor => k_is)
    (case aiZeroDivisor => k_is)
    (case nZeroDivisor_subject => k_is)
    (case xLNegativeRoot => k_is)
    (case saNegativeRoot => k_is)
    (case exNegativeRoot => k_is)
    (case tyNegativeRoot => k_is)
    (case isNegativeRoot => k_is)
    (case kcNegativeRoot => k_is)
    (case hgNegativeRoot => k_is)
    (case hkNegativeRoot => k_is)
    (case hdNegativeRoot => k_is)
    (case haNegativeRoot => k_is)
    (case hmNegativeRoot => k_is)
    (case aiNegativeRoot => k_is)
    (case nNegativeRoot_subject => k_is)
    (case xLZeroBar => k_is)
    (case saZeroBar => k_is)
    (case exZeroBar => k_is)
    (case tyZeroBar => k_is)
    (case isZeroBar => k_is)
    (case kcZeroBar => k_is)
    (case hgZeroBar => k_is)
    (case hkZeroBar => k_is)
    (case hdZeroBar => k_is)
    (case haZeroBar => k_is)
    (case hmZeroBar => k_is)
    (case aiZeroBar => k_is)
    (case nZeroBar_subject => k_is)
    (case xLFlatMap => k_is)
    (case saFlatMap => k_is)
    (case exFlatMap => k_is)
    (case tyFlatMap => k_is)
    (case isFlatMap => k_is)
    (case kcFlatMap => k_is)
    (case hgFlatMap => k_is)
    (case hkFlatMap => k_is)
    (case hdFlatMap => k_is)
    (case haFlatMap => k_is)
    (case hmFlatMap => k_is)
    (case aiFlatMap => k_is)
    (case nFlatMap_subject => k_is)
    (case xLBadSteps => k_is)
    (case saBadSteps => k_is)
    (case exBadSteps => k_is)
    (case tyBadSteps => k_is)
    (case isBadSteps => k_is)
    (case kcBadSteps => k_is)
    (case hgBadSteps => k_is)
    (case hkBadSteps => k_is)
    (case hdBadSteps => k_is)
    (case haBadSteps => k_is)
    (case hmBadSteps => k_is)
    (case aiBadSteps => k_is)
    (case nBadSteps_subject => k_is)
    (case xLNotOneWay => k_is)
    (case saNotOneWay => k_is)
    (case exNotOneWay => k_is)
    (case tyNotOneWay => k_is)
    (case isNotOneWay => k_is)
    (case kcNotOneWay => k_is)
    (case hgNotOneWay => k_is)
    (case hkNotOneWay => k_is)
    (case hdNotOneWay => k_is)
    (case haNotOneWay => k_is)
    (case hmNotOneWay => k_is)
    (case aiNotOneWay => k_is)
    (case nNotOneWay_subject => k_is)
    (case xLNotHeld => k_is)
    (case saNotHeld => k_is)
    (case exNotHeld => k_is)
    (case tyNotHeld => k_is)
    (case isNotHeld => k_is)
    (case kcNotHeld => k_is)
    (case hgNotHeld => k_is)
    (case hkNotHeld => k_is)
    (case hdNotHeld => k_is)
    (case haNotHeld => k_is)
    (case hmNotHeld => k_is)
    (case aiNotHeld => k_is)
    (case nNotHeld_subject => k_is)
    (case xLNotFlat => k_is)
    (case saNotFlat => k_is)
    (case exNotFlat => k_is)
    (case tyNotFlat => k_is)
    (case isNotFlat => k_is)
    (case kcNotFlat => k_is)
    (case hgNotFlat => k_is)
    (case hkNotFlat => k_is)
    (case hdNotFlat => k_is)
    (case haNotFlat => k_is)
    (case hmNotFlat => k_is)
    (case aiNotFlat => k_is)
    (case nNotFlat_subject => k_is)
    (case xLNotCover => k_is)
    (case saNotCover => k_is)
    (case exNotCover => k_is)
    (case tyNotCover => k_is)
    (case isNotCover => k_is)
    (case kcNotCover => k_is)
    (case hgNotCover => k_is)
    (case hkNotCover => k_is)
    (case hdNotCover => k_is)
    (case haNotCover => k_is)
    (case hmNotCover => k_is)
    (case aiNotCover => k_is)
    (case nNotCover_subject => k_is)
    (case xLNotOwnStress => k_is)
    (case saNotOwnStress => k_is)
    (case exNotOwnStress => k_is)
    (case tyNotOwnStress => k_is)
    (case isNotOwnStress => k_is)
    (case kcNotOwnStress => k_is)
    (case hgNotOwnStress => k_is)
    (case hkNotOwnStress => k_is)
    (case hdNotOwnStress => k_is)
    (case haNotOwnStress => k_is)
    (case hmNotOwnStress => k_is)
    (case aiNotOwnStress => k_is)
    (case nNotOwnStress_subject => k_is)
    (case xLNotPicture => k_is)
    (case saNotPicture => k_is)
    (case exNotPicture => k_is)
    (case tyNotPicture => k_is)
    (case isNotPicture => k_is)
    (case kcNotPicture => k_is)
    (case hgNotPicture => k_is)
    (case hkNotPicture => k_is)
    (case hdNotPicture => k_is)
    (case haNotPicture => k_is)
    (case hmNotPicture => k_is)
    (case aiNotPicture => k_is)
    (case nNotPicture_subject => k_is)
    (case xLNotLift => k_is)
    (case saNotLift => k_is)
    (case exNotLift => k_is)
    (case tyNotLift => k_is)
    (case isNotLift => k_is)
    (case kcNotLift => k_is)
    (case hgNotLift => k_is)
    (case hkNotLift => k_is)
    (case hdNotLift => k_is)
    (case haNotLift => k_is)
    (case hmNotLift => k_is)
    (case aiNotLift => k_is)
    (case nNotLift_subject => k_is)
    (case xLNoReciprocal => k_is)
    (case saNoReciprocal => k_is)
    (case exNoReciprocal => k_is)
    (case tyNoReciprocal => k_is)
    (case isNoReciprocal => k_is)
    (case kcNoReciprocal => k_is)
    (case hgNoReciprocal => k_is)
    (case hkNoReciprocal => k_is)
    (case hdNoReciprocal => k_is)
    (case haNoReciprocal => k_is)
    (case hmNoReciprocal => k_is)
    (case aiNoReciprocal => k_is)
    (case nNoReciprocal_subject => k_is)
    (case xLNotMotion => k_is)
    (case saNotMotion => k_is)
    (case exNotMotion => k_is)
    (case tyNotMotion => k_is)
    (case isNotMotion => k_is)
    (case kcNotMotion => k_is)
    (case hgNotMotion => k_is)
    (case hkNotMotion => k_is)
    (case hdNotMotion => k_is)
    (case haNotMotion => k_is)
    (case hmNotMotion => k_is)
    (case aiNotMotion => k_is)
    (case nNotMotion_subject => k_is)
    (case xLNotAlike => k_is)
    (case saNotAlike => k_is)
    (case exNotAlike => k_is)
    (case tyNotAlike => k_is)
    (case isNotAlike => k_is)
    (case kcNotAlike => k_is)
    (case hgNotAlike => k_is)
    (case hkNotAlike => k_is)
    (case hdNotAlike => k_is)
    (case haNotAlike => k_is)
    (case hmNotAlike => k_is)
    (case aiNotAlike => k_is)
    (case nNotAlike_subject => k_is)
    (case xLNotCrank => k_is)
    (case saNotCrank => k_is)
    (case exNotCrank => k_is)
    (case tyNotCrank => k_is)
    (case isNotCrank => k_is)
    (case kcNotCrank => k_is)
    (case hgNotCrank => k_is)
    (case hkNotCrank => k_is)
    (case hdNotCrank => k_is)
    (case haNotCrank => k_is)
    (case hmNotCrank => k_is)
    (case aiNotCrank => k_is)
    (case nNotCrank_subject => k_is)
    (case xLNothingToUndo => k_is)
    (case saNothingToUndo => k_is)
    (case exNothingToUndo => k_is)
    (case tyNothingToUndo => k_is)
    (case isNothingToUndo => k_is)
    (case kcNothingToUndo => k_is)
    (case hgNothingToUndo => k_is)
    (case hkNothingToUndo => k_is)
    (case hdNothingToUndo => k_is)
    (case haNothingToUndo => k_is)
    (case hmNothingToUndo => k_is)
    (case aiNothingToUndo => k_is)
    (case nNothingToUndo_subject => k_is)
    (case xLNothingToRedo => k_is)
    (case saNothingToRedo => k_is)
    (case exNothingToRedo => k_is)
    (case tyNothingToRedo => k_is)
    (case isNothingToRedo => k_is)
    (case kcNothingToRedo => k_is)
    (case hgNothingToRedo => k_is)
    (case hkNothingToRedo => k_is)
    (case hdNothingToRedo => k_is)
    (case haNothingToRedo => k_is)
    (case hmNothingToRedo => k_is)
    (case aiNothingToRedo => k_is)
    (case nNothingToRedo_subject => k_is)
    (case nd => decide +kernel)
    (case qFrameError => kernel_rfl)
    (case hn => k_is)
    (case ht => k_is)
    (case z_len => k_is)
    (case z_max => k_is)
    (case z_min => k_is)
    (case z_abs => k_is)
    (case z_int => k_is)
    (case z_str => k_is)
    (case z_bool => k_is)
    (case z_list => k_is)
    (case z_tuple => k_is)
    (case z_dict => k_is)
    (case z_isinstance => k_is)
    (case z_range => k_is)
    (case z_all => k_is)
    (case z_ValueError => k_is)
    (case dig => k_is)
