import PyProof.Rows.All
import Wide.All
import OpenK.AllK
import Wide.FinOn
import HandS.ForMost
import HandS.ForExc
import HandS.Wide
import HandS.IsInst
import HandS.More
import HandS.Evl
import HandS.ExcCtx
import HandS.HotCalls
import HandS.ExcInit
import HandS.ExcInitHot
import HandS.ExcIs
import HandS.ExcField
import KE.KExcIs
import HandS.Replace
import HandS.ReplaceLit
import HandS.ReplaceList
import HandS.Text
import HandS.Style
import KE.IntText
import PyProof.Rows.Digits
import PyProof.Rows.CountFlat
import HandS.ExcValue
import HandS.TupAny
import HandS.CallSlots
import HandS.Hot
import PyProof.Rows.RuleB_pow
import HandS.WideBits
import HandS.Defaults
import KE.IntTextLaws
import HandS.Rev
import HandS.RevTup
import PyProof.ListRange
import PyProof.ListNew
import HandS.Conv
import HandS.SortInts
import HandS.Dict
import KE.KUnpack
import HandS.MakeKwOnly
import PySem.Challenge.RW_standframes_k76_chain_reach_is_that_of_m
set_option Elab.async false
set_option linter.all false
set_option maxRecDepth 100000
set_option maxHeartbeats 8000000
namespace My
open PySem PySem.Spec PyProof.Rows L2
/-! ### heaps: all but the store -/
structure Sx (s : Addr) (H H' : Hp) : Prop where
  kp : ∀ b o, b ≠ s → H b = some o → H' b = some o
  ce : ∀ L xs, H s = some (.lst (.ref L :: xs)) → ∃ ys, H' s = some (.lst (.ref L :: ys))
theorem Sx.refl (s : Addr) (H : Hp) : Sx s H H := ⟨fun _ _ _ h => h, fun _ xs h => ⟨xs, h⟩⟩
theorem Sx.trans {s : Addr} {H H1 H2 : Hp} (a : Sx s H H1) (b : Sx s H1 H2) : Sx s H H2 := ⟨fun c o n h => b.kp c o n (a.kp c o n h), fun L xs h => by
  obtain ⟨ys, e⟩ := a.ce L xs h
  exact b.ce L ys e⟩
theorem Sx.of {s : Addr} {H H' : Hp} (a : Same H H') : Sx s H H' := ⟨fun c o _ h => a c o h, fun _ xs h => ⟨xs, a _ _ h⟩⟩
theorem Sx.new {s p : Addr} {H : Hp} {o : HO} (h : H p = none) : Sx s H (upd H p o) := Sx.of fun b u e => by
  rw [upd_ne (ne_of_none e h)]
  exact e
/-- a thing that was not there at first is changed -/
theorem Sx.mut {s p : Addr} {H H' : Hp} {o : HO} (x : Sx s H H') (h : H p = none) : Sx s H (upd H' p o) := ⟨fun b u n e => by
  rw [upd_ne (ne_of_none e h)]
  exact x.kp b u n e, fun L xs e => by
  rw [upd_ne (ne_of_none e h)]
  exact x.ce L xs e⟩
theorem Sx.self {s : Addr} {H H' : Hp} {xs : List V} {j : Nat} {v : V} (x : Sx s H H') (hs : H' s = some (.lst xs)) (j0 : j ≠ 0) : Sx s H (upd H' s (.lst (xs.set j v))) := ⟨fun b u n e => by
  rw [upd_ne n]
  exact x.kp b u n e, fun L zs e => by
  obtain ⟨ys, e2⟩ := x.ce L zs e
  rw [hs] at e2
  cases e2
  cases j with
  | zero => exact absurd rfl j0
  | succ j => exact ⟨ys.set j v, by rw [upd_same]; rfl⟩⟩
theorem Sx.sq {K : PySem.W.Frag} {s a : Addr} {H H' : Hp} {xs : List V} (x : Sx s H H') (n : a ≠ s) (h : SqL K H a xs) : SqL K H' a xs := by
  rcases h with (h | ⟨o, h⟩) | h
  · exact .inl (.inl (x.kp _ _ n h))
  · exact .inl (.inr ⟨o, x.kp _ _ n h⟩)
  · exact .inr h
theorem same_new {H : Hp} {p : Addr} {o : HO} (h : H p = none) : Same H (upd H p o) := fun b x e => by
  rw [upd_ne (ne_of_none e h)]
  exact e
/-! ### readings by name -/
def rIsN : R2 := fun x y H Q => y = .non ∧ Q (.bl (decide (x = .non))) H
def rNotN : R2 := fun x y H Q => y = .non ∧ Q (.bl (!decide (x = .non))) H
def rAddS : R2 := fun x y H Q => ∃ i j, x = .str i ∧ y = .str j ∧ i.length + j.length ≤ sizeLine ∧ Q (.str (i ++ j)) H
def rInt1 : List V → Hp → VK → Prop := fun xs H Q => (∃ i, xs = [.int i] ∧ Q (.int i) H) ∨ ∃ k, xs = [.bl k] ∧ Q (.int (if k then 1 else 0)) H
def rMaxQ : List V → Hp → VK → Prop := fun xs H Q => ∃ i j, xs = [.int i, .int j] ∧ Q (.int (if j > i then j else i)) H
def rMinQ : List V → Hp → VK → Prop := fun xs H Q => ∃ i j, xs = [.int i, .int j] ∧ Q (.int (if j < i then j else i)) H
def rAbsQ : List V → Hp → VK → Prop := fun xs H Q => ∃ i, xs = [.int i] ∧ Q (.int (if i < 0 then -i else i)) H
def rLenQ (K : PySem.W.Frag) : List V → Hp → VK → Prop := fun xs H Q => ∃ p ys, xs = [.ref p] ∧ (SqL K H p ys ∨ SqT K H p ys) ∧ Q (.int ys.length) H
def rLenSQ : List V → Hp → VK → Prop := fun xs H Q => ∃ z, xs = [.str z] ∧ z.length ≤ sizeLine ∧ Q (.int z.length) H
def rListQ (K : PySem.W.Frag) : List V → Hp → VK → Prop := fun xs H Q => ∃ p ys, xs = [.ref p] ∧ (SqL K H p ys ∨ SqT K H p ys) ∧ ∀ l, H l = none → Q (.ref l) (upd H l (.lst ys))
def rIsBQ : R2 := fun x y H Q => ∃ b, y = .bl b ∧ Q (.bl (decide (x = .bl b))) H
section
variable {X : Cx}
theorem o_isN : OpR X (compareOp .Is) rIsN := op_isN
theorem o_notN : OpR X (compareOp .IsNot) rNotN := op_notN
theorem o_isB : OpR X (compareOp .Is) rIsBQ := by
  intro pins s σ H x y v u Q I rx ry h
  obtain ⟨b, rfl, q⟩ := h
  cases (show u = Value.bool b from ry)
  by_cases e : x = .bl b
  · subst e
    cases (show v = Value.bool b from rx)
    exact wpAny_is_self rfl ⟨.bl true, H, I, rfl, by simpa using q⟩
  · have ne : v ≠ Value.bool b := by
      intro z
      subst z
      cases x with
      | bl a =>
        have z : Value.bool b = Value.bool a := rx
        cases z
        exact e rfl
      | non => cases (show Value.bool b = Value.none from rx)
      | ref a => cases (show Value.bool b = Value.ref a from rx)
      | ty n => cases (show Value.bool b = Value.type n from rx)
      | int i => obtain ⟨t, z⟩ := rx; cases z
      | str i => obtain ⟨t, z⟩ := rx; cases z
      | byt i => obtain ⟨t, z⟩ := rx; cases z
      | flt i => obtain ⟨t, z⟩ := rx; cases z
    refine wpAny_is_other ?_ ne ⟨.bl false, H, I, rfl, by simpa [e] using q⟩
    cases x <;> first
      | (cases rx; rfl)
      | (obtain ⟨t, rfl⟩ := rx; rfl)
theorem o_addS : OpR X (binaryOp .Add) rAddS := op_add_str
theorem c_int1 : CallR X (.type "int") rInt1 := call_int1
theorem c_max2 (hc : X.calm = true) : CallR X (.builtin "max") rMaxQ := call_max2 hc
theorem c_min2 (hc : X.calm = true) : CallR X (.builtin "min") rMinQ := call_min2 hc
theorem c_abs : CallR X (.builtin "abs") rAbsQ := call_abs
theorem c_len : CallR X (.builtin "len") (rLenQ X.K) := call_len_seq
theorem c_lenS : CallR X (.builtin "len") rLenSQ := call_len_str
theorem c_list : CallR X (.type "list") (rListQ X.K) := call_list_of
end
/-! ### steps of readings -/
section
variable {σ : L2.St} {H : Hp} {Q : VK} {D : Ends} {te ta tb : TE} {t u : TS}
theorem g_seq (h : t { D with nx := u D } σ H) : tSeq t u D σ H := h
theorem g_asg {g : TG} (h : te σ H fun x H1 => g x σ H1 D.nx) : tAsg te g D σ H := h
theorem g_name {i : Nat} {v : V} {R : L2.St → Hp → Prop} (h : R (σ.set i (some v)) H) : gName i v σ H R := h
theorem g_sub {to ti : TE} {ts : TSet} {v : V} {R : L2.St → Hp → Prop} (h : to σ H fun o H1 => ti σ H1 fun i H2 => ts o i v H2 fun H3 => R σ H3) : gSub to ti ts v σ H R := h
theorem g_ret (h : te σ H D.rt) : tRet te D σ H := h
theorem g_drop (h : te σ H fun _ H1 => D.nx σ H1) : tDrop te D σ H := h
theorem g_if {c : TT} (h : c σ H fun b H1 => if b = true then t D σ H1 else u D σ H1) : tIfS c t u D σ H := h
theorem g_next (h : D.nx σ H) : tNext D σ H := h
theorem g_var {i : Nat} {v : V} (e : σ[i]? = some (some v)) (h : Q v H) : tVar i σ H Q := ⟨v, e, h⟩
theorem g_c {v : V} (h : Q v H) : tC v σ H Q := h
theorem g_op {r : R2} (h : ta σ H fun x H1 => tb σ H1 fun y H2 => r x y H2 Q) : tOp r ta tb σ H Q := h
theorem g_un {r : V → Hp → VK → Prop} (h : ta σ H fun x H1 => r x H1 Q) : tUn r ta σ H Q := h
theorem g_I0 {g : Int → Int → V} {i j : Int} (h : Q (g i j) H) : rI0 g (.int i) (.int j) H Q := ⟨i, j, rfl, rfl, h⟩
theorem g_I {C : Int → Int → Prop} {g : Int → Int → V} {i j : Int} (c : C i j) (h : Q (g i j) H) : rI C g (.int i) (.int j) H Q := ⟨i, j, rfl, rfl, c, h⟩
theorem g_pow9 (h : Q (.int 1000000000) H) : rI CPow (fun i j => V.int (i ^ j.toNat)) (.int 10) (.int 9) H Q := ⟨10, 9, rfl, rfl, by unfold CPow; decide, h⟩
theorem g_pow18 (h : Q (.int 1000000000000000000) H) : rI CPow (fun i j => V.int (i ^ j.toNat)) (.int 10) (.int 18) H Q := ⟨10, 18, rfl, rfl, by unfold CPow; decide, h⟩
theorem g_U {g : Int → V} {i : Int} (h : Q (g i) H) : rU g (.int i) H Q := ⟨i, rfl, h⟩
theorem g_eq {x y : V} (s : scal x y = true) (h : Q (.bl (decide (x = y))) H) : rEq x y H Q := ⟨s, h⟩
theorem g_ne {x y : V} (s : scal x y = true) (h : Q (.bl (!decide (x = y))) H) : rNe x y H Q := ⟨s, h⟩
theorem g_test {R : Bool → Hp → Prop} (h : te σ H fun x H' => ∃ k, x = .bl k ∧ R k H') : tTest te σ H R := h
theorem g_tB {R : Bool → Hp → Prop} (h : te σ H fun x H' => ∃ k, x = .bl k ∧ R k H') : tB te σ H R := h
theorem g_bl {k : Bool} {R : Bool → Prop} (h : R k) : ∃ k', V.bl k = .bl k' ∧ R k' := ⟨k, rfl, h⟩
theorem g_cut {Mid : L2.St → Hp → Prop} (h : t { D with nx := Mid } σ H) (h2 : ∀ σ' H', Mid σ' H' → u D σ' H') : Evl.tCut t u D σ H := ⟨Mid, h, h2⟩
theorem g_isN {x : V} (h : Q (.bl (decide (x = .non))) H) : rIsN x .non H Q := ⟨rfl, h⟩
theorem g_notN {x : V} (h : Q (.bl (!decide (x = .non))) H) : rNotN x .non H Q := ⟨rfl, h⟩
theorem g_addS {x y : Str} (hl : x.length + y.length ≤ sizeLine) (h : Q (.str (x ++ y)) H) : rAddS (.str x) (.str y) H Q := ⟨x, y, rfl, rfl, hl, h⟩
theorem g_int1 {i : Int} (h : Q (.int i) H) : rInt1 [.int i] H Q := .inl ⟨i, rfl, h⟩
theorem g_intb {k : Bool} (h : Q (.int (if k = true then 1 else 0)) H) : rInt1 [.bl k] H Q := .inr ⟨k, rfl, h⟩
theorem g_max2 {i j : Int} (h : Q (.int (if j > i then j else i)) H) : rMaxQ [.int i, .int j] H Q := ⟨i, j, rfl, h⟩
theorem g_min2 {i j : Int} (h : Q (.int (if j < i then j else i)) H) : rMinQ [.int i, .int j] H Q := ⟨i, j, rfl, h⟩
theorem g_abs {i : Int} (h : Q (.int (if i < 0 then -i else i)) H) : rAbsQ [.int i] H Q := ⟨i, rfl, h⟩
theorem g_lenL {K : PySem.W.Frag} {p : Addr} {xs : List V} (hs : SqL K H p xs) (h : Q (.int xs.length) H) : rLenQ K [.ref p] H Q := ⟨p, xs, rfl, .inl hs, h⟩
theorem g_lenT {K : PySem.W.Frag} {p : Addr} {xs : List V} (hs : SqT K H p xs) (h : Q (.int xs.length) H) : rLenQ K [.ref p] H Q := ⟨p, xs, rfl, .inr hs, h⟩
theorem g_lenS {z : Str} (hl : z.length ≤ sizeLine) (h : Q (.int z.length) H) : rLenSQ [.str z] H Q := ⟨z, rfl, hl, h⟩
theorem g_ixT {K : PySem.W.Frag} {p : Addr} {xs : List V} {i : Int} {v : V} (hs : SqT K H p xs) (ha : atI xs i = some v) (h : Q v H) : rIxT K (.ref p) (.int i) H Q := ⟨p, xs, i, v, rfl, rfl, hs, ha, h⟩
theorem g_ixS {z : Str} {i : Int} {c : Nat} (hl : z.length ≤ sizeLine) (ha : atI z.cps.toList i = some c) (h : Q (.str ⟨#[c]⟩) H) : rIxS (.str z) (.int i) H Q := ⟨z, i, c, rfl, rfl, hl, ha, h⟩
theorem g_tup {tt : TA} (h : tt σ H fun xs H1 => xs.length ≤ sizeLine ∧ ∀ p, H1 p = none → Q (.ref p) (upd H1 p (.tup xs))) : tTup tt σ H Q := h
theorem g_lst {tt : TA} (h : tt σ H fun xs H1 => xs.length ≤ sizeLine ∧ ∀ p, H1 p = none → Q (.ref p) (upd H1 p (.lst xs))) : tLst tt σ H Q := h
theorem g_andV (h : ta σ H fun x H1 => ∃ c, x = .bl c ∧ if c = true then tb σ H1 Q else Q (.bl false) H1) : tAndV ta tb σ H Q := h
theorem g_orV (h : ta σ H fun x H1 => ∃ c, x = .bl c ∧ if c = true then Q (.bl true) H1 else tb σ H1 Q) : tOrV ta tb σ H Q := h
theorem g_notV (h : ta σ H fun x H1 => ∃ c, x = .bl c ∧ Q (.bl (!c)) H1) : tNotV ta σ H Q := h
/-- a cell of the store is set: H0 the heap at the entry -/
theorem g_st {K : PySem.W.Frag} {H0 : Hp} {s L : Addr} {xs cs : List V} {k : Int} {v : V} {j : Nat} {R : Hp → Prop} (hs : H s = some (.lst xs)) (hL : SqL K H L cs) (ne : L ≠ s) (x0 : Sx s H0 H) (hj : ixN xs.length k = some j) (j0 : j ≠ 0)
    (h : ∀ H1, H1 s = some (.lst (xs.set j v)) → SqL K H1 L cs → Sx s H0 H1 → R H1) : rSetL (.ref s) (.int k) v H R :=
  ⟨s, xs, k, j, rfl, rfl, hs, hj, h _ upd_same (Sx.sq ((Sx.refl s H).self hs j0) ne hL) (x0.self hs j0)⟩
theorem g_and {c d : TT} {R : Bool → Hp → Prop} (h : c σ H fun b H1 => if b = true then d σ H1 R else R false H1) : tAnd c d σ H R := h
theorem g_or {c d : TT} {R : Bool → Hp → Prop} (h : c σ H fun b H1 => if b = true then R true H1 else d σ H1 R) : tOr c d σ H R := h
theorem g_not {c : TT} {R : Bool → Hp → Prop} (h : c σ H fun b H1 => R (!b) H1) : tNot c σ H R := h
theorem g_nil {R : List V → Hp → Prop} (h : R [] H) : tNil σ H R := h
theorem g_cons {tr : TA} {R : List V → Hp → Prop} (h : ta σ H fun x H1 => tr σ H1 fun xs H2 => R (x :: xs) H2) : tCons ta tr σ H R := h
theorem g_callB {r : List V → Hp → VK → Prop} {tt : TA} (h : tt σ H fun vs H1 => r vs H1 Q) : tCB r tt σ H Q := h
theorem g_call {sp : Sp} {dvs : List V} {E : XK} {tt : TA} (h : tt σ H fun vs H1 => sp (vs ++ dvs) H1 Q E) : tCall sp dvs E tt σ H Q := h
theorem g_ixL {K : PySem.W.Frag} {p : Addr} {xs : List V} {i : Int} {v : V} (hs : SqL K H p xs) (ha : atI xs i = some v) (h : Q v H) : rIxL K (.ref p) (.int i) H Q := ⟨p, xs, i, v, rfl, rfl, hs, ha, h⟩
theorem g_setL {p : Addr} {xs : List V} {k : Int} {v : V} {j : Nat} {R : Hp → Prop} (hs : H p = some (.lst xs)) (hj : ixN xs.length k = some j) (h : R (upd H p (.lst (xs.set j v)))) : rSetL (.ref p) (.int k) v H R := ⟨p, xs, k, j, rfl, rfl, hs, hj, h⟩
theorem g_ite {b : Bool} {A B : Prop} (h1 : b = true → A) (h2 : b = false → B) : if b = true then A else B := by
  cases b with
  | true => exact h1 rfl
  | false => exact h2 rfl
theorem g_iteT {b : Bool} {A B : Prop} (e : b = true) (h : A) : if b = true then A else B := by
  subst e
  exact h
theorem g_iteF {b : Bool} {A B : Prop} (e : b = false) (h : B) : if b = true then A else B := by
  subst e
  exact iteF h
theorem g_isB {x : V} {b : Bool} (h : Q (.bl (decide (x = .bl b))) H) : rIsBQ x (.bl b) H Q := ⟨b, rfl, h⟩
theorem g_or3 {K : PySem.W.Frag} {p : Addr} {xs : List V} {i : Int} {v : V} (hs : SqL K H p xs ∨ SqT K H p xs) (ha : atI xs i = some v) (h : Q v H) : rIx K (.ref p) (.int i) H Q := by
  rcases hs with hs | hs
  · exact .inl ⟨p, xs, i, v, rfl, rfl, hs, ha, h⟩
  · exact .inr (.inl ⟨p, xs, i, v, rfl, rfl, hs, ha, h⟩)
theorem g_for {wi : TI} {g : TG} {tb : TS} (h : wi σ H fun J H1 => ∃ W : Nat → Nat → L2.St → Hp → Prop, (∃ m, W 0 m σ H1) ∧ ∀ i m σ H, W i m σ H →
    (J.stop i H ∧ D.nx σ H) ∨ (J.go i H ∧ ∃ N : L2.St → Hp → Prop, (∀ σ' H', N σ' H' → ∃ m', m' < m ∧ W (i + 1) m' σ' H') ∧ ∀ x H', J.yld i H x H' → g x σ H' fun σ2 H2 => tb { D with nx := N, ct := N, bk := D.nx } σ2 H2)) : tFor wi g tb D σ H := h
theorem g_rng1 {ta : TA} {R : It → Hp → Prop} (h : ta σ H fun vs H1 => ∃ j : Int, vs = [.int j] ∧ -(2 ^ 62) ≤ j ∧ j < 2 ^ 62 ∧ R (Itr 0 j.toNat) H1) : iRng1 ta σ H R := h
theorem g_rng2 {ta : TA} {R : It → Hp → Prop} (h : ta σ H fun vs H1 => ∃ i j : Int, vs = [.int i, .int j] ∧ (-(2 ^ 62) ≤ i ∧ i < 2 ^ 62 ∧ -(2 ^ 62) ≤ j ∧ j < 2 ^ 62) ∧ R (Itr i (j - i).toNat) H1) : iRng2 ta σ H R := h
theorem g_iList {K : PySem.W.Frag} {tl : TE} {R : It → Hp → Prop} (h : tl σ H fun x H1 => ∃ a, x = .ref a ∧ (∃ xs, SqL K H1 a xs) ∧ R (Itl K a) H1) : iList K tl σ H R := h
theorem g_break (h : D.bk σ H) : tBreak D σ H := h
theorem g_cont (h : D.ct σ H) : tCont D σ H := h
theorem g_retN (h : D.rt .non H) : tRetN D σ H := h
end
theorem dec_int {i j : Int} : decide (V.int i = V.int j) = decide (i = j) := by
  by_cases h : i = j
  · rw [h, decide_eq_true rfl, decide_eq_true rfl]
  · rw [decide_eq_false h, decide_eq_false fun e => h (V.int.inj e)]
theorem bt_len : bootBuiltins "len" = some (.builtin "len") := by decide +kernel
theorem bt_max : bootBuiltins "max" = some (.builtin "max") := by decide +kernel
theorem bt_min : bootBuiltins "min" = some (.builtin "min") := by decide +kernel
theorem bt_abs : bootBuiltins "abs" = some (.builtin "abs") := by decide +kernel
theorem bt_isinstance : bootBuiltins "isinstance" = some (.builtin "isinstance") := by decide +kernel
theorem bt_int : bootBuiltins "int" = some (.type "int") := by decide +kernel
theorem bt_str : bootBuiltins "str" = some (.type "str") := by decide +kernel
theorem bt_bool : bootBuiltins "bool" = some (.type "bool") := by decide +kernel
theorem bt_list : bootBuiltins "list" = some (.type "list") := by decide +kernel
theorem bt_tuple : bootBuiltins "tuple" = some (.type "tuple") := by decide +kernel
theorem bt_dict : bootBuiltins "dict" = some (.type "dict") := by decide +kernel
theorem atI_map {α : Type} (g : α → V) (xs : List α) (i : Int) (d : α) (h0 : 0 ≤ i) (h1 : i < xs.length) : atI (xs.map g) i = some (g (xs.getD i.toNat d)) := by
  obtain ⟨j, rfl⟩ : ∃ j : Nat, i = j := ⟨i.toNat, by omega⟩
  have hj : j < xs.length := by omega
  unfold atI ixN
  rw [if_pos h0, if_pos (by rw [List.length_map]; exact h1)]
  simp [hj]
theorem dint_t {i j : Int} (h : decide (V.int i = V.int j) = true) : i = j := V.int.inj (of_decide_eq_true h)
theorem dint_f {i j : Int} (h : decide (V.int i = V.int j) = false) : i ≠ j := fun e => of_decide_eq_false h (by rw [e])
/-- a def of the top -/
structure Df (K : PySem.W.Frag) (mg : Str → Option Value) (x : Str) (st : Stmt) (ps : List Str) where
  f : Addr
  fd : FuncData
  F : Fun K x x st f fd
  b : Binds K fd ps []
  g : mg x = some (.ref f)
/-! ### the store -/
def StL (L : Addr) (p a b c d : Int) : List V := [.ref L, .int p, .int a, .int b, .int c, .int d]
structure StOk (K : PySem.W.Frag) (H : Hp) (s : Addr) (L : Addr) (ns : List Int) (p a b c d : Int) : Prop where
  at_ : H s = some (.lst (StL L p a b c d))
  ne : L ≠ s
  cells : SqL K H L (ns.map V.int)
  p0 : 0 ≤ p
  a0 : 0 ≤ a
  b0 : 0 ≤ b
  c0 : 0 ≤ c
  c1 : c < 2305843009213693951
  len : ns.length ≤ 63
def Store (K : PySem.W.Frag) (H : Hp) (s : Addr) : Prop := ∃ L ns p a b c d, StOk K H s L ns p a b c d
theorem Store.there {K : PySem.W.Frag} {H : Hp} {s : Addr} (h : Store K H s) : ∃ xs, H s = some (.lst xs) := by
  obtain ⟨L, ns, p, a, b, c, d, h⟩ := h
  exact ⟨_, h.at_⟩
theorem Store.free {K : PySem.W.Frag} {s l : Addr} {H H' : Hp} (st : Store K H' s) (x : Sx s H H') (h : H' l = none) : H l = none := by
  cases e : H l with
  | none => rfl
  | some o =>
    obtain ⟨xs, hs⟩ := st.there
    have n : l ≠ s := fun z => by
      rw [z, hs] at h
      cases h
    rw [x.kp l o n e] at h
    cases h
theorem Store.ne {K : PySem.W.Frag} {s l : Addr} {H : Hp} (st : Store K H s) (h : H l = none) : l ≠ s := fun z => by
  obtain ⟨xs, hs⟩ := st.there
  rw [z, hs] at h
  cases h
theorem Store.same {K : PySem.W.Frag} {s : Addr} {H H' : Hp} (st : Store K H s) (x : Same H H') : Store K H' s := by
  obtain ⟨L, ns, p, a, b, c, d, h⟩ := st
  exact ⟨L, ns, p, a, b, c, d, ⟨x _ _ h.at_, h.ne, Sx.sq (Sx.of x) h.ne h.cells, h.p0, h.a0, h.b0, h.c0, h.c1, h.len⟩⟩
/-- what was not there at first is changed: the store stays a store -/
theorem Store.mut {K : PySem.W.Frag} {s l : Addr} {H H' : Hp} {o : HO} (st0 : Store K H s) (x : Sx s H H') (st : Store K H' s) (h : H l = none) : Store K (upd H' l o) s := by
  obtain ⟨L0, ns0, p0, a0, b0, c0, d0, h0⟩ := st0
  obtain ⟨L, ns, p, a, b, c, d, h1⟩ := st
  obtain ⟨ys, e⟩ := x.ce L0 _ h0.at_
  have e2 : L = L0 := by
    have e3 := h1.at_
    rw [e] at e3
    cases e3
    rfl
  subst e2
  have nl : s ≠ l := fun z => by
    have q := h0.at_
    rw [z, h] at q
    cases q
  have q := h0.cells
  by_cases hk : L = l
  · subst hk
    rcases q with (q | ⟨o2, q⟩) | q
    · rw [h] at q
      cases q
    · rw [h] at q
      cases q
    · exact ⟨L, ns0, p, a, b, c, d, ⟨by rw [upd_ne nl]; exact h1.at_, h1.ne, .inr q, h1.p0, h1.a0, h1.b0, h1.c0, h1.c1, h0.len⟩⟩
  · refine ⟨L, ns, p, a, b, c, d, ⟨by rw [upd_ne nl]; exact h1.at_, h1.ne, ?_, h1.p0, h1.a0, h1.b0, h1.c0, h1.c1, h1.len⟩⟩
    rcases h1.cells with (r | ⟨o2, r⟩) | r
    · exact .inl (.inl (by rw [upd_ne hk]; exact r))
    · exact .inl (.inr ⟨o2, by rw [upd_ne hk]; exact r⟩)
    · exact .inr r
/-- the widest draw -/
def BIG : Int := 2 ^ 5000
theorem big_div {i m : Int} (h0 : 0 < m) (h : m < BIG) : CDivW i m := wide_div (b := 5000) h0 (by unfold BIG at h; omega) (by decide) (by decide)
/-- a draw: below many, and nothing else has changed -/
def spTake (K : PySem.W.Frag) (B : Int) : Sp := fun vs H Q _ => ∃ (s : Addr) (many : Int), vs = [.ref s, .int many] ∧ Store K H s ∧ many ≤ B ∧ many < BIG ∧
  ∀ (r : Int) (H' : Hp), 0 ≤ r → (r = 0 ∨ r < many) → Sx s H H' → Store K H' s → Q (.int r) H'
def topS (i : Nat) : Stmt := PySem.Challenge.pw_standframes_k76_chain_reach_is_that_of_m.main.body.getD i (.Pass ⟨0, 0, 0, 0⟩)
end My
namespace My
open PySem PySem.Spec PyProof.Rows L2
/-! ### raising: an own class whose __init__ is a def; the context of what is raised is None -/
section
variable {X : Cx}
theorem pmkN {CXc : CXT} {nm : Str} {C fI : Addr} {lv : Nat} {fdI : FuncData} {psI : List Str} {spI : Sp} {ds : List Value} {dvs : List V} {e : Expr} {es : List Expr} {ta : TA} {p pos : Pos} (T : OexC X.K C)
    (iC : PySem.W.findIn X.K (.ref C) "__init__" = some (some (.ref fI))) (tI : PySem.W.typeIn X.K (.ref fI) = some (.type "function"))
    (FI : FnOk X.prog X.w X.K X.mg X.base CXc lv fI fdI psI spI) (room : Room (lv + 1) X.A) (bnd : Binds X.K fdI psI ds) (dfl : Vals dvs ds) (px : Passes CXc X (fun _ _ _ => False)) (gl : Gl X nm) (gm : X.mg nm = some (.ref C)) (args : PA X (e :: es) ta)
    (nd : (nm == ("__debug__" : Str)) = false := by decide) (st1 : starEach (e :: es) X.env = (false, eval e X.env) :: starEach es X.env := by rfl) (st2 : (backTo pos (starEach es X.env)).any (·.1) = false := by rfl) :
    L2N.PMk X (.Call (.Name nm p) (e :: es) [] pos) (tMkO C spI dvs ta) := by
  intro pins s σ H Q I rd
  have T' := T.cls
  obtain ⟨n0, n1, n2, n3, n4, n5, n6, n7, n8, n9, j0, j1, j2, j3, j5, lkC, rfs⟩ := T'
  refine wpAny_Call_Name_kw (ld_glob I gl gm ?_ nd)
  refine PySem.W.callWith_K (h₀ := X.base) I.ok.mod.kin T.kC (thn (args.run pos pins s σ H _ I rd) fun us s1 hh => ?_) st1 st2
  obtain ⟨vs, H1, I1, rel, sz, rd1⟩ := hh
  refine ⟨I1.kIn, ?_⟩
  show wpAny _ _ (call (.ref C) us) _ _ _
  obtain ⟨hp, gn, dr, tk, os⟩ := s1
  generalize en : hp.objs.size + 1 = nx at *
  have le : hp.objs.size ≤ nx := by omega
  have fresh : H1 nx = none := I1.hok.fresh le
  have rd2 := rd1 nx fresh
  have keep : ∀ b o, hp.get? b = some o → ((hp.push (PySem.W.kdv_tup us)).push (PySem.HandSPX.excO C hp.objs.size)).get? b = some o :=
    fun b o z => Heap.get?_push_of_some _ (Heap.get?_push_of_some _ z)
  have there : ((hp.push (PySem.W.kdv_tup us)).push (PySem.HandSPX.excO C hp.objs.size)).get? nx = some (PySem.HandSPX.excO C hp.objs.size) := by
    rw [← en]
    heap_get
  have I2 := I1.laid (t' := tk) (a := nx) (o := exo nx C none) (h' := (hp.push (PySem.W.kdv_tup us)).push (PySem.HandSPX.excO C hp.objs.size)) keep le (exo_ok there)
  have rel2 : Vals (V.ref nx :: (vs ++ dvs)) (Value.ref nx :: (us ++ ds)) := .cons rfl (rel.append dfl)
  have hlen : (Value.ref nx :: us ++ ds).length = psI.length := by
    have q := rel2.length
    rw [FI.len _ _ _ _ rd2] at q
    exact q.symm
  have few : us.length ≤ sizeLine := by
    have q := Paired.length rel
    rw [← q, sizeLine_eq]
    omega
  refine wpAny_call ?_
  refine PySem.HandSPX.call_own F.excBase_ValueError (fun Y => PySem.HandSPX.refsVE_contains Y n4 rfs) (I1.kIn _ _ lkC) (PySem.W.looks_findIn I1.kIn iC) (fun self => PySem.W.bind_fn I1.kIn self tI) few ?_
  rw [en]
  refine codeAny_mono (FI.run _ X.stack _ _ ⟨Value.ref nx :: us, []⟩ (Value.ref nx :: (us ++ ds)) _ _ (fun _ _ _ => False) (room.make C us []) (I2.env0.make C us []) (bnd _ (Value.ref nx :: us) I2.kIn hlen) rel2 rd2) fun r s' back => ?_
  cases r with
  | error er => exact px pins σ _ _ er s' I2 back
  | ok fl =>
    cases fl with
    | next => exact back.elim
    | brk => exact back.elim
    | cont => exact back.elim
    | ret u =>
      obtain ⟨v, H2, os2, bare2, un2, hok2, rv, ev, d, fs, ea, ed, hd1, q2⟩ := back
      subst ev
      obtain ⟨h2, g2, d2, t2, os'⟩ := s'
      obtain ⟨t0, G, J, kG, ge, hoe, na⟩ := mk_end0 (d2 := d2) (t2 := t2) I1 le keep un2 hok2 os2 bare2 ea ed hd1
      exact ⟨rv, nx, _, _, ⟨G, g2, d2, t2, os'⟩, _, .ref C, some d, rfl, J, kG, ge, hoe, ⟨rfl, rfl, fun ws hw => by cases hw; rfl⟩, rfl, rfl, na, rfl, bare2, raises_own T.exC T.tyC, q2⟩
/-! ### what may be asked of an exception that is pinned -/
/-- the class facts of its class at C -/
structure XC (K : PySem.W.Frag) (C : Addr) : Prop where
  e : ExcC K C
  cl : (PySem.W.clsIn K C).isSome = true
/-- e.n -/
def tXg (K : PySem.W.Frag) (a : Addr) (cls : Value) (d : Option Addr) (n : Str) (te : TE) : TE := fun σ H Q => te σ H fun x H1 => x = .ref a ∧ ∃ (C dd : Addr) (fs : List (Str × V)) (v : V),
  cls = .ref C ∧ XC K C ∧ PySem.W.findIn K (.ref C) n = some none ∧ d = some dd ∧ H1 dd = some (.xd fs) ∧ fs.lookup n = some v ∧ Q v H1
theorem pe_xg {a : Addr} {oe : Obj} {cls : Value} {d : Option Addr} {e : Expr} {te : TE} {pos : Pos} {n : Str} (hp : (a, oe) ∈ X.pn) (hz : oe.cls = cls ∧ oe.dict = d) (hf : ∃ vs, oe.data = .fields vs) (he : PE X e te)
    (hb : attributeBase e n X.env (eval e X.env) = eval e X.env := by rfl) : PE X (.Attribute e n pos) (tXg X.K a cls d n te) := by
  refine ⟨fun pins s σ H Q I rd => attr_of hb (thn (he.run pins s σ H _ I rd) fun u s1 hh => ?_)⟩
  obtain ⟨x, H1, I1, rx, ex, C, dd, fs, v, ec, T, no, ed, ea, l, q⟩ := hh
  subst ex ec ed
  cases (show u = Value.ref a from rx)
  have there := (I1.pin (a, oe) (List.mem_append_left _ hp)).1
  obtain ⟨ws, hd⟩ := hf
  obtain ⟨mA, hns, rel⟩ := (show ObjOk X.prog X.w H1 s1.heap dd (.xd fs) from I1.hok dd _ ea)
  obtain ⟨od, ho, hl⟩ := lookIn_ns hns
  obtain ⟨u', hu, ru⟩ := RelO.some_of (v := v) (o := mA n) (by rw [← l]; exact rel n)
  have J : PySem.W.InstAt s1.heap a oe C (some od) := ⟨there, hz.1, by unfold PySem.W.notCls; rw [hd] <;> rfl, by rw [hz.2]; exact ho⟩
  exact HandSPX.exc_get I1.kIn J T.e.hg T.e.hk T.e.hs (PySem.W.findObj_own T.e.hd no rfl (by rw [hl, hu])) (handed_of ru) ⟨v, H1, I1.tok _, ru, q⟩
/-- isinstance(e, c) of it -/
def rIsP (K : PySem.W.Frag) (a : Addr) (cls : Value) (d : Option Addr) : List V → Hp → VK → Prop := fun xs H Q => ∃ (C dd : Addr) (fs : List (Str × V)) (c : V) (cv : Value) (b : Bool),
  xs = [.ref a, c] ∧ cls = .ref C ∧ XC K C ∧ d = some dd ∧ H dd = some (.xd fs) ∧ ClsV c cv ∧ PySem.W.kitOne K (.ref C) cv = some b ∧ Q (.bl b) H
theorem c_isP {a : Addr} {oe : Obj} {cls : Value} {d : Option Addr} (hp : (a, oe) ∈ X.pn) (hz : oe.cls = cls ∧ oe.dict = d) (hf : ∃ vs, oe.data = .fields vs) : CallR X (.builtin "isinstance") (rIsP X.K a cls d) := by
  intro pins s σ H xs us Q I r rd
  obtain ⟨C, dd, fs, c, cv, b, ex, ec, T, ed, ea, kc, kb, q⟩ := rd
  subst ex ec ed
  obtain ⟨u1, u2, rfl, r1, r2⟩ := vals2 r
  cases (show u1 = Value.ref a from r1)
  have e2 := kc.eq r2
  subst e2
  have there := (I.pin (a, oe) (List.mem_append_left _ hp)).1
  obtain ⟨ws, hd⟩ := hf
  obtain ⟨mA, hns, rel⟩ := (show ObjOk X.prog X.w H s.heap dd (.xd fs) from I.hok dd _ ea)
  obtain ⟨od, ho, hl⟩ := lookIn_ns hns
  have J : PySem.W.InstAt s.heap a oe C (some od) := ⟨there, hz.1, by unfold PySem.W.notCls; rw [hd] <;> rfl, by rw [hz.2]; exact ho⟩
  exact PySem.W.kia_one (PySem.W.kitx_exc T.cl T.e.hg T.e.hk T.e.hs T.e.ha T.e.hn T.e.ht T.e.hm) I.kIn J kb (fun z => nomatch z) fun tk => ⟨.bl b, H, I.kept (t' := tk) fun _ _ z => z, rfl, q⟩
end
/-! ### a def that is called with the exception that is handled -/
open L2H in
/-- as L2H.FnH, the promise told of the pinned exception -/
structure FnE (P : Program) (w : World) (K : PySem.W.Frag) (mg : Str → Option Value) (base : Heap) (lv : Nat) (f : Addr) (fd : FuncData) (ps : List Str) (sp : Addr × Obj → Sp) : Prop where
  few : ∀ q vs H Q E, sp q vs H Q E → vs.length = ps.length
  go : ∀ (q : Addr × Obj) (A : Around) (outer : List Env) (s : Shared) (H : Hp) (args : Args) (us : List Value) (vs : List V) (Q : VK) (E : XK),
    RoomH lv A → Hot1 A q → PinOk outer H s q → Env0 P w K mg base A outer s H → BindsTo s fd args (ps.zip us) → Vals vs us → sp q vs H Q E → codeAny (model P w) A (.call (.ref f) args) (CR CX0 outer P w H s Q E) s
section
variable {P : Program} {w : World} {K : PySem.W.Frag} {mg : Str → Option Value} {base : Heap}
open L2H in
theorem Df.okE {x : Str} {st : Stmt} {N ps : List Str} {lv : Nat} {sp : Addr × Obj → Sp} (D : Df K mg x st ps) (S : FnScope N ps (defScope st)) (len : ∀ q vs H Q E, sp q vs H Q E → vs.length = ps.length)
    (body : ∀ (q : Addr × Obj) (cdv : Value) (A : Around) (outer : List Env) (s : Shared) (H : Hp) (vs : List V) (Q : VK) (E : XK), Hot1 A q → RoomH lv (A.deeper (envOfC x (defScope st) s.heap.objs.size D.f cdv)) → sp q vs H Q E →
      ∃ t, PSs (cxH CX0 P w K mg base N x (defScope st) D.f cdv A outer s H E q).nox (defBody st) t ∧ t { nx := fun _ H' => Q .non H', rt := Q } (L2.start N vs) H) :
    FnE P w K mg base (lv + 1) D.f D.fd ps sp := by
  obtain ⟨f, fd, F, bnd, gl⟩ := D
  obtain ⟨oc, od, kV, doc, pm, an, cdv, ct, osl, e, lk, hcd⟩ := F.ex
  have e : fd = _ := e
  subst e
  refine ⟨len, fun q A outer s H args us vs Q E room hot pin e0 hb rel rd => ?_⟩
  have hl := len _ _ _ _ _ rd
  have keep : ∀ b o, base.get? b = some o → s.heap.get? b = some o := fun b o z => (e0.bs b o z).1
  have KX : K.In s.heap := e0.mod.kin.keeps keep
  have lim : s.heap.NoLimit := e0.mod.nolimit.keeps keep
  have kinds : ∀ y ∈ ps.zip us, (defScope st).names.lookup y.1 = some .local ∨ ((defScope st).names.lookup y.1 = some .cell ∧ ((cellsFrom (s.heap.objs.size + 1) (defScope st).names []).lookup y.1).isSome = true) := by
    rintro ⟨n, v⟩ hy
    rcases S.par n (List.of_mem_zip hy).1 with z | z
    · exact .inl z
    · exact .inr ⟨z, PySem.W.cellsFrom_some _ _ _ (.inl z)⟩
  refine codeAny_call_function room.depth (KX _ _ lk) rfl S.co S.gen rfl (PySem.W.codeRec_of KX hcd) (hb _ _ _ _ ?_)
  refine wpAny_newFunctionEnv_cells S.kind kinds fun env he s1 y => ?_
  subst he
  refine ⟨lim.keeps y.toInCall.keep, codeAny_func ?_⟩
  obtain ⟨t, ht, hq⟩ := body q cdv A outer s H vs Q E hot (room.deeper _) rd
  have I := inv_startH (CX := CX0) (E := E) S pin e0 hl rel y
  refine wpAny_mono (ht.nox.run [] s1 (L2.start N vs) H _ I hq) (fun fl s' hs => ?_) fun _ _ z => z
  cases fl with
  | brk => exact (hs.choose_spec.choose_spec.2).elim
  | cont => exact (hs.choose_spec.choose_spec.2).elim
  | ret u =>
    obtain ⟨v, _, H', J, rv, z⟩ := hs
    exact ⟨v, H', J.os, J.bare, J.base, J.hok, rv, z⟩
  | next =>
    obtain ⟨_, H', J, z⟩ := hs
    exact ⟨V.non, H', J.os, J.bare, J.base, J.hok, rfl, z⟩
end
section
variable {X : Cx}
open L2H in
theorem pe_callE {lv : Nat} {f a : Addr} {oe : Obj} {fd : FuncData} {ps : List Str} {sp : Addr × Obj → Sp} {nm : Str} {p pos : Pos} {e : Expr} {es : List Expr} {t : TA} (F : FnE X.prog X.w X.K X.mg X.base lv f fd ps sp) (room : RoomH lv X.A) (hot : Hot1 X.A (a, oe)) (hp : (a, oe) ∈ X.pn)
    (gl : Gl X nm) (gm : X.mg nm = some (.ref f)) (kp : PySem.W.keepIn X.K (.ref f) = true) (bnd : Binds X.K fd ps []) (args : PA X (e :: es) t) (nd : (nm == ("__debug__" : Str)) = false := by decide)
    (st1 : starEach (e :: es) X.env = (false, eval e X.env) :: starEach es X.env := by rfl) (st2 : (backTo pos (starEach es X.env)).any (·.1) = false := by rfl) : PE X (.Call (.Name nm p) (e :: es) [] pos) (tCallS (sp (a, oe)) (fun _ => E0) t) := by
  refine ⟨fun pins s σ H Q I rd => wpAny_Call_Name_kw (ld_glob I gl gm ?_ nd)⟩
  refine PySem.W.callWith_K (h₀ := X.base) I.ok.mod.kin kp (thn (args.run pos pins s σ H _ I rd) fun us s1 hh => ?_) st1 st2
  obtain ⟨vs, H1, I1, rel, q⟩ := hh
  refine ⟨I1.kIn, ?_⟩
  have hl : us.length = ps.length := by
    rw [← rel.length]
    exact F.few _ _ _ _ _ q
  have b := bnd s1 us I1.kIn (by rw [List.append_nil]; exact hl)
  rw [List.append_nil] at b
  have P1 := I1.pin (a, oe) (List.mem_append_left _ hp)
  have pin : PinOk X.stack H1 s1 (a, oe) := ⟨P1.1, P1.2.1, fun hm => (List.mem_cons.mp (I1.stkSub a hm)).elim P1.2.2.1 P1.2.2.2.1, P1.2.2.2.2⟩
  refine wpAny_call (codeAny_mono (F.go (a, oe) X.A X.stack s1 H1 ⟨us, []⟩ us vs Q _ room hot pin I1.env0 b rel q) fun r s' back => ?_)
  cases r with
  | error z => exact back.elim
  | ok fl =>
    cases fl with
    | ret u => exact I1.after back
    | next => exact back.elim
    | brk => exact back.elim
    | cont => exact back.elim
end
/-! ### defs that raise -/
section
variable {P : Program} {w : World} {K : PySem.W.Frag} {mg : Str → Option Value} {base : Heap}
theorem Df.okN {x : Str} {st : Stmt} {N ps : List Str} {lv : Nat} {sp : Sp} (D : Df K mg x st ps) (S : FnScope N ps (defScope st)) (len : ∀ vs H Q E, sp vs H Q E → vs.length = ps.length)
    (body : ∀ (cdv : Value) (A : Around) (outer : List Env) (s : Shared) (H : Hp) (vs : List V) (Q : VK) (E : XK), Room lv (A.deeper (envOfC x (defScope st) s.heap.objs.size D.f cdv)) → sp vs H Q E →
      ∃ t, PSs (cxOf (L2N.CX P w) P w K mg base N x (defScope st) D.f cdv A outer s H E) (defBody st) t ∧ t { nx := fun _ H' => Q .non H', rt := Q } (L2.start N vs) H) :
    FnOk P w K mg base (L2N.CX P w) (lv + 1) D.f D.fd ps sp := by
  obtain ⟨f, fd, F, bnd, gl⟩ := D
  obtain ⟨oc, od, kV, doc, pm, an, cdv, ct, osl, e, lk, hcd⟩ := F.ex
  have e : fd = _ := e
  subst e
  exact fn_of lk hcd S len fun A outer s H vs Q E room rd => body cdv A outer s H vs Q E room rd
/-- around a body nothing is let out -/
theorem takesN0 {X : Cx} : L2N.Takes X (fun _ _ _ _ => False) := fun _ _ z => by
  obtain ⟨_, _, _, _, _, _, _, _, _, _, _, _, _, _, _, _, z⟩ := z
  exact z.elim
end
end My
namespace My
open PySem PySem.Spec PyProof.Rows L2
/-! ### the digits' limit -/
theorem none_of_k {K : PySem.W.Frag} {h : Heap} {a : Addr} {m : Str → Option Value} {n : Str} (X : K.In h) (G : h.Ns a m) (e : PySem.W.nsIn K a n = some none) : m n = none := by
  obtain ⟨o, es, ep, ho, hd, _, hf⟩ := G
  unfold PySem.W.nsIn at e
  split at e
  · rename_i c d es' n' sl lk
    have two := ho.symm.trans (X _ _ lk)
    cases two
    cases hd
    split at e
    · cases e
    · rename_i none_
      rw [← hf]
      unfold nsFind findBy
      rw [← Array.find?_toList, none_]
      rfl
  · cases e
def NoDig (K : PySem.W.Frag) : Prop := PySem.W.nsIn K cStatics "sys.int_max_str_digits" = some none
theorem noDigits {X : Cx} {pins : List (Addr × Obj)} {σ : L2.St} {H : Hp} {s : Shared} (nd : NoDig X.K) (I : Inv X pins σ H s) : s.heap.NoDigits := by
  obtain ⟨mc, a, b⟩ := I.nolimit
  exact ⟨mc, a, none_of_k I.kIn a nd⟩
/-! ### int of a longer text -/
theorem wp_long {M : Model} {A : Around} {E : Value → Shared → Prop} {s : Shared} {Q : Value → Shared → Prop} {v : Value} {text : List Nat} {n : Int} (nd : s.heap.NoDigits)
    (hs : ¬ (text.takeWhile (· != 0)).length ≤ 640) (hr : (int_private% "readNumeral") 4300 10 (text.takeWhile (· != 0)) = (int_private% "Numeral.value") n)
    (ha : ((text.takeWhile (· != 0)).length == text.length) = true) (h : Q (.int n s.toks) { s with toks := s.toks + 1 }) :
    wpAny M A ((int_private% "intFromText") v text 10) Q E s := by
  obtain ⟨mc, hns, hno⟩ := nd
  obtain ⟨hp, g, d, tk, os⟩ := s
  repeat (any_goals (first
    | assumption
    | (with_reducible refine wpAny_ite_false (decide_eq_false hs) ?_)
    | (with_reducible refine wpAny_ite_true (decide_eq_true ha) ?_)
    | (with_reducible refine wpAny_nsGet hns ?_; rw [hno])
    | wp_step))
  all_goals (rw [hr]; dsimp only)
  repeat (any_goals (first
    | assumption
    | (with_reducible refine wpAny_ite_true (decide_eq_true ha) ?_)
    | wp_step))
structure Hold (p : Prop) : Prop where
  out : p
theorem meets_long {x : PySem.Str} {u : Tok} {n : Int} (hz : x.length ≤ sizeLine) (hl : ¬ (PySem.numSeenOf x).length ≤ 640) (hn : PySem.intText? x = some n) :
    Meets (Builtin.«int.__new__» ⟨[.type "int", .str x u], []⟩) (fun _ R s => s.heap.NoDigits ∧ R (.ok (.ret (.int n s.toks))) { s with toks := s.toks + 1 }) :=
  .of_wp fun prog w A R s h => by
    obtain ⟨nd, h⟩ := h
    have f1 := PySem.F.conv_sub_int
    have f2 := PySem.F.madeHere_int
    have f3 := PySem.W.KIN.str_int
    have f4 := PySem.W.KIN.str_idx
    have f5 := PySem.W.KIN.str_trunc
    have f6 : typeOf (.str x u) = pure (.type "str") := rfl
    have two : (int_private% "readNumeral") 4300 10 (PySem.numSeenOf x) = (int_private% "Numeral.value") n ∧ ((PySem.numSeenOf x).length == (PySem.numTextOf x).length) = true := by
      rcases PySem.read4300 x hz with ⟨m, h1, h2, h3⟩ | ⟨h1, _⟩
      · rw [hn] at h1
        cases h1
        exact ⟨h3, h2⟩
      · rw [hn] at h1
        cases h1
    have hk := Hold.mk (And.intro nd (And.intro hl two))
    obtain ⟨hp, g, d, tk, os⟩ := s
    clear nd hl two hn
    repeat (any_goals (first
      | assumption
      | ((with_reducible show wpAny _ _ ((int_private% "intFromText") _ _ _) _ _ _); refine wp_long hk.out.1 hk.out.2.1 hk.out.2.2.1 hk.out.2.2.2 ?_)
      | wp_step))
    all_goals first | exact ⟨_, rfl, h⟩ | skip
/-- int of a text of at most 4300 digits -/
def rIntS (K : PySem.W.Frag) : List V → Hp → VK → Prop := fun xs H Q => ∃ a n, xs = [.str a] ∧ PySem.intText? a = some n ∧ a.length ≤ sizeLine ∧ (PySem.numSeenOf a).length = a.length ∧ NoDig K ∧ Q (.int n) H
theorem c_intS {X : Cx} : CallR X (.type "int") (rIntS X.K) := by
  intro pins s σ H xs us Q I rs h
  obtain ⟨a, n, rfl, hn, hl, hsn, nd, h⟩ := h
  cases rs with
  | cons r1 rs =>
    cases rs
    obtain ⟨t, rfl⟩ := r1
    have fin : ∀ t', EP X pins σ Q (.int n t') { s with toks := s.toks + 1 } := fun t' => ⟨.int n, H, I.tok _, ⟨_, rfl⟩, h⟩
    by_cases h6 : a.length ≤ 640
    · exact PySem.W.KIN.call_text hn h6 (fin _)
    · exact call_int_1 (meets_long hl (by rw [hsn]; exact h6) hn) ⟨noDigits nd I, rfl, fin _⟩
/-! ### text * int -/
def rMulS : R2 := fun x y H Q => ∃ z n, x = .str z ∧ y = .int n ∧ 0 ≤ n ∧ n ≤ 100000 ∧ z.length ≤ 100 ∧ Q (.str (PySem.Txt.mul z n)) H
theorem o_mulS {X : Cx} : OpR X (binaryOp .Mult) rMulS := by
  intro pins s σ H x y v u Q I rx ry h
  obtain ⟨z, n, rfl, rfl, h0, h1, h2, h⟩ := h
  obtain ⟨t, rfl⟩ := (show ∃ t, v = Value.str z t from rx)
  obtain ⟨t', rfl⟩ := (show ∃ t, u = Value.int n t from ry)
  refine PySem.SB.mul ⟨by simp; omega, fun a _ => ?_, fun a _ => ?_⟩ fun t2 k => ⟨.str (PySem.Txt.mul z n), H, I.tok _, ⟨t2, rfl⟩, h⟩
  · have hq : (100000 : Int) ≤ (2 ^ 63 - 1) / n := (Int.le_ediv_iff_mul_le (by omega)).mpr (by omega)
    omega
  · have e : z.length * n.toNat ≤ 100 * 100000 := Nat.mul_le_mul h2 (by omega)
    unfold Builtin.Str.tooLong
    refine decide_eq_false ?_
    rw [sizeLine_eq]
    omega
/-! ### how often a truth value stands in a list of such -/
def rCntB (K : PySem.W.Frag) : V → List V → Hp → VK → Prop := fun x xs H Q => ∃ (a : Addr) (bs : List Bool) (k : Bool), x = .ref a ∧ xs = [.bl k] ∧ SqL K H a (bs.map V.bl) ∧ Q (.int (countIn (.bool k) (bs.map PyData.bool))) H
theorem reads_bools {h : Heap} : ∀ {bs : List Bool} {vs : List Value}, Vals (bs.map V.bl) vs → ReadsAll h vs (bs.map PyData.bool) []
  | [], _, r => by cases r; exact .nil
  | b :: bs, _, r => by
    cases r with
    | cons r1 r2 =>
      cases r1
      exact .cons (as := []) (by constructor) (reads_bools r2)
theorem all_bools (bs : List Bool) : (bs.map PyData.bool).all Shape.bool.has = true := by
  rw [List.all_map, List.all_eq_true]
  intro x _
  rfl
theorem mt_cntB {X : Cx} : MtR X "list.count" (rCntB X.K) := by
  intro pins s σ H x xs v us Q I rx rs h
  obtain ⟨a, bs, k, rfl, rfl, hq, h⟩ := h
  cases (show v = Value.ref a from rx)
  cases rs with
  | cons r1 r2 =>
    cases r2
    cases r1
    obtain ⟨its, rv, pl, hz⟩ := I.list hq
    exact count_list_bools pl.isList (reads_bools (h := s.heap) rv) (all_bools bs) ⟨.int _, H, I.tok _, ⟨_, rfl⟩, h⟩
/-! ### replace: a token must be out -/
def PE1 (X : Cx) (e : Expr) (t : TE) : Prop := ∀ (pins : List (Addr × Obj)) (s : Shared) (σ : L2.St) (H : Hp) (Q : VK), Inv X pins σ H s → t σ H Q →
  wpAny (model X.prog X.w) X.A (eval e X.env) (fun u s' => 1 ≤ s'.toks ∧ EP X pins σ Q u s') X.xe s
def PA1 (X : Cx) (es : List Expr) (t : TA) : Prop := ∀ (pos : Pos) (pins : List (Addr × Obj)) (s : Shared) (σ : L2.St) (H : Hp) (Q : List V → Hp → Prop), Inv X pins σ H s → t σ H Q →
  wpAny (model X.prog X.w) X.A (spliced (backTo pos (starEach es X.env))) (fun us s' => 1 ≤ s'.toks ∧ AP X pins σ Q us s') X.xe s
section
variable {X : Cx}
theorem PE1.pe {e : Expr} {t : TE} (h : PE1 X e t) : PE X e t := ⟨fun pins s σ H Q I q => thn (h pins s σ H Q I q) fun _ _ z => z.2⟩
theorem drop_toks {α : Type} {M : Model} {A : Around} {t : Sem α} {Q : α → Shared → Prop} {E : Value → Shared → Prop} {s : Shared} {n : Nat} (hn : n ≤ s.toks) (h : wpAny M A t Q E s) :
    wpAny M A t (fun a s' => n ≤ s'.toks ∧ Q a s') E s := wpAny_mono (wpAny_toks_of hn h) (fun _ _ z => z) fun _ _ z => z.2
theorem pe1_intL {op : Operator} {r : R2} {b : Expr} {tb : TE} {i : Int} {j : Nat} {cp pos : Pos} (ho : OpR X (binaryOp op) r) (hb : PE X b tb) : PE1 X (.BinOp (.Constant (.int i) j cp) op b pos) (tOp r (tC (.int i)) tb) := by
  intro pins s σ H Q I h
  refine wpAny_BinOp (wpAny_Constant_int ?_)
  refine thn (drop_toks (n := 1) (by show 1 ≤ s.toks + 1; omega) (hb.run pins _ σ H _ (I.tok _) h)) fun u s1 hh => ?_
  obtain ⟨h1, y, H1, I1, ry, q⟩ := hh
  exact drop_toks h1 (ho pins s1 σ H1 (.int i) y _ u Q I1 ⟨_, rfl⟩ ry q)
theorem pa1_head {e : Expr} {es : List Expr} {te : TE} {t : TA} (ha : PE1 X e te) (hr : PA X es t) (hs : starEach (e :: es) X.env = (false, eval e X.env) :: starEach es X.env := by rfl) : PA1 X (e :: es) (tCons te t) := by
  intro pos pins s σ H Q I h
  rw [hs]
  refine Calls.spliced_cons (thn (ha pins s σ H _ I h) fun u s1 hh => ?_)
  obtain ⟨h1, x, H1, I1, r1, q1⟩ := hh
  exact thn (drop_toks h1 (hr.run pos pins s1 σ H1 _ I1 q1)) fun us s2 ⟨h2, xs, H2, I2, r2, q2⟩ => ⟨h2, x :: xs, H2, I2, .cons r1 r2, q2⟩
theorem pa1_tail {e : Expr} {es : List Expr} {te : TE} {t : TA} (ha : PE X e te) (hr : PA1 X es t) (hs : starEach (e :: es) X.env = (false, eval e X.env) :: starEach es X.env := by rfl) : PA1 X (e :: es) (tCons te t) := by
  intro pos pins s σ H Q I h
  rw [hs]
  refine Calls.spliced_cons (thn (ha.run pins s σ H _ I h) fun u s1 hh => ?_)
  obtain ⟨x, H1, I1, r1, q1⟩ := hh
  exact thn (hr pos pins s1 σ H1 _ I1 q1) fun us s2 ⟨h2, xs, H2, I2, r2, q2⟩ => ⟨h2, x :: xs, H2, I2, .cons r1 r2, q2⟩
theorem pe1_call {CX : CXT} {lv : Nat} {f : Addr} {fd : FuncData} {ps : List Str} {sp : Sp} {E : XK} {nm : Str} {p pos : Pos} {e : Expr} {es : List Expr} {t : TA} (F : FnOk X.prog X.w X.K X.mg X.base CX lv f fd ps sp) (hr : Room lv X.A) (hg : Gl X nm) (hm : X.mg nm = some (.ref f)) (hk : PySem.W.keepIn X.K (.ref f) = true)
    (hb : Binds X.K fd ps []) (hx : Passes CX X E) (ha : PA1 X (e :: es) t) (nd : (nm == ("__debug__" : Str)) = false := by decide) (st1 : starEach (e :: es) X.env = (false, eval e X.env) :: starEach es X.env := by rfl)
    (st2 : (backTo pos (starEach es X.env)).any (·.1) = false := by rfl) : PE1 X (.Call (.Name nm p) (e :: es) [] pos) (tCall sp [] E t) := by
  intro pins s σ H Q I h
  refine wpAny_Call_Name_kw (ld_glob I hg hm ?_ nd)
  refine PySem.W.callWith_K (h₀ := X.base) I.ok.mod.kin hk (thn (ha pos pins s σ H _ I h) fun us s1 hh => ?_) st1 st2
  obtain ⟨h1, vs, H1, I1, r, q⟩ := hh
  exact ⟨I1.kIn, drop_toks h1 (run_fn F hr hb .nil hx I1 r q)⟩
def tRepl (y z : Str) (to : TE) : TE := fun σ H Q => to σ H fun v H1 => ∃ x, v = .str x ∧ x.length + (x.length + 1) * z.length ≤ 16777216 ∧ Q (.str (PySem.Txt.replace x y z)) H1
theorem pe1_repl {o : Expr} {to : TE} {y z : Str} {j k : Nat} {c0 c1 apos pos : Pos} (ho : PE1 X o to) (hyz : (y == z) = false := by decide)
    (hst : starEach [.Constant (.str y) j c0, .Constant (.str z) k c1] X.env = [(false, eval (.Constant (.str y) j c0) X.env), (false, eval (.Constant (.str z) k c1) X.env)] := by rfl)
    (hbase : attributeBase o "replace" X.env (eval o X.env) = eval o X.env := by rfl) (hline : (apos.endLine == pos.line) = true := by rfl) :
    PE1 X (.Call (.Attribute o "replace" apos) [.Constant (.str y) j c0, .Constant (.str z) k c1] [] pos) (tRepl y z to) := by
  intro pins s σ H Q I h
  refine PySem.Call_method2 hbase hst hline (thn (ho pins s σ H _ I h) fun v s1 q => ?_)
  obtain ⟨h1, v', H1, I1, r1, x, rfl, hb, q⟩ := q
  obtain ⟨tx, rfl⟩ := (show ∃ t, v = Value.str x t from r1)
  refine ⟨"str", _, PySem.F.plainAttrs_str, PySem.F.slot_str_replace, PySem.F.type_str_replace, typeIs_str _ _ _, (fun _ e => nomatch e), Calls.callWith_builtin rfl (Calls.evalArgs_plain (Calls.spliced_cons ?_))⟩
  refine Calls.Constant_str (Calls.spliced_cons (Calls.Constant_str (Calls.spliced_nil ?_)))
  refine drop_toks (n := 1) (by show 1 ≤ s1.toks + 1 + 1; omega) ?_
  refine PySem.SC.replace ?_ ?_ ?_ hyz hb fun t' k => ⟨.str (PySem.Txt.replace x y z), H1, I1.tok k, ⟨t', rfl⟩, q⟩
  · show s1.toks ≠ 0
    omega
  · show s1.toks + 1 ≠ 0
    omega
  · show s1.toks ≠ s1.toks + 1
    omega
end
end My
namespace My
open PySem PySem.Spec PyProof.Rows L2
/-! ### data: what stands at a value, without addresses -/
inductive D where
  | non | bl (b : Bool) | int (i : Int) | str (x : Str) | tup (l : List D) | lst (l : List D) | dct (ks vs : List D) | ins (C : Addr) (fs : List Str) (vs : List D) | scr (ns : List Int) | sto | exc (a : Addr) | err (C : Addr) (fs : List Str) (vs : List D)
def kD : Key → D
  | .inl i => .int i
  | .inr x => .str x
def tD (l : List Key) : D := .tup (l.map kD)
/-- a dict at a with the keys ks, the values us -/
def DicV (H : Hp) (a : Addr) (ks : List D) (us : List V) : Prop :=
  (∃ kvs : List (Key × V), H a = some (.dK kvs) ∧ ks = kvs.map (fun p => kD p.1) ∧ us = kvs.map (·.2)) ∨
  (∃ kvs : List (List Key × V), H a = some (.dT kvs) ∧ ks = kvs.map (fun p => tD p.1) ∧ us = kvs.map (·.2))
/-- one heap within another -/
abbrev Sub (H H' : Hp) : Prop := ∀ b o, H b = some o → H' b = some o
/-- an exception at a, not raised: of the class at C, its fields -/
def ErrAt (H : Hp) (a C : Addr) (fs : List Str) (us : List V) : Prop :=
  (∃ dx, H a = some (exo a C (some dx)) ∧ H dx = some (exd dx (fs.zip us)) ∧ us.length = fs.length) ∨ (fs = [] ∧ us = [] ∧ H a = some (ExO (.ref C) a))
mutual
/-- at v stands the data d -/
def Da (K : PySem.W.Frag) (so : Option Addr) (H : Hp) : D → V → Prop
  | .non, v => v = .non
  | .bl b, v => v = .bl b
  | .int i, v => v = .int i
  | .str x, v => v = .str x
  | .tup l, v => ∃ a xs, v = .ref a ∧ SqT K H a xs ∧ DaL K so H l xs
  | .lst l, v => ∃ a xs, v = .ref a ∧ H a = some (.lst xs) ∧ DaL K so H l xs
  | .dct ks vs, v => ∃ a us, v = .ref a ∧ DicV H a ks us ∧ DaL K so H vs us
  | .ins C fs vs, v => ∃ a dx us, v = .ref a ∧ H a = some (.ins C dx (fs.zip us)) ∧ H dx = some (.own a) ∧ us.length = fs.length ∧ DaL K so H vs us
  | .scr ns, v => ∃ a, v = .ref a ∧ SqL K H a (ns.map V.int)
  | .sto, v => ∃ a, v = .ref a ∧ so = some a
  | .exc a, v => v = .ref a
  | .err C fs vs, v => ∃ a us, v = .ref a ∧ ErrAt H a C fs us ∧ DaL K so H vs us
def DaL (K : PySem.W.Frag) (so : Option Addr) (H : Hp) : List D → List V → Prop
  | [], xs => xs = []
  | d :: l, xs => ∃ x r, xs = x :: r ∧ Da K so H d x ∧ DaL K so H l r
end
theorem Sub.sqT {K : PySem.W.Frag} {H H' : Hp} {a : Addr} {xs : List V} (x : Sub H H') (h : SqT K H a xs) : SqT K H' a xs := by
  rcases h with (h | ⟨o, h⟩) | h
  · exact .inl (.inl (x _ _ h))
  · exact .inl (.inr ⟨o, x _ _ h⟩)
  · exact .inr h
theorem Sub.sqL {K : PySem.W.Frag} {H H' : Hp} {a : Addr} {xs : List V} (x : Sub H H') (h : SqL K H a xs) : SqL K H' a xs := by
  rcases h with (h | ⟨o, h⟩) | h
  · exact .inl (.inl (x _ _ h))
  · exact .inl (.inr ⟨o, x _ _ h⟩)
  · exact .inr h
theorem Sub.dic {H H' : Hp} {a : Addr} {ks : List D} {us : List V} (x : Sub H H') (h : DicV H a ks us) : DicV H' a ks us := by
  rcases h with ⟨kvs, h, e⟩ | ⟨kvs, h, e⟩
  · exact .inl ⟨kvs, x _ _ h, e⟩
  · exact .inr ⟨kvs, x _ _ h, e⟩
theorem Sub.err {H H' : Hp} {a C : Addr} {fs : List Str} {us : List V} (x : Sub H H') (h : ErrAt H a C fs us) : ErrAt H' a C fs us := by
  rcases h with ⟨dx, h1, h2, h3⟩ | ⟨h1, h2, h3⟩
  · exact .inl ⟨dx, x _ _ h1, x _ _ h2, h3⟩
  · exact .inr ⟨h1, h2, x _ _ h3⟩
mutual
theorem Da.mono {K : PySem.W.Frag} {so : Option Addr} {H H' : Hp} (x : Sub H H') : ∀ (d : D) (v : V), Da K so H d v → Da K so H' d v
  | .non, _, h => h
  | .bl _, _, h => h
  | .int _, _, h => h
  | .str _, _, h => h
  | .tup l, _, ⟨a, xs, e, h, q⟩ => ⟨a, xs, e, Sub.sqT x h, DaL.mono x l xs q⟩
  | .lst l, _, ⟨a, xs, e, h, q⟩ => ⟨a, xs, e, x _ _ h, DaL.mono x l xs q⟩
  | .dct ks vs, _, ⟨a, us, e, h, q⟩ => ⟨a, us, e, Sub.dic x h, DaL.mono x vs us q⟩
  | .ins C fs vs, _, ⟨a, dx, us, e, h, h2, l, q⟩ => ⟨a, dx, us, e, x _ _ h, x _ _ h2, l, DaL.mono x vs us q⟩
  | .scr ns, _, ⟨a, e, h⟩ => ⟨a, e, Sub.sqL x h⟩
  | .sto, _, h => h
  | .exc _, _, h => h
  | .err C fs vs, _, ⟨a, us, e, h, q⟩ => ⟨a, us, e, Sub.err x h, DaL.mono x vs us q⟩
theorem DaL.mono {K : PySem.W.Frag} {so : Option Addr} {H H' : Hp} (x : Sub H H') : ∀ (l : List D) (xs : List V), DaL K so H l xs → DaL K so H' l xs
  | [], _, h => h
  | d :: l, _, ⟨v, r, e, h, q⟩ => ⟨v, r, e, Da.mono x d v h, DaL.mono x l r q⟩
end
section
variable {K : PySem.W.Frag} {so : Option Addr} {H : Hp}
theorem DaL.len : ∀ {l : List D} {xs : List V}, DaL K so H l xs → xs.length = l.length
  | [], _, h => by
    have e : _ = _ := h
    rw [e]
    rfl
  | d :: l, _, ⟨v, r, e, h, q⟩ => by
    rw [e, List.length_cons, List.length_cons, q.len]
theorem DaL.get : ∀ {l : List D} {xs : List V} {i : Nat} {d : D}, DaL K so H l xs → l[i]? = some d → ∃ v, xs[i]? = some v ∧ Da K so H d v
  | [], _, _, _, _, e => by simp at e
  | c :: l, _, 0, d, ⟨v, r, e1, h, q⟩, e => by
    have e2 : c = d := by simpa using e
    subst e2
    exact ⟨v, by rw [e1]; rfl, h⟩
  | c :: l, _, i + 1, d, ⟨v, r, e1, h, q⟩, e => by
    obtain ⟨z, h1, h2⟩ := q.get (i := i) (d := d) (by simpa using e)
    exact ⟨z, by rw [e1]; simpa using h1, h2⟩
theorem DaL.back : ∀ {l : List D} {xs : List V} {i : Nat} {v : V}, DaL K so H l xs → xs[i]? = some v → ∃ d, l[i]? = some d ∧ Da K so H d v := fun {l xs i v} q e => by
  have hi : i < xs.length := (List.getElem?_eq_some_iff.mp e).1
  rw [q.len] at hi
  obtain ⟨w, h1, h2⟩ := q.get (List.getElem?_eq_getElem hi)
  have e2 : v = w := Option.some.inj (e.symm.trans h1)
  subst e2
  exact ⟨_, List.getElem?_eq_getElem hi, h2⟩
theorem DaL.app : ∀ {l m : List D} {xs ys : List V}, DaL K so H l xs → DaL K so H m ys → DaL K so H (l ++ m) (xs ++ ys)
  | [], _, _, _, h, q => by
    have e : _ = _ := h
    rw [e]
    exact q
  | d :: l, m, _, ys, ⟨v, r, e, h, z⟩, q => ⟨v, r ++ ys, by rw [e]; rfl, h, z.app q⟩
theorem DaL.one {d : D} {v : V} (h : Da K so H d v) : DaL K so H [d] [v] := ⟨v, [], rfl, h, rfl⟩
theorem DaL.set : ∀ {l : List D} {xs : List V} (j : Nat) {d : D} {v : V}, DaL K so H l xs → Da K so H d v → DaL K so H (l.set j d) (xs.set j v)
  | [], _, _, _, _, h, _ => by
    have e : _ = _ := h
    rw [e]
    exact rfl
  | c :: l, _, 0, d, v, ⟨w, r, e, h, q⟩, z => ⟨v, r, by rw [e]; rfl, z, q⟩
  | c :: l, _, j + 1, d, v, ⟨w, r, e, h, q⟩, z => ⟨w, r.set j v, by rw [e]; rfl, h, q.set j z⟩
theorem DaL.drop : ∀ {l : List D} {xs : List V} (n : Nat), DaL K so H l xs → DaL K so H (l.drop n) (xs.drop n)
  | _, _, 0, h => h
  | [], _, n + 1, h => by
    have e : _ = _ := h
    rw [e]
    exact rfl
  | c :: l, _, n + 1, ⟨w, r, e, h, q⟩ => by
    rw [e]
    exact q.drop n
theorem DaL.take : ∀ {l : List D} {xs : List V} (n : Nat), DaL K so H l xs → DaL K so H (l.take n) (xs.take n)
  | _, _, 0, h => by
    rw [List.take_zero, List.take_zero]
    exact rfl
  | [], _, n + 1, h => by
    have e : _ = _ := h
    rw [e]
    exact rfl
  | c :: l, _, n + 1, ⟨w, r, e, h, q⟩ => ⟨w, r.take n, by rw [e]; rfl, h, q.take n⟩
theorem DaL.atI {l : List D} {xs : List V} {i : Int} {d : D} (q : DaL K so H l xs) (e : L2.atI l i = some d) : ∃ v, L2.atI xs i = some v ∧ Da K so H d v := by
  unfold L2.atI at e ⊢
  rw [q.len]
  cases h : ixN l.length i with
  | none =>
    rw [h] at e
    cases e
  | some j =>
    rw [h] at e
    exact q.get e
end
/-! ### the two heaps: A what is frozen, H all -/
/-- the store at s: a list of the script's copy and five ints -/
def StoOk (K : PySem.W.Frag) (A H : Hp) (s : Addr) : Prop := A s = none ∧ ∃ (L : Addr) (ns : List Int) (p a b c d : Int), H s = some (.lst (StL L p a b c d)) ∧ A L = some (.lst (ns.map V.int)) ∧ 0 ≤ p ∧ 0 ≤ a ∧ 0 ≤ b ∧ 0 ≤ c ∧ c < 2305843009213693951 ∧ ns.length ≤ 63
structure Good (K : PySem.W.Frag) (so : Option Addr) (A H : Hp) : Prop where
  sub : Sub A H
  st : ∀ s, so = some s → StoOk K A H s
/-- from (A, H) to (A', H'): what was there is kept but for the store; what is frozen now was so, or is new -/
structure Ext (K : PySem.W.Frag) (so : Option Addr) (A H A' H' : Hp) : Prop where
  good : Good K so A' H'
  mono : Sub A A'
  kept : ∀ b o, so ≠ some b → H b = some o → H' b = some o
  new : ∀ b o, A' b = some o → A b = some o ∨ H b = none
section
variable {K : PySem.W.Frag} {so : Option Addr} {A H A1 H1 A2 H2 : Hp}
theorem Ext.refl (g : Good K so A H) : Ext K so A H A H := ⟨g, fun _ _ h => h, fun _ _ _ h => h, fun _ _ h => .inl h⟩
theorem Ext.trans (x : Ext K so A H A1 H1) (y : Ext K so A1 H1 A2 H2) : Ext K so A H A2 H2 := by
  refine ⟨y.good, fun b o h => y.mono b o (x.mono b o h), fun b o n h => y.kept b o n (x.kept b o n h), fun b o h => ?_⟩
  rcases y.new b o h with z | z
  · exact x.new b o z
  · cases e : H b with
    | none => exact .inr rfl
    | some u =>
      by_cases n : so = some b
      · have := (y.good.st b n).1
        rw [h] at this
        cases this
      · rw [x.kept b u n e] at z
        cases z
theorem Ext.da (x : Ext K so A H A1 H1) {d : D} {v : V} (h : Da K so A d v) : Da K so A1 d v := Da.mono x.mono d v h
theorem Ext.daL (x : Ext K so A H A1 H1) {d : List D} {v : List V} (h : DaL K so A d v) : DaL K so A1 d v := DaL.mono x.mono d v h
theorem Good.da (g : Good K so A H) {d : D} {v : V} (h : Da K so A d v) : Da K so H d v := Da.mono g.sub d v h
theorem Good.daL (g : Good K so A H) {d : List D} {v : List V} (h : DaL K so A d v) : DaL K so H d v := DaL.mono g.sub d v h
theorem Good.ne (g : Good K so A H) {p s : Addr} (h : H p = none) (e : so = some s) : p ≠ s := fun z => by
  obtain ⟨_, L, ns, p', a, b, c, d, h2, _⟩ := g.st s e
  rw [← z, h] at h2
  cases h2
/-- a new object, frozen -/
theorem Ext.laid (g : Good K so A H) {p : Addr} {o : HO} (h : H p = none) : Ext K so A H (upd A p o) (upd H p o) := by
  have ap : A p = none := by
    cases e : A p with
    | none => rfl
    | some u =>
      rw [g.sub p u e] at h
      cases h
  refine ⟨⟨fun b u e => ?_, fun s e => ?_⟩, fun b u e => ?_, fun b u n e => ?_, fun b u e => ?_⟩
  · by_cases z : b = p
    · subst z
      rw [upd_same] at e ⊢
      exact e
    · rw [upd_ne z] at e ⊢
      exact g.sub b u e
  · obtain ⟨h1, L, ns, p', a, b, c, d, h2, h3, r⟩ := g.st s e
    have n := g.ne h e
    exact ⟨by rw [upd_ne (Ne.symm n)]; exact h1, L, ns, p', a, b, c, d, by rw [upd_ne (Ne.symm n)]; exact h2, by rw [upd_ne (ne_of_none h3 ap)]; exact h3, r⟩
  · rw [upd_ne (ne_of_none e ap)]
    exact e
  · rw [upd_ne (ne_of_none e h)]
    exact e
  · by_cases z : b = p
    · subst z
      exact .inr h
    · rw [upd_ne z] at e
      exact .inl e
/-- a new object, not frozen -/
theorem Ext.open_ (g : Good K so A H) {p : Addr} {o : HO} (h : H p = none) : Ext K so A H A (upd H p o) := by
  refine ⟨⟨fun b u e => ?_, fun s e => ?_⟩, fun b u e => e, fun b u n e => ?_, fun b u e => .inl e⟩
  · rw [upd_ne (ne_of_none (g.sub b u e) h)]
    exact g.sub b u e
  · obtain ⟨h1, L, ns, p', a, b, c, d, h2, h3, r⟩ := g.st s e
    have n := g.ne h e
    exact ⟨h1, L, ns, p', a, b, c, d, by rw [upd_ne (Ne.symm n)]; exact h2, h3, r⟩
  · rw [upd_ne (ne_of_none e h)]
    exact e
theorem Ext.fresh (x : Ext K so A H A1 H1) {p : Addr} (h : H1 p = none) : H p = none := by
  cases e : H p with
  | none => rfl
  | some u =>
    by_cases n : so = some p
    · exact absurd rfl (x.good.ne h n)
    · rw [x.kept p u n e] at h
      cases h
/-- an own object is changed (it was not there at first, it is not frozen) -/
theorem Ext.mut (x : Ext K so A H A1 H1) {a : Addr} {o : HO} (h : H a = none) (h1 : A1 a = none) (hs : so ≠ some a) : Ext K so A H A1 (upd H1 a o) := by
  refine ⟨⟨fun b u e => ?_, fun s e => ?_⟩, x.mono, fun b u n e => ?_, x.new⟩
  · rw [upd_ne (ne_of_none e h1)]
    exact x.good.sub b u e
  · obtain ⟨h2, L, ns, p', a', b, c, d, h3, h4, r⟩ := x.good.st s e
    have n : s ≠ a := fun z => hs (by rw [e, z])
    exact ⟨h2, L, ns, p', a', b, c, d, by rw [upd_ne n]; exact h3, h4, r⟩
  · rw [upd_ne (ne_of_none e h)]
    exact x.kept b u n e
/-- an own object is frozen -/
theorem Ext.frz (x : Ext K so A H A1 H1) {a : Addr} {o : HO} (h : H a = none) (h1 : A1 a = none) (h2 : H1 a = some o) (hs : so ≠ some a) : Ext K so A H (upd A1 a o) H1 := by
  refine ⟨⟨fun b u e => ?_, fun s e => ?_⟩, fun b u e => ?_, x.kept, fun b u e => ?_⟩
  · by_cases z : b = a
    · subst z
      rw [upd_same] at e
      rw [← e]
      exact h2
    · rw [upd_ne z] at e
      exact x.good.sub b u e
  · obtain ⟨h3, L, ns, p', a', b, c, d, h4, h5, r⟩ := x.good.st s e
    have n : s ≠ a := fun z => hs (by rw [e, z])
    exact ⟨by rw [upd_ne n]; exact h3, L, ns, p', a', b, c, d, h4, by rw [upd_ne (ne_of_none h5 h1)]; exact h5, r⟩
  · rw [upd_ne (ne_of_none (x.mono b u e) h1)]
    exact x.mono b u e
  · by_cases z : b = a
    · subst z
      exact .inr h
    · rw [upd_ne z] at e
      exact x.new b u e
end
/-! ### slots -/
inductive Sl where
  | no | fr (d : D) | ow (l : List D) | od (ks vs : List D)
abbrev DEnv := List Sl
/-- is it owned -/
def Sl.own : Sl → Bool
  | .ow _ => true
  | .od _ _ => true
  | _ => false
def SlOk (K : PySem.W.Frag) (so : Option Addr) (Hi A H : Hp) : Sl → Option V → Prop
  | .no, _ => True
  | .fr d, o => ∃ v, o = some v ∧ Da K so A d v
  | .ow l, o => ∃ a xs, o = some (.ref a) ∧ H a = some (.lst xs) ∧ A a = none ∧ Hi a = none ∧ so ≠ some a ∧ DaL K so A l xs
  | .od ks vs, o => ∃ a us, o = some (.ref a) ∧ DicV H a ks us ∧ A a = none ∧ Hi a = none ∧ so ≠ some a ∧ DaL K so A vs us
structure EnvOk (K : PySem.W.Frag) (so : Option Addr) (Hi A H : Hp) (σ : L2.St) (ρ : DEnv) : Prop where
  len : σ.length = ρ.length
  ok : ∀ (i : Nat) (sl : Sl), ρ[i]? = some sl → ∃ o, σ[i]? = some o ∧ SlOk K so Hi A H sl o
  dj : ∀ (i j : Nat) (sl sl' : Sl) (a : Addr), i ≠ j → ρ[i]? = some sl → ρ[j]? = some sl' → sl.own = true → sl'.own = true → σ[i]? = some (some (.ref a)) → σ[j]? = some (some (.ref a)) → False
section
variable {K : PySem.W.Frag} {so : Option Addr} {Hi A H A1 H1 : Hp} {σ : L2.St} {ρ : DEnv}
theorem DicV.there {a : Addr} {ks : List D} {us : List V} (h : DicV H a ks us) : ∃ o, H a = some o := by
  rcases h with ⟨_, h, _⟩ | ⟨_, h, _⟩ <;> exact ⟨_, h⟩
theorem DicV.ext {a : Addr} {ks : List D} {us : List V} (h : DicV H a ks us) (k : ∀ o : HO, H a = some o → H1 a = some o) : DicV H1 a ks us := by
  rcases h with ⟨kvs, h, e⟩ | ⟨kvs, h, e⟩
  · exact .inl ⟨kvs, k _ h, e⟩
  · exact .inr ⟨kvs, k _ h, e⟩
theorem Ext.unfrozen (x : Ext K so A H A1 H1) {a : Addr} {o : HO} (h : A a = none) (h2 : H a = some o) : A1 a = none := by
  cases e : A1 a with
  | none => rfl
  | some u =>
    rcases x.new a u e with z | z
    · rw [h] at z
      cases z
    · rw [h2] at z
      cases z
theorem SlOk.ext (x : Ext K so A H A1 H1) : ∀ {sl : Sl} {o : Option V}, SlOk K so Hi A H sl o → SlOk K so Hi A1 H1 sl o
  | .no, _, h => h
  | .fr d, _, ⟨v, e, h⟩ => ⟨v, e, x.da h⟩
  | .ow l, _, ⟨a, xs, e, h, na, ni, ns, q⟩ => ⟨a, xs, e, x.kept a _ ns h, x.unfrozen na h, ni, ns, x.daL q⟩
  | .od ks vs, _, ⟨a, us, e, h, na, ni, ns, q⟩ => ⟨a, us, e, h.ext (fun o z => x.kept a o ns z), (let ⟨_, z⟩ := h.there; x.unfrozen na z), ni, ns, x.daL q⟩
theorem EnvOk.ext (x : Ext K so A H A1 H1) (h : EnvOk K so Hi A H σ ρ) : EnvOk K so Hi A1 H1 σ ρ :=
  ⟨h.len, fun i sl e => let ⟨o, e2, q⟩ := h.ok i sl e; ⟨o, e2, q.ext x⟩, h.dj⟩
/-- a slot is set: to a value, to what is told of it -/
theorem EnvOk.set {i : Nat} {sl : Sl} {v : V} (h : EnvOk K so Hi A H σ ρ) (q : SlOk K so Hi A H sl (some v))
    (d : sl.own = true → ∀ (j : Nat) (sl' : Sl) (a : Addr), v = .ref a → i ≠ j → ρ[j]? = some sl' → sl'.own = true → σ[j]? = some (some (.ref a)) → False) : EnvOk K so Hi A H (σ.set i (some v)) (ρ.set i sl) := by
  refine ⟨by rw [List.length_set, List.length_set]; exact h.len, fun j sl' e => ?_, fun j k sl1 sl2 a n e1 e2 o1 o2 s1 s2 => ?_⟩
  · by_cases z : i = j
    · subst z
      by_cases hi : i < ρ.length
      · rw [List.getElem?_set_self hi] at e
        cases e
        exact ⟨_, List.getElem?_set_self (by rw [h.len]; exact hi), q⟩
      · rw [List.getElem?_eq_none (by rw [List.length_set]; omega)] at e
        cases e
    · rw [List.getElem?_set_ne z] at e
      rw [List.getElem?_set_ne z]
      exact h.ok j sl' e
  · by_cases z : i = j
    · subst z
      rw [List.getElem?_set_ne n] at e2 s2
      by_cases hi : i < ρ.length
      · rw [List.getElem?_set_self hi] at e1
        rw [List.getElem?_set_self (by rw [h.len]; exact hi)] at s1
        cases e1
        cases s1
        exact d o1 k sl2 a rfl n e2 o2 s2
      · rw [List.getElem?_eq_none (by rw [List.length_set]; omega)] at e1
        cases e1
    · by_cases z2 : i = k
      · subst z2
        rw [List.getElem?_set_ne (Ne.symm n)] at e1 s1
        by_cases hi : i < ρ.length
        · rw [List.getElem?_set_self hi] at e2
          rw [List.getElem?_set_self (by rw [h.len]; exact hi)] at s2
          cases e2
          cases s2
          exact d o2 j sl1 a rfl (Ne.symm n) e1 o1 s1
        · rw [List.getElem?_eq_none (by rw [List.length_set]; omega)] at e2
          cases e2
      · rw [List.getElem?_set_ne z] at e1 s1
        rw [List.getElem?_set_ne z2] at e2 s2
        exact h.dj j k sl1 sl2 a n e1 e2 o1 o2 s1 s2
theorem EnvOk.setFr {i : Nat} {d : D} {v : V} (h : EnvOk K so Hi A H σ ρ) (q : Da K so A d v) : EnvOk K so Hi A H (σ.set i (some v)) (ρ.set i (.fr d)) :=
  h.set ⟨v, rfl, q⟩ fun z => by cases z
theorem SlOk.there {sl : Sl} {a : Addr} (h : SlOk K so Hi A H sl (some (.ref a))) (o : sl.own = true) : ∃ u, H a = some u := by
  cases sl with
  | no => cases o
  | fr d => cases o
  | ow l =>
    obtain ⟨a', xs, e, h, _⟩ := h
    cases e
    exact ⟨_, h⟩
  | od ks vs =>
    obtain ⟨a', us, e, h, _⟩ := h
    cases e
    exact h.there
/-- a new list is owned by slot i -/
theorem EnvOk.setOw {i : Nat} {p : Addr} {l : List D} {xs : List V} {Ai : Hp} (x : Ext K so Ai Hi A H) (h : EnvOk K so Hi A H σ ρ) (hp : H p = none) (q : DaL K so A l xs) :
    EnvOk K so Hi A (upd H p (.lst xs)) (σ.set i (some (.ref p))) (ρ.set i (.ow l)) := by
  have ap : A p = none := by
    cases e : A p with
    | none => rfl
    | some u =>
      rw [x.good.sub p u e] at hp
      cases hp
  refine EnvOk.set (h.ext (Ext.open_ x.good hp)) ⟨p, xs, rfl, upd_same, ap, x.fresh hp, fun z => x.good.ne hp z rfl, q⟩ fun _ j sl' a e n e2 o2 s2 => ?_
  cases e
  obtain ⟨o, e3, z⟩ := h.ok j sl' e2
  rw [s2] at e3
  cases e3
  obtain ⟨u, z⟩ := z.there o2
  rw [hp] at z
  cases z
/-- the object of an owned slot is changed -/
theorem EnvOk.mutOw {i : Nat} {a : Addr} {sl sl' : Sl} {o : HO} (h : EnvOk K so Hi A H σ ρ) (ho : sl.own = true) (e : ρ[i]? = some sl) (es : σ[i]? = some (some (.ref a))) (q : SlOk K so Hi A (upd H a o) sl' (some (.ref a))) : EnvOk K so Hi A (upd H a o) σ (ρ.set i sl') := by
  have hi : i < ρ.length := (List.getElem?_eq_some_iff.mp e).1
  have oth : ∀ (j : Nat) (sl2 : Sl), i ≠ j → ρ[j]? = some sl2 → ∃ o', σ[j]? = some o' ∧ SlOk K so Hi A (upd H a o) sl2 o' := fun j sl2 n e2 => by
    obtain ⟨o2, e3, z⟩ := h.ok j sl2 e2
    refine ⟨o2, e3, ?_⟩
    cases sl2 with
    | no => exact z
    | fr d => exact z
    | ow l =>
      obtain ⟨a2, xs, ea, ha, r⟩ := z
      have na : a2 ≠ a := fun w => h.dj i j _ _ a n e e2 ho rfl es (by rw [e3, ea, w])
      exact ⟨a2, xs, ea, by rw [upd_ne na]; exact ha, r⟩
    | od ks vs =>
      obtain ⟨a2, xs, ea, ha, r⟩ := z
      have na : a2 ≠ a := fun w => h.dj i j _ _ a n e e2 ho rfl es (by rw [e3, ea, w])
      exact ⟨a2, xs, ea, ha.ext fun o' w => by rw [upd_ne na]; exact w, r⟩
  refine ⟨by rw [List.length_set]; exact h.len, fun j sl2 e2 => ?_, fun j k sl1 sl2 b n e1 e2 o1 o2 s1 s2 => ?_⟩
  · by_cases z : i = j
    · subst z
      rw [List.getElem?_set_self hi] at e2
      cases e2
      exact ⟨_, es, q⟩
    · rw [List.getElem?_set_ne z] at e2
      exact oth j sl2 z e2
  · have look : ∀ (m : Nat) (sl3 : Sl), (ρ.set i sl')[m]? = some sl3 → sl3.own = true → ∃ sl4, ρ[m]? = some sl4 ∧ sl4.own = true := fun m sl3 em om => by
      by_cases z : i = m
      · subst z
        exact ⟨_, e, ho⟩
      · rw [List.getElem?_set_ne z] at em
        exact ⟨_, em, om⟩
    obtain ⟨t1, f1, g1⟩ := look j sl1 e1 o1
    obtain ⟨t2, f2, g2⟩ := look k sl2 e2 o2
    exact h.dj j k t1 t2 b n f1 f2 g1 g2 s1 s2
/-- less is told -/
theorem EnvOk.weak {ρ' : DEnv} (h : EnvOk K so Hi A H σ ρ) (hl : ρ'.length = ρ.length) (w : ∀ (i : Nat) (sl : Sl), ρ'[i]? = some sl → sl = .no ∨ ρ[i]? = some sl) : EnvOk K so Hi A H σ ρ' := by
  refine ⟨h.len.trans hl.symm, fun i sl e => ?_, fun i j sl sl' a n e1 e2 o1 o2 s1 s2 => ?_⟩
  · rcases w i sl e with z | z
    · subst z
      have hi : i < ρ'.length := (List.getElem?_eq_some_iff.mp e).1
      have hs : i < σ.length := by rw [h.len, ← hl]; exact hi
      exact ⟨σ[i], List.getElem?_eq_getElem hs, trivial⟩
    · exact h.ok i sl z
  · rcases w i sl e1 with z | z
    · subst z
      cases o1
    · rcases w j sl' e2 with z2 | z2
      · subst z2
        cases o2
      · exact h.dj i j sl sl' a n z z2 o1 o2 s1 s2
end
end My
namespace My
open PySem PySem.Spec PyProof.Rows L2
/-! ### readings over data -/
structure XD where
  C : Addr
  fs : List Str
  vs : List D
structure Gx where
  so : Option Addr
  Ai : Hp
  Hi : Hp
abbrev DE := DEnv → (D → Prop) → (XD → Prop) → Prop
abbrev DT := DEnv → (Bool → Prop) → (XD → Prop) → Prop
abbrev DL := DEnv → (List D → Prop) → (XD → Prop) → Prop
abbrev EXT := L2.St → XK
structure Stt (K : PySem.W.Frag) (g : Gx) (A H : Hp) (σ : L2.St) (ρ : DEnv) : Prop where
  x : Ext K g.so g.Ai g.Hi A H
  e : EnvOk K g.so g.Hi A H σ ρ
def Cont (K : PySem.W.Frag) (so : Option Addr) (A H : Hp) (Qd : D → Prop) (Q : VK) : Prop := ∀ d v A' H', Ext K so A H A' H' → Da K so A' d v → Qd d → Q v H'
def ContT (K : PySem.W.Frag) (so : Option Addr) (A H : Hp) (Qd : Bool → Prop) (Q : Bool → Hp → Prop) : Prop := ∀ b A' H', Ext K so A H A' H' → Qd b → Q b H'
def ContA (K : PySem.W.Frag) (so : Option Addr) (A H : Hp) (Qd : List D → Prop) (Q : List V → Hp → Prop) : Prop := ∀ ds vs A' H', Ext K so A H A' H' → DaL K so A' ds vs → Qd ds → Q vs H'
def ContN (K : PySem.W.Frag) (so : Option Addr) (A H : Hp) (Qd : List D → Prop) (Q : VK) : Prop := ∀ l xs p A' H', Ext K so A H A' H' → H' p = none → DaL K so A' l xs → Qd l → Q (.ref p) (upd H' p (.lst xs))
def ContX (K : PySem.W.Frag) (so : Option Addr) (A H : Hp) (Ed : XD → Prop) (E : XK) : Prop := ∀ x dx A' H' us, Ext K so A H A' H' → H dx = none → H' dx = some (.xd (x.fs.zip us)) → us.length = x.fs.length → DaL K so A' x.vs us → Ed x → E (.ref x.C) (some dx) H'
def lE (K : PySem.W.Frag) (g : Gx) (EX : EXT) (r : DE) : TE := fun σ H Q => ∃ A ρ Qd Ed, Stt K g A H σ ρ ∧ r ρ Qd Ed ∧ Cont K g.so A H Qd Q ∧ ContX K g.so A H Ed (EX σ)
def lT (K : PySem.W.Frag) (g : Gx) (EX : EXT) (r : DT) : TT := fun σ H Q => ∃ A ρ Qd Ed, Stt K g A H σ ρ ∧ r ρ Qd Ed ∧ ContT K g.so A H Qd Q ∧ ContX K g.so A H Ed (EX σ)
def lA (K : PySem.W.Frag) (g : Gx) (EX : EXT) (r : DL) : TA := fun σ H Q => ∃ A ρ Qd Ed, Stt K g A H σ ρ ∧ r ρ Qd Ed ∧ ContA K g.so A H Qd Q ∧ ContX K g.so A H Ed (EX σ)
def lN (K : PySem.W.Frag) (g : Gx) (EX : EXT) (r : DL) : TE := fun σ H Q => ∃ A ρ Qd Ed, Stt K g A H σ ρ ∧ r ρ Qd Ed ∧ ContN K g.so A H Qd Q ∧ ContX K g.so A H Ed (EX σ)
structure PD (X : Cx) (g : Gx) (EX : EXT) (e : Expr) (r : DE) : Prop where
  pe : PE X e (lE X.K g EX r)
structure PDT (X : Cx) (g : Gx) (EX : EXT) (e : Expr) (r : DT) : Prop where
  pt : PT X e (lT X.K g EX r)
structure PDW (X : Cx) (g : Gx) (EX : EXT) (e : Expr) (r : DT) : Prop where
  pw : PW X e (lT X.K g EX r)
structure PDA (X : Cx) (g : Gx) (EX : EXT) (es : List Expr) (r : DL) : Prop where
  pa : PA X es (lA X.K g EX r)
/-- an expression whose value is a new list -/
structure PDN (X : Cx) (g : Gx) (EX : EXT) (e : Expr) (r : DL) : Prop where
  pe : PE X e (lN X.K g EX r)
theorem _root_.L2.PE.imp {X : Cx} {e : Expr} {t t' : TE} (h : PE X e t) (w : ∀ σ H Q, t' σ H Q → t σ H Q) : PE X e t' := ⟨fun pins s σ H Q I q => h.run pins s σ H Q I (w σ H Q q)⟩
theorem _root_.L2.PT.imp {X : Cx} {e : Expr} {t t' : TT} (h : PT X e t) (w : ∀ σ H Q, t' σ H Q → t σ H Q) : PT X e t' := ⟨fun pins s σ H Q I q => h.run pins s σ H Q I (w σ H Q q)⟩
theorem _root_.L2.PW.imp {X : Cx} {e : Expr} {t t' : TT} (h : PW X e t) (w : ∀ σ H Q, t' σ H Q → t σ H Q) : PW X e t' := ⟨fun wh pins s σ H Q I q => h.run wh pins s σ H Q I (w σ H Q q)⟩
theorem _root_.L2.PA.imp {X : Cx} {es : List Expr} {t t' : TA} (h : PA X es t) (w : ∀ σ H Q, t' σ H Q → t σ H Q) : PA X es t' := ⟨fun pos pins s σ H Q I q => h.run pos pins s σ H Q I (w σ H Q q)⟩
theorem Stt.good {K : PySem.W.Frag} {g : Gx} {A H : Hp} {σ : L2.St} {ρ : DEnv} (S : Stt K g A H σ ρ) : Good K g.so A H := S.x.good
theorem Stt.ext {K : PySem.W.Frag} {g : Gx} {A H A1 H1 : Hp} {σ : L2.St} {ρ : DEnv} (S : Stt K g A H σ ρ) (x : Ext K g.so A H A1 H1) : Stt K g A1 H1 σ ρ := ⟨S.x.trans x, S.e.ext x⟩
section
variable {K : PySem.W.Frag} {so : Option Addr} {A H A1 H1 : Hp}
theorem Cont.ext {Qd : D → Prop} {Q : VK} (c : Cont K so A H Qd Q) (x : Ext K so A H A1 H1) : Cont K so A1 H1 Qd Q := fun d v A' H' y => c d v A' H' (x.trans y)
theorem ContT.ext {Qd : Bool → Prop} {Q : Bool → Hp → Prop} (c : ContT K so A H Qd Q) (x : Ext K so A H A1 H1) : ContT K so A1 H1 Qd Q := fun b A' H' y => c b A' H' (x.trans y)
theorem ContA.ext {Qd : List D → Prop} {Q : List V → Hp → Prop} (c : ContA K so A H Qd Q) (x : Ext K so A H A1 H1) : ContA K so A1 H1 Qd Q := fun d v A' H' y => c d v A' H' (x.trans y)
theorem ContN.ext {Qd : List D → Prop} {Q : VK} (c : ContN K so A H Qd Q) (x : Ext K so A H A1 H1) : ContN K so A1 H1 Qd Q := fun l xs p A' H' y => c l xs p A' H' (x.trans y)
theorem ContX.ext {Ed : XD → Prop} {E : XK} (c : ContX K so A H Ed E) (x : Ext K so A H A1 H1) : ContX K so A1 H1 Ed E := fun z dx A' H' us y n => c z dx A' H' us (x.trans y) (x.fresh n)
/-- an end where nothing has changed -/
theorem Cont.now {Qd : D → Prop} {Q : VK} {d : D} {v : V} (c : Cont K so A H Qd Q) (g : Good K so A H) (h : Da K so A d v) (q : Qd d) : Q v H := c d v A H (Ext.refl g) h q
theorem Cont.nowI {Qd : D → Prop} {Q : VK} {i : Int} (c : Cont K so A H Qd Q) (g : Good K so A H) (q : Qd (.int i)) : Q (.int i) H := c.now (d := .int i) g rfl q
theorem Cont.nowB {Qd : D → Prop} {Q : VK} {i : Bool} (c : Cont K so A H Qd Q) (g : Good K so A H) (q : Qd (.bl i)) : Q (.bl i) H := c.now (d := .bl i) g rfl q
theorem Cont.nowS {Qd : D → Prop} {Q : VK} {i : Str} (c : Cont K so A H Qd Q) (g : Good K so A H) (q : Qd (.str i)) : Q (.str i) H := c.now (d := .str i) g rfl q
theorem Cont.nowN {Qd : D → Prop} {Q : VK} (c : Cont K so A H Qd Q) (g : Good K so A H) (q : Qd .non) : Q .non H := c.now (d := .non) g rfl q
theorem Cont.newL {Qd : D → Prop} {Q : VK} (c : Cont K so A H Qd Q) : ContN K so A H (fun l => Qd (.lst l)) Q := fun l xs p A' H' x hp da q => by
  have y := Ext.laid (o := .lst xs) x.good hp
  exact c (.lst l) (.ref p) _ _ (x.trans y) ⟨p, xs, rfl, upd_same, DaL.mono y.mono _ _ da⟩ q
/-- a new tuple -/
theorem Cont.tup {Qd : D → Prop} {Q : VK} {l : List D} {xs : List V} {p : Addr} (c : Cont K so A H Qd Q) (g : Good K so A H) (hp : H p = none) (da : DaL K so A l xs) (q : Qd (.tup l)) : Q (.ref p) (upd H p (.tup xs)) := by
  have y := Ext.laid (o := .tup xs) g hp
  exact c (.tup l) (.ref p) _ _ y ⟨p, xs, rfl, SqT.of upd_same, DaL.mono y.mono _ _ da⟩ q
end
theorem outT {A B : Prop} (h : if true = true then A else B) : A := by simpa using h
theorem outF {A B : Prop} (h : if false = true then A else B) : B := by simpa using h
/-! ### names, constants -/
def rdS (o : Option Sl) (Q : D → Prop) : Prop := match o with
  | some (.fr d) => Q d
  | _ => False
def dVar (i : Nat) : DE := fun ρ Q _ => rdS ρ[i]? Q
def dC (d : D) : DE := fun _ Q _ => Q d
def dNew (r : DL) : DE := fun ρ Q E => r ρ (fun l => Q (.lst l)) E
section
variable {X : Cx} {g : Gx} {EX : EXT} {e a b : Expr} {es : List Expr} {ra rb : DE} {pos : Pos}
theorem pd_var {i : Nat} (h : PE X e (tVar i)) : PD X g EX e (dVar i) := ⟨h.imp fun σ H Q q => by
  obtain ⟨A, ρ, Qd, Ed, S, q, c, cx⟩ := q
  unfold dVar rdS at q
  split at q
  · rename_i d e
    obtain ⟨o, e2, v, e3, da⟩ := S.e.ok _ _ e
    exact ⟨v, by rw [e2, e3], c.now S.good da q⟩
  · exact q.elim⟩
theorem pd_c {v : V} {d : D} (h : PE X e (tC v)) (hd : ∀ so A, Da X.K so A d v) : PD X g EX e (dC d) := ⟨h.imp fun σ H Q q => by
  obtain ⟨A, ρ, Qd, Ed, S, q, c, cx⟩ := q
  exact c.now S.good (hd _ _) q⟩
theorem pd_int {i j p} : PD X g EX (.Constant (.int i) j p) (dC (.int i)) := pd_c pe_int fun _ _ => rfl
theorem pd_bl {i j p} : PD X g EX (.Constant (.bool i) j p) (dC (.bl i)) := pd_c pe_bl fun _ _ => rfl
theorem pd_non {j p} : PD X g EX (.Constant .none j p) (dC .non) := pd_c pe_non fun _ _ => rfl
theorem pd_str {i j p} : PD X g EX (.Constant (.str i) j p) (dC (.str i)) := pd_c pe_str fun _ _ => rfl
theorem pd_new {r : DL} (h : PDN X g EX e r) : PD X g EX e (dNew r) := ⟨h.pe.imp fun σ H Q q => by
  obtain ⟨A, ρ, Qd, Ed, S, q, c, cx⟩ := q
  exact ⟨A, ρ, _, Ed, S, q, c.newL, cx⟩⟩
/-! ### operators -/
abbrev D2 := D → D → (D → Prop) → Prop
def OpL (K : PySem.W.Frag) (r2 : R2) (rr : D2) : Prop := ∀ so A H x y v u Qd Q, Good K so A H → Da K so A x v → Da K so A y u → rr x y Qd → Cont K so A H Qd Q → r2 v u H Q
def dOp (rr : D2) (ra rb : DE) : DE := fun ρ Q E => ra ρ (fun x => rb ρ (fun y => rr x y Q) E) E
theorem lE_op {r2 : R2} {rr : D2} (hl : OpL X.K r2 rr) {σ : L2.St} {H : Hp} {Q : VK} (h : lE X.K g EX (dOp rr ra rb) σ H Q) : tOp r2 (lE X.K g EX ra) (lE X.K g EX rb) σ H Q := by
  obtain ⟨A, ρ, Qd, Ed, S, h, c, cx⟩ := h
  refine ⟨A, ρ, fun x => rb ρ (fun y => rr x y Qd) Ed, Ed, S, h, fun d v A1 H1 x1 da q => ?_, cx⟩
  refine ⟨A1, ρ, fun y => rr d y Qd, Ed, S.ext x1, q, fun d2 v2 A2 H2 x2 da2 q2 => ?_, cx.ext x1⟩
  exact hl g.so A2 H2 d d2 v v2 Qd Q x2.good (x2.da da) da2 q2 ((c.ext x1).ext x2)
theorem pd_op {op : Operator} {r2 : R2} {rr : D2} (ho : OpR X (binaryOp op) r2) (hl : OpL X.K r2 rr) (ha : PD X g EX a ra) (hb : PD X g EX b rb) : PD X g EX (.BinOp a op b pos) (dOp rr ra rb) :=
  ⟨(pe_op ho ha.pe hb.pe).imp fun σ H Q h => lE_op hl h⟩
theorem pd_cmp {op : CmpOp} {r2 : R2} {rr : D2} (ho : OpR X (compareOp op) r2) (hl : OpL X.K r2 rr) (ha : PD X g EX a ra) (hb : PD X g EX b rb) (hm : behindInMarks op b = false) : PD X g EX (.Compare a [op] [b] pos) (dOp rr ra rb) :=
  ⟨(pe_cmpR ho ha.pe hb.pe hm).imp fun σ H Q h => lE_op hl h⟩
theorem pd_ix {r2 : R2} {rr : D2} (hr : IxR X r2) (hl : OpL X.K r2 rr) (ha : PD X g EX a ra) (hb : PD X g EX b rb) (hs : PlainIx b) : PD X g EX (.Subscript a b pos) (dOp rr ra rb) :=
  ⟨(pe_ix hr ha.pe hb.pe hs).imp fun σ H Q h => lE_op hl h⟩
/-- the value is a bool -/
def onB (d : D) (Q : Bool → Prop) : Prop := match d with
  | .bl k => Q k
  | _ => False
theorem onB.out {K : PySem.W.Frag} {so : Option Addr} {A : Hp} {d : D} {v : V} {Q : Bool → Prop} (h : onB d Q) (da : Da K so A d v) : ∃ k, v = .bl k ∧ Q k := by
  unfold onB at h
  split at h
  · exact ⟨_, da, h⟩
  · exact h.elim
def qB (r : DE) : DT := fun ρ Q E => r ρ (fun d => onB d Q) E
theorem lT_B {r : DE} {t : TE} {σ : L2.St} {H : Hp} {Q : Bool → Hp → Prop} (w : ∀ Q, lE X.K g EX r σ H Q → t σ H Q) (h : lT X.K g EX (qB r) σ H Q) : tTest t σ H Q := by
  obtain ⟨A, ρ, Qd, Ed, S, h, c, cx⟩ := h
  refine w _ ⟨A, ρ, _, Ed, S, h, fun d v A1 H1 x1 da q => ?_, cx⟩
  obtain ⟨k, rfl, q⟩ := q.out da
  exact ⟨k, rfl, c k A1 H1 x1 q⟩
theorem pdt_cmp {op : CmpOp} {r2 : R2} {rr : D2} (ho : OpR X (compareOp op) r2) (hl : OpL X.K r2 rr) (ha : PD X g EX a ra) (hb : PD X g EX b rb) (hm : behindInMarks op b = false) : PDT X g EX (.Compare a [op] [b] pos) (qB (dOp rr ra rb)) :=
  ⟨(pt_cmpR ho ha.pe hb.pe hm).imp fun σ H Q h => lT_B (fun Q h => lE_op hl h) h⟩
def dChain (rr rr' : D2) (ra rb rc : DE) : DE := fun ρ Q E => ra ρ (fun x => rb ρ (fun y => rr x y fun z => onB z fun k => if k = true then rc ρ (fun z => rr' y z Q) E else Q (.bl false)) E) E
theorem lE_chain {c : Expr} {rc : DE} {r2 r2' : R2} {rr rr' : D2} (hl : OpL X.K r2 rr) (hl' : OpL X.K r2' rr') {σ : L2.St} {H : Hp} {Q : VK} (h : lE X.K g EX (dChain rr rr' ra rb rc) σ H Q) : tChain r2 r2' (lE X.K g EX ra) (lE X.K g EX rb) (lE X.K g EX rc) σ H Q := by
  obtain ⟨A, ρ, Qd, Ed, S, h, c, cx⟩ := h
  refine ⟨A, ρ, _, Ed, S, h, fun d v A1 H1 x1 da q => ?_, cx⟩
  refine ⟨A1, ρ, _, Ed, S.ext x1, q, fun d2 v2 A2 H2 x2 da2 q2 => ?_, cx.ext x1⟩
  refine hl g.so A2 H2 d d2 v v2 _ _ x2.good (x2.da da) da2 q2 fun z w A3 H3 x3 da3 q3 => ?_
  obtain ⟨k, rfl, q3⟩ := q3.out da3
  refine ⟨k, rfl, ?_⟩
  cases k with
  | true =>
    refine iteT ⟨A3, ρ, _, Ed, ((S.ext x1).ext x2).ext x3, outT q3, fun d4 v4 A4 H4 x4 da4 q4 => ?_, ((cx.ext x1).ext x2).ext x3⟩
    exact hl' g.so A4 H4 d2 d4 v2 v4 _ _ x4.good (x4.da (x3.da da2)) da4 q4 (((c.ext x1).ext x2).ext x3 |>.ext x4)
  | false =>
    refine iteF ?_
    exact c (.bl false) _ A3 H3 ((x1.trans x2).trans x3) rfl (outF q3)
/-! ### tests -/
def qAnd (t u : DT) : DT := fun ρ Q E => t ρ (fun k => if k = true then u ρ Q E else Q false) E
def qOr (t u : DT) : DT := fun ρ Q E => t ρ (fun k => if k = true then Q true else u ρ Q E) E
def qNot (t : DT) : DT := fun ρ Q E => t ρ (fun k => Q (!k)) E
variable {tA tB' : DT} {rest : List Expr}
theorem PDW.t (h : PDW X g EX e tA) : PDT X g EX e tA := ⟨h.pw.pt⟩
theorem pdw_and1 (ha : PDT X g EX a tA) : PDW X g EX (.BoolOp .And [a] pos) tA := ⟨pw_and1 ha.pt⟩
theorem pdw_or1 (ha : PDT X g EX a tA) : PDW X g EX (.BoolOp .Or [a] pos) tA := ⟨pw_or1 ha.pt⟩
theorem pdw_and (ha : PDT X g EX a tA) (hb : PDW X g EX (.BoolOp .And (b :: rest) pos) tB') : PDW X g EX (.BoolOp .And (a :: b :: rest) pos) (qAnd tA tB') := ⟨(pw_and ha.pt hb.pw).imp fun σ H Q h => by
  obtain ⟨A, ρ, Qd, Ed, S, h, c, cx⟩ := h
  refine ⟨A, ρ, _, Ed, S, h, fun k A1 H1 x1 q => ?_, cx⟩
  cases k with
  | true => exact iteT ⟨A1, ρ, _, Ed, S.ext x1, outT q, c.ext x1, cx.ext x1⟩
  | false => exact iteF (c false A1 H1 x1 (outF q))⟩
theorem pdw_or (ha : PDT X g EX a tA) (hb : PDW X g EX (.BoolOp .Or (b :: rest) pos) tB') : PDW X g EX (.BoolOp .Or (a :: b :: rest) pos) (qOr tA tB') := ⟨(pw_or ha.pt hb.pw).imp fun σ H Q h => by
  obtain ⟨A, ρ, Qd, Ed, S, h, c, cx⟩ := h
  refine ⟨A, ρ, _, Ed, S, h, fun k A1 H1 x1 q => ?_, cx⟩
  cases k with
  | true => exact iteT (c true A1 H1 x1 (outT q))
  | false => exact iteF ⟨A1, ρ, _, Ed, S.ext x1, outF q, c.ext x1, cx.ext x1⟩⟩
theorem pdt_not (ha : PDT X g EX a tA) : PDT X g EX (.UnaryOp .Not a pos) (qNot tA) := ⟨(pt_not ha.pt).imp fun σ H Q h => by
  obtain ⟨A, ρ, Qd, Ed, S, h, c, cx⟩ := h
  exact ⟨A, ρ, _, Ed, S, h, fun k A1 H1 x1 q => c (!k) A1 H1 x1 q, cx⟩⟩
/-- truth -/
def truD (d : D) (Q : Bool → Prop) : Prop := match d with
  | .non => Q false
  | .bl k => Q k
  | .int i => Q (i != 0)
  | .str y => y.length ≤ sizeLine ∧ Q ((y.length : Int) != 0)
  | .tup l => Q (!l.isEmpty)
  | .lst l => Q (!l.isEmpty)
  | _ => False
def qTru (r : DE) : DT := fun ρ Q E => r ρ (fun d => truD d Q) E
theorem empty_len {α β : Type} {xs : List α} {ys : List β} (h : xs.length = ys.length) : xs.isEmpty = ys.isEmpty := by
  cases xs <;> cases ys <;> first | rfl | cases h
theorem truD.out {K : PySem.W.Frag} {so : Option Addr} {A H : Hp} {d : D} {v : V} {Q : Bool → Prop} (gd : Good K so A H) (h : truD d Q) (da : Da K so A d v) : ∃ k, TruV K v H k ∧ Q k := by
  cases d with
  | non => exact ⟨_, by cases da; exact rfl, h⟩
  | bl k => exact ⟨_, by cases da; exact rfl, h⟩
  | int i => exact ⟨_, by cases da; exact rfl, h⟩
  | str y => exact ⟨_, by cases da; exact ⟨h.1, rfl⟩, h.2⟩
  | tup l =>
    obtain ⟨p, xs, e, hs, q⟩ := da
    subst e
    exact ⟨_, .inr (.inl ⟨xs, Sub.sqT gd.sub hs, by rw [empty_len q.len]⟩), h⟩
  | lst l =>
    obtain ⟨p, xs, e, hs, q⟩ := da
    subst e
    exact ⟨_, .inl ⟨xs, SqL.of (gd.sub _ _ hs), by rw [empty_len q.len]⟩, h⟩
  | _ => exact h.elim
theorem pdt_tru (ha : PD X g EX a ra) (he : ∀ whole, isTrue a X.env whole = (do let v ← whole; standAt a.pos; holding [v] (truthy v)) := by intro _; rfl) : PDT X g EX a (qTru ra) := ⟨(pt_truth ha.pe he).imp fun σ H Q h => by
  obtain ⟨A, ρ, Qd, Ed, S, h, c, cx⟩ := h
  refine ⟨A, ρ, _, Ed, S, h, fun d v A1 H1 x1 da q => ?_, cx⟩
  obtain ⟨k, t, q⟩ := q.out x1.good da
  exact ⟨k, t, c k A1 H1 x1 q⟩⟩
def dIf (c : DT) (ra rb : DE) : DE := fun ρ Q E => c ρ (fun k => if k = true then ra ρ Q E else rb ρ Q E) E
theorem pd_if {c : Expr} (hc : PDT X g EX c tA) (ha : PD X g EX a ra) (hb : PD X g EX b rb) : PD X g EX (.IfExp c a b pos) (dIf tA ra rb) := ⟨(pe_ifExp hc.pt ha.pe hb.pe).imp fun σ H Q h => by
  obtain ⟨A, ρ, Qd, Ed, S, h, c, cx⟩ := h
  refine ⟨A, ρ, _, Ed, S, h, fun k A1 H1 x1 q => ?_, cx⟩
  cases k with
  | true => exact iteT ⟨A1, ρ, _, Ed, S.ext x1, outT q, c.ext x1, cx.ext x1⟩
  | false => exact iteF ⟨A1, ρ, _, Ed, S.ext x1, outF q, c.ext x1, cx.ext x1⟩⟩
/-- and, or, not as values of bools -/
def dAnd (ra rb : DE) : DE := fun ρ Q E => ra ρ (fun x => onB x fun k => if k = true then rb ρ Q E else Q (.bl false)) E
def dOr (ra rb : DE) : DE := fun ρ Q E => ra ρ (fun x => onB x fun k => if k = true then Q (.bl true) else rb ρ Q E) E
def dNot (ra : DE) : DE := fun ρ Q E => ra ρ (fun x => onB x fun k => Q (.bl (!k))) E
theorem pd_one {op} (h : PD X g EX a ra) : PD X g EX (.BoolOp op [a] pos) ra := ⟨pe_one h.pe⟩
theorem pd_and (ha : PD X g EX a ra) (hb : PD X g EX (.BoolOp .And (b :: rest) pos) rb) : PD X g EX (.BoolOp .And (a :: b :: rest) pos) (dAnd ra rb) := ⟨(pe_and ha.pe hb.pe).imp fun σ H Q h => by
  obtain ⟨A, ρ, Qd, Ed, S, h, c, cx⟩ := h
  refine ⟨A, ρ, _, Ed, S, h, fun d v A1 H1 x1 da q => ?_, cx⟩
  obtain ⟨k, rfl, q⟩ := q.out da
  refine ⟨k, rfl, ?_⟩
  cases k with
  | true => exact iteT ⟨A1, ρ, _, Ed, S.ext x1, outT q, c.ext x1, cx.ext x1⟩
  | false => exact iteF (c (.bl false) _ A1 H1 x1 rfl (outF q))⟩
theorem pd_or (ha : PD X g EX a ra) (hb : PD X g EX (.BoolOp .Or (b :: rest) pos) rb) : PD X g EX (.BoolOp .Or (a :: b :: rest) pos) (dOr ra rb) := ⟨(pe_or ha.pe hb.pe).imp fun σ H Q h => by
  obtain ⟨A, ρ, Qd, Ed, S, h, c, cx⟩ := h
  refine ⟨A, ρ, _, Ed, S, h, fun d v A1 H1 x1 da q => ?_, cx⟩
  obtain ⟨k, rfl, q⟩ := q.out da
  refine ⟨k, rfl, ?_⟩
  cases k with
  | true => exact iteT (c (.bl true) _ A1 H1 x1 rfl (outT q))
  | false => exact iteF ⟨A1, ρ, _, Ed, S.ext x1, outF q, c.ext x1, cx.ext x1⟩⟩
theorem pd_not (ha : PD X g EX a ra) : PD X g EX (.UnaryOp .Not a pos) (dNot ra) := ⟨(pe_not ha.pe).imp fun σ H Q h => by
  obtain ⟨A, ρ, Qd, Ed, S, h, c, cx⟩ := h
  refine ⟨A, ρ, _, Ed, S, h, fun d v A1 H1 x1 da q => ?_, cx⟩
  obtain ⟨k, rfl, q⟩ := q.out da
  exact ⟨k, rfl, c (.bl (!k)) _ A1 H1 x1 rfl q⟩⟩
def dUn (f : D → (D → Prop) → Prop) (ra : DE) : DE := fun ρ Q E => ra ρ (fun x => f x Q) E
def ddNeg (d : D) (Q : D → Prop) : Prop := match d with
  | .int i => Q (.int (-i))
  | _ => False
theorem pd_neg (ha : PD X g EX a ra) : PD X g EX (.UnaryOp .USub a pos) (dUn ddNeg ra) := ⟨(pe_un un_neg ha.pe).imp fun σ H Q h => by
  obtain ⟨A, ρ, Qd, Ed, S, h, c, cx⟩ := h
  refine ⟨A, ρ, _, Ed, S, h, fun d v A1 H1 x1 da q => ?_, cx⟩
  have q : ddNeg d Qd := q
  unfold ddNeg at q
  split at q
  · exact ⟨_, da, c (.int _) _ A1 H1 x1 rfl q⟩
  · exact q.elim⟩
/-! ### lists of arguments, displays -/
def lNil : DL := fun _ Q _ => Q []
def lCons (r : DE) (t : DL) : DL := fun ρ Q E => r ρ (fun d => t ρ (fun l => Q (d :: l)) E) E
variable {r : DE} {t : DL}
theorem pda_nil : PDA X g EX [] lNil := ⟨pa_nil.imp fun σ H Q h => by
  obtain ⟨A, ρ, Qd, Ed, S, h, c, cx⟩ := h
  exact c [] [] A H (Ext.refl S.good) rfl h⟩
theorem pda_cons (ha : PD X g EX e r) (hr : PDA X g EX es t) (hs : starEach (e :: es) X.env = (false, eval e X.env) :: starEach es X.env := by rfl) : PDA X g EX (e :: es) (lCons r t) := ⟨(pa_cons ha.pe hr.pa hs).imp fun σ H Q h => by
  obtain ⟨A, ρ, Qd, Ed, S, h, c, cx⟩ := h
  refine ⟨A, ρ, _, Ed, S, h, fun d v A1 H1 x1 da q => ?_, cx⟩
  refine ⟨A1, ρ, _, Ed, S.ext x1, q, fun ds vs A2 H2 x2 das q2 => ?_, cx.ext x1⟩
  exact c (d :: ds) (v :: vs) A2 H2 (x1.trans x2) ⟨v, vs, rfl, x2.da da, das⟩ q2⟩
def dTup (t : DL) : DE := fun ρ Q E => t ρ (fun l => l.length ≤ sizeLine ∧ Q (.tup l)) E
def nLst (t : DL) : DL := fun ρ Q E => t ρ (fun l => l.length ≤ sizeLine ∧ Q l) E
theorem pd_tup {x1} (h : PDA X g EX es t) : PD X g EX (.Tuple es x1 pos) (dTup t) := ⟨(pe_tup h.pa).imp fun σ H Q h => by
  obtain ⟨A, ρ, Qd, Ed, S, h, c, cx⟩ := h
  refine ⟨A, ρ, _, Ed, S, h, fun ds vs A1 H1 x1 das q => ?_, cx⟩
  exact ⟨by rw [das.len]; exact q.1, fun p hp => (c.ext x1).tup x1.good hp das q.2⟩⟩
theorem pdn_lst (h : PDA X g EX es t) : PDN X g EX (.List es pos) (nLst t) := ⟨(pe_lst h.pa).imp fun σ H Q h => by
  obtain ⟨A, ρ, Qd, Ed, S, h, c, cx⟩ := h
  refine ⟨A, ρ, _, Ed, S, h, fun ds vs A1 H1 x1 das q => ?_, cx⟩
  exact ⟨by rw [das.len]; exact q.1, fun p hp => c ds vs p A1 H1 x1 hp das q.2⟩⟩
end
end My
namespace My
open PySem PySem.Spec PyProof.Rows L2
/-! ### operators over data -/
def CDivZ (_ j : Int) : Prop := j ≠ 0 ∧ j.natAbs.log2 < 9000
theorem op_fdivZ {X : Cx} : OpR X (binaryOp .FloorDiv) (rI CDivZ fun i j => .int (i.fdiv j)) := opI fun _ _ _ _ _ _ _ hc q => floordiv_int hc.1 q (.inl (PyProof.noPylong_of_log2 hc.2))
def ddI (C : Int → Int → Prop) (f : Int → Int → D) : D2 := fun x y Q => match x, y with
  | .int i, .int j => C i j ∧ Q (f i j)
  | _, _ => False
theorem ol_I {K : PySem.W.Frag} {C : Int → Int → Prop} {f : Int → Int → D} {h : Int → Int → V} (hf : ∀ i j so A, Da K so A (f i j) (h i j)) : OpL K (rI C h) (ddI C f) := by
  intro so A H x y v u Qd Q gd dx dy q c
  unfold ddI at q
  split at q
  · exact ⟨_, _, dx, dy, q.1, c.now gd (hf _ _ _ _) q.2⟩
  · exact q.elim
def ddI0 (f : Int → Int → D) : D2 := fun x y Q => match x, y with
  | .int i, .int j => Q (f i j)
  | _, _ => False
theorem ol_I0 {K : PySem.W.Frag} {f : Int → Int → D} {h : Int → Int → V} (hf : ∀ i j so A, Da K so A (f i j) (h i j)) : OpL K (rI0 h) (ddI0 f) := by
  intro so A H x y v u Qd Q gd dx dy q c
  unfold ddI0 at q
  split at q
  · exact ⟨_, _, dx, dy, c.now gd (hf _ _ _ _) q⟩
  · exact q.elim
/-- x + y -/
def ddAdd : D2 := fun x y Q => match x, y with
  | .int i, .int j => Q (.int (i + j))
  | .str i, .str j => i.length + j.length ≤ sizeLine ∧ Q (.str (i ++ j))
  | .tup l, .tup m => l ≠ [] ∧ l.length + m.length ≤ sizeLine ∧ Q (.tup (l ++ m))
  | .lst l, .lst m => l.length + m.length ≤ sizeLine ∧ Q (.lst (l ++ m))
  | _, _ => False
def rAdd4 (K : PySem.W.Frag) : R2 := fun x y H Q => rI0 (fun i j => .int (i + j)) x y H Q ∨ rAddS x y H Q ∨ rCatT K x y H Q ∨ rCat x y H Q
theorem oo_add {X : Cx} : OpR X (binaryOp .Add) (rAdd4 X.K) := op_add.or (o_addS.or (op_catT.or op_cat))
theorem ol_add {K : PySem.W.Frag} : OpL K (rAdd4 K) ddAdd := by
  intro so A H x y v u Qd Q gd dx dy q c
  unfold ddAdd at q
  split at q
  · exact .inl ⟨_, _, dx, dy, c.nowI gd q⟩
  · exact .inr (.inl ⟨_, _, dx, dy, q.1, c.nowS gd q.2⟩)
  · obtain ⟨a, xs, rfl, hs, qa⟩ := dx
    obtain ⟨b, ys, rfl, ht, qb⟩ := dy
    refine .inr (.inr (.inl ⟨a, b, xs, ys, rfl, rfl, Sub.sqT gd.sub hs, Sub.sqT gd.sub ht, fun e => q.1 ?_, by rw [qa.len, qb.len]; exact q.2.1, fun e => ?_, fun e p hp => c.tup gd hp (qa.app qb) q.2.2⟩))
    · have z := qa.len
      rw [e] at z
      exact List.eq_nil_of_length_eq_zero z.symm
    · have z := qb.len
      rw [e] at z
      have z := List.eq_nil_of_length_eq_zero z.symm
      subst z
      have q := q.2.2
      rw [List.append_nil] at q
      exact c.now (d := .tup _) gd ⟨a, xs, rfl, hs, qa⟩ q
  · obtain ⟨a, xs, rfl, hs, qa⟩ := dx
    obtain ⟨b, ys, rfl, ht, qb⟩ := dy
    exact .inr (.inr (.inr ⟨a, b, xs, ys, rfl, rfl, gd.sub _ _ hs, gd.sub _ _ ht, by rw [qa.len, qb.len]; exact q.1, fun p hp => c.newL _ _ p A H (Ext.refl gd) hp (qa.app qb) q.2⟩))
  · exact q.elim
theorem ol_sub {K : PySem.W.Frag} : OpL K (rI0 fun i j => .int (i - j)) (ddI0 fun i j => .int (i - j)) := ol_I0 fun _ _ _ _ => rfl
theorem ol_mul {K : PySem.W.Frag} : OpL K (rI CMulW fun i j => .int (i * j)) (ddI CMulW fun i j => .int (i * j)) := ol_I fun _ _ _ _ => rfl
theorem ol_fdiv {K : PySem.W.Frag} : OpL K (rI CDivZ fun i j => .int (i.fdiv j)) (ddI CDivZ fun i j => .int (i.fdiv j)) := ol_I fun _ _ _ _ => rfl
theorem ol_mod {K : PySem.W.Frag} : OpL K (rI (fun _ j => j ≠ 0) fun i j => .int (i.fmod j)) (ddI (fun _ j => j ≠ 0) fun i j => .int (i.fmod j)) := ol_I fun _ _ _ _ => rfl
theorem ol_pow {K : PySem.W.Frag} : OpL K (rI CPow fun i j => .int (i ^ j.toNat)) (ddI CPow fun i j => .int (i ^ j.toNat)) := ol_I fun _ _ _ _ => rfl
theorem ol_lt {K : PySem.W.Frag} : OpL K (rI0 fun i j => .bl (decide (i < j))) (ddI0 fun i j => .bl (decide (i < j))) := ol_I0 fun _ _ _ _ => rfl
theorem ol_le {K : PySem.W.Frag} : OpL K (rI0 fun i j => .bl (decide (i ≤ j))) (ddI0 fun i j => .bl (decide (i ≤ j))) := ol_I0 fun _ _ _ _ => rfl
theorem ol_gt {K : PySem.W.Frag} : OpL K (rI0 fun i j => .bl (decide (j < i))) (ddI0 fun i j => .bl (decide (j < i))) := ol_I0 fun _ _ _ _ => rfl
theorem ol_ge {K : PySem.W.Frag} : OpL K (rI0 fun i j => .bl (decide (j ≤ i))) (ddI0 fun i j => .bl (decide (j ≤ i))) := ol_I0 fun _ _ _ _ => rfl
/-- is None, is True: y is the constant -/
def isNonD : D → Bool
  | .non => true
  | _ => false
def isBlD (b : Bool) : D → Bool
  | .bl c => c == b
  | _ => false
theorem Da.isN {K : PySem.W.Frag} {so : Option Addr} {A : Hp} {d : D} {v : V} (h : Da K so A d v) : decide (v = .non) = isNonD d := by
  cases d with
  | non => cases h; rfl
  | bl _ => cases h; rfl
  | int _ => cases h; rfl
  | str _ => cases h; rfl
  | tup _ => obtain ⟨_, _, rfl, _⟩ := h; rfl
  | lst _ => obtain ⟨_, _, rfl, _⟩ := h; rfl
  | dct _ _ => obtain ⟨_, _, rfl, _⟩ := h; rfl
  | ins _ _ _ => obtain ⟨_, _, _, rfl, _⟩ := h; rfl
  | scr _ => obtain ⟨_, rfl, _⟩ := h; rfl
  | sto => obtain ⟨_, rfl, _⟩ := h; rfl
  | exc _ => cases h; rfl
  | err _ _ _ => obtain ⟨_, _, rfl, _⟩ := h; rfl
theorem Da.isB {K : PySem.W.Frag} {so : Option Addr} {A : Hp} {d : D} {v : V} {b : Bool} (h : Da K so A d v) : decide (v = .bl b) = isBlD b d := by
  cases d with
  | bl c =>
    cases h
    show decide (V.bl c = V.bl b) = (c == b)
    exact dec_bl
  | non => cases h; rfl
  | int _ => cases h; rfl
  | str _ => cases h; rfl
  | tup _ => obtain ⟨_, _, rfl, _⟩ := h; rfl
  | lst _ => obtain ⟨_, _, rfl, _⟩ := h; rfl
  | dct _ _ => obtain ⟨_, _, rfl, _⟩ := h; rfl
  | ins _ _ _ => obtain ⟨_, _, _, rfl, _⟩ := h; rfl
  | scr _ => obtain ⟨_, rfl, _⟩ := h; rfl
  | sto => obtain ⟨_, rfl, _⟩ := h; rfl
  | exc _ => cases h; rfl
  | err _ _ _ => obtain ⟨_, _, rfl, _⟩ := h; rfl
def ddIsN (neg : Bool) : D2 := fun x y Q => match y with
  | .non => Q (.bl (neg != isNonD x))
  | _ => False
theorem ol_isN {K : PySem.W.Frag} : OpL K rIsN (ddIsN false) := by
  intro so A H x y v u Qd Q gd dx dy q c
  unfold ddIsN at q
  split at q
  · refine ⟨dy, ?_⟩
    rw [dx.isN]
    exact c.nowB gd (by simpa using q)
  · exact q.elim
theorem ol_notN {K : PySem.W.Frag} : OpL K rNotN (ddIsN true) := by
  intro so A H x y v u Qd Q gd dx dy q c
  unfold ddIsN at q
  split at q
  · refine ⟨dy, ?_⟩
    rw [dx.isN]
    exact c.nowB gd (by simpa using q)
  · exact q.elim
def ddIsB : D2 := fun x y Q => match y with
  | .bl b => Q (.bl (isBlD b x))
  | _ => False
theorem ol_isB {K : PySem.W.Frag} : OpL K rIsBQ ddIsB := by
  intro so A H x y v u Qd Q gd dx dy q c
  unfold ddIsB at q
  split at q
  · refine ⟨_, dy, ?_⟩
    rw [dx.isB]
    exact c.nowB gd q
  · exact q.elim
/-! ### == -/
mutual
def pyD : D → Option PyData
  | .non => some .none
  | .bl b => some (.bool b)
  | .int i => some (.int i)
  | .str x => some (.str x)
  | .tup l => (pyL l).map .tuple
  | .lst l => (pyL l).map .list
  | _ => none
def pyL : List D → Option (List PyData)
  | [] => some []
  | d :: l => (pyD d).bind fun x => (pyL l).map fun r => x :: r
end
mutual
theorem Da.py {K : PySem.W.Frag} {so : Option Addr} {A : Hp} : ∀ (d : D) (v : V) (z : PyData), Da K so A d v → pyD d = some z → Dp K A v z
  | .non, _, _, h, e => by cases h; cases e; exact .non
  | .bl b, _, _, h, e => by cases h; cases e; exact .bl _
  | .int b, _, _, h, e => by cases h; cases e; exact .int _
  | .str b, _, _, h, e => by cases h; cases e; exact .str _
  | .tup l, _, _, ⟨a, xs, e1, hs, q⟩, e => by
    subst e1
    unfold pyD at e
    cases h : pyL l with
    | none =>
      rw [h] at e
      cases e
    | some r =>
      rw [h] at e
      cases e
      exact .tup hs (DaL.py l xs r q h)
  | .lst l, _, _, ⟨a, xs, e1, hs, q⟩, e => by
    subst e1
    unfold pyD at e
    cases h : pyL l with
    | none =>
      rw [h] at e
      cases e
    | some r =>
      rw [h] at e
      cases e
      exact .lst (SqL.of hs) (DaL.py l xs r q h)
  | .dct _ _, _, _, _, e => by cases e
  | .ins _ _ _, _, _, _, e => by cases e
  | .scr _, _, _, _, e => by cases e
  | .sto, _, _, _, e => by cases e
  | .exc _, _, _, _, e => by cases e
  | .err _ _ _, _, _, _, e => by cases e
theorem DaL.py {K : PySem.W.Frag} {so : Option Addr} {A : Hp} : ∀ (l : List D) (vs : List V) (zs : List PyData), DaL K so A l vs → pyL l = some zs → DpAll K A vs zs
  | [], _, _, h, e => by
    have h : _ = _ := h
    subst h
    cases e
    exact .nil
  | d :: l, _, _, ⟨x, r, e1, h, q⟩, e => by
    subst e1
    unfold pyL at e
    cases h1 : pyD d with
    | none =>
      rw [h1] at e
      cases e
    | some z =>
      rw [h1] at e
      cases h2 : pyL l with
      | none =>
        rw [h2] at e
        cases e
      | some zs =>
        rw [h2] at e
        cases e
        exact .cons (Da.py d x z h h1) (DaL.py l r zs q h2)
end
def ddEqP (neg : Bool) : D2 := fun x y Q => ∃ a b, pyD x = some a ∧ pyD y = some b ∧ SeqAt.shaped a = true ∧ SeqAt.shaped b = true ∧ Q (.bl (neg != PyData.eqv a b))
def ddEq (neg : Bool) : D2 := fun x y Q => match x, y with
  | .int i, .int j => Q (.bl (neg != decide (i = j)))
  | .str i, .str j => Q (.bl (neg != decide (i = j)))
  | .bl i, .bl j => Q (.bl (neg != decide (i = j)))
  | .non, .non => Q (.bl (!neg))
  | x, y => ddEqP neg x y Q
def rEq2 (K : PySem.W.Frag) : R2 := fun x y H Q => rEq x y H Q ∨ rEqD K x y H Q
def rNe2 (K : PySem.W.Frag) : R2 := fun x y H Q => rNe x y H Q ∨ rNeD K x y H Q
theorem oo_eq {X : Cx} (hu : X.A.units + 64 < cLine) : OpR X (compareOp .Eq) (rEq2 X.K) := op_eq.or (op_eqD hu)
theorem oo_ne {X : Cx} (hu : X.A.units + 64 < cLine) : OpR X (compareOp .NotEq) (rNe2 X.K) := op_ne.or (op_neD hu)
theorem ol_eq {K : PySem.W.Frag} : OpL K (rEq2 K) (ddEq false) := by
  intro so A H x y v u Qd Q gd dx dy q c
  unfold ddEq at q
  split at q
  · have dx : v = _ := dx
    have dy : u = _ := dy
    subst dx dy
    refine .inl ⟨rfl, c.nowB gd ?_⟩
    rw [L2.dec_int, Bool.beq_eq_decide_eq]
    simpa using q
  · have dx : v = _ := dx
    have dy : u = _ := dy
    subst dx dy
    refine .inl ⟨rfl, c.nowB gd ?_⟩
    rw [dec_str, Bool.beq_eq_decide_eq]
    simpa using q
  · have dx : v = _ := dx
    have dy : u = _ := dy
    subst dx dy
    refine .inl ⟨rfl, c.nowB gd ?_⟩
    rw [dec_bl, Bool.beq_eq_decide_eq]
    simpa using q
  · have dx : v = _ := dx
    have dy : u = _ := dy
    subst dx dy
    exact .inl ⟨rfl, c.nowB gd q⟩
  · obtain ⟨a, b, h1, h2, s1, s2, q⟩ := q
    exact .inr ⟨a, b, (gd.da dx).py _ _ _ h1, (gd.da dy).py _ _ _ h2, s1, s2, c.nowB gd (by simpa using q)⟩
theorem ol_ne {K : PySem.W.Frag} : OpL K (rNe2 K) (ddEq true) := by
  intro so A H x y v u Qd Q gd dx dy q c
  unfold ddEq at q
  split at q
  · have dx : v = _ := dx
    have dy : u = _ := dy
    subst dx dy
    refine .inl ⟨rfl, c.nowB gd ?_⟩
    rw [L2.dec_int, Bool.beq_eq_decide_eq]
    simpa using q
  · have dx : v = _ := dx
    have dy : u = _ := dy
    subst dx dy
    refine .inl ⟨rfl, c.nowB gd ?_⟩
    rw [dec_str, Bool.beq_eq_decide_eq]
    simpa using q
  · have dx : v = _ := dx
    have dy : u = _ := dy
    subst dx dy
    refine .inl ⟨rfl, c.nowB gd ?_⟩
    rw [dec_bl, Bool.beq_eq_decide_eq]
    simpa using q
  · have dx : v = _ := dx
    have dy : u = _ := dy
    subst dx dy
    exact .inl ⟨rfl, c.nowB gd q⟩
  · obtain ⟨a, b, h1, h2, s1, s2, q⟩ := q
    exact .inr ⟨a, b, (gd.da dx).py _ _ _ h1, (gd.da dy).py _ _ _ h2, s1, s2, c.nowB gd (by simpa using q)⟩
/-! ### items -/
def ddIx : D2 := fun x y Q => match x, y with
  | .tup l, .int i => ∃ d, atI l i = some d ∧ Q d
  | .lst l, .int i => ∃ d, atI l i = some d ∧ Q d
  | .str z, .int i => z.length ≤ sizeLine ∧ ∃ c, atI z.cps.toList i = some c ∧ Q (.str ⟨#[c]⟩)
  | _, _ => False
theorem ol_ix {K : PySem.W.Frag} : OpL K (rIx K) ddIx := by
  intro so A H x y v u Qd Q gd dx dy q c
  unfold ddIx at q
  split at q
  · obtain ⟨a, xs, rfl, hs, qa⟩ := dx
    obtain ⟨d, e, q⟩ := q
    obtain ⟨w, e2, dw⟩ := qa.atI e
    exact .inr (.inl ⟨a, xs, _, w, rfl, dy, Sub.sqT gd.sub hs, e2, c.now gd dw q⟩)
  · obtain ⟨a, xs, rfl, hs, qa⟩ := dx
    obtain ⟨d, e, q⟩ := q
    obtain ⟨w, e2, dw⟩ := qa.atI e
    exact .inl ⟨a, xs, _, w, rfl, dy, SqL.of (gd.sub _ _ hs), e2, c.now gd dw q⟩
  · obtain ⟨hz, cc, e, q⟩ := q
    exact .inr (.inr ⟨_, _, cc, dx, dy, hz, e, c.nowS gd q⟩)
  · exact q.elim
/-! ### calls of built-ins -/
abbrev DCall := List D → (D → Prop) → Prop
def CallL (K : PySem.W.Frag) (r : List V → Hp → VK → Prop) (rr : DCall) : Prop := ∀ so A H ds vs Qd Q, Good K so A H → DaL K so A ds vs → rr ds Qd → Cont K so A H Qd Q → r vs H Q
def dCB (rr : DCall) (t : DL) : DE := fun ρ Q E => t ρ (fun ds => rr ds Q) E
section
variable {X : Cx} {g : Gx} {EX : EXT} {e a b : Expr} {es : List Expr} {ra rb : DE} {pos p : Pos} {t : DL} {id T : String} {x : Str}
theorem pd_callB {r : List V → Hp → VK → Prop} {rr : DCall} (hc : CallR X (.builtin id) r) (hl : CallL X.K r rr) (hg : Gl X x) (hm : X.mg x = none) (hv : bootBuiltins x = some (.builtin id)) (ha : PDA X g EX (e :: es) t) (hn : x ≠ "__name__" := by decide) (hdb : (x == ("__debug__" : Str)) = false := by decide)
    (he : starEach (e :: es) X.env = (false, eval e X.env) :: starEach es X.env := by rfl) (hpl : (backTo pos (starEach es X.env)).any (·.1) = false := by rfl) : PD X g EX (.Call (.Name x p) (e :: es) [] pos) (dCB rr t) :=
  ⟨(pe_callB hc hg hm hv ha.pa hn hdb he hpl).imp fun σ H Q h => by
  obtain ⟨A, ρ, Qd, Ed, S, h, c, cx⟩ := h
  refine ⟨A, ρ, _, Ed, S, h, fun ds vs A1 H1 x1 das q => ?_, cx⟩
  exact hl g.so A1 H1 ds vs Qd Q x1.good das q (c.ext x1)⟩
theorem pd_callTy {r : List V → Hp → VK → Prop} {rr : DCall} (hc : CallR X (.type T) r) (hl : CallL X.K r rr) (hg : Gl X x) (hm : X.mg x = none) (hv : bootBuiltins x = some (.type T)) (ha : PDA X g EX (e :: es) t) (hn : x ≠ "__name__" := by decide) (hdb : (x == ("__debug__" : Str)) = false := by decide)
    (he : starEach (e :: es) X.env = (false, eval e X.env) :: starEach es X.env := by rfl) (hpl : (backTo pos (starEach es X.env)).any (·.1) = false := by rfl) : PD X g EX (.Call (.Name x p) (e :: es) [] pos) (dCB rr t) :=
  ⟨(pe_callTy hc hg hm hv ha.pa hn hdb he hpl).imp fun σ H Q h => by
  obtain ⟨A, ρ, Qd, Ed, S, h, c, cx⟩ := h
  refine ⟨A, ρ, _, Ed, S, h, fun ds vs A1 H1 x1 das q => ?_, cx⟩
  exact hl g.so A1 H1 ds vs Qd Q x1.good das q (c.ext x1)⟩
end
/-- len -/
def ddLen : DCall := fun ds Q => match ds with
  | [.tup l] => Q (.int l.length)
  | [.lst l] => Q (.int l.length)
  | [.str z] => z.length ≤ sizeLine ∧ Q (.int z.length)
  | _ => False
theorem DaL.one' {K : PySem.W.Frag} {so : Option Addr} {A : Hp} {d : D} {vs : List V} (h : DaL K so A [d] vs) : ∃ v, vs = [v] ∧ Da K so A d v := by
  obtain ⟨v, r, e, dv, e2⟩ := h
  have e2 : r = [] := e2
  subst e2
  exact ⟨v, e, dv⟩
theorem DaL.two' {K : PySem.W.Frag} {so : Option Addr} {A : Hp} {d d2 : D} {vs : List V} (h : DaL K so A [d, d2] vs) : ∃ v w, vs = [v, w] ∧ Da K so A d v ∧ Da K so A d2 w := by
  obtain ⟨v, r, e, dv, h2⟩ := h
  obtain ⟨w, rfl, dw⟩ := DaL.one' h2
  exact ⟨v, w, e, dv, dw⟩
def rLen2 (K : PySem.W.Frag) : List V → Hp → VK → Prop := fun xs H Q => rLenQ K xs H Q ∨ rLenSQ xs H Q
theorem oo_len {X : Cx} : CallR X (.builtin "len") (rLen2 X.K) := c_len.or c_lenS
theorem cl_len {K : PySem.W.Frag} : CallL K (rLen2 K) ddLen := by
  intro so A H ds vs Qd Q gd da q c
  unfold ddLen at q
  split at q
  · obtain ⟨v, rfl, a, xs, rfl, hs, qa⟩ := da.one'
    exact .inl ⟨a, xs, rfl, .inr (Sub.sqT gd.sub hs), by rw [qa.len]; exact c.nowI gd q⟩
  · obtain ⟨v, rfl, a, xs, rfl, hs, qa⟩ := da.one'
    exact .inl ⟨a, xs, rfl, .inl (SqL.of (gd.sub _ _ hs)), by rw [qa.len]; exact c.nowI gd q⟩
  · obtain ⟨v, rfl, dv⟩ := da.one'
    have dv : v = _ := dv
    subst dv
    exact .inr ⟨_, rfl, q.1, c.nowI gd q.2⟩
  · exact q.elim
/-- int, abs, max, min of ints -/
def ddInt1 : DCall := fun ds Q => match ds with
  | [.int i] => Q (.int i)
  | [.bl k] => Q (.int (if k = true then 1 else 0))
  | _ => False
theorem cl_int1 {K : PySem.W.Frag} : CallL K rInt1 ddInt1 := by
  intro so A H ds vs Qd Q gd da q c
  unfold ddInt1 at q
  split at q
  · obtain ⟨v, rfl, dv⟩ := da.one'
    have dv : v = _ := dv
    subst dv
    exact .inl ⟨_, rfl, c.nowI gd q⟩
  · obtain ⟨v, rfl, dv⟩ := da.one'
    have dv : v = _ := dv
    subst dv
    exact .inr ⟨_, rfl, c.nowI gd q⟩
  · exact q.elim
def ddAbs : DCall := fun ds Q => match ds with
  | [.int i] => Q (.int (if i < 0 then -i else i))
  | _ => False
theorem cl_abs {K : PySem.W.Frag} : CallL K rAbsQ ddAbs := by
  intro so A H ds vs Qd Q gd da q c
  unfold ddAbs at q
  split at q
  · obtain ⟨v, rfl, dv⟩ := da.one'
    have dv : v = _ := dv
    subst dv
    exact ⟨_, rfl, c.nowI gd q⟩
  · exact q.elim
def ddMM (f : Int → Int → Int) : DCall := fun ds Q => match ds with
  | [.int i, .int j] => Q (.int (f i j))
  | _ => False
theorem cl_max2 {K : PySem.W.Frag} : CallL K rMaxQ (ddMM fun i j => if j > i then j else i) := by
  intro so A H ds vs Qd Q gd da q c
  unfold ddMM at q
  split at q
  · obtain ⟨v, w, rfl, dv, dw⟩ := da.two'
    have dv : v = _ := dv
    have dw : w = _ := dw
    subst dv dw
    exact ⟨_, _, rfl, c.nowI gd q⟩
  · exact q.elim
theorem cl_min2 {K : PySem.W.Frag} : CallL K rMinQ (ddMM fun i j => if j < i then j else i) := by
  intro so A H ds vs Qd Q gd da q c
  unfold ddMM at q
  split at q
  · obtain ⟨v, w, rfl, dv, dw⟩ := da.two'
    have dv : v = _ := dv
    have dw : w = _ := dw
    subst dv dw
    exact ⟨_, _, rfl, c.nowI gd q⟩
  · exact q.elim
/-- tuple(x) -/
def ddTuple : DCall := fun ds Q => match ds with
  | [.tup l] => Q (.tup l)
  | [.lst l] => Q (.tup l)
  | _ => False
def rTupleQ (K : PySem.W.Frag) : List V → Hp → VK → Prop := fun xs H Q => ∃ p ys, xs = [.ref p] ∧ ((SqL K H p ys ∧ ∀ l, H l = none → Q (.ref l) (upd H l (.tup ys))) ∨ (SqT K H p ys ∧ Q (.ref p) H))
theorem oo_tuple {X : Cx} : CallR X (.type "tuple") (rTupleQ X.K) := call_tuple_of
theorem cl_tuple {K : PySem.W.Frag} : CallL K (rTupleQ K) ddTuple := by
  intro so A H ds vs Qd Q gd da q c
  unfold ddTuple at q
  split at q
  · obtain ⟨v, rfl, a, xs, rfl, hs, qa⟩ := da.one'
    exact ⟨a, xs, rfl, .inr ⟨Sub.sqT gd.sub hs, c.now (d := .tup _) gd ⟨a, xs, rfl, hs, qa⟩ q⟩⟩
  · obtain ⟨v, rfl, a, xs, rfl, hs, qa⟩ := da.one'
    exact ⟨a, xs, rfl, .inl ⟨SqL.of (gd.sub _ _ hs), fun p hp => c.tup gd hp qa q⟩⟩
  · exact q.elim
/-- list(x): a new list -/
def nCB (rr : List D → (List D → Prop) → Prop) (t : DL) : DL := fun ρ Q E => t ρ (fun ds => rr ds Q) E
def nnList : List D → (List D → Prop) → Prop := fun ds Q => match ds with
  | [.tup l] => Q l
  | [.lst l] => Q l
  | [.scr ns] => Q (ns.map D.int)
  | _ => False
theorem daL_ints {K : PySem.W.Frag} {so : Option Addr} {A : Hp} : ∀ ns : List Int, DaL K so A (ns.map D.int) (ns.map V.int)
  | [] => rfl
  | n :: ns => ⟨.int n, ns.map V.int, rfl, rfl, daL_ints ns⟩
section
variable {X : Cx} {g : Gx} {EX : EXT} {e a b : Expr} {es : List Expr} {ra rb : DE} {pos p : Pos} {t : DL}
theorem pdn_list (hg : Gl X "list") (hm : X.mg "list" = none) (ha : PDA X g EX (e :: es) t)
    (he : starEach (e :: es) X.env = (false, eval e X.env) :: starEach es X.env := by rfl) (hpl : (backTo pos (starEach es X.env)).any (·.1) = false := by rfl) : PDN X g EX (.Call (.Name "list" p) (e :: es) [] pos) (nCB nnList t) :=
  ⟨(pe_callTy c_list hg hm bt_list ha.pa (by decide) (by decide) he hpl).imp fun σ H Q h => by
  obtain ⟨A, ρ, Qd, Ed, S, h, c, cx⟩ := h
  refine ⟨A, ρ, _, Ed, S, h, fun ds vs A1 H1 x1 das q => ?_, cx⟩
  have q : nnList ds Qd := q
  unfold nnList at q
  split at q
  · obtain ⟨v, rfl, a, xs, rfl, hs, qa⟩ := das.one'
    exact ⟨a, xs, rfl, .inr (Sub.sqT x1.good.sub hs), fun l hl => c _ xs l A1 H1 x1 hl qa q⟩
  · obtain ⟨v, rfl, a, xs, rfl, hs, qa⟩ := das.one'
    exact ⟨a, xs, rfl, .inl (SqL.of (x1.good.sub _ _ hs)), fun l hl => c _ xs l A1 H1 x1 hl qa q⟩
  · obtain ⟨v, rfl, a, rfl, hs⟩ := das.one'
    exact ⟨a, _, rfl, .inl (Sub.sqL x1.good.sub hs), fun l hl => c _ _ l A1 H1 x1 hl (daL_ints _) q⟩
  · exact q.elim⟩
end
end My
namespace My
open PySem PySem.Spec PyProof.Rows L2
/-! ### isinstance of built-in types -/
def isIn (d : D) (T : String) : Bool := match d with
  | .bl _ => T == "bool" || T == "int"
  | .int _ => T == "int"
  | .str _ => T == "str"
  | .tup _ => T == "tuple"
  | .lst _ => T == "list"
  | .dct _ _ => T == "dict"
  | _ => false
/-- plain data -/
def plainD : D → Bool
  | .ins _ _ _ => false
  | .scr _ => false
  | .sto => false
  | .exc _ => false
  | .err _ _ _ => false
  | _ => true
def tyN : D → String
  | .non => "NoneType"
  | .bl _ => "bool"
  | .int _ => "int"
  | .str _ => "str"
  | .dct _ _ => "dict"
  | .tup _ => "tuple"
  | _ => "list"
theorem sqT_ty {K : PySem.W.Frag} {H : Hp} {a : Addr} {xs : List V} (h : SqT K H a xs) : TyX K H (.ref a) (.type "tuple") := by
  rcases h with (h | ⟨o, h⟩) | ⟨o, its, n, hk, hc, _⟩
  · exact .base (.tup h)
  · exact .fTuple h
  · exact .kTuple hk hc
theorem Da.ty {K : PySem.W.Frag} {so : Option Addr} {A H : Hp} {d : D} {v : V} (gd : Good K so A H) (da : Da K so A d v) (p : plainD d = true) : TyX K H v (.type (tyN d)) := by
  cases d with
  | non =>
    have da : v = _ := da
    subst da
    exact .base .non
  | bl b =>
    have da : v = _ := da
    subst da
    exact .base (.bl b)
  | int b =>
    have da : v = _ := da
    subst da
    exact .base (.int b)
  | str b =>
    have da : v = _ := da
    subst da
    exact .base (.str b)
  | dct ks vs =>
    obtain ⟨a, us, e, h, _⟩ := da
    subst e
    rcases h with ⟨kvs, h, _⟩ | ⟨kvs, h, _⟩
    · exact .base (.dK (gd.sub _ _ h))
    · exact .base (.dT (gd.sub _ _ h))
  | tup l =>
    obtain ⟨a, xs, e, h, _⟩ := da
    subst e
    exact sqT_ty (Sub.sqT gd.sub h)
  | lst l =>
    obtain ⟨a, xs, e, h, _⟩ := da
    subst e
    exact .base (.lst (gd.sub _ _ h))
  | ins _ _ _ => cases p
  | scr _ => cases p
  | sto => cases p
  | exc _ => cases p
  | err _ _ _ => cases p
theorem k_NoneType_int : kitB "NoneType" "int" = some false := by decide +kernel
theorem k_NoneType_str : kitB "NoneType" "str" = some false := by decide +kernel
theorem k_NoneType_bool : kitB "NoneType" "bool" = some false := by decide +kernel
theorem k_NoneType_list : kitB "NoneType" "list" = some false := by decide +kernel
theorem k_NoneType_tuple : kitB "NoneType" "tuple" = some false := by decide +kernel
theorem k_NoneType_dict : kitB "NoneType" "dict" = some false := by decide +kernel
theorem k_bool_int : kitB "bool" "int" = some true := by decide +kernel
theorem k_bool_str : kitB "bool" "str" = some false := by decide +kernel
theorem k_bool_bool : kitB "bool" "bool" = some true := by decide +kernel
theorem k_bool_list : kitB "bool" "list" = some false := by decide +kernel
theorem k_bool_tuple : kitB "bool" "tuple" = some false := by decide +kernel
theorem k_bool_dict : kitB "bool" "dict" = some false := by decide +kernel
theorem k_int_int : kitB "int" "int" = some true := by decide +kernel
theorem k_int_str : kitB "int" "str" = some false := by decide +kernel
theorem k_int_bool : kitB "int" "bool" = some false := by decide +kernel
theorem k_int_list : kitB "int" "list" = some false := by decide +kernel
theorem k_int_tuple : kitB "int" "tuple" = some false := by decide +kernel
theorem k_int_dict : kitB "int" "dict" = some false := by decide +kernel
theorem k_str_int : kitB "str" "int" = some false := by decide +kernel
theorem k_str_str : kitB "str" "str" = some true := by decide +kernel
theorem k_str_bool : kitB "str" "bool" = some false := by decide +kernel
theorem k_str_list : kitB "str" "list" = some false := by decide +kernel
theorem k_str_tuple : kitB "str" "tuple" = some false := by decide +kernel
theorem k_str_dict : kitB "str" "dict" = some false := by decide +kernel
theorem k_dict_int : kitB "dict" "int" = some false := by decide +kernel
theorem k_dict_str : kitB "dict" "str" = some false := by decide +kernel
theorem k_dict_bool : kitB "dict" "bool" = some false := by decide +kernel
theorem k_dict_list : kitB "dict" "list" = some false := by decide +kernel
theorem k_dict_tuple : kitB "dict" "tuple" = some false := by decide +kernel
theorem k_dict_dict : kitB "dict" "dict" = some true := by decide +kernel
theorem k_tuple_int : kitB "tuple" "int" = some false := by decide +kernel
theorem k_tuple_str : kitB "tuple" "str" = some false := by decide +kernel
theorem k_tuple_bool : kitB "tuple" "bool" = some false := by decide +kernel
theorem k_tuple_list : kitB "tuple" "list" = some false := by decide +kernel
theorem k_tuple_tuple : kitB "tuple" "tuple" = some true := by decide +kernel
theorem k_tuple_dict : kitB "tuple" "dict" = some false := by decide +kernel
theorem k_list_int : kitB "list" "int" = some false := by decide +kernel
theorem k_list_str : kitB "list" "str" = some false := by decide +kernel
theorem k_list_bool : kitB "list" "bool" = some false := by decide +kernel
theorem k_list_list : kitB "list" "list" = some true := by decide +kernel
theorem k_list_tuple : kitB "list" "tuple" = some false := by decide +kernel
theorem k_list_dict : kitB "list" "dict" = some false := by decide +kernel
/-- what is asked of a type's name -/
structure TyQ (T : String) : Prop where
  h : ∀ d : D, plainD d = true → kitB (tyN d) T = some (isIn d T)
theorem tq_int : TyQ "int" := ⟨fun d p => match d, p with
  | .non, _ => k_NoneType_int
  | .bl _, _ => k_bool_int
  | .int _, _ => k_int_int
  | .str _, _ => k_str_int
  | .dct _ _, _ => k_dict_int
  | .tup _, _ => k_tuple_int
  | .lst _, _ => k_list_int⟩
theorem tq_str : TyQ "str" := ⟨fun d p => match d, p with
  | .non, _ => k_NoneType_str
  | .bl _, _ => k_bool_str
  | .int _, _ => k_int_str
  | .str _, _ => k_str_str
  | .dct _ _, _ => k_dict_str
  | .tup _, _ => k_tuple_str
  | .lst _, _ => k_list_str⟩
theorem tq_bool : TyQ "bool" := ⟨fun d p => match d, p with
  | .non, _ => k_NoneType_bool
  | .bl _, _ => k_bool_bool
  | .int _, _ => k_int_bool
  | .str _, _ => k_str_bool
  | .dct _ _, _ => k_dict_bool
  | .tup _, _ => k_tuple_bool
  | .lst _, _ => k_list_bool⟩
theorem tq_list : TyQ "list" := ⟨fun d p => match d, p with
  | .non, _ => k_NoneType_list
  | .bl _, _ => k_bool_list
  | .int _, _ => k_int_list
  | .str _, _ => k_str_list
  | .dct _ _, _ => k_dict_list
  | .tup _, _ => k_tuple_list
  | .lst _, _ => k_list_list⟩
theorem tq_tuple : TyQ "tuple" := ⟨fun d p => match d, p with
  | .non, _ => k_NoneType_tuple
  | .bl _, _ => k_bool_tuple
  | .int _, _ => k_int_tuple
  | .str _, _ => k_str_tuple
  | .dct _ _, _ => k_dict_tuple
  | .tup _, _ => k_tuple_tuple
  | .lst _, _ => k_list_tuple⟩
theorem tq_dict : TyQ "dict" := ⟨fun d p => match d, p with
  | .non, _ => k_NoneType_dict
  | .bl _, _ => k_bool_dict
  | .int _, _ => k_int_dict
  | .str _, _ => k_str_dict
  | .dct _ _, _ => k_dict_dict
  | .tup _, _ => k_tuple_dict
  | .lst _, _ => k_list_dict⟩
def ddIsi (T : String) (d : D) (Q : D → Prop) : Prop := plainD d = true ∧ Q (.bl (isIn d T))
section
variable {X : Cx} {g : Gx} {EX : EXT} {e a b : Expr} {es : List Expr} {ra rb : DE} {pos p : Pos} {t : DL} {T : String}
theorem pd_isi (hg : Gl X "isinstance") (hm : X.mg "isinstance" = none) (ha : PD X g EX a ra) (hb : PE X b (tC (.ty T))) (hT : TyQ T)
    (he : starEach [a, b] X.env = (false, eval a X.env) :: starEach [b] X.env := by rfl) (hs : starEach [b] X.env = (false, eval b X.env) :: starEach [] X.env := by rfl) (hpl : (backTo pos (starEach [b] X.env)).any (·.1) = false := by rfl) :
    PD X g EX (.Call (.Name "isinstance" p) [a, b] [] pos) (dUn (ddIsi T) ra) :=
  ⟨(pe_callB call_isi hg hm bt_isinstance (pa_cons ha.pe (pa_cons hb pa_nil hs) he) (by decide) (by decide) he hpl).imp fun σ H Q h => by
  obtain ⟨A, ρ, Qd, Ed, S, h, c, cx⟩ := h
  refine ⟨A, ρ, _, Ed, S, h, fun d v A1 H1 x1 da q => ?_, cx⟩
  have q : ddIsi T d Qd := q
  exact ⟨v, .ty T, _, _, _, rfl, .ty T, da.ty x1.good q.1, kit_ty (hT.h d q.1), (c.ext x1).nowB x1.good q.2⟩⟩
end
/-! ### what a def promises, over data -/
abbrev DF := List D → (D → Prop) → (XD → Prop) → Prop
def spD (K : PySem.W.Frag) (n : Nat) (m : DF) : Sp := fun vs H Q E => ∃ so A ds Qd Ed, Good K so A H ∧ ds.length = n ∧ DaL K so A ds vs ∧ m ds Qd Ed ∧ Cont K so A H Qd Q ∧ ContX K so A H Ed E
theorem spD_len {K : PySem.W.Frag} {n : Nat} {m : DF} : ∀ vs H Q E, spD K n m vs H Q E → vs.length = n := fun vs H Q E ⟨_, _, _, _, _, _, h, da, _⟩ => by rw [da.len, h]
def dCall (n : Nat) (m : DF) (dd : List D) (t : DL) : DE := fun ρ Q E => t ρ (fun ds => (ds ++ dd).length = n ∧ m (ds ++ dd) Q E) E
section
variable {X : Cx} {g : Gx} {EX : EXT} {e a b : Expr} {es : List Expr} {ra rb : DE} {pos p : Pos} {t : DL} {lv : Nat} {f : Addr} {fd : FuncData} {ps : List Str} {m : DF} {x : Str} {CX : CXT}
theorem pd_call (F : FnOk X.prog X.w X.K X.mg X.base CX lv f fd ps (spD X.K ps.length m)) (hr : Room lv X.A) (hg : Gl X x) (hm : X.mg x = some (.ref f)) (hk : PySem.W.keepIn X.K (.ref f) = true) (hb : Binds X.K fd ps []) (hx : ∀ σ, PassesAt CX X σ (EX σ))
    (ha : PDA X g EX (e :: es) t) (hdb : (x == ("__debug__" : Str)) = false := by decide) (he : starEach (e :: es) X.env = (false, eval e X.env) :: starEach es X.env := by rfl) (hpl : (backTo pos (starEach es X.env)).any (·.1) = false := by rfl) :
    PD X g EX (.Call (.Name x p) (e :: es) [] pos) (dCall ps.length m [] t) := ⟨(pe_callS F hr hg hm hk hb hx ha.pa hdb he hpl).imp fun σ H Q h => by
  obtain ⟨A, ρ, Qd, Ed, S, h, c, cx⟩ := h
  refine ⟨A, ρ, _, Ed, S, h, fun ds vs A1 H1 x1 das q => ?_, cx⟩
  obtain ⟨hl, q⟩ := q
  rw [List.append_nil] at hl q
  exact ⟨g.so, A1, ds, Qd, Ed, x1.good, hl, das, q, c.ext x1, cx.ext x1⟩⟩
/-- with default arguments -/
theorem pd_callD {dds : List D} {dvs : List V} {dus : List Value} (F : FnOk X.prog X.w X.K X.mg X.base CX lv f fd ps (spD X.K ps.length m)) (hr : Room lv X.A) (hg : Gl X x) (hm : X.mg x = some (.ref f)) (hk : PySem.W.keepIn X.K (.ref f) = true) (hb : Binds X.K fd ps dus) (hv : Vals dvs dus)
    (hd : ∀ so A, DaL X.K so A dds dvs) (hx : ∀ σ, PassesAt CX X σ (EX σ))
    (ha : PDA X g EX (e :: es) t) (hdb : (x == ("__debug__" : Str)) = false := by decide) (he : starEach (e :: es) X.env = (false, eval e X.env) :: starEach es X.env := by rfl) (hpl : (backTo pos (starEach es X.env)).any (·.1) = false := by rfl) :
    PD X g EX (.Call (.Name x p) (e :: es) [] pos) (dCall ps.length m dds t) := ⟨(pe_callSD F hr hg hm hk hb hv hx ha.pa hdb he hpl).imp fun σ H Q h => by
  obtain ⟨A, ρ, Qd, Ed, S, h, c, cx⟩ := h
  refine ⟨A, ρ, _, Ed, S, h, fun ds vs A1 H1 x1 das q => ?_, cx⟩
  obtain ⟨hl, q⟩ := q
  exact ⟨g.so, A1, ds ++ dds, Qd, Ed, x1.good, hl, das.app (hd _ _), q, c.ext x1, cx.ext x1⟩⟩
end
theorem passN0 {X : Cx} {P : Program} {w : World} (σ : L2.St) : PassesAt (L2N.CX P w) X σ (fun _ _ _ => False) := fun _ _ _ _ _ _ c => by
  obtain ⟨_, _, _, _, _, _, _, _, _, _, _, _, z⟩ := c
  exact z.elim
theorem pass00 {X : Cx} (E : EXT) (σ : L2.St) : PassesAt CX0 X σ (E σ) := fun _ _ _ _ _ _ c => c.elim
/-! ### statements -/
structure DEnds where
  nx : DEnv → Prop
  rt : D → Prop
  bk : DEnv → Prop
  ct : DEnv → Prop
  ex : XD → Prop
  fr : Prop := False
abbrev DS := DEnds → DEnv → Prop
structure EndsOk (K : PySem.W.Frag) (g : Gx) (EX : EXT) (n : Nat) (B : Hp) (DD : DEnds) (De : Ends) : Prop where
  nx : ∀ A H σ ρ, Stt K g A H σ ρ → ρ.length = n → Sub B A → DD.nx ρ → De.nx σ H
  rt : ∀ A H d v, Ext K g.so g.Ai g.Hi A H → Da K g.so A d v → DD.rt d → De.rt v H
  bk : ∀ A H σ ρ, Stt K g A H σ ρ → ρ.length = n → Sub B A → DD.bk ρ → De.bk σ H
  ct : ∀ A H σ ρ, Stt K g A H σ ρ → ρ.length = n → Sub B A → DD.ct ρ → De.ct σ H
  ex : ∀ σ, σ.length = n → ContX K g.so g.Ai g.Hi DD.ex (EX σ)
  fr : DD.fr → ∀ H, De.rt (.bl true) H
def lS (K : PySem.W.Frag) (g : Gx) (EX : EXT) (r : DS) : TS := fun De σ H => ∃ A ρ DD, Stt K g A H σ ρ ∧ r DD ρ ∧ EndsOk K g EX ρ.length A DD De
structure PDS (X : Cx) (g : Gx) (EX : EXT) (st : Stmt) (r : DS) : Prop where
  ps : PS X st (lS X.K g EX r)
structure PDSs (X : Cx) (g : Gx) (EX : EXT) (st : List Stmt) (r : DS) : Prop where
  pss : PSs X st (lS X.K g EX r)
theorem _root_.L2.PS.imp {X : Cx} {st : Stmt} {t t' : TS} (h : PS X st t) (w : ∀ De σ H, t' De σ H → t De σ H) : PS X st t' := ⟨fun pins s σ H D I q => h.run pins s σ H D I (w D σ H q)⟩
theorem _root_.L2.PSs.imp {X : Cx} {st : List Stmt} {t t' : TS} (h : PSs X st t) (w : ∀ De σ H, t' De σ H → t De σ H) : PSs X st t' := ⟨fun pins s σ H D I q => h.run pins s σ H D I (w D σ H q)⟩
theorem Sub.rfl' {A : Hp} : Sub A A := fun _ _ h => h
theorem Sub.trans {A B C : Hp} (x : Sub A B) (y : Sub B C) : Sub A C := fun b o h => y b o (x b o h)
theorem EndsOk.up {K : PySem.W.Frag} {g : Gx} {EX : EXT} {n : Nat} {B B' : Hp} {DD : DEnds} {De : Ends} (k : EndsOk K g EX n B DD De) (x : Sub B B') : EndsOk K g EX n B' DD De :=
  ⟨fun A H σ ρ S l sb => k.nx A H σ ρ S l (x.trans sb), k.rt, fun A H σ ρ S l sb => k.bk A H σ ρ S l (x.trans sb), fun A H σ ρ S l sb => k.ct A H σ ρ S l (x.trans sb), k.ex, k.fr⟩
theorem EndsOk.cx {K : PySem.W.Frag} {g : Gx} {EX : EXT} {B : Hp} {DD : DEnds} {De : Ends} {A H : Hp} {σ : L2.St} {ρ : DEnv} (k : EndsOk K g EX ρ.length B DD De) (S : Stt K g A H σ ρ) : ContX K g.so A H DD.ex (EX σ) := (k.ex σ S.e.len).ext S.x
theorem Stt.setFr {K : PySem.W.Frag} {g : Gx} {A H : Hp} {σ : L2.St} {ρ : DEnv} {i : Nat} {d : D} {v : V} (S : Stt K g A H σ ρ) (q : Da K g.so A d v) : Stt K g A H (σ.set i (some v)) (ρ.set i (.fr d)) := ⟨S.x, S.e.setFr q⟩
theorem Stt.setOw {K : PySem.W.Frag} {g : Gx} {A H : Hp} {σ : L2.St} {ρ : DEnv} {i : Nat} {p : Addr} {l : List D} {xs : List V} (S : Stt K g A H σ ρ) (hp : H p = none) (q : DaL K g.so A l xs) : Stt K g A (upd H p (.lst xs)) (σ.set i (some (.ref p))) (ρ.set i (.ow l)) :=
  ⟨S.x.trans (Ext.open_ S.good hp), S.e.setOw S.x hp q⟩
section
variable {X : Cx} {g : Gx} {EX : EXT} {e a b : Expr} {es : List Expr} {r ra rb : DE} {pos p : Pos} {t : DL} {st : Stmt} {rest : List Stmt} {rs rs' : DS}
def sSkip : DS := fun DD ρ => DD.nx ρ
def sSeq (r u : DS) : DS := fun DD ρ => r { DD with nx := u DD } ρ
theorem pds_nil : PDSs X g EX [] sSkip := ⟨pss_nil.imp fun De σ H h => by
  obtain ⟨A, ρ, DD, S, h, k⟩ := h
  exact k.nx A H σ ρ S rfl Sub.rfl' h⟩
theorem pds_cons (h1 : PDS X g EX st rs) (h2 : PDSs X g EX rest rs') : PDSs X g EX (st :: rest) (sSeq rs rs') := ⟨(pss_cons h1.ps h2.pss).imp fun De σ H h => by
  obtain ⟨A, ρ, DD, S, h, k⟩ := h
  refine ⟨A, ρ, { DD with nx := rs' DD }, S, h, ⟨fun A1 H1 σ1 ρ1 S1 l sb q => ⟨A1, ρ1, DD, S1, q, by rw [l]; exact k.up sb⟩, k.rt, k.bk, k.ct, k.ex, k.fr⟩⟩⟩
theorem pds_one (h1 : PDS X g EX st rs) : PDSs X g EX [st] rs := ⟨pss_one h1.ps⟩
theorem pds_pass : PDS X g EX (.Pass pos) sSkip := ⟨ps_pass.imp fun De σ H h => by
  obtain ⟨A, ρ, DD, S, h, k⟩ := h
  exact k.nx A H σ ρ S rfl Sub.rfl' h⟩
def sBreak : DS := fun DD ρ => DD.bk ρ
def sCont : DS := fun DD ρ => DD.ct ρ
theorem pds_break : PDS X g EX (.Break pos) sBreak := ⟨ps_break.imp fun De σ H h => by
  obtain ⟨A, ρ, DD, S, h, k⟩ := h
  exact k.bk A H σ ρ S rfl Sub.rfl' h⟩
theorem pds_cont : PDS X g EX (.Continue pos) sCont := ⟨ps_continue.imp fun De σ H h => by
  obtain ⟨A, ρ, DD, S, h, k⟩ := h
  exact k.ct A H σ ρ S rfl Sub.rfl' h⟩
theorem pds_doc {x j pos'} : PDS X g EX (.Expr (.Constant (.str x) j pos') pos) sSkip := ⟨ps_doc.imp fun De σ H h => by
  obtain ⟨A, ρ, DD, S, h, k⟩ := h
  exact k.nx A H σ ρ S rfl Sub.rfl' h⟩
def sExpr (r : DE) : DS := fun DD ρ => r ρ (fun _ => DD.nx ρ) DD.ex
theorem pds_expr (he : PD X g EX e r) (hs : swapsWith e none pos.line X.env = pure false := by rfl) : PDS X g EX (.Expr e pos) (sExpr r) := ⟨(ps_expr he.pe hs).imp fun De σ H h => by
  obtain ⟨A, ρ, DD, S, h, k⟩ := h
  exact ⟨A, ρ, _, _, S, h, fun d v A1 H1 x1 da q => k.nx A1 H1 σ ρ (S.ext x1) rfl x1.mono q, k.cx S⟩⟩
def sRet (r : DE) : DS := fun DD ρ => r ρ DD.rt DD.ex
theorem pds_ret (he : PD X g EX e r) : PDS X g EX (.Return (some e) pos) (sRet r) := ⟨(ps_ret he.pe).imp fun De σ H h => by
  obtain ⟨A, ρ, DD, S, h, k⟩ := h
  exact ⟨A, ρ, _, _, S, h, fun d v A1 H1 x1 da q => k.rt A1 H1 d v (S.x.trans x1) da q, k.cx S⟩⟩
def sRetN : DS := fun DD _ => DD.rt .non
theorem pds_retN : PDS X g EX (.Return none pos) sRetN := ⟨ps_retN.imp fun De σ H h => by
  obtain ⟨A, ρ, DD, S, h, k⟩ := h
  exact k.rt A H .non .non S.x rfl h⟩
def sIf (c : DT) (r u : DS) : DS := fun DD ρ => c ρ (fun b => if b = true then r DD ρ else u DD ρ) DD.ex
theorem pds_if {c : Expr} {x y : List Stmt} {tc : DT} (hc : PDT X g EX c tc) (ha : PDSs X g EX x rs) (hb : PDSs X g EX y rs') : PDS X g EX (.If c x y pos) (sIf tc rs rs') := ⟨(ps_if hc.pt ha.pss hb.pss).imp fun De σ H h => by
  obtain ⟨A, ρ, DD, S, h, k⟩ := h
  refine ⟨A, ρ, _, _, S, h, fun b A1 H1 x1 q => ?_, k.cx S⟩
  cases b with
  | true => exact iteT ⟨A1, ρ, DD, S.ext x1, outT q, k.up x1.mono⟩
  | false => exact iteF ⟨A1, ρ, DD, S.ext x1, outF q, k.up x1.mono⟩⟩
def sNever : DS := fun _ _ => False
theorem pds_never : PDSs X g EX rest sNever := ⟨pss_never.imp fun De σ H h => by
  obtain ⟨A, ρ, DD, S, h, k⟩ := h
  exact h⟩
/-! ### targets -/
abbrev DG := D → DEnv → (DEnv → Prop) → Prop
abbrev DGs := List D → DEnv → (DEnv → Prop) → Prop
def lG (K : PySem.W.Frag) (g : Gx) (r : DG) : TG := fun v σ H R => ∃ A ρ d Rd, Stt K g A H σ ρ ∧ Da K g.so A d v ∧ r d ρ Rd ∧ ∀ σ' ρ', Stt K g A H σ' ρ' → ρ'.length = ρ.length → Rd ρ' → R σ' H
def lGs (K : PySem.W.Frag) (g : Gx) (r : DGs) : TGs := fun vs σ H R => ∃ A ρ ds Rd, Stt K g A H σ ρ ∧ DaL K g.so A ds vs ∧ r ds ρ Rd ∧ ∀ σ' ρ', Stt K g A H σ' ρ' → ρ'.length = ρ.length → Rd ρ' → R σ' H
structure PDG (X : Cx) (g : Gx) (e : Expr) (r : DG) : Prop where
  pg : PG X e (lG X.K g r)
structure PDGs (X : Cx) (g : Gx) (es : List Expr) (r : DGs) : Prop where
  pgs : PGs X es (lGs X.K g r)
theorem _root_.L2.PG.imp {X : Cx} {e : Expr} {t t' : TG} (h : PG X e t) (w : ∀ v σ H R, t' v σ H R → t v σ H R) : PG X e t' := ⟨fun pins s σ H v u Q I r q => h.run pins s σ H v u Q I r (w v σ H Q q)⟩
theorem _root_.L2.PGs.imp {X : Cx} {e : List Expr} {t t' : TGs} (h : PGs X e t) (w : ∀ v σ H R, t' v σ H R → t v σ H R) : PGs X e t' := ⟨fun pins s σ H v u Q I r q => h.run pins s σ H v u Q I r (w v σ H Q q)⟩
def gdName (i : Nat) : DG := fun d ρ R => R (ρ.set i (.fr d))
theorem pdg_name {i : Nat} (h : PG X e (gName i)) : PDG X g e (gdName i) := ⟨h.imp fun v σ H R q => by
  obtain ⟨A, ρ, d, Rd, S, da, q, k⟩ := q
  exact k _ _ (S.setFr da) (List.length_set ..) q⟩
def gdNil : DGs := fun ds ρ R => ds = [] ∧ R ρ
def gdCons (t : DG) (u : DGs) : DGs := fun ds ρ R => match ds with
  | d :: r => t d ρ fun ρ' => u r ρ' R
  | [] => False
theorem pdgs_nil : PDGs X g [] gdNil := ⟨pgs_nil.imp fun v σ H R q => by
  obtain ⟨A, ρ, ds, Rd, S, da, q, k⟩ := q
  obtain ⟨rfl, q⟩ := q
  exact ⟨da, k _ _ S rfl q⟩⟩
theorem pdgs_cons {gr : DG} {gu : DGs} (h1 : PDG X g e gr) (h2 : PDGs X g es gu) (hs : (assignEach (e :: es) X.env).map (·.2) = assign e X.env :: (assignEach es X.env).map (·.2) := by rfl) : PDGs X g (e :: es) (gdCons gr gu) := ⟨(pgs_cons h1.pg h2.pgs hs).imp fun v σ H R q => by
  obtain ⟨A, ρ, ds, Rd, S, da, q, k⟩ := q
  cases ds with
  | nil => exact q.elim
  | cons d dr =>
    obtain ⟨x, xr, e1, d1, d2⟩ := da
    subst e1
    refine ⟨x, xr, rfl, A, ρ, d, _, S, d1, q, fun σ1 ρ1 S1 l q1 => ?_⟩
    exact ⟨A, ρ1, dr, Rd, S1, d2, q1, fun σ2 ρ2 S2 l2 q2 => k σ2 ρ2 S2 (l2.trans l) q2⟩⟩
def gdTup (n : Nat) (u : DGs) : DG := fun d ρ R => match d with
  | .tup l => l.length = n ∧ u l ρ R
  | _ => False
theorem pdg_tup {gu : DGs} {n k : Nat} (hc : X.calm = true) (h : PDGs X g es gu) (hn : (assignEach es X.env).length = n := by rfl) (hst : (assignEach es X.env).findIdx? (·.1) = none := by rfl) : PDG X g (.Tuple es k pos) (gdTup n gu) := ⟨(pg_tup hc h.pgs hn hst).imp fun v σ H R q => by
  obtain ⟨A, ρ, d, Rd, S, da, q, k⟩ := q
  unfold gdTup at q
  split at q
  · obtain ⟨a, xs, rfl, hs, qa⟩ := da
    exact ⟨a, xs, rfl, Sub.sqT S.good.sub hs, by rw [qa.len]; exact q.1, A, ρ, _, Rd, S, qa, q.2, k⟩
  · exact q.elim⟩
def sAsg (r : DE) (gr : DG) : DS := fun DD ρ => r ρ (fun d => gr d ρ DD.nx) DD.ex
theorem pds_asg {tg : Expr} {gr : DG} (he : PD X g EX e r) (hg : PDG X g tg gr) (hs : swapsWithSole [tg] e pos.line X.env = pure false := by rfl) (hw : swappedStores [tg] e X.env = pure none := by rfl)
    (h1 : (assignEach [tg] X.env).map (·.2) = [assign tg X.env] := by rfl) : PDS X g EX (.Assign [tg] e pos) (sAsg r gr) := ⟨(ps_asg he.pe hg.pg hs hw h1).imp fun De σ H h => by
  obtain ⟨A, ρ, DD, S, h, k⟩ := h
  refine ⟨A, ρ, _, _, S, h, fun d v A1 H1 x1 da q => ?_, k.cx S⟩
  exact ⟨A1, ρ, d, _, S.ext x1, da, q, fun σ' ρ' S' l q' => k.nx A1 H1 σ' ρ' S' l x1.mono q'⟩⟩
theorem pds_set {i : Nat} {x : Str} {p' : Pos} (hN : X.N.Nodup) (hi : X.N[i]? = some x) (hx : Loc X.env.scope x) (he : PD X g EX e r) (hs : swapsWith e (some (.Name x p')) pos.line X.env = pure false := by rfl) (hf : X.fn x = true ∨ X.env.scope.names.lookup x = some .local := by first | exact .inl rfl | exact .inr rfl | assumption) :
    PDS X g EX (.Assign [.Name x p'] e pos) (sAsg r (gdName i)) := ⟨(ps_set hN hi hx he.pe hs hf).imp fun De σ H h => by
  obtain ⟨A, ρ, DD, S, h, k⟩ := h
  refine ⟨A, ρ, _, _, S, h, fun d v A1 H1 x1 da q => ?_, k.cx S⟩
  exact k.nx A1 H1 _ _ ((S.ext x1).setFr da) (List.length_set ..) x1.mono q⟩
/-- name = a new list, owned -/
def sSetN (i : Nat) (r : DL) : DS := fun DD ρ => r ρ (fun l => DD.nx (ρ.set i (.ow l))) DD.ex
theorem pds_setN {i : Nat} {x : Str} {p' : Pos} {rn : DL} (hN : X.N.Nodup) (hi : X.N[i]? = some x) (hx : Loc X.env.scope x) (he : PDN X g EX e rn) (hs : swapsWith e (some (.Name x p')) pos.line X.env = pure false := by rfl) (hf : X.fn x = true ∨ X.env.scope.names.lookup x = some .local := by first | exact .inl rfl | exact .inr rfl | assumption) :
    PDS X g EX (.Assign [.Name x p'] e pos) (sSetN i rn) := ⟨(ps_set hN hi hx he.pe hs hf).imp fun De σ H h => by
  obtain ⟨A, ρ, DD, S, h, k⟩ := h
  refine ⟨A, ρ, _, _, S, h, fun l xs p A1 H1 x1 hp da q => ?_, k.cx S⟩
  exact k.nx _ _ _ _ ((S.ext x1).setOw hp da) (List.length_set ..) x1.mono q⟩
def sPar (i j : Nat) (t : DL) : DS := fun DD ρ => t ρ (fun ds => match ds with
  | [a, b] => DD.nx ((ρ.set i (.fr a)).set j (.fr b))
  | _ => False) DD.ex
theorem pds_par {i j : Nat} {x y : Str} {px py pt : Pos} {kt k2 pt2} (hc : X.calm = true) (hN : X.N.Nodup) (hi : X.N[i]? = some x) (hj : X.N[j]? = some y) (hij : i ≠ j)
    (hx : X.env.scope.names.lookup x = some .local) (hy : X.env.scope.names.lookup y = some .local) (ha : PDA X g EX [a, b] t)
    (hw : swappedStores [.Tuple [.Name x px, .Name y py] kt pt] (.Tuple [a, b] k2 pt2) X.env = pure (some [x, y]))
    (hs : swapsWithSole [.Tuple [.Name x px, .Name y py] kt pt] (.Tuple [a, b] k2 pt2) pos.line X.env = pure false := by rfl) :
    PDS X g EX (.Assign [.Tuple [.Name x px, .Name y py] kt pt] (.Tuple [a, b] k2 pt2) pos) (sPar i j t) := ⟨(ps_par hc hN hi hj hij hx hy ha.pa hw hs).imp fun De σ H h => by
  obtain ⟨A, ρ, DD, S, h, k⟩ := h
  refine ⟨A, ρ, _, _, S, h, fun ds vs A1 H1 x1 das q => ?_, k.cx S⟩
  dsimp only at q
  split at q
  · obtain ⟨v, w, rfl, dv, dw⟩ := das.two'
    exact ⟨v, w, rfl, k.nx A1 H1 _ _ (((S.ext x1).setFr dv).setFr dw) (by rw [List.length_set, List.length_set]) x1.mono q⟩
  · exact q.elim⟩
end
end My
namespace My
open PySem PySem.Spec PyProof.Rows L2
/-! ### a def -/
def startD (N : List Str) (ds : List D) : DEnv := ds.map Sl.fr ++ List.replicate (N.length - ds.length) .no
theorem startOk {K : PySem.W.Frag} {so : Option Addr} {A H : Hp} {N : List Str} : ∀ {ds : List D} {vs : List V}, Good K so A H → DaL K so A ds vs → EnvOk K so H A H (L2.start N vs) (startD N ds) := by
  intro ds vs gd da
  have hl := da.len
  refine ⟨?_, fun i sl e => ?_, fun i j sl sl' a n e1 e2 o1 o2 s1 s2 => ?_⟩
  · unfold L2.start startD
    rw [List.length_append, List.length_append, List.length_map, List.length_map, List.length_replicate, List.length_replicate, hl]
  · unfold startD at e
    by_cases hi : i < ds.length
    · rw [List.getElem?_append_left (by rw [List.length_map]; exact hi), List.getElem?_map, List.getElem?_eq_getElem hi] at e
      cases e
      obtain ⟨v, e3, dv⟩ := da.get (List.getElem?_eq_getElem hi)
      refine ⟨some v, ?_, v, rfl, dv⟩
      unfold L2.start
      rw [List.getElem?_append_left (by rw [List.length_map, hl]; exact hi), List.getElem?_map, e3]
      rfl
    · rw [List.getElem?_append_right (by rw [List.length_map]; omega), List.length_map] at e
      have hz : sl = .no := by
        have := List.getElem?_eq_some_iff.mp e
        obtain ⟨h1, h2⟩ := this
        rw [List.getElem_replicate] at h2
        exact h2.symm
      subst hz
      have hn : i - ds.length < N.length - ds.length := by
        have := (List.getElem?_eq_some_iff.mp e).1
        rw [List.length_replicate] at this
        exact this
      refine ⟨none, ?_, trivial⟩
      unfold L2.start
      rw [List.getElem?_append_right (by rw [List.length_map, hl]; omega), List.length_map, hl, List.getElem?_replicate, if_pos hn]
  · have noOwn : ∀ (k : Nat) (sl : Sl), (startD N ds)[k]? = some sl → sl.own = false := fun k sl e => by
      unfold startD at e
      by_cases hi : k < ds.length
      · rw [List.getElem?_append_left (by rw [List.length_map]; exact hi), List.getElem?_map, List.getElem?_eq_getElem hi] at e
        cases e
        rfl
      · rw [List.getElem?_append_right (by rw [List.length_map]; omega)] at e
        obtain ⟨h1, h2⟩ := List.getElem?_eq_some_iff.mp e
        rw [List.getElem_replicate] at h2
        rw [← h2]
        rfl
    rw [noOwn i sl e1] at o1
    cases o1
section
variable {P : Program} {w : World} {K : PySem.W.Frag} {mg : Str → Option Value} {base : Heap}
theorem Df.okD {x : Str} {st : Stmt} {N ps : List Str} {lv : Nat} {m : DF} (D : Df K mg x st ps) (S : FnScope N ps (defScope st))
    (body : ∀ (cdv : Value) (A : Around) (outer : List PySem.Env) (s : Shared) (H : Hp) (E : XK) (so : Option Addr) (A0 : Hp), Room lv (A.deeper (envOfC x (defScope st) s.heap.objs.size D.f cdv)) →
      L2N.Takes (cxOf (L2N.CX P w) P w K mg base N x (defScope st) D.f cdv A outer s H E) (fun c d _ H => E c d H) →
      PassesOwn (model P w) (A.deeper (envOfC x (defScope st) s.heap.objs.size D.f cdv)) (envOfC x (defScope st) s.heap.objs.size D.f cdv) (cxOf (L2N.CX P w) P w K mg base N x (defScope st) D.f cdv A outer s H E).xe →
      ∃ r, PDSs (cxOf (L2N.CX P w) P w K mg base N x (defScope st) D.f cdv A outer s H E) ⟨so, A0, H⟩ (fun _ => E) (defBody st) r ∧
        ∀ ds Qd Ed, ds.length = ps.length → m ds Qd Ed → r ⟨fun _ => Qd .non, Qd, fun _ => False, fun _ => False, Ed, False⟩ (startD N ds)) :
    FnOk P w K mg base (L2N.CX P w) (lv + 1) D.f D.fd ps (spD K ps.length m) := by
  refine D.okN S spD_len fun cdv A outer s H vs Q E room rd => ?_
  obtain ⟨so, A0, ds, Qd, Ed, gd, hl, da, h, c, cx⟩ := rd
  obtain ⟨r, hr, k⟩ := body cdv A outer s H E so A0 room (L2N.takes_of rfl rfl rfl rfl) PassesOwn.leaving
  refine ⟨_, hr.pss, A0, startD N ds, ⟨fun _ => Qd .non, Qd, fun _ => False, fun _ => False, Ed, False⟩, ⟨Ext.refl gd, startOk gd da⟩, k ds Qd Ed hl h, ⟨fun A1 H1 σ ρ S1 _ _ q => ?_, fun A1 H1 d v x1 d1 q => c d v A1 H1 x1 d1 q, fun _ _ _ _ _ _ _ q => q.elim, fun _ _ _ _ _ _ _ q => q.elim, fun σ _ => cx, fun z => z.elim⟩⟩
  exact c .non .non A1 H1 S1.x rfl q
end
/-! ### loops -/
/-- the turns of J go over ds -/
structure Turns (K : PySem.W.Frag) (so : Option Addr) (A : Hp) (J : It) (ds : List D) : Prop where
  go : ∀ (A' H' : Hp), Sub A A' → Good K so A' H' → ∀ i d, ds[i]? = some d → J.go i H' ∧ ∀ x H2, J.yld i H' x H2 → ∃ A2, Ext K so A' H' A2 H2 ∧ Da K so A2 d x
  stop : ∀ (A' H' : Hp), Sub A A' → Good K so A' H' → J.stop ds.length H'
def lI (K : PySem.W.Frag) (g : Gx) (EX : EXT) (r : DL) : TI := fun σ H R => ∃ A ρ Qd Ed, Stt K g A H σ ρ ∧ r ρ Qd Ed ∧ ContX K g.so A H Ed (EX σ) ∧ ∀ ds J A' H', Ext K g.so A H A' H' → Turns K g.so A' J ds → Qd ds → R J H'
structure PDI (X : Cx) (g : Gx) (EX : EXT) (tg iter : Expr) (r : DL) : Prop where
  pi : PI X tg iter (lI X.K g EX r)
theorem _root_.L2.PI.imp {X : Cx} {tg it : Expr} {t t' : TI} (h : PI X tg it t) (w : ∀ σ H R, t' σ H R → t σ H R) : PI X tg it t' := ⟨fun pins s σ H R I q => h.run pins s σ H R I (w σ H R q)⟩
theorem turns_list {K : PySem.W.Frag} {so : Option Addr} {A : Hp} {a : Addr} {xs : List V} {ds : List D} (h : SqL K A a xs) (q : DaL K so A ds xs) : Turns K so A (Itl K a) ds := by
  refine ⟨fun A' H' sb gd i d e => ?_, fun A' H' sb gd => ⟨xs, Sub.sqL gd.sub (Sub.sqL sb h), by rw [q.len]; exact Nat.le_refl _⟩⟩
  obtain ⟨v, e2, dv⟩ := q.get e
  have hs := Sub.sqL gd.sub (Sub.sqL sb h)
  refine ⟨⟨xs, v, hs, e2⟩, fun x H2 y => ?_⟩
  obtain ⟨e3, y⟩ := y
  subst e3
  have z := y xs hs
  rw [e2] at z
  cases z
  exact ⟨A', Ext.refl gd, Da.mono sb _ _ dv⟩
theorem turns_tup {K : PySem.W.Frag} {so : Option Addr} {A : Hp} {a : Addr} {xs : List V} {ds : List D} (h : SqT K A a xs) (q : DaL K so A ds xs) : Turns K so A (Itt K a) ds := by
  refine ⟨fun A' H' sb gd i d e => ?_, fun A' H' sb gd => ⟨xs, Sub.sqT gd.sub (Sub.sqT sb h), by rw [q.len]; exact Nat.le_refl _⟩⟩
  obtain ⟨v, e2, dv⟩ := q.get e
  have hs := Sub.sqT gd.sub (Sub.sqT sb h)
  refine ⟨⟨xs, v, hs, e2⟩, fun x H2 y => ?_⟩
  obtain ⟨e3, y⟩ := y
  subst e3
  have z := y xs hs
  rw [e2] at z
  cases z
  exact ⟨A', Ext.refl gd, Da.mono sb _ _ dv⟩
def rangeD (lo : Int) (n : Nat) : List D := (List.range n).map fun i => .int (lo + (i : Nat))
theorem turns_range {K : PySem.W.Frag} {so : Option Addr} {A : Hp} {lo : Int} {n : Nat} : Turns K so A (Itr lo n) (rangeD lo n) := by
  refine ⟨fun A' H' sb gd i d e => ?_, fun A' H' sb gd => ?_⟩
  · unfold rangeD at e
    rw [List.getElem?_map] at e
    have hi : i < n := by
      cases h : (List.range n)[i]? with
      | none =>
        rw [h] at e
        cases e
      | some j =>
        have := (List.getElem?_eq_some_iff.mp h).1
        rw [List.length_range] at this
        exact this
    rw [List.getElem?_range hi] at e
    cases e
    refine ⟨hi, fun x H2 y => ?_⟩
    obtain ⟨rfl, rfl⟩ := y
    exact ⟨A', Ext.refl gd, rfl⟩
  · unfold rangeD
    rw [List.length_map, List.length_range]
    exact Nat.le_refl _
/-- enumerate of a list -/
def enumD : Nat → List D → List D
  | _, [] => []
  | k, d :: l => .tup [.int (k : Nat), d] :: enumD (k + 1) l
theorem enumD_len : ∀ (l : List D) (k : Nat), (enumD k l).length = l.length
  | [], _ => rfl
  | d :: l, k => by
    show (enumD (k + 1) l).length + 1 = l.length + 1
    rw [enumD_len l]
theorem enumD_get : ∀ (l : List D) (k i : Nat), (enumD k l)[i]? = l[i]?.map fun d => .tup [.int ((k + i : Nat) : Int), d]
  | [], _, _ => rfl
  | d :: l, k, 0 => rfl
  | d :: l, k, i + 1 => by
    show (enumD (k + 1) l)[i]? = _
    rw [enumD_get l (k + 1) i]
    show _ = l[i]?.map _
    have e : k + 1 + i = k + (i + 1) := by omega
    rw [e]
theorem turns_enum {K : PySem.W.Frag} {so : Option Addr} {A : Hp} {a : Addr} {xs : List V} {ds : List D} (h : SqL K A a xs) (q : DaL K so A ds xs) : Turns K so A (Ite K a) (enumD 0 ds) := by
  refine ⟨fun A' H' sb gd i d e => ?_, fun A' H' sb gd => ⟨xs, Sub.sqL gd.sub (Sub.sqL sb h), by rw [q.len, enumD_len]; exact Nat.le_refl _⟩⟩
  rw [enumD_get, Nat.zero_add] at e
  cases hd : ds[i]? with
  | none =>
    rw [hd] at e
    cases e
  | some c =>
    rw [hd] at e
    cases e
    obtain ⟨v, e2, dv⟩ := q.get hd
    have hs := Sub.sqL gd.sub (Sub.sqL sb h)
    refine ⟨⟨xs, v, hs, e2⟩, fun x H2 y => ?_⟩
    obtain ⟨T, x', rfl, hT, rfl, y⟩ := y
    have z := y xs hs
    rw [e2] at z
    cases z
    have x1 := Ext.laid (o := .tup [.int (i : Nat), v]) gd hT
    exact ⟨_, x1, T, _, rfl, SqT.of upd_same, .int (i : Nat), [v], rfl, rfl, v, [], rfl, x1.da (Da.mono sb _ _ dv), rfl⟩
def zipD : List D → List D → List D
  | d :: l, c :: m => .tup [d, c] :: zipD l m
  | _, _ => []
theorem zipD_get : ∀ (l m : List D) (i : Nat) (d : D), (zipD l m)[i]? = some d → ∃ x y, l[i]? = some x ∧ m[i]? = some y ∧ d = .tup [x, y]
  | [], _, _, _, e => by simp [zipD] at e
  | _ :: _, [], _, _, e => by simp [zipD] at e
  | x :: l, y :: m, 0, d, e => by
    simp [zipD] at e
    exact ⟨x, y, rfl, rfl, e.symm⟩
  | x :: l, y :: m, i + 1, d, e => by
    obtain ⟨a, b, h1, h2, h3⟩ := zipD_get l m i d (by simpa [zipD] using e)
    exact ⟨a, b, by simpa using h1, by simpa using h2, h3⟩
theorem zipD_len : ∀ (l m : List D), l.length ≤ (zipD l m).length ∨ m.length ≤ (zipD l m).length
  | [], _ => .inl (Nat.zero_le _)
  | _ :: _, [] => .inr (Nat.zero_le _)
  | x :: l, y :: m => by
    rcases zipD_len l m with h | h
    · exact .inl (Nat.succ_le_succ h)
    · exact .inr (Nat.succ_le_succ h)
theorem turns_zip {K : PySem.W.Frag} {so : Option Addr} {A : Hp} {a b : Addr} {xs ys : List V} {ds es : List D} (h : SqL K A a xs) (h2 : SqL K A b ys) (q : DaL K so A ds xs) (q2 : DaL K so A es ys) : Turns K so A (Itz K a b) (zipD ds es) := by
  refine ⟨fun A' H' sb gd i d e => ?_, fun A' H' sb gd => ⟨xs, ys, Sub.sqL gd.sub (Sub.sqL sb h), Sub.sqL gd.sub (Sub.sqL sb h2), by rw [q.len, q2.len]; exact zipD_len _ _⟩⟩
  obtain ⟨c1, c2, g1, g2, rfl⟩ := zipD_get _ _ _ _ e
  obtain ⟨v, e2, dv⟩ := q.get g1
  obtain ⟨u, e3, du⟩ := q2.get g2
  have hs := Sub.sqL gd.sub (Sub.sqL sb h)
  have hs2 := Sub.sqL gd.sub (Sub.sqL sb h2)
  refine ⟨⟨xs, ys, v, u, hs, hs2, e2, e3⟩, fun x H2 y => ?_⟩
  obtain ⟨T, x', y', rfl, hT, rfl, z1, z2⟩ := y
  have w1 := z1 xs hs
  rw [e2] at w1
  cases w1
  have w2 := z2 ys hs2
  rw [e3] at w2
  cases w2
  have x1 := Ext.laid (o := .tup [v, u]) gd hT
  exact ⟨_, x1, T, _, rfl, SqT.of upd_same, v, [u], rfl, x1.da (Da.mono sb _ _ dv), u, [], rfl, x1.da (Da.mono sb _ _ du), rfl⟩
/-- what a value is walked as -/
def onL (d : D) (Q : List D → Prop) : Prop := match d with
  | .lst l => Q l
  | _ => False
def onT (d : D) (Q : List D → Prop) : Prop := match d with
  | .tup l => Q l
  | _ => False
def iL (r : DE) : DL := fun ρ Q E => r ρ (fun d => onL d Q) E
def iT (r : DE) : DL := fun ρ Q E => r ρ (fun d => onT d Q) E
def iR1 (t : DL) : DL := fun ρ Q E => t ρ (fun ds => match ds with
  | [.int j] => j < 2 ^ 62 ∧ -(2 ^ 62) ≤ j ∧ Q (rangeD 0 j.toNat)
  | _ => False) E
def iR2 (t : DL) : DL := fun ρ Q E => t ρ (fun ds => match ds with
  | [.int i, .int j] => (-(2 ^ 62) ≤ i ∧ i < 2 ^ 62 ∧ -(2 ^ 62) ≤ j ∧ j < 2 ^ 62) ∧ Q (rangeD i (j - i).toNat)
  | _ => False) E
def iEn (t : DL) : DL := fun ρ Q E => t ρ (fun ds => match ds with
  | [.lst l] => Q (enumD 0 l)
  | _ => False) E
def iZp (t : DL) : DL := fun ρ Q E => t ρ (fun ds => match ds with
  | [.lst l, .lst m] => Q (zipD l m)
  | _ => False) E
section
variable {X : Cx} {g : Gx} {EX : EXT} {e a b tg iter : Expr} {es : List Expr} {r ra rb : DE} {pos p : Pos} {t ri : DL} {st : Stmt} {body : List Stmt} {rs rs' : DS} {gr : DG}
theorem pdi_list (h : PD X g EX e r) : PDI X g EX tg e (iL r) := ⟨(pi_list h.pe).imp fun σ H R q => by
  obtain ⟨A, ρ, Qd, Ed, S, q, cx, k⟩ := q
  refine ⟨A, ρ, _, Ed, S, q, fun d v A1 H1 x1 da q => ?_, cx⟩
  have q : onL d Qd := q
  unfold onL at q
  split at q
  · obtain ⟨p, xs, rfl, hs, qa⟩ := da
    exact ⟨p, rfl, ⟨xs, SqL.of (x1.good.sub _ _ hs)⟩, k _ _ A1 H1 x1 (turns_list (SqL.of hs) qa) q⟩
  · exact q.elim⟩
theorem pdi_tup (h : PD X g EX e r) : PDI X g EX tg e (iT r) := ⟨(pi_tup h.pe).imp fun σ H R q => by
  obtain ⟨A, ρ, Qd, Ed, S, q, cx, k⟩ := q
  refine ⟨A, ρ, _, Ed, S, q, fun d v A1 H1 x1 da q => ?_, cx⟩
  have q : onT d Qd := q
  unfold onT at q
  split at q
  · obtain ⟨p, xs, rfl, hs, qa⟩ := da
    exact ⟨p, rfl, ⟨xs, Sub.sqT x1.good.sub hs⟩, k _ _ A1 H1 x1 (turns_tup hs qa) q⟩
  · exact q.elim⟩
theorem pdi_range1 (hg : Gl X "range") (hm : X.mg "range" = none) (ha : PDA X g EX [a] t) (hs : starEach [a] X.env = [(false, eval a X.env)] := by rfl) : PDI X g EX tg (.Call (.Name "range" p) [a] [] pos) (iR1 t) := ⟨(pi_range1 hg hm ha.pa hs).imp fun σ H R q => by
  obtain ⟨A, ρ, Qd, Ed, S, q, cx, k⟩ := q
  refine ⟨A, ρ, _, Ed, S, q, fun ds vs A1 H1 x1 das q => ?_, cx⟩
  dsimp only at q
  split at q
  · obtain ⟨v, rfl, dv⟩ := das.one'
    have dv : v = _ := dv
    subst dv
    exact ⟨_, rfl, q.2.1, q.1, k _ _ A1 H1 x1 turns_range q.2.2⟩
  · exact q.elim⟩
theorem pdi_range2 (hg : Gl X "range") (hm : X.mg "range" = none) (ha : PDA X g EX [a, b] t) (hs : starEach [a, b] X.env = [(false, eval a X.env), (false, eval b X.env)] := by rfl) (hs2 : starEach [b] X.env = [(false, eval b X.env)] := by rfl) : PDI X g EX tg (.Call (.Name "range" p) [a, b] [] pos) (iR2 t) := ⟨(pi_range2 hg hm ha.pa hs hs2).imp fun σ H R q => by
  obtain ⟨A, ρ, Qd, Ed, S, q, cx, k⟩ := q
  refine ⟨A, ρ, _, Ed, S, q, fun ds vs A1 H1 x1 das q => ?_, cx⟩
  dsimp only at q
  split at q
  · obtain ⟨v, w, rfl, dv, dw⟩ := das.two'
    have dv : v = _ := dv
    have dw : w = _ := dw
    subst dv dw
    exact ⟨_, _, rfl, q.1, k _ _ A1 H1 x1 turns_range q.2⟩
  · exact q.elim⟩
theorem pdi_enum {elts : List Expr} {kk : Nat} {tpos : Pos} (hg : Gl X "enumerate") (hm : X.mg "enumerate" = none) (ha : PDA X g EX [e] t) (hs : starEach [e] X.env = [(false, eval e X.env)] := by rfl) : PDI X g EX (.Tuple elts kk tpos) (.Call (.Name "enumerate" p) [e] [] pos) (iEn t) := ⟨(pi_enum hg hm ha.pa hs).imp fun σ H R q => by
  obtain ⟨A, ρ, Qd, Ed, S, q, cx, k⟩ := q
  refine ⟨A, ρ, _, Ed, S, q, fun ds vs A1 H1 x1 das q => ?_, cx⟩
  dsimp only at q
  split at q
  · obtain ⟨v, rfl, a', xs, rfl, hs', qa⟩ := das.one'
    exact ⟨a', xs, rfl, SqL.of (x1.good.sub _ _ hs'), k _ _ A1 H1 x1 (turns_enum (SqL.of hs') qa) q⟩
  · exact q.elim⟩
theorem pdi_zip {elts : List Expr} {kk : Nat} {tpos : Pos} (hg : Gl X "zip") (hm : X.mg "zip" = none) (ha : PDA X g EX [a, b] t)
    (hs : starEach [a, b] X.env = (false, eval a X.env) :: starEach [b] X.env := by rfl) (hpl : (backTo pos (starEach [b] X.env)).any (·.1) = false := by rfl) : PDI X g EX (.Tuple elts kk tpos) (.Call (.Name "zip" p) [a, b] [] pos) (iZp t) := ⟨(pi_zip hg hm ha.pa hs hpl).imp fun σ H R q => by
  obtain ⟨A, ρ, Qd, Ed, S, q, cx, k⟩ := q
  refine ⟨A, ρ, _, Ed, S, q, fun ds vs A1 H1 x1 das q => ?_, cx⟩
  dsimp only at q
  split at q
  · obtain ⟨v, r1, e1, ⟨a', xs, e2, ha', qa⟩, r2⟩ := das
    obtain ⟨u, e3, ⟨b', ys, e4, hb', qb⟩⟩ := DaL.one' r2
    subst e1 e2 e3 e4
    exact ⟨a', b', xs, ys, rfl, SqL.of (x1.good.sub _ _ ha'), SqL.of (x1.good.sub _ _ hb'), k _ _ A1 H1 x1 (turns_zip (SqL.of ha') (SqL.of hb') qa qb) q⟩
  · exact q.elim⟩
/-- for: over the data, one after another -/
def forL (gr : DG) (body : DS) (DD : DEnds) : List D → DEnv → Prop
  | [], ρ => DD.nx ρ
  | d :: ds, ρ => gr d ρ fun ρ1 => body { DD with nx := forL gr body DD ds, ct := forL gr body DD ds, bk := DD.nx } ρ1
def sFor (ri : DL) (gr : DG) (body : DS) : DS := fun DD ρ => ri ρ (fun ds => forL gr body DD ds ρ) DD.ex
theorem pds_for (hp : PassesOwn (model X.prog X.w) X.A X.env X.xe) (hc : X.calm = true) (hi : PDI X g EX tg iter ri) (hg : PDG X g tg gr) (hb : PDSs X g EX body rs)
    (hs : ∀ x, foldedSetIterable iter X.env x = pure x := by intro _; rfl) : PDS X g EX (.For tg iter body [] pos) (sFor ri gr rs) := ⟨(ps_for hp hc hi.pi hg.pg hb.pss hs).imp fun De σ H h => by
  obtain ⟨A, ρ, DD, S, h, k⟩ := h
  refine ⟨A, ρ, _, _, S, h, k.cx S, fun ds J A1 H1 x1 T q => ?_⟩
  refine ⟨fun i m σ' H' => ∃ A' ρ', Stt X.K g A' H' σ' ρ' ∧ Sub A1 A' ∧ ρ'.length = ρ.length ∧ m + i = ds.length ∧ forL gr rs DD (ds.drop i) ρ', ⟨ds.length, A1, ρ, S.ext x1, fun _ _ z => z, rfl, rfl, q⟩, ?_⟩
  rintro i m σ2 H2 ⟨A2, ρ2, S2, sb, l2, hm, q2⟩
  cases hd : ds[i]? with
  | none =>
    have hi : ds.length ≤ i := List.getElem?_eq_none_iff.mp hd
    have e : i = ds.length := by omega
    subst e
    rw [List.drop_length] at q2
    exact .inl ⟨T.stop A2 H2 sb S2.good, k.nx A2 H2 σ2 ρ2 S2 l2 (x1.mono.trans sb) q2⟩
  | some d =>
    have hi : i < ds.length := (List.getElem?_eq_some_iff.mp hd).1
    have ed : ds.drop i = d :: ds.drop (i + 1) := by
      rw [List.drop_eq_getElem_cons hi]
      rw [List.getElem?_eq_getElem hi] at hd
      cases hd
      rfl
    rw [ed] at q2
    obtain ⟨go, yl⟩ := T.go A2 H2 sb S2.good i d hd
    refine .inr ⟨go, fun σ' H' => ∃ A' ρ', Stt X.K g A' H' σ' ρ' ∧ Sub A1 A' ∧ ρ'.length = ρ.length ∧ forL gr rs DD (ds.drop (i + 1)) ρ', fun σ' H' ⟨A', ρ', S', sb', l', q'⟩ => ⟨m - 1, by omega, A', ρ', S', sb', l', by omega, q'⟩, fun x H3 y => ?_⟩
    obtain ⟨A3, x3, da⟩ := yl x H3 y
    refine ⟨A3, ρ2, d, _, S2.ext x3, da, q2, fun σ4 ρ4 S4 l4 q4 => ?_⟩
    have sb3 := sb.trans x3.mono
    refine ⟨A3, ρ4, _, S4, q4, ⟨fun A5 H5 σ5 ρ5 S5 l5 sb5 q5 => ⟨A5, ρ5, S5, sb3.trans sb5, (l5.trans l4).trans l2, q5⟩, k.rt, fun A5 H5 σ5 ρ5 S5 l5 sb5 q5 => k.nx A5 H5 σ5 ρ5 S5 ((l5.trans l4).trans l2) (x1.mono.trans (sb3.trans sb5)) q5,
      fun A5 H5 σ5 ρ5 S5 l5 sb5 q5 => ⟨A5, ρ5, S5, sb3.trans sb5, (l5.trans l4).trans l2, q5⟩, fun σ5 h5 => k.ex σ5 (h5.trans (l4.trans l2)), k.fr⟩⟩⟩
/-- while -/
def sWhile (c : DT) (body : DS) : DS := fun DD ρ => ∃ W : Nat → DEnv → Prop, (∃ m, W m ρ) ∧ ∀ m ρ, W m ρ → c ρ (fun b => if b = true then ∃ N : DEnv → Prop, (∀ ρ', N ρ' → ∃ m', m' < m ∧ W m' ρ') ∧ body { DD with nx := N, ct := N, bk := DD.nx } ρ else DD.nx ρ) DD.ex
theorem pds_while {c : Expr} {tc : DT} (hp : PassesOwn (model X.prog X.w) X.A X.env X.xe) (hc : PDT X g EX c tc) (hb : PDSs X g EX body rs) : PDS X g EX (.While c body [] pos) (sWhile tc rs) := ⟨(ps_while hp hc.pt hb.pss).imp fun De σ H h => by
  obtain ⟨A, ρ, DD, S, ⟨W, ⟨m0, w0⟩, turn⟩, k⟩ := h
  refine ⟨fun m σ' H' => ∃ A' ρ', Stt X.K g A' H' σ' ρ' ∧ Sub A A' ∧ ρ'.length = ρ.length ∧ W m ρ', ⟨m0, A, ρ, S, Sub.rfl', rfl, w0⟩, ?_⟩
  rintro m σ1 H1 ⟨A1, ρ1, S1, sb1, l1, w1⟩
  refine ⟨A1, ρ1, _, _, S1, turn m ρ1 w1, fun b A2 H2 x2 q => ?_, (k.ex σ1 (S1.e.len.trans l1)).ext S1.x⟩
  have S2 := S1.ext x2
  have sb2 := sb1.trans x2.mono
  cases b with
  | true =>
    obtain ⟨N, hN, q⟩ := outT q
    refine iteT ⟨fun σ' H' => ∃ A' ρ', Stt X.K g A' H' σ' ρ' ∧ Sub A A' ∧ ρ'.length = ρ.length ∧ N ρ', fun σ' H' ⟨A', ρ', S', sb', l', n'⟩ => ?_, A2, ρ1, _, S2, q, ?_⟩
    · obtain ⟨m', lt, w'⟩ := hN ρ' n'
      exact ⟨m', lt, A', ρ', S', sb', l', w'⟩
    · exact ⟨fun A5 H5 σ5 ρ5 S5 l5 sb5 q5 => ⟨A5, ρ5, S5, sb2.trans sb5, l5.trans l1, q5⟩, k.rt, fun A5 H5 σ5 ρ5 S5 l5 sb5 q5 => k.nx A5 H5 σ5 ρ5 S5 (l5.trans l1) (sb2.trans sb5) q5,
        fun A5 H5 σ5 ρ5 S5 l5 sb5 q5 => ⟨A5, ρ5, S5, sb2.trans sb5, l5.trans l1, q5⟩, fun σ5 h5 => k.ex σ5 (h5.trans l1), k.fr⟩
  | false => exact iteF (k.nx A2 H2 σ1 ρ1 S2 l1 sb2 (outF q))⟩
end
end My
namespace My
open PySem PySem.Spec PyProof.Rows L2
/-! ### owned lists: read, changed, frozen -/
def owS (o : Option Sl) (Q : List D → Prop) : Prop := match o with
  | some (.ow l) => Q l
  | _ => False
theorem owS.out {o : Option Sl} {Q : List D → Prop} (h : owS o Q) : ∃ l, o = some (.ow l) ∧ Q l := by
  unfold owS at h
  split at h
  · exact ⟨_, rfl, h⟩
  · exact h.elim
theorem EnvOk.ow {K : PySem.W.Frag} {so : Option Addr} {Hi A H : Hp} {σ : L2.St} {ρ : DEnv} {i : Nat} {l : List D} (h : EnvOk K so Hi A H σ ρ) (e : ρ[i]? = some (.ow l)) :
    ∃ a xs, σ[i]? = some (some (.ref a)) ∧ H a = some (.lst xs) ∧ A a = none ∧ Hi a = none ∧ so ≠ some a ∧ DaL K so A l xs := by
  obtain ⟨o, e2, a, xs, e3, r⟩ := h.ok i _ e
  exact ⟨a, xs, by rw [e2, e3], r⟩
/-- slot i's list is another one now -/
theorem Stt.mutOw {K : PySem.W.Frag} {g : Gx} {A H : Hp} {σ : L2.St} {ρ : DEnv} {i : Nat} {a : Addr} {l m : List D} {ys : List V} (S : Stt K g A H σ ρ) (e : ρ[i]? = some (.ow l)) (es : σ[i]? = some (some (.ref a)))
    (ha : A a = none) (hi : g.Hi a = none) (hs : g.so ≠ some a) (q : DaL K g.so A m ys) : Stt K g A (upd H a (.lst ys)) σ (ρ.set i (.ow m)) :=
  ⟨S.x.mut hi ha hs, S.e.mutOw (sl := .ow l) rfl e es ⟨a, ys, rfl, upd_same, ha, hi, hs, q⟩⟩
theorem Stt.frz {K : PySem.W.Frag} {g : Gx} {A H : Hp} {σ : L2.St} {ρ : DEnv} {i : Nat} {l : List D} (S : Stt K g A H σ ρ) (e : ρ[i]? = some (.ow l)) : ∃ A', Sub A A' ∧ Stt K g A' H σ (ρ.set i (.fr (.lst l))) := by
  obtain ⟨a, xs, es, ha, na, ni, ns, q⟩ := S.e.ow e
  have x1 := S.x.frz ni na ha ns
  have sb : Sub A (upd A a (.lst xs)) := fun b o h => by
    rw [upd_ne (ne_of_none h na)]
    exact h
  refine ⟨_, sb, x1, ⟨by rw [List.length_set]; exact S.e.len, fun j sl ej => ?_, fun j k sl1 sl2 b n e1 e2 o1 o2 s1 s2 => ?_⟩⟩
  · by_cases z : i = j
    · subst z
      have hi : i < ρ.length := (List.getElem?_eq_some_iff.mp e).1
      rw [List.getElem?_set_self hi] at ej
      cases ej
      exact ⟨_, es, .ref a, rfl, a, xs, rfl, upd_same, DaL.mono sb _ _ q⟩
    · rw [List.getElem?_set_ne z] at ej
      obtain ⟨o, e2, ok⟩ := S.e.ok j sl ej
      refine ⟨o, e2, ?_⟩
      cases sl with
      | no => exact trivial
      | fr d =>
        obtain ⟨v, e3, dv⟩ := ok
        exact ⟨v, e3, Da.mono sb _ _ dv⟩
      | ow m =>
        obtain ⟨a2, ys, e3, h2, n2, i2, s2, q2⟩ := ok
        have na2 : a2 ≠ a := fun w => S.e.dj i j _ _ a z e ej rfl rfl es (by rw [e2, e3, w])
        exact ⟨a2, ys, e3, h2, by rw [upd_ne na2]; exact n2, i2, s2, DaL.mono sb _ _ q2⟩
      | od ks vs =>
        obtain ⟨a2, ys, e3, h2, n2, i2, s2, q2⟩ := ok
        have na2 : a2 ≠ a := fun w => S.e.dj i j _ _ a z e ej rfl rfl es (by rw [e2, e3, w])
        exact ⟨a2, ys, e3, h2, by rw [upd_ne na2]; exact n2, i2, s2, DaL.mono sb _ _ q2⟩
  · have look : ∀ (m : Nat) (sl3 : Sl), (ρ.set i (.fr (.lst l)))[m]? = some sl3 → sl3.own = true → ρ[m]? = some sl3 := fun m sl3 em om => by
      by_cases z : i = m
      · subst z
        have hi : i < ρ.length := (List.getElem?_eq_some_iff.mp e).1
        rw [List.getElem?_set_self hi] at em
        cases em
        cases om
      · rw [List.getElem?_set_ne z] at em
        exact em
    exact S.e.dj j k sl1 sl2 b n (look _ _ e1 o1) (look _ _ e2 o2) o1 o2 s1 s2
section
variable {X : Cx} {g : Gx} {EX : EXT} {e a b tg iter : Expr} {es : List Expr} {r ra rb : DE} {pos p apos : Pos} {t ri : DL} {st : Stmt} {body rest : List Stmt} {rs rs' : DS} {gr : DG}
/-- a step that is no statement: slot i is frozen -/
def sFrz (i : Nat) (r : DS) : DS := fun DD ρ => owS ρ[i]? fun l => r DD (ρ.set i (.fr (.lst l)))
theorem pds_frz (i : Nat) (h : PDSs X g EX rest rs) : PDSs X g EX rest (sFrz i rs) := ⟨h.pss.imp fun De σ H q => by
  obtain ⟨A, ρ, DD, S, q, k⟩ := q
  obtain ⟨l, e, q⟩ := q.out
  obtain ⟨A1, sb, S1⟩ := S.frz e
  exact ⟨A1, _, DD, S1, q, by rw [List.length_set]; exact k.up sb⟩⟩
/-- x.append(e), x owned -/
def sApp (i : Nat) (r : DE) : DS := fun DD ρ => owS ρ[i]? fun l => r ρ (fun d => l.length < sizeLine ∧ DD.nx (ρ.set i (.ow (l ++ [d])))) DD.ex
theorem pds_app {i : Nat} {o : Expr} (ho : PE X o (tVar i)) (he : PD X g EX e r)
    (hbase : attributeBase o "append" X.env (eval o X.env) = eval o X.env) (hline : (apos.endLine == pos.line) = true)
    (hfew : ((backTo pos (starEach [e] X.env)).all (fun x => !x.1) && (backToKw pos (keywordEach [] X.env)).all (fun x => x.1.isSome)
      && decide ([e].length + ([] : List Keyword).length + (if ([] : List Keyword).isEmpty then 0 else 1) < 30)) = true)
    (hs : starEach [e] X.env = (false, eval e X.env) :: starEach [] X.env) (hpl : (backTo pos (starEach [] X.env)).any (·.1) = false) {pos' : Pos} (hw : swapsWith (.Call (.Attribute o "append" apos) [e] [] pos) none pos'.line X.env = pure false) :
    PDS X g EX (.Expr (.Call (.Attribute o "append" apos) [e] [] pos) pos') (sApp i r) := ⟨(ps_expr (pe_bm PySem.F.plainAttrs_list PySem.F.slot_list_append PySem.F.type_list_append mt_append ho (pa_cons he.pe pa_nil hs) hbase hfew hline hs hpl) hw).imp fun De σ H q => by
  obtain ⟨A, ρ, DD, S, q, k⟩ := q
  obtain ⟨l, el, q⟩ := q.out
  obtain ⟨a, xs, es, ha, na, ni, ns, qa⟩ := S.e.ow el
  refine ⟨.ref a, es, .inl ⟨rfl, xs, SqL.of ha⟩, A, ρ, _, _, S, q, fun d v A1 H1 x1 da q => ?_, k.cx S⟩
  have S1 := S.ext x1
  refine ⟨a, xs, v, rfl, rfl, x1.kept a _ ns ha, by rw [qa.len]; exact q.1, ?_⟩
  exact k.nx A1 _ σ _ (S1.mutOw el es (x1.unfrozen na ha) ni ns ((x1.daL qa).app (DaL.one da))) (List.length_set ..) x1.mono q.2⟩
/-- x.insert(i, e), x owned -/
def sIns (i : Nat) (t : DL) : DS := fun DD ρ => owS ρ[i]? fun l => t ρ (fun ds => match ds with
  | [.int j, d] => 0 ≤ j ∧ j < 2 ^ 63 ∧ l.length < sizeLine ∧ DD.nx (ρ.set i (.ow (l.take j.toNat ++ [d] ++ l.drop j.toNat)))
  | _ => False) DD.ex
theorem pds_ins {i : Nat} {o : Expr} (ho : PE X o (tVar i)) (he : PDA X g EX [a, b] t)
    (hbase : attributeBase o "insert" X.env (eval o X.env) = eval o X.env) (hline : (apos.endLine == pos.line) = true)
    (hs : starEach [a, b] X.env = (false, eval a X.env) :: starEach [b] X.env) (hpl : (backTo pos (starEach [b] X.env)).any (·.1) = false)
    (hfew : ((backTo pos (starEach [a, b] X.env)).all (fun x => !x.1) && (backToKw pos (keywordEach [] X.env)).all (fun x => x.1.isSome)
      && decide ([a, b].length + ([] : List Keyword).length + (if ([] : List Keyword).isEmpty then 0 else 1) < 30)) = true) {pos' : Pos}
    (hw : swapsWith (.Call (.Attribute o "insert" apos) [a, b] [] pos) none pos'.line X.env = pure false) :
    PDS X g EX (.Expr (.Call (.Attribute o "insert" apos) [a, b] [] pos) pos') (sIns i t) := ⟨(ps_expr (pe_bm PySem.F.plainAttrs_list PySem.F.slot_list_insert PySem.F.type_list_insert mt_insert ho he.pa hbase hfew hline hs hpl) hw).imp fun De σ H q => by
  obtain ⟨A, ρ, DD, S, q, k⟩ := q
  obtain ⟨l, el, q⟩ := q.out
  obtain ⟨a, xs, es, ha, na, ni, ns, qa⟩ := S.e.ow el
  refine ⟨.ref a, es, .inl ⟨rfl, xs, SqL.of ha⟩, A, ρ, _, _, S, q, fun ds vs A1 H1 x1 das q => ?_, k.cx S⟩
  have S1 := S.ext x1
  dsimp only at q
  split at q
  · obtain ⟨v, w, rfl, dv, dw⟩ := das.two'
    have dv : v = _ := dv
    subst dv
    refine ⟨a, xs, _, w, rfl, rfl, x1.kept a _ ns ha, by rw [qa.len]; exact q.2.2.1, q.1, q.2.1, ?_⟩
    exact k.nx A1 _ σ _ (S1.mutOw el es (x1.unfrozen na ha) ni ns ((((x1.daL qa).take _).app (DaL.one dw)).app ((x1.daL qa).drop _))) (List.length_set ..) x1.mono q.2.2.2
  · exact q.elim⟩
/-- x[k] = e, x owned -/
def sSetI (i : Nat) (r rk : DE) : DS := fun DD ρ => owS ρ[i]? fun l => r ρ (fun d => rk ρ (fun k => match k with
  | .int j => ∃ n, ixN l.length j = some n ∧ DD.nx (ρ.set i (.ow (l.set n d)))
  | _ => False) DD.ex) DD.ex
theorem pds_setI {i : Nat} {o k : Expr} {rk : DE} (ho : PE X o (tVar i)) (he : PD X g EX e r) (hk : PD X g EX k rk)
    (ha : ∀ v, assign (.Subscript o k p) X.env v = (do
      let ov ← holding [v] (eval o X.env)
      let iv ← holding [v, ov] (eval k X.env)
      standAt p
      holding [v, ov, iv] (setItem ov iv v)
      release [v, ov, iv] []) := by intro _; rfl)
    (hs : swapsWithSole [.Subscript o k p] e pos.line X.env = pure false := by rfl) (hw : swappedStores [.Subscript o k p] e X.env = pure none := by rfl)
    (h1 : (assignEach [.Subscript o k p] X.env).map (·.2) = [assign (.Subscript o k p) X.env] := by rfl) :
    PDS X g EX (.Assign [.Subscript o k p] e pos) (sSetI i r rk) := ⟨(ps_asg he.pe (pg_sub ho hk.pe set_list ha) hs hw h1).imp fun De σ H q => by
  obtain ⟨A, ρ, DD, S, q, kk⟩ := q
  obtain ⟨l, el, q⟩ := q.out
  obtain ⟨a, xs, es, ha, na, ni, ns, qa⟩ := S.e.ow el
  refine ⟨A, ρ, _, _, S, q, fun d v A1 H1 x1 da q => ?_, kk.cx S⟩
  have S1 := S.ext x1
  refine ⟨.ref a, es, A1, ρ, _, _, S1, q, fun dk vk A2 H2 x2 dak q2 => ?_, kk.cx S |>.ext x1⟩
  have S2 := S1.ext x2
  dsimp only at q2
  split at q2
  · obtain ⟨n, en, q2⟩ := q2
    have dak : vk = _ := dak
    subst dak
    have x12 := x1.trans x2
    refine ⟨a, xs, _, n, rfl, rfl, x12.kept a _ ns ha, by rw [qa.len]; exact en, ?_⟩
    exact kk.nx A2 _ σ _ (S2.mutOw el es (x12.unfrozen na ha) ni ns ((x12.daL qa).set n (x2.da da))) (List.length_set ..) x12.mono q2
  · exact q2.elim⟩
/-- len of an owned list, an item of an owned list -/
def dLenO (i : Nat) : DE := fun ρ Q _ => owS ρ[i]? fun l => Q (.int l.length)
theorem pd_lenO {i : Nat} {o : Expr} (hg : Gl X "len") (hm : X.mg "len" = none) (ho : PE X o (tVar i)) (he : starEach [o] X.env = (false, eval o X.env) :: starEach [] X.env := by rfl) (hpl : (backTo pos (starEach [] X.env)).any (·.1) = false := by rfl) :
    PD X g EX (.Call (.Name "len" p) [o] [] pos) (dLenO i) := ⟨(pe_callB c_len hg hm bt_len (pa_cons ho pa_nil he) (by decide) (by decide) he hpl).imp fun σ H Q q => by
  obtain ⟨A, ρ, Qd, Ed, S, q, c, cx⟩ := q
  obtain ⟨l, el, q⟩ := q.out
  obtain ⟨a, xs, es, ha, na, ni, ns, qa⟩ := S.e.ow el
  exact ⟨.ref a, es, a, xs, rfl, .inl (SqL.of ha), by rw [qa.len]; exact c.nowI S.good q⟩⟩
def dIxO (i : Nat) (rk : DE) : DE := fun ρ Q E => owS ρ[i]? fun l => rk ρ (fun k => match k with
  | .int j => ∃ d, atI l j = some d ∧ Q d
  | _ => False) E
theorem pd_ixO {i : Nat} {o k : Expr} {rk : DE} (ho : PE X o (tVar i)) (hk : PD X g EX k rk) (hs : PlainIx k) : PD X g EX (.Subscript o k pos) (dIxO i rk) := ⟨(pe_ix ix_list ho hk.pe hs).imp fun σ H Q q => by
  obtain ⟨A, ρ, Qd, Ed, S, q, c, cx⟩ := q
  obtain ⟨l, el, q⟩ := q.out
  obtain ⟨a, xs, es, ha, na, ni, ns, qa⟩ := S.e.ow el
  refine ⟨.ref a, es, A, ρ, _, _, S, q, fun dk vk A1 H1 x1 dak q => ?_, cx⟩
  dsimp only at q
  split at q
  · obtain ⟨d, ed, q⟩ := q
    have dak : vk = _ := dak
    subst dak
    obtain ⟨v, ev, dv⟩ := (x1.daL qa).atI ed
    exact ⟨a, xs, _, v, rfl, rfl, SqL.of (x1.kept a _ ns ha), ev, (c.ext x1).now x1.good dv q⟩
  · exact q.elim⟩
/-! ### comprehensions -/
def wipeD (ρ : DEnv) : List Nat → DEnv
  | [] => ρ
  | v :: vs => (wipeD ρ vs).set v .no
def EXF : EXT := fun _ _ _ _ => False
def compL (gr : DG) (tt : DT) (te : DE) (ρ : DEnv) (Q : List D → Prop) : List D → List D → Prop
  | [], acc => Q acc
  | d :: ds, acc => gr d ρ fun ρ2 => tt ρ2 (fun b => if b = true then te ρ2 (fun y => acc.length < sizeLine ∧ compL gr tt te ρ Q ds (acc ++ [y])) (fun _ => False) else compL gr tt te ρ Q ds acc) (fun _ => False)
def nComp (ri : DL) (gr : DG) (tt : DT) (te : DE) (vs : List Nat) : DL := fun ρ Q E => ri ρ (fun ds => compL gr tt te (wipeD ρ vs) Q ds []) E
def qYes : DT := fun _ Q _ => Q true
theorem wipe_len (σ : L2.St) : ∀ vs : List Nat, (wipe σ vs).length = σ.length := wipe_length σ
theorem wipeD_len (ρ : DEnv) : ∀ vs : List Nat, (wipeD ρ vs).length = ρ.length
  | [] => rfl
  | v :: vs => by
    show ((wipeD ρ vs).set v .no).length = _
    rw [List.length_set, wipeD_len ρ vs]
theorem wipeD_get (ρ : DEnv) : ∀ (vs : List Nat) (i : Nat) (sl : Sl), (wipeD ρ vs)[i]? = some sl → (i ∈ vs ∧ sl = .no) ∨ (i ∉ vs ∧ ρ[i]? = some sl)
  | [], i, sl, e => .inr ⟨by simp, e⟩
  | v :: vs, i, sl, e => by
    have e : ((wipeD ρ vs).set v .no)[i]? = some sl := e
    by_cases z : v = i
    · subst z
      have hi : v < (wipeD ρ vs).length := by
        have := (List.getElem?_eq_some_iff.mp e).1
        rw [List.length_set] at this
        exact this
      rw [List.getElem?_set_self hi] at e
      cases e
      exact .inl ⟨by simp, rfl⟩
    · rw [List.getElem?_set_ne z] at e
      rcases wipeD_get ρ vs i sl e with ⟨h1, h2⟩ | ⟨h1, h2⟩
      · exact .inl ⟨by simp [h1], h2⟩
      · refine .inr ⟨fun m => ?_, h2⟩
        rcases List.mem_cons.mp m with w | w
        · exact z w.symm
        · exact h1 w
theorem wipe_out (σ : L2.St) : ∀ (vs : List Nat) (i : Nat), i ∉ vs → (wipe σ vs)[i]? = σ[i]?
  | [], _, _ => rfl
  | v :: vs, i, n => by
    show ((wipe σ vs).set v none)[i]? = _
    rw [List.getElem?_set_ne (fun z => n (by simp [z])), wipe_out σ vs i (fun z => n (by simp [z]))]
theorem wipe_in (σ : L2.St) : ∀ (vs : List Nat) (i : Nat), i ∈ vs → i < σ.length → (wipe σ vs)[i]? = some none
  | [], _, m, _ => by simp at m
  | v :: vs, i, m, h => by
    show ((wipe σ vs).set v none)[i]? = _
    by_cases z : v = i
    · subst z
      rw [List.getElem?_set_self (by rw [wipe_len]; exact h)]
    · rw [List.getElem?_set_ne z]
      rcases List.mem_cons.mp m with w | w
      · exact absurd w.symm z
      · exact wipe_in σ vs i w h
theorem wipe_ext {σ τ : L2.St} {vs : List Nat} (hl : σ.length = τ.length) (h : ∀ i, i ∉ vs → σ[i]? = τ[i]?) : wipe σ vs = wipe τ vs := by
  refine List.ext_getElem? fun i => ?_
  by_cases m : i ∈ vs
  · by_cases hi : i < σ.length
    · rw [wipe_in σ vs i m hi, wipe_in τ vs i m (by rw [← hl]; exact hi)]
    · rw [List.getElem?_eq_none (by rw [wipe_len]; omega), List.getElem?_eq_none (by rw [wipe_len]; omega)]
  · rw [wipe_out σ vs i m, wipe_out τ vs i m, h i m]
theorem Stt.wipe {K : PySem.W.Frag} {g : Gx} {A H : Hp} {σ : L2.St} {ρ : DEnv} (S : Stt K g A H σ ρ) (vs : List Nat) : Stt K g A H (L2.wipe σ vs) (wipeD ρ vs) := by
  refine ⟨S.x, ⟨by rw [wipe_len, wipeD_len]; exact S.e.len, fun i sl e => ?_, fun i j sl sl' a n e1 e2 o1 o2 s1 s2 => ?_⟩⟩
  · rcases wipeD_get ρ vs i sl e with ⟨h1, rfl⟩ | ⟨h1, h2⟩
    · have hi : i < σ.length := by
        have := (List.getElem?_eq_some_iff.mp e).1
        rw [wipeD_len, ← S.e.len] at this
        exact this
      exact ⟨none, wipe_in σ vs i h1 hi, trivial⟩
    · rw [wipe_out σ vs i h1]
      exact S.e.ok i sl h2
  · rcases wipeD_get ρ vs i sl e1 with ⟨h1, rfl⟩ | ⟨h1, h2⟩
    · cases o1
    · rcases wipeD_get ρ vs j sl' e2 with ⟨h3, rfl⟩ | ⟨h3, h4⟩
      · cases o2
      · rw [wipe_out σ vs i h1] at s1
        rw [wipe_out σ vs j h3] at s2
        exact S.e.dj i j sl sl' a n h2 h4 o1 o2 s1 s2
end
/-- a target whose slots are the comprehension's own -/
def lGw (K : PySem.W.Frag) (g : Gx) (vs : List Nat) (r : DG) : TG := fun v σ H R => ∃ A ρ d Rd, Stt K g A H σ ρ ∧ Da K g.so A d v ∧ r d ρ Rd ∧ ∀ σ' ρ', Stt K g A H σ' ρ' → ρ'.length = ρ.length → L2.wipe σ' vs = L2.wipe σ vs → Rd ρ' → R σ' H
def lGsw (K : PySem.W.Frag) (g : Gx) (vs : List Nat) (r : DGs) : TGs := fun us σ H R => ∃ A ρ ds Rd, Stt K g A H σ ρ ∧ DaL K g.so A ds us ∧ r ds ρ Rd ∧ ∀ σ' ρ', Stt K g A H σ' ρ' → ρ'.length = ρ.length → L2.wipe σ' vs = L2.wipe σ vs → Rd ρ' → R σ' H
structure PDGw (X : Cx) (g : Gx) (vs : List Nat) (e : Expr) (r : DG) : Prop where
  pg : PG X e (lGw X.K g vs r)
structure PDGsw (X : Cx) (g : Gx) (vs : List Nat) (es : List Expr) (r : DGs) : Prop where
  pgs : PGs X es (lGsw X.K g vs r)
section
variable {X : Cx} {g : Gx} {EX : EXT} {e a b tg iter : Expr} {es : List Expr} {r ra rb : DE} {pos p apos : Pos} {t ri : DL} {gr : DG} {tt : DT} {te : DE} {vs : List Nat}
theorem pdgw_name {i : Nat} (h : PG X e (gName i)) (hi : i ∈ vs := by simp) : PDGw X g vs e (gdName i) := ⟨h.imp fun v σ H R q => by
  obtain ⟨A, ρ, d, Rd, S, da, q, k⟩ := q
  refine k _ _ (S.setFr da) (List.length_set ..) (wipe_ext (List.length_set ..) fun j n => ?_) q
  rw [List.getElem?_set_ne fun z => n (by rw [← z]; exact hi)]⟩
theorem pdgsw_nil : PDGsw X g vs [] gdNil := ⟨pgs_nil.imp fun v σ H R q => by
  obtain ⟨A, ρ, ds, Rd, S, da, q, k⟩ := q
  obtain ⟨rfl, q⟩ := q
  exact ⟨da, k _ _ S rfl rfl q⟩⟩
theorem pdgsw_cons {gr : DG} {gu : DGs} (h1 : PDGw X g vs e gr) (h2 : PDGsw X g vs es gu) (hs : (assignEach (e :: es) X.env).map (·.2) = assign e X.env :: (assignEach es X.env).map (·.2) := by rfl) : PDGsw X g vs (e :: es) (gdCons gr gu) := ⟨(pgs_cons h1.pg h2.pgs hs).imp fun v σ H R q => by
  obtain ⟨A, ρ, ds, Rd, S, da, q, k⟩ := q
  cases ds with
  | nil => exact q.elim
  | cons d dr =>
    obtain ⟨x, xr, e1, d1, d2⟩ := da
    subst e1
    refine ⟨x, xr, rfl, A, ρ, d, _, S, d1, q, fun σ1 ρ1 S1 l w1 q1 => ?_⟩
    exact ⟨A, ρ1, dr, Rd, S1, d2, q1, fun σ2 ρ2 S2 l2 w2 q2 => k σ2 ρ2 S2 (l2.trans l) (w2.trans w1) q2⟩⟩
theorem pdgw_tup {gu : DGs} {n k : Nat} (hc : X.calm = true) (h : PDGsw X g vs es gu) (hn : (assignEach es X.env).length = n := by rfl) (hst : (assignEach es X.env).findIdx? (·.1) = none := by rfl) : PDGw X g vs (.Tuple es k pos) (gdTup n gu) := ⟨(pg_tup hc h.pgs hn hst).imp fun v σ H R q => by
  obtain ⟨A, ρ, d, Rd, S, da, q, k⟩ := q
  unfold gdTup at q
  split at q
  · obtain ⟨a, xs, rfl, hs, qa⟩ := da
    exact ⟨a, xs, rfl, Sub.sqT S.good.sub hs, by rw [qa.len]; exact q.1, A, ρ, _, Rd, S, qa, q.2, k⟩
  · exact q.elim⟩
/-- a clause's tests -/
structure PDTs (X : Cx) (g : Gx) (EX : EXT) (ifs : List Expr) (r : DT) : Prop where
  pt : PTs X ifs (lT X.K g EX r)
theorem pdts_nil : PDTs X g EX [] qYes := ⟨⟨fun pins s σ H Q I h => by
  obtain ⟨A, ρ, Qd, Ed, S, h, c, cx⟩ := h
  exact pts_nil.run pins s σ H Q I (c true A H (Ext.refl S.good) h)⟩⟩
theorem pdts_one {c : Expr} (h : PDT X g EX c tt) : PDTs X g EX [c] tt := ⟨pts_one h.pt⟩
theorem del_ext {K : PySem.W.Frag} {so : Option Addr} {A H A' H' : Hp} {D : Addr} {o : HO} (x : Ext K so A H A' H') (h : H D = none) (h1 : A' D = none) (hd : H' D = some o) (hs : so ≠ some D) : ∃ H1, Ext K so A H A' H1 ∧ H1 D = none ∧ H' = upd H1 D o := by
  refine ⟨fun b => if b = D then none else H' b, ⟨⟨fun b u e => ?_, fun s e => ?_⟩, x.mono, fun b u n e => ?_, x.new⟩, if_pos rfl, ?_⟩
  · show (if b = D then none else H' b) = some u
    rw [if_neg (ne_of_none e h1)]
    exact x.good.sub b u e
  · obtain ⟨h3, L, ns, p', a', b, c, d, h4, h5, r⟩ := x.good.st s e
    have n : s ≠ D := fun z => hs (by rw [e, z])
    exact ⟨h3, L, ns, p', a', b, c, d, by show (if s = D then none else H' s) = _; rw [if_neg n]; exact h4, h5, r⟩
  · show (if b = D then none else H' b) = some u
    rw [if_neg (ne_of_none e h)]
    exact x.kept b u n e
  · funext b
    unfold upd
    by_cases z : b = D
    · rw [if_pos z, z, hd]
    · rw [if_neg z]
      show H' b = if b = D then none else H' b
      rw [if_neg z]
theorem lcD {σ : L2.St} {H : Hp} {Q : VK} (h : lN X.K g EX (nComp ri gr tt te vs) σ H Q) : tLc (lI X.K g EX ri) (lGw X.K g vs gr) (lT X.K g EXF tt) (lE X.K g EXF te) vs σ H Q := by
  obtain ⟨A, ρ, Qd, Ed, S, h, c, cx⟩ := h
  refine ⟨A, ρ, _, Ed, S, h, cx, fun ds J A1 H1 x1 T q D hD => ?_⟩
  have S1 := S.ext x1
  have nD : g.so ≠ some D := fun z => S1.good.ne hD z rfl
  have fl : ∀ {A' Hm : Hp}, Good X.K g.so A' Hm → Hm D = none → A' D = none := fun {A' Hm} gd hm => by
    cases e : A' D with
    | none => rfl
    | some u =>
      rw [gd.sub D u e] at hm
      cases hm
  refine ⟨fun i m H' => ∃ A' acc xs Hm, Ext X.K g.so A1 H1 A' Hm ∧ Hm D = none ∧ H' = upd Hm D (.lst xs) ∧ DaL X.K g.so A' acc xs ∧ m + i = ds.length ∧ compL gr tt te (wipeD ρ vs) Qd (ds.drop i) acc, ⟨ds.length, A1, [], [], H1, Ext.refl x1.good, hD, rfl, rfl, rfl, q⟩, ?_⟩
  rintro i m H2 ⟨A2, acc, xs, Hm, x2, hm, rfl, da, hl, q2⟩
  have x3 : Ext X.K g.so A1 H1 A2 (upd Hm D (.lst xs)) := x2.trans (Ext.open_ x2.good hm)
  cases hd : ds[i]? with
  | none =>
    have hi : ds.length ≤ i := List.getElem?_eq_none_iff.mp hd
    have e : i = ds.length := by omega
    subst e
    rw [List.drop_length] at q2
    exact .inl ⟨T.stop A2 _ x2.mono x3.good, c acc xs D A2 Hm (x1.trans x2) hm da q2⟩
  | some d =>
    have hi : i < ds.length := (List.getElem?_eq_some_iff.mp hd).1
    have ed : ds.drop i = d :: ds.drop (i + 1) := by
      rw [List.drop_eq_getElem_cons hi]
      rw [List.getElem?_eq_getElem hi] at hd
      cases hd
      rfl
    rw [ed] at q2
    obtain ⟨go, yl⟩ := T.go A2 _ x2.mono x3.good i d hd
    refine .inr ⟨go, fun H' => ∃ A' acc xs Hm, Ext X.K g.so A1 H1 A' Hm ∧ Hm D = none ∧ H' = upd Hm D (.lst xs) ∧ DaL X.K g.so A' acc xs ∧ compL gr tt te (wipeD ρ vs) Qd (ds.drop (i + 1)) acc,
      fun H' ⟨A', acc', xs', Hm', y1, y2, y3, y4, y5⟩ => ⟨m - 1, by omega, A', acc', xs', Hm', y1, y2, y3, y4, by omega, y5⟩, fun x H3 y => ?_⟩
    obtain ⟨A3, x4, dx⟩ := yl x H3 y
    have x5 := x3.trans x4
    have keepD : ∀ {A5 H5 : Hp}, Ext X.K g.so A2 (upd Hm D (.lst xs)) A5 H5 → H5 D = some (.lst xs) ∧ A5 D = none := fun {A5 H5} z => ⟨z.kept D _ nD upd_same, z.unfrozen (fl x2.good hm) upd_same⟩
    have back : ∀ {A5 H5 : Hp} (ys : List V), Ext X.K g.so A2 (upd Hm D (.lst xs)) A5 H5 → ∃ Hn, Ext X.K g.so A1 H1 A5 Hn ∧ Hn D = none ∧ upd H5 D (.lst ys) = upd Hn D (.lst ys) ∧ H5 = upd Hn D (.lst xs) := fun {A5 H5} ys z => by
      obtain ⟨z1, z2⟩ := keepD z
      obtain ⟨Hn, w1, w2, w3⟩ := del_ext (x3.trans z) hD z2 z1 nD
      refine ⟨Hn, w1, w2, ?_, w3⟩
      rw [w3, upd_upd]
    have SW : Stt X.K g A3 H3 (wipe σ vs) (wipeD ρ vs) := (S1.ext x5).wipe vs
    refine ⟨A3, wipeD ρ vs, d, _, SW, dx, q2, fun σ4 ρ4 S4 l4 w4 q4 => ⟨?_, ?_⟩⟩
    · rw [w4]
      refine wipe_ext (by rw [wipe_len]) fun j n => ?_
      rw [wipe_out σ vs j n]
    refine ⟨A3, ρ4, _, _, S4, q4, fun b A5 H5 x6 q5 => ?_, fun x dx A' H' us _ _ _ _ _ z => z.elim⟩
    cases b with
    | false =>
      refine iteF ?_
      obtain ⟨Hn, w1, w2, w3, w5⟩ := back [] (x4.trans x6)
      exact ⟨A5, acc, xs, Hn, w1, w2, w5, DaL.mono (x4.trans x6).mono _ _ da, outF q5⟩
    | true =>
      refine iteT ⟨A5, ρ4, _, _, S4.ext x6, outT q5, fun d7 v7 A7 H7 x7 da7 q7 => ?_, fun x dx A' H' us _ _ _ _ _ z => z.elim⟩
      have x8 := (x4.trans x6).trans x7
      obtain ⟨z1, z2⟩ := keepD x8
      obtain ⟨Hn, w1, w2, w3, w5⟩ := back (xs ++ [v7]) x8
      refine ⟨xs, z1, by rw [da.len]; exact q7.1, A7, acc ++ [d7], xs ++ [v7], Hn, w1, w2, w3, (DaL.mono x8.mono _ _ da).app (DaL.one da7), q7.2⟩
theorem pdn_lc {elt : Expr} {ifs : List Expr} {scope : Scope} {own : List (Str × Nat)} (hc : X.calm = true) (hN : X.N.Nodup) (hi : PDI X g EX tg iter ri) (ok : BlkOk X.N X.env.scope scope own)
    (hg : ∀ (s : Shared) (H : Hp) (C : Addr) (cl : List (Str × Addr)) (fp : List Addr), PDGw (X.blk s H scope (compEnvC scope cl C X.env) fp) g (own.map (·.2)) tg gr) (ht : ∀ (s : Shared) (H : Hp) (C : Addr) (cl : List (Str × Addr)) (fp : List Addr), PDTs (X.blk s H scope (compEnvC scope cl C X.env) fp) g EXF ifs tt)
    (he : ∀ (s : Shared) (H : Hp) (C : Addr) (cl : List (Str × Addr)) (fp : List Addr), PD (X.blk s H scope (compEnvC scope cl C X.env) fp) g EXF elt te) (hs : ∀ x, foldedSetIterable iter X.env x = pure x := by intro _; rfl) :
    PDN X g EX (.ListComp elt [⟨tg, iter, ifs, 0⟩] scope pos) (nComp ri gr tt te (own.map (·.2))) :=
  ⟨(pe_lc hc hN hi.pi ok (fun s H C cl fp => (hg s H C cl fp).pg) (fun s H C cl fp => (ht s H C cl fp).pt) (fun s H C cl fp => (he s H C cl fp).pe) hs).imp fun σ H Q h => lcD h⟩
/-- name = [..], owned -/
theorem pds_setLc {i : Nat} {y : Str} {py spos : Pos} {elt : Expr} {ifs : List Expr} {scope : Scope} {own : List (Str × Nat)} (hc : X.calm = true) (hN : X.N.Nodup) (hy : X.N[i]? = some y) (hyl : X.env.scope.names.lookup y = some .local)
    (hsw : swapsWith (.ListComp elt [⟨tg, iter, ifs, 0⟩] scope pos) (some (.Name y py)) spos.line X.env = pure true) (hi : PDI X g EX tg iter ri) (ok : BlkOk X.N X.env.scope scope own)
    (hg : ∀ (s : Shared) (H : Hp) (C : Addr) (cl : List (Str × Addr)) (fp : List Addr), PDGw (X.blk s H scope (compEnvC scope cl C X.env) fp) g (own.map (·.2)) tg gr) (ht : ∀ (s : Shared) (H : Hp) (C : Addr) (cl : List (Str × Addr)) (fp : List Addr), PDTs (X.blk s H scope (compEnvC scope cl C X.env) fp) g EXF ifs tt)
    (he : ∀ (s : Shared) (H : Hp) (C : Addr) (cl : List (Str × Addr)) (fp : List Addr), PD (X.blk s H scope (compEnvC scope cl C X.env) fp) g EXF elt te) (hs : ∀ x, foldedSetIterable iter X.env x = pure x := by intro _; rfl) :
    PDS X g EX (.Assign [.Name y py] (.ListComp elt [⟨tg, iter, ifs, 0⟩] scope pos) spos) (sSetN i (nComp ri gr tt te (own.map (·.2)))) :=
  ⟨(ps_setLc (i := i) hc hN hy hyl hsw hi.pi ok (fun s H C cl fp => (hg s H C cl fp).pg) (fun s H C cl fp => (ht s H C cl fp).pt) (fun s H C cl fp => (he s H C cl fp).pe) hs).imp fun De σ H h => by
  obtain ⟨A, ρ, DD, S, h, k⟩ := h
  have h2 : lN X.K g EX (nComp ri gr tt te (own.map (·.2))) σ H (fun x H1 => gName i x σ H1 De.nx) := ⟨A, ρ, _, _, S, h, fun l xs p A1 H1 x1 hp da q => k.nx _ _ _ _ ((S.ext x1).setOw hp da) (List.length_set ..) x1.mono q, k.cx S⟩
  exact lcD h2⟩
end
end My
namespace My
open PySem PySem.Spec PyProof.Rows L2
/-! ### raising -/
theorem Ext.same {K : PySem.W.Frag} {so : Option Addr} {A H H' : Hp} (gd : Good K so A H) (x : Sub H H') : Ext K so A H A H' :=
  ⟨⟨fun b o e => x b o (gd.sub b o e), fun s e => let ⟨h1, L, ns, p, a, b, c, d, h2, h3, r⟩ := gd.st s e; ⟨h1, L, ns, p, a, b, c, d, x _ _ h2, h3, r⟩⟩, fun _ _ h => h, fun b o _ h => x b o h, fun _ _ h => .inl h⟩
theorem FnOk_cx {P : Program} {w : World} {K : PySem.W.Frag} {mg : Str → Option Value} {base : Heap} {CX : CXT} {lv : Nat} {f : Addr} {fd : FuncData} {ps : List Str} {sp sp' : Sp} (F : FnOk P w K mg base CX0 lv f fd ps sp) (h : ∀ vs H Q E, sp' vs H Q E → sp vs H Q E) : FnOk P w K mg base CX lv f fd ps sp' :=
  ⟨fun vs H Q E q => F.len vs H Q E (h _ _ _ _ q), fun A outer s H args us vs Q E hr he hb hv hs => codeAny_mono (F.run A outer s H args us vs Q E hr he hb hv (h _ _ _ _ hs)) fun r s' z => by
    cases r with
    | error e => exact z.elim
    | ok fl => cases fl <;> exact z⟩
def IniEnd (a C : Addr) (fs : List (Str × V)) (H : Hp) (Q : VK) : Prop := ∀ (dx : Addr) (H' : Hp), H dx = none → dx ≠ a → H' a = some (exo a C (some dx)) → H' dx = some (exd dx fs) → (∀ b o, b ≠ a → H b = some o → H' b = some o) → Q .non H'
/-- an __init__ of n values that leaves the fields mk of them -/
def spIni (K : PySem.W.Frag) (C : Addr) (fs : List Str) (n : Nat) (mk : List V → List (Str × V)) : Sp := fun vs H Q _ => ∃ (a : Addr) (xs : List V), vs = .ref a :: xs ∧ xs.length = n ∧ OexC K C ∧ (∀ f ∈ fs, PySem.W.findIn K (.ref C) f = some none) ∧ H a = some (exo a C none) ∧ IniEnd a C (mk xs) H Q
theorem g_ost {σ : L2.St} {H : Hp} {D : Ends} {K : PySem.W.Frag} {f : Str} {to te : TE} (h : te σ H fun y H1 => to σ H1 fun x H2 => ∃ a C : Addr, x = .ref a ∧ OexC K C ∧ PySem.W.findIn K (.ref C) f = some none ∧
  ((H2 a = some (exo a C none) ∧ ∀ dx, H2 dx = none → dx ≠ a → D.nx σ (upd (upd H2 dx (exd dx [(f, y)])) a (exo a C (some dx)))) ∨
    ∃ (dx : Addr) (fs : List (Str × V)), H2 a = some (exo a C (some dx)) ∧ H2 dx = some (exd dx fs) ∧ fs.length ≤ 900 ∧ D.nx σ (upd H2 dx (exd dx ((f, y) :: fs))))) : tOst K f to te D σ H := h
theorem raiseN {K : PySem.W.Frag} {C : Addr} {fs : List Str} {n : Nat} {mk : List V → List (Str × V)} {xs ys : List V} {H : Hp} {Q : XK} (o : OexC K C) (hn : ∀ f ∈ fs, PySem.W.findIn K (.ref C) f = some none) (hl : (xs ++ ys).length = n) (hl2 : xs.length ≤ 1000) (q : ∀ d H', Same H H' → H d = none → H' d = some (.xd (mk (xs ++ ys))) → Q (.ref C) (some d) H') :
    xs.length ≤ 1000 ∧ ∀ a, H a = none → spIni K C fs n mk (.ref a :: (xs ++ ys)) (upd H a (exo a C none)) (fun v H2 => v = .non ∧ ∃ (d : Addr) (fs : List (Str × V)), H2 a = some (exo a C (some d)) ∧ H2 d = some (exd d fs) ∧ H d = none ∧ Q (.ref C) (some d) (upd (del H2 a) d (.xd fs))) (fun _ _ _ => False) := by
  refine ⟨hl2, fun a ha => ⟨a, xs ++ ys, rfl, hl, o, hn, upd_same, fun dx H' h1 h2 h3 h4 h5 => ⟨rfl, dx, _, h3, h4, ?_, q dx _ (fun b u hb => ?_) ?_ upd_same⟩⟩⟩
  · rw [upd_ne h2] at h1
    exact h1
  · rw [upd_ne h2] at h1
    rw [upd_ne (ne_of_none hb h1), del_ne (ne_of_none hb ha)]
    exact h5 b u (ne_of_none hb ha) (by rw [upd_ne (ne_of_none hb ha)]; exact hb)
  · rw [upd_ne h2] at h1
    exact h1
/-- what an own exception class of the program must have, for raising -/
structure Rz (K : PySem.W.Frag) (C : Addr) (fs : List Str) (n : Nat) (mk : List V → List (Str × V)) (mkD : List D → List D) : Prop where
  nf : ∀ f ∈ fs, PySem.W.findIn K (.ref C) f = some none
  o : OexC K C
  da : ∀ so A ds xs, ds.length = n → DaL K so A ds xs → ∃ us, mk xs = fs.zip us ∧ us.length = fs.length ∧ DaL K so A (mkD ds) us
def sRaise (C : Addr) (fs : List Str) (n : Nat) (mkD : List D → List D) (dd : List D) (t : DL) : DS := fun DD ρ => t ρ (fun ds => ds.length ≤ 1000 ∧ (ds ++ dd).length = n ∧ DD.ex ⟨C, fs, mkD (ds ++ dd)⟩) DD.ex
section
variable {X : Cx} {g : Gx} {EX : EXT} {e a b : Expr} {es : List Expr} {pos p pos' : Pos} {t : DL}
theorem pmkN0 {CXc : CXT} {nm : Str} {C fI : Addr} {lv : Nat} {fdI : FuncData} {psI : List Str} {spI : Sp} {ds : List Value} {dvs : List V} (T : OexC X.K C)
    (iC : PySem.W.findIn X.K (.ref C) "__init__" = some (some (.ref fI))) (tI : PySem.W.typeIn X.K (.ref fI) = some (.type "function"))
    (FI : FnOk X.prog X.w X.K X.mg X.base CXc lv fI fdI psI spI) (room : Room (lv + 1) X.A) (bnd : Binds X.K fdI psI ds) (dfl : Vals dvs ds) (px : Passes CXc X (fun _ _ _ => False)) (gl : Gl X nm) (gm : X.mg nm = some (.ref C))
    (nd : (nm == ("__debug__" : Str)) = false := by decide) :
    L2N.PMk X (.Call (.Name nm p) [] [] pos) (tMkO C spI dvs tNil) := by
  intro pins s σ H Q I rd
  have T' := T.cls
  obtain ⟨n0, n1, n2, n3, n4, n5, n6, n7, n8, n9, j0, j1, j2, j3, j5, lkC, rfs⟩ := T'
  refine wpAny_Call_Name_kw (ld_glob I gl gm ?_ nd)
  refine PySem.W.callWith_K0 I.kIn T.kC ?_
  show wpAny _ _ (call (.ref C) []) _ _ _
  obtain ⟨hp, gn, dr, tk, os⟩ := s
  have I1 := I
  generalize en : hp.objs.size + 1 = nx at *
  have le : hp.objs.size ≤ nx := by omega
  have fresh : H nx = none := I1.hok.fresh le
  have rd2 := rd.2 nx fresh
  have keep : ∀ b o, hp.get? b = some o → ((hp.push (PySem.W.kdv_tup [])).push (PySem.HandSPX.excO C hp.objs.size)).get? b = some o :=
    fun b o z => Heap.get?_push_of_some _ (Heap.get?_push_of_some _ z)
  have there : ((hp.push (PySem.W.kdv_tup [])).push (PySem.HandSPX.excO C hp.objs.size)).get? nx = some (PySem.HandSPX.excO C hp.objs.size) := by
    rw [← en]
    heap_get
  have I2 := I1.laid (t' := tk) (a := nx) (o := exo nx C none) (h' := (hp.push (PySem.W.kdv_tup [])).push (PySem.HandSPX.excO C hp.objs.size)) keep le (exo_ok there)
  have rel2 : Vals (V.ref nx :: dvs) (Value.ref nx :: ds) := .cons rfl dfl
  have rd2 : spI (V.ref nx :: dvs) _ _ _ := rd2
  have hlen : ([Value.ref nx] ++ ds).length = psI.length := by
    have q := rel2.length
    rw [FI.len _ _ _ _ rd2] at q
    exact q.symm
  have few : ([] : List Value).length ≤ sizeLine := by
    rw [sizeLine_eq]
    exact Nat.zero_le _
  refine wpAny_call ?_
  refine PySem.HandSPX.call_own F.excBase_ValueError (fun Y => PySem.HandSPX.refsVE_contains Y n4 rfs) (I1.kIn _ _ lkC) (PySem.W.looks_findIn I1.kIn iC) (fun self => PySem.W.bind_fn I1.kIn self tI) few ?_
  rw [en]
  refine codeAny_mono (FI.run _ X.stack _ _ ⟨[Value.ref nx], []⟩ (Value.ref nx :: ds) _ _ (fun _ _ _ => False) (room.make C [] []) (I2.env0.make C [] []) (bnd _ [Value.ref nx] I2.kIn hlen) rel2 rd2) fun r s' back => ?_
  cases r with
  | error er => exact px pins σ _ _ er s' I2 back
  | ok fl =>
    cases fl with
    | next => exact back.elim
    | brk => exact back.elim
    | cont => exact back.elim
    | ret u =>
      obtain ⟨v, H2, os2, bare2, un2, hok2, rv, ev, d, fs, ea, ed, hd1, q2⟩ := back
      subst ev
      obtain ⟨h2, g2, d2, t2, os'⟩ := s'
      obtain ⟨t0, G, J, kG, ge, hoe, na⟩ := mk_end0 (d2 := d2) (t2 := t2) I1 le keep un2 hok2 os2 bare2 ea ed hd1
      exact ⟨rv, nx, _, _, ⟨G, g2, d2, t2, os'⟩, _, .ref C, some d, rfl, J, kG, ge, hoe, ⟨rfl, rfl, fun ws hw => by cases hw; rfl⟩, rfl, rfl, na, rfl, bare2, raises_own T.exC T.tyC, q2⟩
variable {nm : Str} {C fI : Addr} {lv n : Nat} {fdI : FuncData} {psI fs : List Str} {mk : List V → List (Str × V)} {mkD : List D → List D} {dus : List Value} {dvs : List V} {dd : List D}
theorem pds_raise (R : Rz X.K C fs n mk mkD) (hc : X.calm = true) (tk : L2N.Takes X (fun c d σ H => EX σ c d H))
    (iC : PySem.W.findIn X.K (.ref C) "__init__" = some (some (.ref fI))) (tI : PySem.W.typeIn X.K (.ref fI) = some (.type "function"))
    (FI : FnOk X.prog X.w X.K X.mg X.base CX0 lv fI fdI psI (spIni X.K C fs n mk)) (room : Room (lv + 1) X.A) (bnd : Binds X.K fdI psI dus) (dfl : Vals dvs dus) (hd : ∀ so A, DaL X.K so A dd dvs) (gl : Gl X nm) (gm : X.mg nm = some (.ref C)) (args : PDA X g EX (e :: es) t)
    (nd : (nm == ("__debug__" : Str)) = false := by decide) (st1 : starEach (e :: es) X.env = (false, eval e X.env) :: starEach es X.env := by rfl) (st2 : (backTo pos (starEach es X.env)).any (·.1) = false := by rfl) :
    PDS X g EX (.Raise (some (.Call (.Name nm p) (e :: es) [] pos)) none pos') (sRaise C fs n mkD dd t) := ⟨(L2N.ps_raise hc tk (pmkN R.o iC tI FI room bnd dfl pass0 gl gm args.pa nd st1 st2)).imp fun De σ H h => by
  obtain ⟨A, ρ, DD, S, h, k⟩ := h
  refine ⟨A, ρ, _, _, S, h, fun ds vs A1 H1 x1 das q => ?_, k.cx S⟩
  obtain ⟨q0, q1, q2⟩ := q
  have da := das.app (hd _ _)
  obtain ⟨us, e1, e2, d2⟩ := R.da g.so A1 _ _ q1 da
  refine raiseN R.o R.nf (by rw [da.len]; exact q1) (by rw [das.len]; exact q0) fun d H' sm hn hx => ?_
  rw [e1] at hx
  have x2 := Ext.same x1.good sm
  exact k.ex σ S.e.len ⟨C, fs, _⟩ d A1 H' us ((S.x.trans x1).trans x2) ((S.x.trans x1).fresh hn) hx e2 d2 q2⟩
theorem pds_raise0 (R : Rz X.K C fs n mk mkD) (hc : X.calm = true) (tk : L2N.Takes X (fun c d σ H => EX σ c d H))
    (iC : PySem.W.findIn X.K (.ref C) "__init__" = some (some (.ref fI))) (tI : PySem.W.typeIn X.K (.ref fI) = some (.type "function"))
    (FI : FnOk X.prog X.w X.K X.mg X.base CX0 lv fI fdI psI (spIni X.K C fs n mk)) (room : Room (lv + 1) X.A) (bnd : Binds X.K fdI psI dus) (dfl : Vals dvs dus) (hd : ∀ so A, DaL X.K so A dd dvs) (gl : Gl X nm) (gm : X.mg nm = some (.ref C))
    (nd : (nm == ("__debug__" : Str)) = false := by decide) :
    PDS X g EX (.Raise (some (.Call (.Name nm p) [] [] pos)) none pos') (sRaise C fs n mkD dd lNil) := ⟨(L2N.ps_raise hc tk (pmkN0 R.o iC tI FI room bnd dfl pass0 gl gm nd)).imp fun De σ H h => by
  obtain ⟨A, ρ, DD, S, h, k⟩ := h
  obtain ⟨q0, q1, q2⟩ := h
  have da := hd g.so A
  obtain ⟨us, e1, e2, d2⟩ := R.da g.so A _ _ q1 da
  refine raiseN (xs := []) R.o R.nf (by rw [List.nil_append, da.len]; exact q1) (Nat.zero_le _) fun d H' sm hn hx => ?_
  rw [List.nil_append, e1] at hx
  have x2 := Ext.same S.good sm
  exact k.ex σ S.e.len ⟨C, fs, _⟩ d A H' us (S.x.trans x2) (S.x.fresh hn) hx e2 d2 q2⟩
end
/-! ### try .. except FrameError as e: return g(e) -/
def spXD (K : PySem.W.Frag) (m : XD → (D → Prop) → Prop) (a : Addr) (cls : Value) (d : Option Addr) : Sp := fun vs H Q _ => ∃ so A x dx us Qd, vs = [.ref a] ∧ cls = .ref x.C ∧ d = some dx ∧ Good K so A H ∧ A dx = some (.xd (x.fs.zip us)) ∧ us.length = x.fs.length ∧ DaL K so A x.vs us ∧ m x Qd ∧ Cont K so A H Qd Q
def sTry (i : Nat) (rb : DS) (okC : Addr → Prop) (mX : XD → (D → Prop) → Prop) : DS := fun DD ρ => i < ρ.length ∧ rb { DD with ex := fun x => okC x.C ∧ mX x DD.rt } ρ
section
variable {X : Cx} {g : Gx} {EX : EXT} {pos np p1 p2 p3 p4 pos' : Pos} {x n gn : Str} {i lv : Nat} {CF f : Addr} {fd : FuncData} {ps : List Str} {body : List Stmt} {rb : DS} {mX : XD → (D → Prop) → Prop}
theorem pds_tryE (hs : X.stack = X.env :: X.outer) (hf : X.env.frame = some X.env.locals) (hN : X.N.Nodup) (hi : X.N[i]? = some n) (hln : X.env.kindOf n = some .local) (hc : Names X x (.ref CF))
    (hb : ∀ (W : WX) (pn : List (Addr × Obj)) (xe : Value → Shared → Prop), L2N.Takes (X.tr pn xe) (fun c d σ H => (fun σ c d H => W c d σ H : EXT) σ c d H) → PassesOwn (model X.prog X.w) X.A X.env xe → PDSs (X.tr pn xe) g (fun σ c d H => W c d σ H) body rb)
    (G : FnE X.prog X.w X.K X.mg X.base lv f fd ps (fun q => spXD X.K mX q.1 q.2.cls q.2.dict)) (room : Room lv X.A) (gl : Gl X gn) (gm : X.mg gn = some (.ref f)) (kp : PySem.W.keepIn X.K (.ref f) = true) (bnd : Binds X.K fd ps [])
    (hv : ∀ (a : Addr) (pn : List (Addr × Obj)), PE (X.suite a pn) (.Name n p2) (tVar i))
    (nd : (gn == ("__debug__" : Str)) = false := by decide) (st1 : ∀ (a : Addr) (pn : List (Addr × Obj)), starEach [.Name n p2] (X.suite a pn).env = (false, eval (.Name n p2) (X.suite a pn).env) :: starEach [] (X.suite a pn).env := by intro _ _; rfl) :
    PDS X g EX (.Try body [.ExceptHandler (some (.Name x np)) (some n) [.Return (some (.Call (.Name gn p1) [.Name n p2] [] p3)) p4] pos'] [] [] pos) (sTry i rb (fun C => PySem.W.exmOne X.K (.ref C) (.ref CF) = some true) mX) := by
  have main := L2N.ps_try_as (pos := pos) (pos' := pos') (np := np) (i := i) (tb := fun W => lS X.K g (fun σ c d H => W c d σ H) rb) (ts := fun a cls d => tRet (tCallS (spXD X.K mX a cls d) (fun _ => E0) (tCons (tVar i) tNil))) hs hf hN hi hln hc takesN0
    (fun W pn xe tk po => (hb W pn xe tk po).pss) (fun a oe cls d pn hz hfl => by
      obtain ⟨h1, h2, h3⟩ := hz
      subst h1 h2
      exact pss_one (ps_ret (pos := p4) (pe_callE (X := X.suite a ((a, oe) :: pn)) (p := p1) (pos := p3) G (L2H.roomH_mark room _) ⟨rfl, hfl.elim fun vs e => ⟨vs, e, h3 vs e⟩⟩ (List.mem_cons_self ..) gl gm kp bnd (pa_cons (hv a _) pa_nil (st1 a _)) nd (st1 a _) rfl)))
  refine ⟨main.imp fun De σ H h => ?_⟩
  obtain ⟨A, ρ, DD, S, ⟨hi2, h⟩, k⟩ := h
  refine ⟨A, ρ, _, S, h, ⟨k.nx, k.rt, k.bk, k.ct, fun σ1 l1 z dx A1 H1 us x1 hn hx hl da q => ?_, k.fr⟩⟩
  refine ⟨true, q.1, fun _ a0 na => ?_, fun e => by cases e⟩
  have nso : g.so ≠ some dx := fun w => by
    obtain ⟨_, _, _, _, _, _, _, _, h5, _⟩ := x1.good.st dx w
    rw [hx] at h5
    cases h5
  obtain ⟨A2, y, sb, hA⟩ : ∃ A2, Ext X.K g.so g.Ai g.Hi A2 H1 ∧ Sub A1 A2 ∧ A2 dx = some (.xd (z.fs.zip us)) := by
    cases e : A1 dx with
    | none => exact ⟨_, x1.frz hn e hx nso, fun b o w => by rw [upd_ne (ne_of_none w e)]; exact w, upd_same⟩
    | some o =>
      have w := x1.good.sub dx o e
      rw [hx] at w
      cases w
      exact ⟨A1, x1, fun _ _ w => w, e⟩
  refine ⟨.ref a0, List.getElem?_set_self (by rw [l1]; exact hi2), g.so, A2, z, dx, us, DD.rt, rfl, rfl, rfl, y.good, hA, hl, DaL.mono sb _ _ da, q.2, fun d v A3 H3 x2 d2 q2 => ?_⟩
  exact k.rt A3 H3 d v (y.trans x2) d2 q2
end
/-! ### fields -/
def mk1 (f : Str) : List V → List (Str × V)
  | [x] => [(f, x)]
  | _ => []
theorem mk1_da {f : Str} {K : PySem.W.Frag} (so : Option Addr) (A : Hp) (ds : List D) (xs : List V) (hl : ds.length = 1) (h : DaL K so A ds xs) : ∃ us, mk1 f xs = [f].zip us ∧ us.length = [f].length ∧ DaL K so A (id ds) us := by
  match ds, hl with
  | [d], _ =>
    obtain ⟨v, rfl, dv⟩ := h.one'
    exact ⟨[v], rfl, rfl, DaL.one dv⟩
def mk3 (f1 f2 f3 : Str) : List V → List (Str × V)
  | [x, y, z] => [(f3, z), (f2, y), (f1, x)]
  | _ => []
def rev3 : List D → List D
  | [x, y, z] => [z, y, x]
  | l => l
theorem mk3_da {f1 f2 f3 : Str} {K : PySem.W.Frag} (so : Option Addr) (A : Hp) (ds : List D) (xs : List V) (hl : ds.length = 3) (h : DaL K so A ds xs) : ∃ us, mk3 f1 f2 f3 xs = [f3, f2, f1].zip us ∧ us.length = [f3, f2, f1].length ∧ DaL K so A (rev3 ds) us := by
  match ds, hl with
  | [d1, d2, d3], _ =>
    obtain ⟨v, r, rfl, dv, h2⟩ := h
    obtain ⟨u, w, rfl, du, dw⟩ := h2.two'
    exact ⟨[w, u, v], rfl, rfl, w, [u, v], rfl, dw, u, [v], rfl, du, DaL.one dv⟩
/-! ### the store -/
theorem StoOk.store {K : PySem.W.Frag} {so : Option Addr} {A H : Hp} {s : Addr} (gd : Good K so A H) (e : so = some s) : Store K H s := by
  obtain ⟨h1, L, ns, p, a, b, c, d, h2, h3, q1, q2, q3, q4, q5, q6⟩ := gd.st s e
  refine ⟨L, ns, p, a, b, c, d, ⟨h2, fun z => ?_, .inl (.inl (gd.sub _ _ h3)), q1, q2, q3, q4, q5, q6⟩⟩
  rw [z, h1] at h3
  cases h3
theorem Ext.store {K : PySem.W.Frag} {so : Option Addr} {A H H' : Hp} {s : Addr} (gd : Good K so A H) (e : so = some s) (x : Sx s H H') (st : Store K H' s) : Ext K so A H A H' := by
  refine ⟨⟨fun b o h => ?_, fun s' e' => ?_⟩, fun _ _ h => h, fun b o n h => ?_, fun _ _ h => .inl h⟩
  · have n : b ≠ s := fun z => by
      rw [z, (gd.st s e).1] at h
      cases h
    exact x.kp b o n (gd.sub b o h)
  · rw [e] at e'
    cases e'
    obtain ⟨h1, L, ns, p, a, b, c, d, h2, h3, q⟩ := gd.st s e
    obtain ⟨ys, h4⟩ := x.ce L _ h2
    obtain ⟨L', ns', p', a', b', c', d', z⟩ := st
    have z1 := z.at_
    rw [h4] at z1
    cases z1
    exact ⟨h1, L, ns, p', a', b', c', d', h4, h3, z.p0, z.a0, z.b0, z.c0, z.c1, q.2.2.2.2.2⟩
  · exact x.kp b o (fun z => n (by rw [e, z])) h
/-- a draw -/
def mTake : DF := fun ds Q _ => match ds with
  | [.sto, .int many] => many < BIG ∧ ∀ r : Int, 0 ≤ r → (r = 0 ∨ r < many) → Q (.int r)
  | _ => False
end My
namespace My
open PySem PySem.Spec PyProof.Rows L2
/-! ### a list's end, and list comprehensions, while an exception is handled -/
section
variable {prog : Program} {w : World} {A : Around} {E : Value → Shared → Prop} {s : Shared}
theorem list_end_hot {it l z : Addr} {i : Nat} {items : Array Value} {Q : Option Value → Shared → Prop} (hot : HotX.HotAt A z s.heap) (nz : z ≠ it) (ti : s.heap.IsListIter it l i) (tl : s.heap.IsList l items) (e : items[i]? = none)
    (q : ∀ h', (∀ b o, b ≠ it → s.heap.get? b = some o → h'.get? b = some o) → Q none { s with heap := h' }) : wpAny (model prog w) A (pyNext (.ref it)) Q E s := by
  obtain ⟨u, gu, cu, du⟩ := id ti
  obtain ⟨ul, gl, _, nl, dl⟩ := tl
  obtain ⟨hh, o1, vs1, g1, d1, c1⟩ := hot
  unfold pyNext
  refine wpAny_bind (wpAny_attempt (wpAny_callSpecial?_slot (name := Str.ofString "__next__") ti.typeIs slot_listiter_next (wpAny_call_entry slot_listiter_next ti.typeIs entry_listiter_next ?_ (args_listiter_next _))))
  show wpAny _ A.in1 (field (.ref it) 0 >>= _) _ _ s
  refine wpAny_bind (wpAny_field gu du (x := Value.ref l) rfl ?_)
  rw [if_neg (show ¬ (Value.ref l == Value.none) = true by exact Bool.false_ne_true)]
  refine wpAny_bind (wpAny_field gu du (x := Value.int i 0) rfl (wpAny_bind (wpAny_seqItems gl dl ?_)))
  simp only [e, Int.toNat_natCast]
  refine wpAny_bind (wpAny_rule (wpAny_bind (wpAny_setField gu du (by simp) ?_)))
  generalize hk : s.heap.update it (Obj.mapFields fun x => x.setIfInBounds 0 Value.none) = h1
  have kp : ∀ b o, b ≠ it → s.heap.get? b = some o → h1.get? b = some o := fun b o n g => by
    rw [← hk, Heap.get?_update_other _ _ (Ne.symm n)]
    exact g
  have g2 := kp z o1 nz g1
  unfold Builtin.SmallTypes.stopIteration
  refine wpAny_bind ?_
  simp only [newTuple, newExc]
  refine wpAny_bind (wpAny_newObj_type (wpAny_bind (m := firstArgMember _ _) (wpAny_of_eq (a := Value.none) (by first | rfl | (simp only [firstArgMember]; rfl)) (wpAny_newObj_type ?_ (by size_fits)))) (by size_fits))
  refine HotX.raiseNew_hot ⟨hh, o1, vs1, Heap.get?_push_of_some _ (Heap.get?_push_of_some _ g2), d1, c1⟩ (Nat.ne_of_lt (Heap.lt_size (Heap.get?_push_of_some _ g2))) (Heap.get?_push_size _ rfl) rfl (by first | (simp; done) | (simp; omega)) ?_
  refine wpAny_bind (wpAny_isInstance (T := "StopIteration") (b := true) ⟨_, Heap.get?_update_self _ (Heap.get?_push_size _ rfl) rfl, rfl⟩ isSubtype_stop (wpAny_pure (q _ fun b o n g => ?_)))
  have g3 := kp b o n g
  rw [Heap.get?_update_other _ _ (Nat.ne_of_gt (Heap.lt_size (Heap.get?_push_of_some _ g3)))]
  exact Heap.get?_push_of_some _ (Heap.get?_push_of_some _ g3)
end
section
variable {X : Cx} {pins : List (Addr × Obj)} {σ : L2.St} {H : Hp} {s : Shared} {Q : VK} {elt tg iter : Expr} {ifs : List Expr} {scope : Scope} {own : List (Str × Nat)} {pos : Pos} {g : TG} {tt : TT} {te : TE}
theorem lc_rest {a it : Addr} {use : Option (Value → Sem Unit)} {Qf : Value → Shared → Prop} (hot : L2H.HotC X) (hN : X.N.Nodup) (I : Inv X pins σ H s) (ti : s.heap.IsListIter it a 0) (fi : FpOk X pins H it) (ok : BlkOk X.N X.env.scope scope own)
    (hg : ∀ (s : Shared) (H : Hp) (C : Addr) (cl : List (Str × Addr)) (fp : List Addr), PG (X.blk s H scope (compEnvC scope cl C X.env) fp) tg g)
    (ht : ∀ (s : Shared) (H : Hp) (C : Addr) (cl : List (Str × Addr)) (fp : List Addr), PTs (X.blk s H scope (compEnvC scope cl C X.env) fp) ifs tt)
    (he : ∀ (s : Shared) (H : Hp) (C : Addr) (cl : List (Str × Addr)) (fp : List Addr), PE (X.blk s H scope (compEnvC scope cl C X.env) fp) elt te)
    (q : ∀ D, H D = none → ∃ W : Nat → Nat → Hp → Prop, (∃ m, W 0 m (upd H D (.lst []))) ∧ ∀ i m H, W i m H → ((Itl X.K a).stop i H ∧ Q (.ref D) H) ∨
      ((Itl X.K a).go i H ∧ ∃ Nx : Hp → Prop, (∀ H', Nx H' → ∃ m', m' < m ∧ W (i + 1) m' H') ∧ ∀ x H', (Itl X.K a).yld i H x H' → g x (wipe σ (own.map (·.2))) H' fun σ2 H2 => wipe σ2 (own.map (·.2)) = wipe σ (own.map (·.2)) ∧
        tt σ2 H2 fun b H3 => if b = true then te σ2 H3 fun y H4 => ∃ acc, H4 D = some (.lst acc) ∧ acc.length < sizeLine ∧ Nx (upd H4 D (.lst (acc ++ [y]))) else Nx H3))
    (fit : ∀ D C s' m H', Inv X pins σ H' s' → Q (.ref D) H' → s'.heap.Ns C m → FpOk X pins H' C → compPost (model X.prog X.w) X.A X.xe use Qf (.ref D) C (.ok .next) s') :
    wpAny (model X.prog X.w) X.A (newList []) (fun acc s3 => wpAny (model X.prog X.w) X.A (newFunctionEnv scope X.env.globals (cloFrom X.env.cells scope.names []) [] X.env.qual none .none (some X.env)) (fun cenv s4 =>
      codeAny (model X.prog X.w) X.A (.compStart (.ListComp elt [⟨tg, iter, ifs, 0⟩] scope pos) 0 (.ref it) acc { cenv with scope := relabel scope X.env })
        (compPost (model X.prog X.w) X.A X.xe use Qf acc cenv.locals) s4) X.xe s3) X.xe s := by
  refine wpAny_newObj_type (newEnv_comp ?_) (show (0 : Nat) ≤ sizeLine by decide)
  obtain ⟨D, eD⟩ : ∃ D, s.heap.objs.size = D := ⟨_, rfl⟩
  rw [eD]
  have nD : H D = none := I.hok.fresh (Nat.le_of_eq eD)
  obtain ⟨W, ⟨m0, w0⟩, turn⟩ := q D nD
  obtain ⟨ou, gu, cu, du⟩ := id ti
  have lit : it < s.heap.objs.size := Heap.lt_size gu
  generalize e3 : ({ s with heap := s.heap.push { cls := .type "list", data := .seq ([] : List Value).toArray } } : Shared) = s3
  have h3 : s3.heap = s.heap.push { cls := .type "list", data := .seq ([] : List Value).toArray } := e3 ▸ rfl
  have I3 : Inv X pins σ (upd H D (.lst [])) s3 := by
    rw [← e3]
    exact I.laid (t' := s.toks) (fun b o z => Heap.get?_push_of_some _ z) (Nat.le_of_eq eD) ⟨Nat.zero_le _, [], 0, .nil, by rw [← eD]; exact Heap.get?_push_size _ rfl⟩
  have fi3 : FpOk X pins (upd H D (.lst [])) it := ⟨by rw [upd_ne (by rw [← eD]; exact Nat.ne_of_lt lit)]; exact fi.1, fi.2⟩
  have ti3 : s3.heap.IsListIter it a 0 := ⟨ou, by rw [h3]; exact Heap.get?_push_of_some _ gu, cu, du⟩
  have I4 := block_start (fp := [it]) I3 ok hN fun b hb => by
    rw [List.mem_singleton.mp hb]
    exact ⟨fi3, by rw [h3, Heap.size_push]; exact Nat.lt_succ_of_lt lit⟩
  obtain ⟨cl, ecl⟩ : ∃ cl, cellsFrom (s3.heap.objs.size + 1) scope.names (cloFrom X.env.cells scope.names []) = cl := ⟨_, rfl⟩
  show codeAny _ _ (.compStart (.ListComp elt [⟨tg, iter, ifs, 0⟩] scope pos) 0 (.ref it) (.ref D) (compEnvC scope (cellsFrom (s3.heap.objs.size + 1) scope.names (cloFrom X.env.cells scope.names [])) s3.heap.objs.size X.env))
    (compPost (model X.prog X.w) X.A X.xe use Qf (.ref D) s3.heap.objs.size) { s3 with heap := pushCells (s3.heap.push { cls := .type "dict", data := .dict #[] }) scope.names }
  rw [ecl] at I4 ⊢
  have pg := hg s3 (upd H D (.lst [])) s3.heap.objs.size cl [it]
  have pt := ht s3 (upd H D (.lst [])) s3.heap.objs.size cl [it]
  have pe := he s3 (upd H D (.lst [])) s3.heap.objs.size cl [it]
  have ti4 : Heap.IsListIter (pushCells (s3.heap.push { cls := .type "dict", data := .dict #[] }) scope.names) it a 0 := ⟨ou, pushCells_keeps _ _ _ _ (Heap.get?_push_of_some _ (by rw [h3]; exact Heap.get?_push_of_some _ gu)), cu, du⟩
  -- the exception that is handled
  obtain ⟨⟨z, zo⟩, ⟨hh, zv, dz, cz⟩, hz⟩ := hot
  obtain ⟨gz, nz, nzL, nzF, _⟩ := I3.pin (z, zo) (List.mem_append_left _ hz)
  have zit : z ≠ it := fi.2.2.2.2.2 (z, zo) (List.mem_append_left _ hz)
  have zst : z ∉ frs X.stack := fun hm => (List.mem_cons.mp (I3.stkSub z hm)).elim nzL nzF
  generalize hce : compEnvC scope cl s3.heap.objs.size X.env = ce at I4 pg pt pe ⊢
  have cL : ce.locals = s3.heap.objs.size := by subst hce; rfl
  generalize hH3 : upd H D (.lst []) = H3 at I3 I4 pg pt pe w0 fi3 nz
  generalize hs4 : ({ s3 with heap := pushCells (s3.heap.push { cls := .type "dict", data := .dict #[] }) scope.names } : Shared) = s4 at I4 ⊢
  have ti4 : s4.heap.IsListIter it a 0 := by
    rw [← hs4]
    exact ti4
  have fpo : ∀ {σ' : L2.St} {H' : Hp} {s' : Shared}, Inv (X.blk s3 H3 scope ce [it]) [] σ' H' s' → H' it = none → FpOk (X.blk s3 H3 scope ce [it]) [] H' it := fun {σ' H' s'} J n =>
    have m : it ∈ [it] := List.mem_singleton.mpr rfl
    ⟨n, (J.ok.exf it m).1, J.ok.exfs it m, .inl m, fun x c e => (J.ok.exf it m).2 x c e, fun p hp => by cases hp⟩
  have loop : codeAny (model X.prog X.w) X.A (.compLoop (.ListComp elt [⟨tg, iter, ifs, 0⟩] scope pos) 0 (.ref it) (.ref D) ce) (compPost (model X.prog X.w) X.A X.xe use Qf (.ref D) s3.heap.objs.size) s4 := by
    refine compLoop_any (fun n s' => ∃ i H', Inv (X.blk s3 H3 scope ce [it]) [] (wipe σ (own.map (·.2))) H' s' ∧ s'.heap.IsListIter it a i ∧ H' it = none ∧ W i n H') ?_ m0 ⟨0, H3, I4, ti4, fi3.1, w0⟩
    rintro n s5 ⟨i, H5, I5, ti5, n5, w5⟩
    obtain ⟨f0, f1, f2, f3, f4, f5⟩ := fpo I5 n5
    rcases turn i n H5 w5 with ⟨⟨xs, hq, hx⟩, qq⟩ | ⟨⟨xs, x, hq, hx⟩, Nx, hNx, step⟩
    · obtain ⟨its, rv, p, hz5⟩ := I5.list hq
      have hl := rv.length
      have g5 : s5.heap.get? z = some zo := I5.base.keep z zo gz nz zst fun hm => zit (List.mem_singleton.mp hm)
      refine list_end_hot ⟨hh, zo, zv, g5, dz, cz⟩ zit ti5 p.isList (by simp; omega) fun h' kb => ?_
      have I6 : Inv (X.blk s3 H3 scope ce [it]) [] (wipe σ (own.map (·.2))) H5 { s5 with heap := h' } := I5.turned (t' := s5.toks) kb f0 f1 f3 f4 f5
      have I7 : Inv X pins σ H5 { s5 with heap := h' } := I3.call' (ch := [it]) I6.os I6.base I6.hok I6.bare fun b hb => by
        rw [List.mem_singleton.mp hb]
        exact ⟨fi3.2.2.2.1, fi3.2.1, fi3.2.2.2.2.1, fi3.2.2.2.2.2⟩
      have nC : H5 s3.heap.objs.size = none := by
        have y : H5 ce.locals = none := I6.free
        rw [cL] at y
        exact y
      obtain ⟨m, hn, _⟩ := I6.loc
      have hn : Heap.Ns h' ce.locals m := hn
      rw [cL] at hn
      exact fit D s3.heap.objs.size _ m H5 I7 qq hn (I3.fpOk (Nat.le_refl _) nC)
    · obtain ⟨its, rv, p, hz5⟩ := I5.list hq
      obtain ⟨u, hu, ru⟩ := rv.get hx
      refine wpAny_pyNext_list_item ti5 p.isList (x := u) (by simpa using hu) fun h' ti6 sb => ?_
      have I6 : Inv (X.blk s3 H3 scope ce [it]) [] (wipe σ (own.map (·.2))) H5 { s5 with heap := h' } := I5.turned (t' := s5.toks) (fun b o hb e => (sb.2 b hb).trans e) f0 f1 f3 f4 f5
      obtain ⟨o6, g6, k6, d6⟩ := id ti6
      have ob : ∀ b ∈ [it], ∃ o, h'.get? b = some o ∧ ∀ v, o.data ≠ .cell v := fun b hb => by
        rw [List.mem_singleton.mp hb]
        exact ⟨o6, g6, fun v y => by rw [d6] at y; cases y⟩
      have I7 := I6.pinned (fp := [it]) (fun b hb => by rw [List.mem_singleton.mp hb]; exact fpo I6 n5) ob
      refine go_of (s := { s5 with heap := h' }) g6 k6 d6 (by decide) ?_
      refine thnF (pg.run _ _ _ H5 x u _ I7 ru (step x H5 ⟨rfl, fun ys hy => by rw [I5.list_inj hy hq]; exact hx⟩)) fun _ s8 ⟨σ8, H8, I8, hw8, q8⟩ => ?_
      refine thnF (pt.run _ s8 σ8 H8 _ I8 q8) fun b s9 ⟨H9, I9, q9⟩ => ?_
      have fin : ∀ {s' : Shared} {H' : Hp}, Inv (X.blk s3 H3 scope ce [it]) ([] ++ pinsAt [it] h') σ8 H' s' → Nx H' → ∃ m, m < n ∧ ∃ i H', Inv (X.blk s3 H3 scope ce [it]) [] (wipe σ (own.map (·.2))) H' s' ∧ s'.heap.IsListIter it a i ∧ H' it = none ∧ W i m H' := fun {s' H'} J nx => by
        obtain ⟨m', hm, w'⟩ := hNx H' nx
        obtain ⟨p1, p2, _⟩ := J.pin (it, o6) (List.mem_append_right _ (List.mem_append_right _ (mem_pinsAt (List.mem_singleton.mpr rfl) g6)))
        refine ⟨m', hm, i + 1, H', J.unpinned.weak (by rw [← wipe_length σ8 (own.map (·.2)), hw8]) (fun j v e => ?_), ⟨o6, p1, k6, d6⟩, p2, w'⟩
        rw [← hw8] at e
        exact (wipe_some e).1
      cases b with
      | false => exact fin I9 (by simpa using q9)
      | true =>
        have q9 := outT q9
        refine thnF (pe.run _ s9 σ8 H9 _ I9 q9) fun y s10 ⟨yv, H10, I10, r10, acc, hD10, hz10, nx⟩ => ?_
        exact app_ok (X := X.blk s3 H3 scope ce [it]) I10 hD10 hz10 r10 fun s11 I11 => fin I11 nx
  exact codeAny_compStart_list loop (wpAny_pyIter_listiter ti4 loop)
end
section
variable {X : Cx} {elt tg iter : Expr} {ifs : List Expr} {scope : Scope} {own : List (Str × Nat)} {pos : Pos} {g : TG} {tt : TT} {te ti : TE}
theorem lc_hot {pins : List (Addr × Obj)} {s : Shared} {σ : L2.St} {H : Hp} {Q : VK} {pos' : Pos} {use : Option (Value → Sem Unit)} {Qf : Value → Shared → Prop} (hot : L2H.HotC X) (hN : X.N.Nodup) (I : Inv X pins σ H s) (hi : PE X iter ti) (ok : BlkOk X.N X.env.scope scope own)
    (hg : ∀ (s : Shared) (H : Hp) (C : Addr) (cl : List (Str × Addr)) (fp : List Addr), PG (X.blk s H scope (compEnvC scope cl C X.env) fp) tg g)
    (ht : ∀ (s : Shared) (H : Hp) (C : Addr) (cl : List (Str × Addr)) (fp : List Addr), PTs (X.blk s H scope (compEnvC scope cl C X.env) fp) ifs tt)
    (he : ∀ (s : Shared) (H : Hp) (C : Addr) (cl : List (Str × Addr)) (fp : List Addr), PE (X.blk s H scope (compEnvC scope cl C X.env) fp) elt te) (hs : ∀ x, foldedSetIterable iter X.env x = pure x)
    (rd : tLc (iList X.K ti) g tt te (own.map (·.2)) σ H Q)
    (fit : ∀ D C s' m H', Inv X pins σ H' s' → Q (.ref D) H' → s'.heap.Ns C m → FpOk X pins H' C → compPost (model X.prog X.w) X.A X.xe use Qf (.ref D) C (.ok .next) s') :
    wpAny (model X.prog X.w) X.A (comprehension (.ListComp elt [⟨tg, iter, ifs, 0⟩] scope pos) scope X.env pos' (newList []) false (eval iter X.env) use) Qf X.xe s := by
  refine wpAny_comprehension_free (use := use) rfl hs (closure_ok fun y hy e => (ok.free y hy e).elim (fun k => I.ok.has _ (.inl k)) fun k => I.ok.has _ (.inr k)) ok.kind (fun y hy e => by rw [ok.uniq y hy, e]) (thn (hi.run pins s σ H _ I rd) fun xv s1 got => ?_)
  obtain ⟨x, H1, I1, rx, a, ex, ⟨xs, hq⟩, q⟩ := got
  subst ex
  cases (show xv = Value.ref a from rx)
  obtain ⟨its, rv, pl, hz⟩ := I1.list hq
  refine wpAny_pyIter_list pl.isList (lc_rest hot hN (I1.kept (t' := s1.toks) fun b o e => Heap.get?_push_of_some _ e) ⟨_, Heap.get?_push_size _ rfl, rfl, rfl⟩ ?_ ok hg ht he q fit)
  exact I1.fpOk (Nat.le_refl _) (I1.hok.fresh (Nat.le_refl _))
theorem pe_lcH (hot : L2H.HotC X) (hN : X.N.Nodup) (hi : PE X iter ti) (ok : BlkOk X.N X.env.scope scope own)
    (hg : ∀ (s : Shared) (H : Hp) (C : Addr) (cl : List (Str × Addr)) (fp : List Addr), PG (X.blk s H scope (compEnvC scope cl C X.env) fp) tg g)
    (ht : ∀ (s : Shared) (H : Hp) (C : Addr) (cl : List (Str × Addr)) (fp : List Addr), PTs (X.blk s H scope (compEnvC scope cl C X.env) fp) ifs tt)
    (he : ∀ (s : Shared) (H : Hp) (C : Addr) (cl : List (Str × Addr)) (fp : List Addr), PE (X.blk s H scope (compEnvC scope cl C X.env) fp) elt te) (hs : ∀ x, foldedSetIterable iter X.env x = pure x) :
    PE X (.ListComp elt [⟨tg, iter, ifs, 0⟩] scope pos) (tLc (iList X.K ti) g tt te (own.map (·.2))) := by
  refine ⟨fun pins s σ H Q I rd => ?_⟩
  rw [eval_ListComp]
  refine lc_hot hot hN I hi ok hg ht he hs rd fun D C s' m H' J q hn f => ⟨m, hn, fun h8 sb => ?_⟩
  obtain ⟨c0, c1, c2, c3, c4, c5⟩ := f
  exact ⟨.ref D, H', J.turned (t' := s'.toks) (fun b o hb e => (sb.2 b hb).trans e) c0 c1 c3 c4 c5, rfl, q⟩
theorem ps_setLcH {i : Nat} {y : Str} {py spos : Pos} (hot : L2H.HotC X) (hN : X.N.Nodup) (hy : X.N[i]? = some y) (hyl : X.env.scope.names.lookup y = some .local)
    (hsw : swapsWith (.ListComp elt [⟨tg, iter, ifs, 0⟩] scope pos) (some (.Name y py)) spos.line X.env = pure true) (hi : PE X iter ti) (ok : BlkOk X.N X.env.scope scope own)
    (hg : ∀ (s : Shared) (H : Hp) (C : Addr) (cl : List (Str × Addr)) (fp : List Addr), PG (X.blk s H scope (compEnvC scope cl C X.env) fp) tg g)
    (ht : ∀ (s : Shared) (H : Hp) (C : Addr) (cl : List (Str × Addr)) (fp : List Addr), PTs (X.blk s H scope (compEnvC scope cl C X.env) fp) ifs tt)
    (he : ∀ (s : Shared) (H : Hp) (C : Addr) (cl : List (Str × Addr)) (fp : List Addr), PE (X.blk s H scope (compEnvC scope cl C X.env) fp) elt te) (hs : ∀ x, foldedSetIterable iter X.env x = pure x) :
    PS X (.Assign [.Name y py] (.ListComp elt [⟨tg, iter, ifs, 0⟩] scope pos) spos) (tAsg (tLc (iList X.K ti) g tt te (own.map (·.2))) (gName i)) := by
  refine ⟨fun pins s σ H D I rd => ?_⟩
  rw [exec_Assign_Name_used _ _ _ _ hsw]
  refine wpAny_bind (wpAny_standAt (wpAny_bind ?_))
  show wpAny _ X.A (do
    let _ ← comprehension (.ListComp elt [⟨tg, iter, ifs, 0⟩] scope pos) scope X.env (firstIterPos [⟨tg, iter, ifs, 0⟩] pos) (newList []) false (eval iter X.env) (some (assign (.Name y py) X.env))) _ _ s
  have rd : tLc (iList X.K ti) g tt te (own.map (·.2)) σ H (fun x H1 => gName i x σ H1 D.nx) := rd
  refine wpAny_bind (thn (lc_hot (Qf := fun _ s' => SP X pins D .next s') hot hN I hi ok hg ht he hs rd fun L C s' m H' J q hn f => ?_) fun _ s' hq => wpAny_pure (wpAny_pure hq))
  show wpAny _ _ (assign (.Name y py) X.env (Value.ref L)) _ _ s'
  obtain ⟨c0, c1, c2, c3, c4, c5⟩ := f
  refine wpAny_assign_Name (store_ok2 (v := V.ref L) J hN hy (.inl hyl) rfl (fun s2 I2 ⟨a, sb, ha⟩ => ?_) (.inr hyl))
  have nC : C ≠ a := ha.elim (fun z => by rw [z]; exact c1) fun z e => c4 y a z e.symm
  exact ⟨m, hn.sameBut sb nC, fun h3 sb3 => ⟨_, H', I2.turned (t' := s2.toks) (fun b o hb e => (sb3.2 b hb).trans e) c0 c1 c3 c4 c5, q⟩⟩
end
section
variable {X : Cx} {g : Gx} {EX : EXT} {tg iter elt : Expr} {ifs : List Expr} {scope : Scope} {own : List (Str × Nat)} {pos : Pos} {gr : DG} {tt : DT} {te r : DE}
theorem iL_list {σ : L2.St} {H : Hp} {R : It → Hp → Prop} (h : lI X.K g EX (iL r) σ H R) : iList X.K (lE X.K g EX r) σ H R := by
  obtain ⟨A, ρ, Qd, Ed, S, q, cx, k⟩ := h
  refine ⟨A, ρ, _, Ed, S, q, fun d v A1 H1 x1 da q => ?_, cx⟩
  have q : onL d Qd := q
  unfold onL at q
  split at q
  · obtain ⟨p, xs, rfl, hs, qa⟩ := da
    exact ⟨p, rfl, ⟨xs, SqL.of (x1.good.sub _ _ hs)⟩, k _ _ A1 H1 x1 (turns_list (SqL.of hs) qa) q⟩
  · exact q.elim
/-- name = [..], owned, while an exception is handled -/
theorem pds_setLcH {i : Nat} {y : Str} {py spos : Pos} (hot : L2H.HotC X) (hN : X.N.Nodup) (hy : X.N[i]? = some y) (hyl : X.env.scope.names.lookup y = some .local)
    (hsw : swapsWith (.ListComp elt [⟨tg, iter, ifs, 0⟩] scope pos) (some (.Name y py)) spos.line X.env = pure true) (hi : PD X g EX iter r) (ok : BlkOk X.N X.env.scope scope own)
    (hg : ∀ (s : Shared) (H : Hp) (C : Addr) (cl : List (Str × Addr)) (fp : List Addr), PDGw (X.blk s H scope (compEnvC scope cl C X.env) fp) g (own.map (·.2)) tg gr)
    (ht : ∀ (s : Shared) (H : Hp) (C : Addr) (cl : List (Str × Addr)) (fp : List Addr), PDTs (X.blk s H scope (compEnvC scope cl C X.env) fp) g EXF ifs tt)
    (he : ∀ (s : Shared) (H : Hp) (C : Addr) (cl : List (Str × Addr)) (fp : List Addr), PD (X.blk s H scope (compEnvC scope cl C X.env) fp) g EXF elt te)
    (hs : ∀ x, foldedSetIterable iter X.env x = pure x := by intro _; rfl) :
    PDS X g EX (.Assign [.Name y py] (.ListComp elt [⟨tg, iter, ifs, 0⟩] scope pos) spos) (sSetN i (nComp (iL r) gr tt te (own.map (·.2)))) :=
  ⟨(ps_setLcH (i := i) (te := lE X.K g EXF te) (tt := lT X.K g EXF tt) hot hN hy hyl hsw hi.pe ok (fun s H C cl fp => (hg s H C cl fp).pg) (fun s H C cl fp => (ht s H C cl fp).pt) (fun s H C cl fp => (he s H C cl fp).pe) hs).imp fun De σ H h => by
  obtain ⟨A, ρ, DD, S, h, k⟩ := h
  have h2 : lN X.K g EX (nComp (iL r) gr tt te (own.map (·.2))) σ H (fun x H1 => gName i x σ H1 De.nx) := ⟨A, ρ, _, _, S, h, fun l xs p A1 H1 x1 hp da q => k.nx _ _ _ _ ((S.ext x1).setOw hp da) (List.length_set ..) x1.mono q, k.cx S⟩
  exact iL_list (lcD h2)⟩
end
end My
namespace My
open PySem PySem.Spec PyProof.Rows L2
/-! ### the exception that is handled, over data -/
theorem zip_look {K : PySem.W.Frag} {so : Option Addr} {A : Hp} {n : Str} {d : D} : ∀ {fs : List Str} {vs : List D} {us : List V}, DaL K so A vs us → (fs.zip vs).lookup n = some d → ∃ v, (fs.zip us).lookup n = some v ∧ Da K so A d v
  | [], _, _, _, e => by cases e
  | _ :: _, [], _, _, e => by cases e
  | f :: fs, c :: vs, us, q, e => by
    obtain ⟨v, r, e1, h1, h2⟩ := q
    subst e1
    rw [List.zip_cons_cons, List.lookup_cons] at e ⊢
    cases hb : n == f with
    | true =>
      rw [hb] at e
      cases e
      exact ⟨v, rfl, h1⟩
    | false =>
      rw [hb] at e
      exact zip_look h2 e
section
variable {X : Cx} {g : Gx} {EX : EXT} {e c : Expr} {ra : DE} {pos p : Pos} {a : Addr} {oe : Obj} {x : XD} {dx : Addr} {us : List V}
/-- what is known of the exception -/
structure XK1 (X : Cx) (g : Gx) (a : Addr) (oe : Obj) (x : XD) (dx : Addr) (us : List V) : Prop where
  pn : (a, oe) ∈ X.pn
  hot : L2H.Hot1 X.A (a, oe)
  cls : oe.cls = .ref x.C
  dict : oe.dict = some dx
  at_ : g.Ai dx = some (.xd (x.fs.zip us))
  len : us.length = x.fs.length
  da : DaL X.K g.so g.Ai x.vs us
theorem XK1.fl (k : XK1 X g a oe x dx us) : ∃ vs, oe.data = .fields vs := k.hot.2.imp fun _ z => z.1
theorem XK1.hc (k : XK1 X g a oe x dx us) : L2H.HotC X := ⟨(a, oe), k.hot, k.pn⟩
def dIsP (K : PySem.W.Frag) (x : XD) (a : Addr) (cv : Value) (ra : DE) : DE := fun ρ Q E => ra ρ (fun d => d = .exc a ∧ XC K x.C ∧ ∃ b, PySem.W.kitOne K (.ref x.C) cv = some b ∧ Q (.bl b)) E
theorem pd_isP {cc : V} {cv : Value} (k : XK1 X g a oe x dx us) (hg : Gl X "isinstance") (hm : X.mg "isinstance" = none) (ha : PD X g EX e ra) (hb : PE X c (tC cc)) (hc : ClsV cc cv)
    (he : starEach [e, c] X.env = (false, eval e X.env) :: starEach [c] X.env := by rfl) (hs : starEach [c] X.env = (false, eval c X.env) :: starEach [] X.env := by rfl) (hpl : (backTo pos (starEach [c] X.env)).any (·.1) = false := by rfl) :
    PD X g EX (.Call (.Name "isinstance" p) [e, c] [] pos) (dIsP X.K x a cv ra) :=
  ⟨(pe_callB (c_isP k.pn ⟨k.cls, k.dict⟩ k.fl) hg hm bt_isinstance (pa_cons ha.pe (pa_cons hb pa_nil hs) he) (by decide) (by decide) he hpl).imp fun σ H Q h => by
  obtain ⟨A, ρ, Qd, Ed, S, h, c, cx⟩ := h
  refine ⟨A, ρ, _, Ed, S, h, fun d v A1 H1 x1 da q => ?_, cx⟩
  obtain ⟨rfl, xc, b, kb, q⟩ := q
  have da : v = _ := da
  subst da
  exact ⟨x.C, dx, _, _, cv, b, rfl, rfl, xc, rfl, x1.good.sub _ _ (x1.mono _ _ (S.x.mono _ _ k.at_)), hc, kb, (c.ext x1).nowB x1.good q⟩⟩
def dXg (K : PySem.W.Frag) (x : XD) (a : Addr) (n : Str) (ra : DE) : DE := fun ρ Q E => ra ρ (fun d => d = .exc a ∧ XC K x.C ∧ PySem.W.findIn K (.ref x.C) n = some none ∧ ∃ d', (x.fs.zip x.vs).lookup n = some d' ∧ Q d') E
theorem pd_xg {n : Str} (k : XK1 X g a oe x dx us) (he : PD X g EX e ra) (hb : attributeBase e n X.env (eval e X.env) = eval e X.env := by rfl) : PD X g EX (.Attribute e n pos) (dXg X.K x a n ra) :=
  ⟨(pe_xg k.pn ⟨k.cls, k.dict⟩ k.fl he.pe hb).imp fun σ H Q h => by
  obtain ⟨A, ρ, Qd, Ed, S, h, c, cx⟩ := h
  refine ⟨A, ρ, _, Ed, S, h, fun d v A1 H1 x1 da q => ?_, cx⟩
  obtain ⟨rfl, xc, nf, d', lk, q⟩ := q
  have da : v = _ := da
  subst da
  have x2 := S.x.trans x1
  obtain ⟨w, lw, dw⟩ := zip_look (x2.daL k.da) lk
  exact ⟨rfl, x.C, dx, _, w, rfl, xc, nf, rfl, x1.good.sub _ _ (x2.mono _ _ k.at_), lw, (c.ext x1).now x1.good dw q⟩⟩
def dCallE (a : Addr) (x : XD) (m : XD → (D → Prop) → Prop) (ra : DE) : DE := fun ρ Q E => ra ρ (fun d => d = .exc a ∧ m x Q) E
theorem pd_callE {lv : Nat} {f : Addr} {fd : FuncData} {ps : List Str} {nm : Str} {m : XD → (D → Prop) → Prop} (k : XK1 X g a oe x dx us) (G : FnE X.prog X.w X.K X.mg X.base lv f fd ps (fun q => spXD X.K m q.1 q.2.cls q.2.dict)) (room : L2H.RoomH lv X.A)
    (gl : Gl X nm) (gm : X.mg nm = some (.ref f)) (kp : PySem.W.keepIn X.K (.ref f) = true) (bnd : Binds X.K fd ps []) (he : PD X g EX e ra) (nd : (nm == ("__debug__" : Str)) = false := by decide)
    (st1 : starEach [e] X.env = (false, eval e X.env) :: starEach [] X.env := by rfl) (st2 : (backTo pos (starEach [] X.env)).any (·.1) = false := by rfl) : PD X g EX (.Call (.Name nm p) [e] [] pos) (dCallE a x m ra) :=
  ⟨(pe_callE G room k.hot k.pn gl gm kp bnd (pa_cons he.pe pa_nil st1) nd st1 st2).imp fun σ H Q h => by
  obtain ⟨A, ρ, Qd, Ed, S, h, c, cx⟩ := h
  refine ⟨A, ρ, _, Ed, S, h, fun d v A1 H1 x1 da q => ?_, cx⟩
  obtain ⟨rfl, q⟩ := q
  have da : v = _ := da
  subst da
  have x2 := S.x.trans x1
  exact ⟨g.so, A1, x, dx, us, Qd, rfl, k.cls, k.dict, x1.good, x2.mono _ _ k.at_, k.len, x2.daL k.da, q, c.ext x1⟩⟩
end
section
variable {P : Program} {w : World} {K : PySem.W.Frag} {mg : Str → Option Value} {base : Heap}
theorem Df.okED {y : Str} {st : Stmt} {N : List Str} {en : Str} {lv : Nat} {m : XD → (D → Prop) → Prop} (D : Df K mg y st [en]) (S : FnScope N [en] (defScope st))
    (body : ∀ (q : Addr × Obj) (cdv : Value) (A : Around) (outer : List PySem.Env) (s : Shared) (H : Hp) (E : XK) (so : Option Addr) (A0 : Hp) (x : XD) (dx : Addr) (us : List V), L2H.RoomH lv (A.deeper (envOfC y (defScope st) s.heap.objs.size D.f cdv)) →
      XK1 (L2H.cxH CX0 P w K mg base N y (defScope st) D.f cdv A outer s H E q).nox ⟨so, A0, H⟩ q.1 q.2 x dx us →
      ∃ r, PDSs (L2H.cxH CX0 P w K mg base N y (defScope st) D.f cdv A outer s H E q).nox ⟨so, A0, H⟩ EXF (defBody st) r ∧ ∀ Qd, m x Qd → r ⟨fun _ => Qd .non, Qd, fun _ => False, fun _ => False, fun _ => False, False⟩ (startD N [.exc q.1])) :
    FnE P w K mg base (lv + 1) D.f D.fd [en] (fun q => spXD K m q.1 q.2.cls q.2.dict) := by
  refine D.okE S (fun q vs H Q E h => ?_) fun q cdv A outer s H vs Q E hot room h => ?_
  · obtain ⟨_, _, _, _, _, _, rfl, _⟩ := h
    rfl
  · obtain ⟨so, A0, x, dx, us, Qd, rfl, hc, hd, gd, ea, hl, da, hm, c⟩ := h
    obtain ⟨r, hr, k⟩ := body q cdv A outer s H E so A0 x dx us room ⟨List.mem_singleton.mpr rfl, hot, hc, hd, ea, hl, da⟩
    refine ⟨_, hr.pss, A0, startD N [.exc q.1], ⟨fun _ => Qd .non, Qd, fun _ => False, fun _ => False, fun _ => False, False⟩, ⟨Ext.refl gd, startOk gd (DaL.one rfl)⟩, k Qd hm, ⟨fun A1 H1 σ ρ S1 _ _ q => ?_, fun A1 H1 d v x1 d1 q => c d v A1 H1 x1 d1 q, fun _ _ _ _ _ _ _ q => q.elim, fun _ _ _ _ _ _ _ q => q.elim, fun σ _ => ?_, fun z => z.elim⟩⟩
    · exact c .non .non A1 H1 S1.x rfl q
    · exact fun _ _ _ _ _ _ _ _ _ _ q => q.elim
end
end My
namespace My
open PySem PySem.Spec PyProof.Rows L2
/-! ### exceptions made by hand, kept as values -/
def tMkV (C : Addr) (sp : Sp) (dvs : List V) (ta : TA) : TE := fun σ H Q => ta σ H fun vs H1 => vs.length ≤ 1000 ∧ ∀ a, H1 a = none → sp (.ref a :: (vs ++ dvs)) (upd H1 a (exo a C none)) (fun v H2 => v = .non ∧ Q (.ref a) H2) (fun _ _ _ => False)
section
variable {X : Cx}
theorem pe_mkV {CXc : CXT} {nm : Str} {C fI : Addr} {lv : Nat} {fdI : FuncData} {psI : List Str} {spI : Sp} {ds : List Value} {dvs : List V} {e : Expr} {es : List Expr} {ta : TA} {p pos : Pos} (T : OexC X.K C)
    (iC : PySem.W.findIn X.K (.ref C) "__init__" = some (some (.ref fI))) (tI : PySem.W.typeIn X.K (.ref fI) = some (.type "function"))
    (FI : FnOk X.prog X.w X.K X.mg X.base CXc lv fI fdI psI spI) (room : Room (lv + 1) X.A) (bnd : Binds X.K fdI psI ds) (dfl : Vals dvs ds) (px : Passes CXc X (fun _ _ _ => False)) (gl : Gl X nm) (gm : X.mg nm = some (.ref C)) (args : PA X (e :: es) ta)
    (nd : (nm == ("__debug__" : Str)) = false := by decide) (st1 : starEach (e :: es) X.env = (false, eval e X.env) :: starEach es X.env := by rfl) (st2 : (backTo pos (starEach es X.env)).any (·.1) = false := by rfl) :
    PE X (.Call (.Name nm p) (e :: es) [] pos) (tMkV C spI dvs ta) := by
  refine ⟨fun pins s σ H Q I rd => ?_⟩
  have T' := T.cls
  obtain ⟨n0, n1, n2, n3, n4, n5, n6, n7, n8, n9, j0, j1, j2, j3, j5, lkC, rfs⟩ := T'
  refine wpAny_Call_Name_kw (ld_glob I gl gm ?_ nd)
  refine PySem.W.callWith_K (h₀ := X.base) I.ok.mod.kin T.kC (thn (args.run pos pins s σ H _ I rd) fun us s1 hh => ?_) st1 st2
  obtain ⟨vs, H1, I1, rel, sz, rd1⟩ := hh
  refine ⟨I1.kIn, ?_⟩
  show wpAny _ _ (call (.ref C) us) _ _ _
  obtain ⟨hp, gn, dr, tk, os⟩ := s1
  generalize en : hp.objs.size + 1 = nx at *
  have le : hp.objs.size ≤ nx := by omega
  have rd2 := rd1 nx (I1.hok.fresh le)
  have there : ((hp.push (PySem.W.kdv_tup us)).push (PySem.HandSPX.excO C hp.objs.size)).get? nx = some (PySem.HandSPX.excO C hp.objs.size) := by
    rw [← en]
    heap_get
  have I2 := I1.laid (t' := tk) (a := nx) (o := exo nx C none) (h' := (hp.push (PySem.W.kdv_tup us)).push (PySem.HandSPX.excO C hp.objs.size)) (fun b o z => Heap.get?_push_of_some _ (Heap.get?_push_of_some _ z)) le (exo_ok there)
  have rel2 : Vals (V.ref nx :: (vs ++ dvs)) (Value.ref nx :: (us ++ ds)) := .cons rfl (rel.append dfl)
  have hlen : (Value.ref nx :: us ++ ds).length = psI.length := by
    have q := rel2.length
    rw [FI.len _ _ _ _ rd2] at q
    exact q.symm
  have few : us.length ≤ sizeLine := by
    have q := Paired.length rel
    rw [← q, sizeLine_eq]
    omega
  refine wpAny_call ?_
  refine PySem.HandSPX.call_own F.excBase_ValueError (fun Y => PySem.HandSPX.refsVE_contains Y n4 rfs) (I1.kIn _ _ lkC) (PySem.W.looks_findIn I1.kIn iC) (fun self => PySem.W.bind_fn I1.kIn self tI) few ?_
  rw [en]
  refine codeAny_mono (FI.run _ X.stack _ _ ⟨Value.ref nx :: us, []⟩ (Value.ref nx :: (us ++ ds)) _ _ (fun _ _ _ => False) (room.make C us []) (I2.env0.make C us []) (bnd _ (Value.ref nx :: us) I2.kIn hlen) rel2 rd2) fun r s' back => ?_
  cases r with
  | error er => exact px pins σ _ _ er s' I2 back
  | ok fl =>
    cases fl with
    | next => exact back.elim
    | brk => exact back.elim
    | cont => exact back.elim
    | ret u =>
      obtain ⟨v, H2, J, rv, ev, q2⟩ := I2.after back
      subst ev
      exact ⟨rv, .ref nx, H2, J, rfl, q2⟩
theorem pe_mkV0 {CXc : CXT} {nm : Str} {C fI : Addr} {lv : Nat} {fdI : FuncData} {psI : List Str} {spI : Sp} {ds : List Value} {dvs : List V} {p pos : Pos} (T : OexC X.K C)
    (iC : PySem.W.findIn X.K (.ref C) "__init__" = some (some (.ref fI))) (tI : PySem.W.typeIn X.K (.ref fI) = some (.type "function"))
    (FI : FnOk X.prog X.w X.K X.mg X.base CXc lv fI fdI psI spI) (room : Room (lv + 1) X.A) (bnd : Binds X.K fdI psI ds) (dfl : Vals dvs ds) (px : Passes CXc X (fun _ _ _ => False)) (gl : Gl X nm) (gm : X.mg nm = some (.ref C))
    (nd : (nm == ("__debug__" : Str)) = false := by decide) :
    PE X (.Call (.Name nm p) [] [] pos) (tMkV C spI dvs tNil) := by
  refine ⟨fun pins s σ H Q I rd => ?_⟩
  have T' := T.cls
  obtain ⟨n0, n1, n2, n3, n4, n5, n6, n7, n8, n9, j0, j1, j2, j3, j5, lkC, rfs⟩ := T'
  refine wpAny_Call_Name_kw (ld_glob I gl gm ?_ nd)
  refine PySem.W.callWith_K0 I.kIn T.kC ?_
  show wpAny _ _ (call (.ref C) []) _ _ _
  obtain ⟨hp, gn, dr, tk, os⟩ := s
  have I1 := I
  generalize en : hp.objs.size + 1 = nx at *
  have le : hp.objs.size ≤ nx := by omega
  have rd2 := rd.2 nx (I1.hok.fresh le)
  have there : ((hp.push (PySem.W.kdv_tup [])).push (PySem.HandSPX.excO C hp.objs.size)).get? nx = some (PySem.HandSPX.excO C hp.objs.size) := by
    rw [← en]
    heap_get
  have I2 := I1.laid (t' := tk) (a := nx) (o := exo nx C none) (h' := (hp.push (PySem.W.kdv_tup [])).push (PySem.HandSPX.excO C hp.objs.size)) (fun b o z => Heap.get?_push_of_some _ (Heap.get?_push_of_some _ z)) le (exo_ok there)
  have rel2 : Vals (V.ref nx :: dvs) (Value.ref nx :: ds) := .cons rfl dfl
  have rd2 : spI (V.ref nx :: dvs) _ _ _ := rd2
  have hlen : ([Value.ref nx] ++ ds).length = psI.length := by
    have q := rel2.length
    rw [FI.len _ _ _ _ rd2] at q
    exact q.symm
  have few : ([] : List Value).length ≤ sizeLine := by
    rw [sizeLine_eq]
    exact Nat.zero_le _
  refine wpAny_call ?_
  refine PySem.HandSPX.call_own F.excBase_ValueError (fun Y => PySem.HandSPX.refsVE_contains Y n4 rfs) (I1.kIn _ _ lkC) (PySem.W.looks_findIn I1.kIn iC) (fun self => PySem.W.bind_fn I1.kIn self tI) few ?_
  rw [en]
  refine codeAny_mono (FI.run _ X.stack _ _ ⟨[Value.ref nx], []⟩ (Value.ref nx :: ds) _ _ (fun _ _ _ => False) (room.make C [] []) (I2.env0.make C [] []) (bnd _ [Value.ref nx] I2.kIn hlen) rel2 rd2) fun r s' back => ?_
  cases r with
  | error er => exact px pins σ _ _ er s' I2 back
  | ok fl =>
    cases fl with
    | next => exact back.elim
    | brk => exact back.elim
    | cont => exact back.elim
    | ret u =>
      obtain ⟨v, H2, J, rv, ev, q2⟩ := I2.after back
      subst ev
      exact ⟨rv, .ref nx, H2, J, rfl, q2⟩
/-- X(), an own exception class without own __init__ -/
theorem pe_mkB {C : Addr} {bmB : List Value} {B newId initId : String} {x : Str} {p pos : Pos} (F : ExcBaseFacts B newId initId bmB) (q : PySem.W.excIn X.K C bmB newId = true) (gC : X.mg x = some (.ref C)) (kC : PySem.W.keepIn X.K (.ref C) = true) (hg : Gl X x) (hdb : (x == ("__debug__" : Str)) = false := by decide) :
    PE X (.Call (.Name x p) [] [] pos) (fun σ H Q => ∀ a, H a = none → Q (.ref a) (upd H a (ExO (.ref C) a))) := by
  refine ⟨fun pins s σ H Q I h => ?_⟩
  refine wpAny_Call_Name_kw (ld_glob I hg gC ?_ hdb)
  refine PySem.W.callWith_K0 I.kIn kC ?_
  show wpAny _ _ (call (.ref C) []) _ _ _
  obtain ⟨bm, N, nm, qn, bs, hdct, sn, sub, ab, col, dd, k0, k1, k2, k3, k5, mN, hC, hN, hni, T⟩ := exc_obj I.kIn q
  refine wpAny_call_exc_subT F T hC hN hni (fun h' a hm => ?_) (by show 0 ≤ sizeLine; rw [sizeLine_eq]; omega)
  have hn : H a = none := I.hok.gone hm.new
  obtain ⟨t, ht, _, _⟩ := hm.there
  exact ⟨.ref a, upd H a (ExO (.ref C) a), I.laidN hm.keeps hm.new hn (exO_ok ht ⟨rfl, rfl⟩ rfl rfl rfl (show 4 < 6 by decide)), rfl, h a hn⟩
/-! ### what may be asked of them -/
theorem err_at {pins : List (Addr × Obj)} {s : Shared} {σ : L2.St} {H : Hp} {a C : Addr} {fs : List Str} {us : List V} (I : Inv X pins σ H s) (h : ErrAt H a C fs us) :
    ∃ (oe : Obj) (od : Option Obj), PySem.W.InstAt s.heap a oe C od := by
  rcases h with ⟨dx, h1, h2, h3⟩ | ⟨h1, h2, h3⟩
  · obtain ⟨t1, ho⟩ := exo_at I.hok h1
    obtain ⟨mA, hns, rel⟩ := exd_at I.hok h2
    obtain ⟨od, ho2, hl⟩ := lookIn_ns hns
    exact ⟨_, some od, ho, rfl, rfl, ho2⟩
  · obtain ⟨⟨oe, vs, ho, hz, hd, _⟩, _, _⟩ := I.hok a _ h3
    exact ⟨oe, none, ho, hz.1, by unfold PySem.W.notCls; rw [hd] <;> rfl, by rw [hz.2]; trivial⟩
def rIsF (K : PySem.W.Frag) : List V → Hp → VK → Prop := fun xs H Q => ∃ (a C : Addr) (fs : List Str) (us : List V) (c : V) (cv : Value) (b : Bool),
  xs = [.ref a, c] ∧ ErrAt H a C fs us ∧ XC K C ∧ ClsV c cv ∧ PySem.W.kitOne K (.ref C) cv = some b ∧ Q (.bl b) H
theorem c_isF : CallR X (.builtin "isinstance") (rIsF X.K) := by
  intro pins s σ H xs us Q I r rd
  obtain ⟨a, C, fs, ws, c, cv, b, ex, ea, T, kc, kb, q⟩ := rd
  subst ex
  obtain ⟨u1, u2, rfl, r1, r2⟩ := vals2 r
  cases (show u1 = Value.ref a from r1)
  have e2 := kc.eq r2
  subst e2
  obtain ⟨oe, od, J⟩ := err_at I ea
  exact PySem.W.kia_one (PySem.W.kitx_exc T.cl T.e.hg T.e.hk T.e.hs T.e.ha T.e.hn T.e.ht T.e.hm) I.kIn J kb (fun z => nomatch z) fun tk => ⟨.bl b, H, I.kept (t' := tk) fun _ _ z => z, rfl, q⟩
def tXf (K : PySem.W.Frag) (n : Str) (te : TE) : TE := fun σ H Q => te σ H fun x H1 => ∃ (a C dx : Addr) (fs : List (Str × V)) (v : V),
  x = .ref a ∧ H1 a = some (exo a C (some dx)) ∧ H1 dx = some (exd dx fs) ∧ XC K C ∧ PySem.W.findIn K (.ref C) n = some none ∧ fs.lookup n = some v ∧ Q v H1
theorem pe_xf {e : Expr} {te : TE} {pos : Pos} {n : Str} (he : PE X e te)
    (hb : attributeBase e n X.env (eval e X.env) = eval e X.env := by rfl) : PE X (.Attribute e n pos) (tXf X.K n te) := by
  refine ⟨fun pins s σ H Q I rd => attr_of hb (thn (he.run pins s σ H _ I rd) fun u s1 hh => ?_)⟩
  obtain ⟨x, H1, I1, rx, a, C, dx, fs, v, ex, h1, h2, T, no, l, q⟩ := hh
  subst ex
  cases (show u = Value.ref a from rx)
  obtain ⟨t1, there⟩ := exo_at I1.hok h1
  obtain ⟨mA, hns, rel⟩ := exd_at I1.hok h2
  obtain ⟨od, ho, hl⟩ := lookIn_ns hns
  obtain ⟨u', hu, ru⟩ := RelO.some_of (v := v) (o := mA n) (by rw [← l]; exact rel n)
  have J : PySem.W.InstAt s1.heap a _ C (some od) := ⟨there, rfl, rfl, ho⟩
  exact HandSPX.exc_get I1.kIn J T.e.hg T.e.hk T.e.hs (PySem.W.findObj_own T.e.hd no rfl (by rw [hl, hu])) (handed_of ru) ⟨v, H1, I1.tok _, ru, q⟩
end
/-! ### the same over data -/
theorem Ext.two {K : PySem.W.Frag} {so : Option Addr} {A H H' : Hp} {a dx : Addr} {o u : HO} (g : Good K so A H) (ha : H a = none) (hd : H dx = none) (ne : dx ≠ a) (h1 : H' a = some o) (h2 : H' dx = some u) (k : ∀ b v, b ≠ a → H b = some v → H' b = some v) :
    Ext K so A H (upd (upd A dx u) a o) H' := by
  have nA : ∀ {b : Addr}, H b = none → A b = none := fun {b} h => by
    cases e : A b with
    | none => rfl
    | some v =>
      rw [g.sub b v e] at h
      cases h
  have up : ∀ {b : Addr} {v : HO}, A b = some v → upd (upd A dx u) a o b = some v := fun {b v} e => by
    rw [upd_ne (ne_of_none e (nA ha)), upd_ne (ne_of_none e (nA hd))]
    exact e
  refine ⟨⟨fun b v e => ?_, fun s e => ?_⟩, fun b v e => up e, fun b v n e => k b v (ne_of_none e ha) e, fun b v e => ?_⟩
  · by_cases z : b = a
    · subst z
      rw [upd_same] at e
      cases e
      exact h1
    · rw [upd_ne z] at e
      by_cases z2 : b = dx
      · subst z2
        rw [upd_same] at e
        cases e
        exact h2
      · rw [upd_ne z2] at e
        have := g.sub b v e
        exact k b v z this
  · obtain ⟨x1, L, ns, p', i, j, c, d, x2, x3, r⟩ := g.st s e
    have n1 := g.ne ha e
    have n2 := g.ne hd e
    exact ⟨by rw [upd_ne (Ne.symm n1), upd_ne (Ne.symm n2)]; exact x1, L, ns, p', i, j, c, d, k s _ (Ne.symm n1) x2, up x3, r⟩
  · by_cases z : b = a
    · subst z
      exact .inr ha
    · rw [upd_ne z] at e
      by_cases z2 : b = dx
      · subst z2
        exact .inr hd
      · rw [upd_ne z2] at e
        exact .inl e
def dMk (C : Addr) (fs : List Str) (n : Nat) (mkD : List D → List D) (dd : List D) (t : DL) : DE := fun ρ Q E => t ρ (fun ds => ds.length ≤ 1000 ∧ (ds ++ dd).length = n ∧ Q (.err C fs (mkD (ds ++ dd)))) E
section
variable {X : Cx} {g : Gx} {EX : EXT} {e c : Expr} {es : List Expr} {ra : DE} {pos p : Pos} {t : DL}
variable {nm : Str} {C fI : Addr} {lv n : Nat} {fdI : FuncData} {psI fs : List Str} {mk : List V → List (Str × V)} {mkD : List D → List D} {dus : List Value} {dvs : List V} {dd : List D}
theorem mk_core (R : Rz X.K C fs n mk mkD) (hd : ∀ so A, DaL X.K so A dd dvs) {A1 H1 : Hp} {ds : List D} {vs : List V} {Qd : D → Prop} {Q : VK} (gd : Good X.K g.so A1 H1) (das : DaL X.K g.so A1 ds vs) (q : ds.length ≤ 1000 ∧ (ds ++ dd).length = n ∧ Qd (.err C fs (mkD (ds ++ dd)))) (c : Cont X.K g.so A1 H1 Qd Q) :
    vs.length ≤ 1000 ∧ ∀ a, H1 a = none → spIni X.K C fs n mk (.ref a :: (vs ++ dvs)) (upd H1 a (exo a C none)) (fun v H2 => v = .non ∧ Q (.ref a) H2) (fun _ _ _ => False) := by
  obtain ⟨q0, q1, q2⟩ := q
  have da := das.app (hd _ _)
  obtain ⟨us, e1, e2, d2⟩ := R.da g.so A1 _ _ q1 da
  refine ⟨by rw [das.len]; exact q0, fun a ha => ⟨a, vs ++ dvs, rfl, by rw [da.len]; exact q1, R.o, R.nf, upd_same, fun dx H' h1 h2 h3 h4 h5 => ⟨rfl, ?_⟩⟩⟩
  rw [e1] at h4
  rw [upd_ne h2] at h1
  have x2 : Ext X.K g.so A1 H1 (upd (upd A1 dx (exd dx (fs.zip us))) a (exo a C (some dx))) H' := Ext.two gd ha h1 h2 h3 h4 fun b v nb hb => h5 b v nb (by rw [upd_ne nb]; exact hb)
  exact c (.err C fs _) (.ref a) _ H' x2 ⟨a, us, rfl, .inl ⟨dx, upd_same, by rw [upd_ne h2]; exact upd_same, e2⟩, DaL.mono x2.mono _ _ d2⟩ q2
theorem pd_mk (R : Rz X.K C fs n mk mkD) (iC : PySem.W.findIn X.K (.ref C) "__init__" = some (some (.ref fI))) (tI : PySem.W.typeIn X.K (.ref fI) = some (.type "function"))
    (FI : FnOk X.prog X.w X.K X.mg X.base CX0 lv fI fdI psI (spIni X.K C fs n mk)) (room : Room (lv + 1) X.A) (bnd : Binds X.K fdI psI dus) (dfl : Vals dvs dus) (hd : ∀ so A, DaL X.K so A dd dvs) (gl : Gl X nm) (gm : X.mg nm = some (.ref C)) (args : PDA X g EX (e :: es) t)
    (nd : (nm == ("__debug__" : Str)) = false := by decide) (st1 : starEach (e :: es) X.env = (false, eval e X.env) :: starEach es X.env := by rfl) (st2 : (backTo pos (starEach es X.env)).any (·.1) = false := by rfl) :
    PD X g EX (.Call (.Name nm p) (e :: es) [] pos) (dMk C fs n mkD dd t) := ⟨(pe_mkV R.o iC tI FI room bnd dfl pass0 gl gm args.pa nd st1 st2).imp fun σ H Q h => by
  obtain ⟨A, ρ, Qd, Ed, S, h, c, cx⟩ := h
  refine ⟨A, ρ, _, _, S, h, fun ds vs A1 H1 x1 das q => ?_, cx⟩
  exact mk_core R hd x1.good das q (c.ext x1)⟩
theorem pd_mk0 (R : Rz X.K C fs n mk mkD) (iC : PySem.W.findIn X.K (.ref C) "__init__" = some (some (.ref fI))) (tI : PySem.W.typeIn X.K (.ref fI) = some (.type "function"))
    (FI : FnOk X.prog X.w X.K X.mg X.base CX0 lv fI fdI psI (spIni X.K C fs n mk)) (room : Room (lv + 1) X.A) (bnd : Binds X.K fdI psI dus) (dfl : Vals dvs dus) (hd : ∀ so A, DaL X.K so A dd dvs) (gl : Gl X nm) (gm : X.mg nm = some (.ref C))
    (nd : (nm == ("__debug__" : Str)) = false := by decide) :
    PD X g EX (.Call (.Name nm p) [] [] pos) (dMk C fs n mkD dd lNil) := ⟨(pe_mkV0 R.o iC tI FI room bnd dfl pass0 gl gm nd).imp fun σ H Q h => by
  obtain ⟨A, ρ, Qd, Ed, S, h, c, cx⟩ := h
  exact mk_core (ds := []) (vs := []) R hd S.good rfl h c⟩
def dMkB (C : Addr) : DE := fun _ Q _ => Q (.err C [] [])
theorem pd_mkB {bmB : List Value} {B newId initId : String} (F : ExcBaseFacts B newId initId bmB) (q : PySem.W.excIn X.K C bmB newId = true) (gC : X.mg nm = some (.ref C)) (kC : PySem.W.keepIn X.K (.ref C) = true) (hg : Gl X nm) (hdb : (nm == ("__debug__" : Str)) = false := by decide) :
    PD X g EX (.Call (.Name nm p) [] [] pos) (dMkB C) := ⟨(pe_mkB F q gC kC hg hdb).imp fun σ H Q h => by
  obtain ⟨A, ρ, Qd, Ed, S, h, c, cx⟩ := h
  intro a ha
  have y := Ext.laid (o := ExO (.ref C) a) S.good ha
  exact c (.err C [] []) (.ref a) _ _ y ⟨a, [], rfl, .inr ⟨rfl, rfl, upd_same⟩, rfl⟩ h⟩
/-- the data is an exception of such a class -/
def onX (d : D) (Q : Addr → List Str → List D → Prop) : Prop := match d with
  | .err C fs vs => Q C fs vs
  | _ => False
def dIsF (K : PySem.W.Frag) (cv : Value) (ra : DE) : DE := fun ρ Q E => ra ρ (fun d => onX d fun C _ _ => XC K C ∧ ∃ b, PySem.W.kitOne K (.ref C) cv = some b ∧ Q (.bl b)) E
theorem pd_isF {cc : V} {cv : Value} (hg : Gl X "isinstance") (hm : X.mg "isinstance" = none) (ha : PD X g EX e ra) (hb : PE X c (tC cc)) (hc : ClsV cc cv)
    (he : starEach [e, c] X.env = (false, eval e X.env) :: starEach [c] X.env := by rfl) (hs : starEach [c] X.env = (false, eval c X.env) :: starEach [] X.env := by rfl) (hpl : (backTo pos (starEach [c] X.env)).any (·.1) = false := by rfl) :
    PD X g EX (.Call (.Name "isinstance" p) [e, c] [] pos) (dIsF X.K cv ra) :=
  ⟨(pe_callB c_isF hg hm bt_isinstance (pa_cons ha.pe (pa_cons hb pa_nil hs) he) (by decide) (by decide) he hpl).imp fun σ H Q h => by
  obtain ⟨A, ρ, Qd, Ed, S, h, c, cx⟩ := h
  refine ⟨A, ρ, _, Ed, S, h, fun d v A1 H1 x1 da q => ?_, cx⟩
  have q : onX d _ := q
  unfold onX at q
  split at q
  · obtain ⟨a, us, rfl, ea, _⟩ := da
    obtain ⟨xc, b, kb, q⟩ := q
    exact ⟨a, _, _, us, _, cv, b, rfl, Sub.err x1.good.sub ea, xc, hc, kb, (c.ext x1).nowB x1.good q⟩
  · exact q.elim⟩
def dXf (K : PySem.W.Frag) (n : Str) (ra : DE) : DE := fun ρ Q E => ra ρ (fun d => onX d fun C fs vs => XC K C ∧ PySem.W.findIn K (.ref C) n = some none ∧ ∃ d', (fs.zip vs).lookup n = some d' ∧ Q d') E
theorem pd_xf {n : Str} (he : PD X g EX e ra) (hb : attributeBase e n X.env (eval e X.env) = eval e X.env := by rfl) : PD X g EX (.Attribute e n pos) (dXf X.K n ra) := ⟨(pe_xf he.pe hb).imp fun σ H Q h => by
  obtain ⟨A, ρ, Qd, Ed, S, h, c, cx⟩ := h
  refine ⟨A, ρ, _, Ed, S, h, fun d v A1 H1 x1 da q => ?_, cx⟩
  have q : onX d _ := q
  unfold onX at q
  split at q
  · obtain ⟨a, us, rfl, ea, dl⟩ := da
    obtain ⟨xc, no, d', l, q⟩ := q
    obtain ⟨v, l2, dv⟩ := zip_look dl l
    rcases ea with ⟨dx, h1, h2, h3⟩ | ⟨rfl, h2, h3⟩
    · exact ⟨a, _, dx, _, v, rfl, x1.good.sub _ _ h1, x1.good.sub _ _ h2, xc, no, l2, (c.ext x1).now x1.good dv q⟩
    · cases l
  · exact q.elim⟩
/-! ### bits -/
theorem ol_shl {K : PySem.W.Frag} : OpL K (rI CShl fun i j => .int (i * 2 ^ j.toNat)) (ddI CShl fun i j => .int (i * 2 ^ j.toNat)) := ol_I fun _ _ _ _ => rfl
def CPowW (i j : Int) : Prop := 0 ≤ j ∧ (Builtin.Int.intBits i : Int) * j ≤ 2 ^ 27
theorem op_powW : OpR X (binaryOp .Pow) (rI CPowW fun i j => .int (i ^ j.toNat)) := opI fun _ _ _ _ _ _ _ hc q => pow_int hc.1 hc.2 q
theorem ol_powW {K : PySem.W.Frag} : OpL K (rI CPowW fun i j => .int (i ^ j.toNat)) (ddI CPowW fun i j => .int (i ^ j.toNat)) := ol_I fun _ _ _ _ => rfl
def ddBits (d : D) (Q : D → Prop) : Prop := match d with
  | .int i => Q (.int (Builtin.Int.intBits i : Nat))
  | _ => False
theorem pd_bits {apos : Pos} (ha : PD X g EX e ra) (hbase : attributeBase e "bit_length" X.env (eval e X.env) = eval e X.env := by rfl) (hline : (apos.endLine == pos.line) = true := by rfl) : PD X g EX (.Call (.Attribute e "bit_length" apos) [] [] pos) (dUn ddBits ra) := ⟨(pe_bits ha.pe hbase hline).imp fun σ H Q h => by
  obtain ⟨A, ρ, Qd, Ed, S, h, c, cx⟩ := h
  refine ⟨A, ρ, _, Ed, S, h, fun d v A1 H1 x1 da q => ?_, cx⟩
  have q : ddBits d Qd := q
  unfold ddBits at q
  split at q
  · exact ⟨_, da, c (.int _) _ A1 H1 x1 rfl q⟩
  · exact q.elim⟩
end
end My
namespace My
open PySem PySem.Spec PyProof.Rows L2
/-- an own exception class of the top -/
structure Xc (K : PySem.W.Frag) (mg : Str → Option Value) (x : Str) where
  C : Addr
  g : mg x = some (.ref C)
  o : OexC K C
  x : XC K C
structure Xg (mg : Str → Option Value) (x : Str) where
  C : Addr
  g : mg x = some (.ref C)
/-- the base class that has no __init__ -/
structure Xf (K : PySem.W.Frag) (mg : Str → Option Value) (x : Str) where
  C : Addr
  g : mg x = some (.ref C)
  x : XC K C
  q : PySem.W.excIn K C PySem.HandSPX.veTail "ValueError.__new__" = true
  k : PySem.W.keepIn K (.ref C) = true
/-- the class i is below the class j (the order of the classes is the printed one) -/
def subI (i j : Nat) : Bool := (j == 0) || (j == i) || ((j == 7) && decide (8 ≤ i))
/-- the __init__ of the class at C; dvs its defaults -/
structure Mi (K : PySem.W.Frag) (C : Addr) (q : Str) (st : Stmt) (ps : List Str) (dvs : List V) where
  f : Addr
  fd : FuncData
  F : FunD K "__init__" q (defArgs st) (defBody st) (defScope st) dvs [] f fd
  b : Binds K fd ps []
  dus : List Value
  vd : Vals dvs dus
  bd : Binds K fd ps dus
  i : PySem.W.findIn K (.ref C) "__init__" = some (some (.ref f))
  t : PySem.W.typeIn K (.ref f) = some (.type "function")
/-- a def of the top with defaults -/
structure Dd (K : PySem.W.Frag) (mg : Str → Option Value) (x : Str) (st : Stmt) (ps : List Str) (dvs : List V) where
  f : Addr
  fd : FuncData
  F : FunD K x x (defArgs st) (defBody st) (defScope st) dvs [] f fd
  b : Binds K fd ps []
  dus : List Value
  vd : Vals dvs dus
  bd : Binds K fd ps dus
  g : mg x = some (.ref f)
/-- a def of the top with keyword-only parameters: n positional ones, the names ks, their defaults dvs -/
structure Dk (K : PySem.W.Frag) (mg : Str → Option Value) (x : Str) (st : Stmt) (ps : List Str) (n : Nat) (ks : List Str) (dvs : List V) where
  f : Addr
  fd : FuncData
  F : FunD K x x (defArgs st) (defBody st) (defScope st) [] (ks.zip dvs) f fd
  dus : List Value
  vd : Vals dvs dus
  bd : Binds K fd ps dus
  kb : KBn K fd ps n ks (fun us ws => us ++ ws) (fun vs zs => vs ++ zs)
  g : mg x = some (.ref f)
section
variable {P : Program} {w : World} {K : PySem.W.Frag} {mg : Str → Option Value} {base : Heap}
theorem Dd.okD {x : Str} {st : Stmt} {N ps : List Str} {lv : Nat} {m : DF} {dvs : List V} (D : Dd K mg x st ps dvs) (S : FnScope N ps (defScope st))
    (body : ∀ (cdv : Value) (A : Around) (outer : List PySem.Env) (s : Shared) (H : Hp) (E : XK) (so : Option Addr) (A0 : Hp), Room lv (A.deeper (envOfC x (defScope st) s.heap.objs.size D.f cdv)) →
      L2N.Takes (cxOf (L2N.CX P w) P w K mg base N x (defScope st) D.f cdv A outer s H E) (fun c d _ H => E c d H) →
      PassesOwn (model P w) (A.deeper (envOfC x (defScope st) s.heap.objs.size D.f cdv)) (envOfC x (defScope st) s.heap.objs.size D.f cdv) (cxOf (L2N.CX P w) P w K mg base N x (defScope st) D.f cdv A outer s H E).xe →
      ∃ r, PDSs (cxOf (L2N.CX P w) P w K mg base N x (defScope st) D.f cdv A outer s H E) ⟨so, A0, H⟩ (fun _ => E) (defBody st) r ∧
        ∀ ds Qd Ed, ds.length = ps.length → m ds Qd Ed → r ⟨fun _ => Qd .non, Qd, fun _ => False, fun _ => False, Ed, False⟩ (startD N ds)) :
    FnOk P w K mg base (L2N.CX P w) (lv + 1) D.f D.fd ps (spD K ps.length m) := by
  refine D.F.ok S spD_len fun cdv A outer s H vs Q E room rd => ?_
  obtain ⟨so, A0, ds, Qd, Ed, gd, hl, da, h, c, cx⟩ := rd
  obtain ⟨r, hr, k⟩ := body cdv A outer s H E so A0 room (L2N.takes_of rfl rfl rfl rfl) PassesOwn.leaving
  refine ⟨_, hr.pss, A0, startD N ds, ⟨fun _ => Qd .non, Qd, fun _ => False, fun _ => False, Ed, False⟩, ⟨Ext.refl gd, startOk gd da⟩, k ds Qd Ed hl h, ⟨fun A1 H1 σ ρ S1 _ _ q => ?_, fun A1 H1 d v x1 d1 q => c d v A1 H1 x1 d1 q, fun _ _ _ _ _ _ _ q => q.elim, fun _ _ _ _ _ _ _ q => q.elim, fun σ _ => cx, fun z => z.elim⟩⟩
  exact c .non .non A1 H1 S1.x rfl q
theorem Dk.okD {x : Str} {st : Stmt} {N ps : List Str} {lv : Nat} {m : DF} {n : Nat} {ks : List Str} {dvs : List V} (D : Dk K mg x st ps n ks dvs) (S : FnScope N ps (defScope st))
    (body : ∀ (cdv : Value) (A : Around) (outer : List PySem.Env) (s : Shared) (H : Hp) (E : XK) (so : Option Addr) (A0 : Hp), Room lv (A.deeper (envOfC x (defScope st) s.heap.objs.size D.f cdv)) →
      L2N.Takes (cxOf (L2N.CX P w) P w K mg base N x (defScope st) D.f cdv A outer s H E) (fun c d _ H => E c d H) →
      PassesOwn (model P w) (A.deeper (envOfC x (defScope st) s.heap.objs.size D.f cdv)) (envOfC x (defScope st) s.heap.objs.size D.f cdv) (cxOf (L2N.CX P w) P w K mg base N x (defScope st) D.f cdv A outer s H E).xe →
      ∃ r, PDSs (cxOf (L2N.CX P w) P w K mg base N x (defScope st) D.f cdv A outer s H E) ⟨so, A0, H⟩ (fun _ => E) (defBody st) r ∧
        ∀ ds Qd Ed, ds.length = ps.length → m ds Qd Ed → r ⟨fun _ => Qd .non, Qd, fun _ => False, fun _ => False, Ed, False⟩ (startD N ds)) :
    FnOk P w K mg base (L2N.CX P w) (lv + 1) D.f D.fd ps (spD K ps.length m) := by
  refine D.F.ok S spD_len fun cdv A outer s H vs Q E room rd => ?_
  obtain ⟨so, A0, ds, Qd, Ed, gd, hl, da, h, c, cx⟩ := rd
  obtain ⟨r, hr, k⟩ := body cdv A outer s H E so A0 room (L2N.takes_of rfl rfl rfl rfl) PassesOwn.leaving
  refine ⟨_, hr.pss, A0, startD N ds, ⟨fun _ => Qd .non, Qd, fun _ => False, fun _ => False, Ed, False⟩, ⟨Ext.refl gd, startOk gd da⟩, k ds Qd Ed hl h, ⟨fun A1 H1 σ ρ S1 _ _ q => ?_, fun A1 H1 d v x1 d1 q => c d v A1 H1 x1 d1 q, fun _ _ _ _ _ _ _ q => q.elim, fun _ _ _ _ _ _ _ q => q.elim, fun σ _ => cx, fun z => z.elim⟩⟩
  exact c .non .non A1 H1 S1.x rfl q
/-- an __init__ that keeps its one value -/
theorem Mi.ok1 {q : Str} {st : Stmt} {C : Addr} {dvs : List V} {f : Str} (I : Mi K C q st ["self", f] dvs) (S : FnScope ["self", f] ["self", f] (defScope st))
    (body : ∀ (cdv : Value) (A : Around) (outer : List PySem.Env) (s : Shared) (H : Hp) (E : XK), PSs (cxOf CX0 P w K mg base ["self", f] q (defScope st) I.f cdv A outer s H E) (defBody st) (tOst K f (tVar 0) (tVar 1))) :
    FnOk P w K mg base CX0 1 I.f I.fd ["self", f] (spIni K C [f] 1 (mk1 f)) := by
  refine I.F.ok S (fun vs H Q E h => ?_) fun cdv A outer s H vs Q E room h => ?_
  · obtain ⟨a, xs, rfl, hl, _⟩ := h
    show xs.length + 1 = 2
    rw [hl]
  · obtain ⟨a, xs, rfl, hl, o, n, ea, k⟩ := h
    match xs, hl with
    | [x], _ =>
      refine ⟨_, body cdv A outer s H E, g_ost ?_⟩
      refine ⟨x, rfl, .ref a, rfl, a, C, rfl, o, n f (by simp), .inl ⟨ea, fun dx n1 n2 => ?_⟩⟩
      exact k dx _ n1 n2 upd_same (by rw [upd_ne n2, upd_same]; rfl) fun b u nb hb => by rw [upd_ne nb, upd_ne (ne_of_none hb n1)]; exact hb
end
structure Txt (K : PySem.W.Frag) (mg : Str → Option Value) where
  dis_whole : Df K mg "is_whole" (topS 12) ["value"]
  ddivisor : Df K mg "divisor" (topS 13) ["one", "other"]
  dlowest : Df K mg "lowest" (topS 14) ["top", "bottom"]
  dsign_of : Df K mg "sign_of" (topS 15) ["number"]
  dfloor_root : Df K mg "floor_root" (topS 16) ["number"]
  dneed_ratio : Df K mg "need_ratio" (topS 17) ["value", "argument"]
  dneed_two : Df K mg "need_two" (topS 18) ["one", "other"]
  dis_ratio : Df K mg "is_ratio" (topS 19) ["value"]
  dadd : Df K mg "add" (topS 20) ["one", "other"]
  dsubtract : Df K mg "subtract" (topS 21) ["one", "other"]
  dmultiply : Df K mg "multiply" (topS 22) ["one", "other"]
  ddivide : Df K mg "divide" (topS 23) ["one", "other"]
  dnegate : Df K mg "negate" (topS 24) ["one"]
  dsign : Df K mg "sign" (topS 25) ["one"]
  dcompare : Df K mg "compare" (topS 26) ["one", "other"]
  droot : Df K mg "root" (topS 27) ["one"]
  droot_sign : Df K mg "root_sign" (topS 28) ["plain", "factor", "under"]
  dis_point : Df K mg "is_point" (topS 31) ["value"]
  dpoint_sum : Df K mg "point_sum" (topS 32) ["one", "other"]
  dpoint_gap : Df K mg "point_gap" (topS 33) ["one", "other"]
  dpoint_times : Df K mg "point_times" (topS 34) ["point", "factor"]
  dpoint_dot : Df K mg "point_dot" (topS 35) ["one", "other"]
  dleft_turn : Df K mg "left_turn" (topS 36) ["point"]
  dpoint_square : Df K mg "point_square" (topS 37) ["point"]
  dis_positive : Df K mg "is_positive" (topS 40) ["value"]
  dis_side : Df K mg "is_side" (topS 41) ["value"]
  dcheck_point : Df K mg "check_point" (topS 42) ["value", "argument"]
  dcheck_positive : Df K mg "check_positive" (topS 43) ["value", "argument"]
  dspot_at : Df K mg "spot_at" (topS 44) ["base", "lean", "under"]
  dmeet : Dk K mg "meet" (topS 45) ["one", "other", "first", "second", "side"] 4 ["side"] [.int 1]
  dexceeds : Df K mg "exceeds" (topS 46) ["longest", "others"]
  dpadded : Df K mg "padded" (topS 47) ["values"]
  dchain_reach : Df K mg "chain_reach" (topS 48) ["squares", "distance"]
  dstore : Df K mg "_law_store" (topS 50) ["script"]
  dtake : Df K mg "_law_take" (topS 51) ["store", "many"]
  dedge : Df K mg "_law_edge" (topS 52) ["store", "many"]
  dbetween : Df K mg "_law_between" (topS 53) ["store", "low", "high"]
  dpick : Df K mg "_law_pick" (topS 54) ["store", "items"]
  dmixed : Df K mg "_law_mixed" (topS 55) ["store", "items"]
  dlow : Df K mg "_law_low" (topS 56) ["up", "down"]
  dplus : Df K mg "_law_plus" (topS 57) ["one", "two"]
  dminus : Df K mg "_law_minus" (topS 58) ["one", "two"]
  dtimes : Df K mg "_law_times" (topS 59) ["one", "two"]
  dsgn : Df K mg "_law_sgn" (topS 60) ["one"]
  dcmp : Df K mg "_law_cmp" (topS 61) ["one", "two"]
  dsum : Df K mg "_law_sum" (topS 62) ["items"]
  dpadd : Df K mg "_law_padd" (topS 63) ["one", "two"]
  dpsub : Df K mg "_law_psub" (topS 64) ["one", "two"]
  dpmul : Df K mg "_law_pmul" (topS 65) ["by", "one"]
  dpdot : Df K mg "_law_pdot" (topS 66) ["one", "two"]
  dpsq : Df K mg "_law_psq" (topS 67) ["one"]
  dsmall : Df K mg "_law_small" (topS 68) ["store"]
  dpositive : Df K mg "_law_positive" (topS 69) ["store"]
  dcost : Df K mg "_law_cost" (topS 70) ["store"]
  dpoint : Df K mg "_law_point" (topS 71) ["store"]
  dnot_ratio : Df K mg "_law_not_ratio" (topS 72) ["store", "none_too"]
  dcircles : Df K mg "_law_circles" (topS 73) ["store"]
  dchain : Df K mg "_law_chain" (topS 74) ["store"]
  dlike : Df K mg "_law_like" (topS 75) ["got", "due"]
  dlong : Df K mg "_law_long" (topS 76) ["store"]
  ddrawn : Df K mg "_law_drawn" (topS 77) ["store"]
  dlonger : Df K mg "_law_longer" (topS 78) ["most", "some"]
  ddue : Df K mg "_law_due" (topS 79) ["bars", "gap"]
  dright : Df K mg "_law_right" (topS 80) ["bars", "gap"]
  dorders : Df K mg "_law_orders" (topS 81) ["store", "bars", "gap"]
  dmeets : Df K mg "_law_meets" (topS 82) ["store"]
  dfailed : Df K mg "_law_failed" (topS 83) ["e"]
  dcall : Df K mg "_law_call" (topS 84) ["bars", "gap"]
  drefusals : Df K mg "_law_refusals" (topS 85) ["store", "bars", "gap"]
  dlaw : Df K mg "law" (topS 86) ["script"]
  m_reversed : mg "reversed" = none
  m_len : mg "len" = none
  m_max : mg "max" = none
  m_min : mg "min" = none
  m_abs : mg "abs" = none
  m_int : mg "int" = none
  m_str : mg "str" = none
  m_bool : mg "bool" = none
  m_list : mg "list" = none
  m_tuple : mg "tuple" = none
  m_dict : mg "dict" = none
  m_isinstance : mg "isinstance" = none
  m_range : mg "range" = none
  m_enumerate : mg "enumerate" = none
  m_all : mg "all" = none
  m_ValueError : mg "ValueError" = none
  dig : NoDig K
  aZERO_RATIO : Addr
  kZERO_RATIO : mg "ZERO_RATIO" = some (.ref aZERO_RATIO)
  vZERO_RATIO : ∀ so A, Da K so A (.tup [.int 0, .int 1]) (.ref aZERO_RATIO)
  tMOST_CHAIN : Tok
  kMOST_CHAIN : mg "MOST_CHAIN" = some (.int 3 tMOST_CHAIN)
  cFrameError : Xg mg "FrameError"
  cWrongKind : Xc K mg "WrongKind"
  cOutOfBounds : Xc K mg "OutOfBounds"
  cRepeatedName : Xg mg "RepeatedName"
  cUnknownName : Xg mg "UnknownName"
  cUnfitError : Xg mg "UnfitError"
  cZeroDivisor : Xg mg "ZeroDivisor"
  cNegativeRoot : Xg mg "NegativeRoot"
  cUnsafe : Xg mg "Unsafe"
  cBadText : Xg mg "BadText"
  iWrongKind : Mi K cWrongKind.C "WrongKind.__init__" (inClass (topS 2) 0) ["self", "argument"] []
  zWrongKind : Rz K cWrongKind.C ["argument"] 1 (mk1 "argument") id
  kWrongKind_WrongKind : PySem.W.kitOne K (.ref cWrongKind.C) (.ref cWrongKind.C) = some true
  kWrongKind_OutOfBounds : PySem.W.kitOne K (.ref cWrongKind.C) (.ref cOutOfBounds.C) = some false
  kWrongKind_RepeatedName : PySem.W.kitOne K (.ref cWrongKind.C) (.ref cRepeatedName.C) = some false
  kWrongKind_UnknownName : PySem.W.kitOne K (.ref cWrongKind.C) (.ref cUnknownName.C) = some false
  kWrongKind_UnfitError : PySem.W.kitOne K (.ref cWrongKind.C) (.ref cUnfitError.C) = some false
  kWrongKind_Unsafe : PySem.W.kitOne K (.ref cWrongKind.C) (.ref cUnsafe.C) = some false
  kWrongKind_BadText : PySem.W.kitOne K (.ref cWrongKind.C) (.ref cBadText.C) = some false
  kWrongKind_ValueError : PySem.W.kitOne K (.ref cWrongKind.C) (.type "ValueError") = some true
  xWrongKind : PySem.W.exmOne K (.ref cWrongKind.C) (.ref cFrameError.C) = some true
  iOutOfBounds : Mi K cOutOfBounds.C "OutOfBounds.__init__" (inClass (topS 3) 0) ["self", "argument"] []
  zOutOfBounds : Rz K cOutOfBounds.C ["argument"] 1 (mk1 "argument") id
  kOutOfBounds_WrongKind : PySem.W.kitOne K (.ref cOutOfBounds.C) (.ref cWrongKind.C) = some false
  kOutOfBounds_OutOfBounds : PySem.W.kitOne K (.ref cOutOfBounds.C) (.ref cOutOfBounds.C) = some true
  kOutOfBounds_RepeatedName : PySem.W.kitOne K (.ref cOutOfBounds.C) (.ref cRepeatedName.C) = some false
  kOutOfBounds_UnknownName : PySem.W.kitOne K (.ref cOutOfBounds.C) (.ref cUnknownName.C) = some false
  kOutOfBounds_UnfitError : PySem.W.kitOne K (.ref cOutOfBounds.C) (.ref cUnfitError.C) = some false
  kOutOfBounds_Unsafe : PySem.W.kitOne K (.ref cOutOfBounds.C) (.ref cUnsafe.C) = some false
  kOutOfBounds_BadText : PySem.W.kitOne K (.ref cOutOfBounds.C) (.ref cBadText.C) = some false
  kOutOfBounds_ValueError : PySem.W.kitOne K (.ref cOutOfBounds.C) (.type "ValueError") = some true
  xOutOfBounds : PySem.W.exmOne K (.ref cOutOfBounds.C) (.ref cFrameError.C) = some true

end My
namespace My
open PySem PySem.Spec PyProof.Rows L2
local macro_rules | `(tactic| walk_at "arith") => `(tactic| first
  | (with_reducible show _ ≠ _; omega)
  | (unfold CMul; omega)
  | (unfold CPow; omega)
  | (unfold CPow; decide)
  | exact wide_div (b := 100) (by decide) (by decide) (by decide) (by decide))
local macro_rules | `(tactic| walk_at "go") => `(tactic| repeat (first
  | with_reducible refine g_seq ?_
  | with_reducible refine g_asg ?_
  | with_reducible refine g_name ?_
  | with_reducible refine g_sub ?_
  | with_reducible refine g_ret ?_
  | with_reducible refine g_drop ?_
  | ((with_reducible refine g_next ?_); dsimp only)
  | with_reducible refine g_if ?_
  | with_reducible refine g_var rfl ?_
  | with_reducible refine g_c ?_
  | with_reducible refine g_op ?_
  | with_reducible refine g_un ?_
  | with_reducible refine g_I0 ?_
  | with_reducible refine g_U ?_
  | with_reducible refine g_eq rfl ?_
  | with_reducible refine g_test ?_
  | with_reducible refine g_bl ?_
  | with_reducible refine iteF ?_
  | with_reducible refine iteT ?_
  | ((with_reducible apply g_iteT); (case e => rfl))
  | ((with_reducible apply g_iteF); (case e => rfl))
  | with_reducible refine g_int1 ?_
  | with_reducible refine g_max2 ?_
  | with_reducible refine g_min2 ?_
  | with_reducible refine g_isN ?_
  | with_reducible refine g_notN ?_
  | ((with_reducible apply g_lenL); (case hs => assumption))
  | ((with_reducible apply g_ixL); (case hs => exact SqL.of (by assumption)); (case ha => rfl))
  | with_reducible refine g_pow9 ?_
  | with_reducible refine g_pow18 ?_
  | ((with_reducible apply g_I); (case c => walk_at "arith"))
  | ((with_reducible apply g_st); (case hs => assumption); (case hL => assumption); (case ne => assumption); (case x0 => assumption); (case hj => rfl); (case j0 => decide); intro _ _ _ _)
  | with_reducible refine g_and ?_
  | with_reducible refine g_or ?_
  | with_reducible refine g_not ?_
  | with_reducible refine g_nil ?_
  | with_reducible refine g_cons ?_
  | with_reducible refine g_callB ?_
  | with_reducible refine g_call ?_
  | with_reducible refine g_tup ?_
  | with_reducible refine g_lst ?_
  | with_reducible refine g_andV ?_
  | with_reducible refine g_orV ?_
  | with_reducible refine g_notV ?_
  | with_reducible refine g_tB ?_
  | with_reducible refine g_ne rfl ?_
  | with_reducible refine g_abs ?_
  | with_reducible refine g_isB ?_
  | with_reducible refine g_for ?_
  | with_reducible refine g_rng1 ?_
  | with_reducible refine g_rng2 ?_
  | with_reducible refine g_iList ?_
  | ((with_reducible refine g_break ?_); dsimp only)
  | ((with_reducible refine g_cont ?_); dsimp only)
  | with_reducible refine g_retN ?_
  | ((with_reducible apply isi_go (T := "int")); (case h => assumption); (case hb => exact k_int_ _))
  | ((with_reducible apply isi_go (T := "str")); (case h => assumption); (case hb => exact k_str_ _))
  | ((with_reducible apply isi_go (T := "bool")); (case h => assumption); (case hb => exact k_bool_ _))
  | ((with_reducible apply isi_go (T := "list")); (case h => assumption); (case hb => exact k_list_ _))
  | ((with_reducible apply isi_go (T := "tuple")); (case h => assumption); (case hb => exact k_tuple_ _))
  | ((with_reducible apply isi_go (T := "dict")); (case h => assumption); (case hb => exact k_dict_ _))
  | with_reducible refine g_intb ?_))

abbrev s_take : Stmt := topS 51
abbrev N_take : List Str := ["store", "many", "cell", "got", "once", "twice"]
abbrev P_take : List Str := ["store", "many"]
theorem sc_take : FnScope N_take P_take (defScope s_take) := ⟨rfl, rfl, rfl, by decide +kernel, rfl, by decide +kernel, by decide +kernel⟩

def BN : Nat → Int
  | 0 => 1000000000
  | n + 1 => 1000000000 * (BN n - 1)
def spTakeN (K : PySem.W.Frag) : Nat → Sp
  | 0 => fun _ _ _ _ => False
  | n + 1 => spTake K (BN n)
theorem fmod0 {x m : Int} (h : 0 < m) : 0 ≤ x.fmod m := by
  rw [Int.fmod_eq_emod_of_nonneg _ (by omega)]
  exact Int.emod_nonneg _ (by omega)
theorem fmod1 {x m : Int} (h : 0 < m) : x.fmod m < m := by
  rw [Int.fmod_eq_emod_of_nonneg _ (by omega)]
  exact Int.emod_lt_of_pos _ h
theorem fmod_lt {x m : Int} {n : Nat} (h : 0 < m) (hm : m ≤ 2 ^ n) : (x.fmod m).natAbs < 2 ^ n := by
  have h0 := fmod0 (x := x) h
  have h1 := fmod1 (x := x) h
  have : ((x.fmod m).natAbs : Int) < (2 : Int) ^ n := by omega
  exact_mod_cast this
theorem BN_ge (n : Nat) : 1000000000 ≤ BN n := by
  induction n with
  | zero => exact Int.le_refl _
  | succ n ih =>
    have e : BN (n + 1) = 1000000000 * (BN n - 1) := rfl
    omega
section
variable {P : Program} {w : World} {K : PySem.W.Frag} {mg : Str → Option Value} {base : Heap}
theorem ok_take (T : Txt K mg) (n : Nat) : FnOk P w K mg base CX0 n T.dtake.f T.dtake.fd P_take (spTakeN K n) := by
  induction n with
  | zero => exact ⟨fun _ _ _ _ h => h.elim, fun _ _ _ _ _ _ _ _ _ _ _ _ _ h => h.elim⟩
  | succ n G_take =>
    refine T.dtake.F.ok sc_take (fun vs H Q E h => ?_) (fun cdv A outer s H vs Q E hr h => ?_)
    · obtain ⟨s, many, rfl, _⟩ := h
      rfl
    · obtain ⟨s, many, rfl, hst, hB, hW, k⟩ := h
      refine ⟨_, (pss_cons (ps_if (pt_cmpR op_lt (pv 1) pe_int (nomark _))
        (pss_one (ps_ret pe_int))
        pss_nil)
      (pss_cons (ps_asg (pe_op op_add (pe_ix ix_list (pv 0) pe_int (fun _ _ => rfl)) pe_int) (pg_sub (pv 0) pe_int set_list))
      (Evl.pss_cut (ps_if (PW.pt (pw_and (pt_cmpR op_eq (pe_ix ix_list (pv 0) pe_int (fun _ _ => rfl)) pe_int (nomark _)) (pw_and (pt_cmpR op_eq (pe_ix ix_list (pv 0) pe_int (fun _ _ => rfl)) pe_int (nomark _)) (pw_and1 (pt_cmpR op_lt (pe_ix ix_list (pv 0) pe_int (fun _ _ => rfl)) (pe_callB c_len (by rfl) T.m_len bt_len (pa_cons (pe_ix ix_list (pv 0) pe_int (fun _ _ => rfl)) pa_nil)) (nomark _))))))
        (pss_cons (ps_set (i := 2) sc_take.nd rfl (by first | exact .inl rfl | exact .inr rfl) (pe_callTy c_int1 (by rfl) T.m_int bt_int (pa_cons (pe_ix ix_list (pe_ix ix_list (pv 0) pe_int (fun _ _ => rfl)) (pe_ix ix_list (pv 0) pe_int (fun _ _ => rfl)) (fun _ _ => rfl)) pa_nil)))
        (pss_cons (ps_asg (pe_op op_add (pe_ix ix_list (pv 0) pe_int (fun _ _ => rfl)) pe_int) (pg_sub (pv 0) pe_int set_list))
        (pss_cons (ps_asg (pe_op op_modN (pe_callTy c_int1 (by rfl) T.m_int bt_int (pa_cons (pe_op op_add (pe_op op_add (pe_op op_mul (pe_ix ix_list (pv 0) pe_int (fun _ _ => rfl)) pe_int) (pv 2)) pe_int) pa_nil)) pe_int) (pg_sub (pv 0) pe_int set_list))
        (pss_one (ps_if (pt_cmpR op_ge (pe_callB (c_max2 rfl) (by rfl) T.m_max bt_max (pa_cons (pv 2) (pa_cons (pe_un un_neg (pv 2)) pa_nil))) (pe_op op_pow pe_int pe_int) (nomark _))
          (pss_one (ps_asg (pe_callB (c_max2 rfl) (by rfl) T.m_max bt_max (pa_cons (pv 2) (pa_cons (pe_un un_neg (pv 2)) pa_nil))) (pg_sub (pv 0) pe_int set_list)))
          (pss_one (ps_asg pe_int (pg_sub (pv 0) pe_int set_list))))))))
        pss_nil)
      (pss_cons (ps_if (pt_cmpR op_gt (pe_ix ix_list (pv 0) pe_int (fun _ _ => rfl)) pe_int (nomark _))
        (pss_cons (ps_set (i := 3) sc_take.nd rfl (by first | exact .inl rfl | exact .inr rfl) (pe_op op_modN (pe_callTy c_int1 (by rfl) T.m_int bt_int (pa_cons (pe_ix ix_list (pv 0) pe_int (fun _ _ => rfl)) pa_nil)) (pv 1)))
        (pss_cons (ps_asg (pe_op op_fdivW (pe_ix ix_list (pv 0) pe_int (fun _ _ => rfl)) (pv 1)) (pg_sub (pv 0) pe_int set_list))
        (pss_one (ps_ret (pv 3)))))
        pss_nil)
      (pss_cons (ps_if (pt_cmpR op_gt (pv 1) (pe_op op_pow pe_int pe_int) (nomark _))
        (pss_cons (ps_set (i := 3) sc_take.nd rfl (by first | exact .inl rfl | exact .inr rfl) (pe_call G_take (hr.mono (by omega)) rfl T.dtake.g T.dtake.F.kp T.dtake.b .nil pass0 (pa_cons (pv 0) (pa_cons (pe_op op_pow pe_int pe_int) pa_nil))))
        (pss_one (ps_ret (pe_op op_modN (pe_callTy c_int1 (by rfl) T.m_int bt_int (pa_cons (pe_op op_add (pv 3) (pe_op op_mul (pe_op op_pow pe_int pe_int) (pe_call G_take (hr.mono (by omega)) rfl T.dtake.g T.dtake.F.kp T.dtake.b .nil pass0 (pa_cons (pv 0) (pa_cons (pe_op op_add (pe_op op_fdivW (pv 1) (pe_op op_pow pe_int pe_int)) pe_int) pa_nil))))) pa_nil)) (pv 1)))))
        pss_nil)
      (pss_cons (ps_asg (pe_callB (c_max2 rfl) (by rfl) T.m_max bt_max (pa_cons pe_int (pa_cons (pe_op op_sub (pe_ix ix_list (pv 0) pe_int (fun _ _ => rfl)) pe_int) pa_nil))) (pg_sub (pv 0) pe_int set_list))
      (pss_cons (ps_set (i := 4) sc_take.nd rfl (by first | exact .inl rfl | exact .inr rfl) (pe_op op_add (pe_op op_add (pe_op op_mul (pe_ix ix_list (pv 0) pe_int (fun _ _ => rfl)) pe_int) (pe_op op_mul (pe_ix ix_list (pv 0) pe_int (fun _ _ => rfl)) pe_int)) pe_int))
      (pss_cons (ps_set (i := 4) sc_take.nd rfl (by first | exact .inl rfl | exact .inr rfl) (pe_op op_modN (pe_callTy c_int1 (by rfl) T.m_int bt_int (pa_cons (pv 4) pa_nil)) pe_int))
      (pss_cons (ps_asg (pv 4) (pg_sub (pv 0) pe_int set_list))
      (pss_cons (ps_set (i := 5) sc_take.nd rfl (by first | exact .inl rfl | exact .inr rfl) (pe_op op_modN (pe_callTy c_int1 (by rfl) T.m_int bt_int (pa_cons (pe_op op_add (pe_op op_add (pe_op op_mulW (pv 4) (pv 4)) (pe_op op_fdivW (pv 4) pe_int)) (pe_ix ix_list (pv 0) pe_int (fun _ _ => rfl))) pa_nil)) pe_int))
      (pss_one (ps_ret (pe_op op_modN (pe_callTy c_int1 (by rfl) T.m_int bt_int (pa_cons (pe_op op_fdivW (pv 5) pe_int) pa_nil)) (pv 1)))))))))))))), ?_⟩
      obtain ⟨L, ns, p, a, b, c, d, hs, ne, hL, p0, a0, b0, c0, c1, len⟩ := hst
      have x0 := Sx.refl s H
      dsimp only [cxOf, Cx.nox, Cx.wish]
      walk_at "go"
      refine g_ite (fun h => ?_) (fun h => ?_)
      · walk_at "go"
        exact k 0 H (Int.le_refl _) (.inl rfl) x0 ⟨L, ns, p, a, b, c, d, hs, ne, hL, p0, a0, b0, c0, c1, len⟩
      have hm : 2 ≤ many := by
        have := of_decide_eq_false h
        omega
      walk_at "go"
      refine g_cut (Mid := fun σ' H' => ∃ v p a b c d, σ' = [some (.ref s), some (.int many), v, none, none, none] ∧ StOk K H' s L ns p a b c d ∧ Sx s H H') ?_ ?_
      · walk_at "go"
        refine g_ite (fun h1 => ?_) (fun h1 => ?_)
        · walk_at "go"
          refine g_ite (fun h2 => ?_) (fun h2 => ?_)
          · walk_at "go"
            refine g_ite (fun h3 => ?_) (fun h3 => ?_)
            · walk_at "go"
              have hp : p < ns.length := by
                have := of_decide_eq_true h3
                rw [List.length_map] at this
                exact this
              refine g_ixL (by assumption) (atI_map V.int ns p 0 p0 hp) ?_
              walk_at "go"
              refine g_ite (fun h4 => ?_) (fun h4 => ?_)
              · walk_at "go"
                exact ⟨_, p + 1, _, b, _, _, rfl, ⟨by assumption, ne, by assumption, by omega, by have := of_decide_eq_true h4; omega, b0, by exact fmod0 (by decide), by exact fmod1 (by decide), len⟩, by assumption⟩
              · walk_at "go"
                exact ⟨_, p + 1, a, _, _, _, rfl, ⟨by assumption, ne, by assumption, by omega, a0, by decide, by exact fmod0 (by decide), by exact fmod1 (by decide), len⟩, by assumption⟩
            · walk_at "go"
              exact ⟨_, p, a, b, c, _, rfl, ⟨by assumption, ne, by assumption, p0, a0, b0, c0, c1, len⟩, by assumption⟩
          · walk_at "go"
            exact ⟨_, p, a, b, c, _, rfl, ⟨by assumption, ne, by assumption, p0, a0, b0, c0, c1, len⟩, by assumption⟩
        · walk_at "go"
          exact ⟨_, p, a, b, c, _, rfl, ⟨by assumption, ne, by assumption, p0, a0, b0, c0, c1, len⟩, by assumption⟩
      · rintro σ' H' ⟨v, p, a, b, c, d, rfl, ⟨hs, ne, hL, p0, a0, b0, c0, c1, len⟩, x0⟩
        walk_at "go"
        refine g_ite (fun h5 => ?_) (fun h5 => ?_)
        · walk_at "go"
          refine g_I (big_div (by omega) hW) ?_
          walk_at "go"
          refine k _ _ (fmod0 (by omega)) (.inr (fmod1 (by omega))) (by assumption) ⟨L, ns, p, _, b, c, d, ⟨by assumption, ne, by assumption, p0, ?_, b0, c0, c1, len⟩⟩
          exact Int.ediv_nonneg (by have := of_decide_eq_true h5; omega) (by omega)
        walk_at "go"
        refine g_ite (fun h6 => ?_) (fun h6 => ?_)
        · have hbig := of_decide_eq_true h6
          cases n with
          | zero =>
            exfalso
            have : BN 0 = 1000000000 := rfl
            omega
          | succ m =>
            have eB : BN (m + 1) = 1000000000 * (BN m - 1) := rfl
            have eG := BN_ge m
            walk_at "go"
            refine ⟨s, _, rfl, ⟨L, ns, p, a, b, c, d, hs, ne, hL, p0, a0, b0, c0, c1, len⟩, by omega, by unfold BIG; omega, fun r H1 r0 r1 x1 st1 => ?_⟩
            walk_at "go"
            refine ⟨s, _, rfl, st1, by omega, by omega, fun r2 H2 r20 r21 x2 st2 => ?_⟩
            walk_at "go"
            exact k _ _ (fmod0 (by omega)) (.inr (fmod1 (by omega))) ((x0.trans x1).trans x2) st2
        walk_at "go"
        refine g_I (wide_mul (a := 61) (b := 61) (fmod_lt (by decide) (by decide)) (fmod_lt (by decide) (by decide)) (by decide) (by decide) (by decide)) ?_
        walk_at "go"
        refine k _ _ (fmod0 (by omega)) (.inr (fmod1 (by omega))) (by assumption) ⟨L, ns, p, a, _, _, d, ⟨by assumption, ne, by assumption, p0, a0, ?_, by exact fmod0 (by decide), by exact fmod1 (by decide), len⟩⟩
        split <;> omega
end
end My
namespace My
open PySem PySem.Spec PyProof.Rows L2
local macro_rules | `(tactic| walk_at "arith") => `(tactic| first
  | (with_reducible show _ ≠ _; omega)
  | (unfold CMul; omega)
  | (unfold CPow; omega)
  | (unfold CPow; decide)
  | exact wide_div (b := 100) (by decide) (by decide) (by decide) (by decide))
local macro_rules | `(tactic| walk_at "go") => `(tactic| repeat (first
  | with_reducible refine g_seq ?_
  | with_reducible refine g_asg ?_
  | with_reducible refine g_name ?_
  | with_reducible refine g_sub ?_
  | with_reducible refine g_ret ?_
  | with_reducible refine g_drop ?_
  | ((with_reducible refine g_next ?_); dsimp only)
  | with_reducible refine g_if ?_
  | with_reducible refine g_var rfl ?_
  | with_reducible refine g_c ?_
  | with_reducible refine g_op ?_
  | with_reducible refine g_un ?_
  | with_reducible refine g_I0 ?_
  | with_reducible refine g_U ?_
  | with_reducible refine g_eq rfl ?_
  | with_reducible refine g_test ?_
  | with_reducible refine g_bl ?_
  | with_reducible refine iteF ?_
  | with_reducible refine iteT ?_
  | ((with_reducible apply g_iteT); (case e => rfl))
  | ((with_reducible apply g_iteF); (case e => rfl))
  | with_reducible refine g_int1 ?_
  | with_reducible refine g_max2 ?_
  | with_reducible refine g_min2 ?_
  | with_reducible refine g_isN ?_
  | with_reducible refine g_notN ?_
  | ((with_reducible apply g_lenL); (case hs => assumption))
  | ((with_reducible apply g_ixL); (case hs => exact SqL.of (by assumption)); (case ha => rfl))
  | with_reducible refine g_pow9 ?_
  | with_reducible refine g_pow18 ?_
  | ((with_reducible apply g_I); (case c => walk_at "arith"))
  | ((with_reducible apply g_st); (case hs => assumption); (case hL => assumption); (case ne => assumption); (case x0 => assumption); (case hj => rfl); (case j0 => decide); intro _ _ _ _)
  | with_reducible refine g_and ?_
  | with_reducible refine g_or ?_
  | with_reducible refine g_not ?_
  | with_reducible refine g_nil ?_
  | with_reducible refine g_cons ?_
  | with_reducible refine g_callB ?_
  | with_reducible refine g_call ?_
  | with_reducible refine g_tup ?_
  | with_reducible refine g_lst ?_
  | with_reducible refine g_andV ?_
  | with_reducible refine g_orV ?_
  | with_reducible refine g_notV ?_
  | with_reducible refine g_tB ?_
  | with_reducible refine g_ne rfl ?_
  | with_reducible refine g_abs ?_
  | with_reducible refine g_isB ?_
  | with_reducible refine g_for ?_
  | with_reducible refine g_rng1 ?_
  | with_reducible refine g_rng2 ?_
  | with_reducible refine g_iList ?_
  | ((with_reducible refine g_break ?_); dsimp only)
  | ((with_reducible refine g_cont ?_); dsimp only)
  | with_reducible refine g_retN ?_
  | ((with_reducible apply isi_go (T := "int")); (case h => assumption); (case hb => exact k_int_ _))
  | ((with_reducible apply isi_go (T := "str")); (case h => assumption); (case hb => exact k_str_ _))
  | ((with_reducible apply isi_go (T := "bool")); (case h => assumption); (case hb => exact k_bool_ _))
  | ((with_reducible apply isi_go (T := "list")); (case h => assumption); (case hb => exact k_list_ _))
  | ((with_reducible apply isi_go (T := "tuple")); (case h => assumption); (case hb => exact k_tuple_ _))
  | ((with_reducible apply isi_go (T := "dict")); (case h => assumption); (case hb => exact k_dict_ _))
  | with_reducible refine g_intb ?_))

theorem fn_weak {P : Program} {w : World} {K : PySem.W.Frag} {mg : Str → Option Value} {base : Heap} {CX : CXT} {k : Nat} {f : Addr} {fd : FuncData} {ps : List Str} {sp sp' : Sp} (F : FnOk P w K mg base CX k f fd ps sp) (h : ∀ vs H Q E, sp' vs H Q E → sp vs H Q E) : FnOk P w K mg base CX k f fd ps sp' :=
  ⟨fun vs H Q E z => F.len vs H Q E (h vs H Q E z), fun A outer s H args us vs Q E a b c d e => F.run A outer s H args us vs Q E a b c d (h vs H Q E e)⟩
theorem big_of {m : Int} (h : m ≤ 1000000000) : m < BIG := by
  have : (1000000000 : Int) < BIG := by decide +kernel
  omega
theorem BN_big : BIG ≤ BN 170 := by decide +kernel
def spTakeB (K : PySem.W.Frag) : Sp := fun vs H Q _ => ∃ (s : Addr) (many : Int), vs = [.ref s, .int many] ∧ Store K H s ∧ many < BIG ∧
  ∀ (r : Int) (H' : Hp), 0 ≤ r → (r = 0 ∨ r < many) → Sx s H H' → Store K H' s → Q (.int r) H'
theorem take_go {K : PySem.W.Frag} {H : Hp} {s : Addr} {many : Int} {Q : VK} {E : XK} (st : Store K H s) (hm : many < BIG)
    (k : ∀ (r : Int) (H' : Hp), 0 ≤ r → (r = 0 ∨ r < many) → Sx s H H' → Store K H' s → Q (.int r) H') : spTakeB K [.ref s, .int many] H Q E := ⟨s, many, rfl, st, hm, k⟩
def spBetween (K : PySem.W.Frag) : Sp := fun vs H Q _ => ∃ (s : Addr) (low high : Int), vs = [.ref s, .int low, .int high] ∧ Store K H s ∧ low ≤ high ∧ high - low < 1000000000 ∧
  ∀ (r : Int) (H' : Hp), low ≤ r → r ≤ high → Sx s H H' → Store K H' s → Q (.int r) H'
def spTens : Sp := fun vs H Q _ => ∃ (n : Nat), vs = [.int n] ∧ n ≤ 1000 ∧ Q (.int (10 ^ n)) H
def spInteger (K : PySem.W.Frag) : Sp := fun vs H Q _ => ∃ (s : Addr) (figures : Int), vs = [.ref s, .int figures] ∧ Store K H s ∧ 0 ≤ figures ∧ figures ≤ 1000 ∧
  ∀ (r : Int) (H' : Hp), -(10 ^ 1000) < r → r < 10 ^ 1000 → Sx s H H' → Store K H' s → Q (.int r) H'
def spStore (K : PySem.W.Frag) : Sp := fun vs H Q _ => ∃ (a : Addr) (ns : List Int), vs = [.ref a] ∧ SqL K H a (ns.map V.int) ∧ ns.length ≤ 63 ∧
  ∀ (s : Addr) (H' : Hp), H s = none → Same H H' → Store K H' s → Q (.ref s) H'
abbrev s_store : Stmt := topS 50
abbrev N_store : List Str := ["script"]
abbrev P_store : List Str := ["script"]
theorem sc_store : FnScope N_store P_store (defScope s_store) := ⟨rfl, rfl, rfl, by decide +kernel, rfl, by decide +kernel, by decide +kernel⟩

abbrev s_edge : Stmt := topS 52
abbrev N_edge : List Str := ["store", "many"]
abbrev P_edge : List Str := ["store", "many"]
theorem sc_edge : FnScope N_edge P_edge (defScope s_edge) := ⟨rfl, rfl, rfl, by decide +kernel, rfl, by decide +kernel, by decide +kernel⟩

abbrev s_between : Stmt := topS 53
abbrev N_between : List Str := ["store", "low", "high"]
abbrev P_between : List Str := ["store", "low", "high"]
theorem sc_between : FnScope N_between P_between (defScope s_between) := ⟨rfl, rfl, rfl, by decide +kernel, rfl, by decide +kernel, by decide +kernel⟩

/-! ### "1" and zeros -/
theorem foldl_rep {α : Type} (xs : Array α) (n : Nat) : ((List.replicate n xs).foldl (· ++ ·) (#[] : Array α)).toList = (List.replicate n xs.toList).flatten := by
  have h : ∀ (n : Nat) (acc : Array α), ((List.replicate n xs).foldl (· ++ ·) acc).toList = acc.toList ++ (List.replicate n xs.toList).flatten := by
    intro n
    induction n with
    | zero => intro acc; simp
    | succ n ih =>
      intro acc
      rw [List.replicate_succ, List.foldl_cons, ih, Array.toList_append, List.replicate_succ, List.flatten_cons, List.append_assoc]
  rw [h n #[]]
  rfl
theorem mul_list (z : Str) (n : Nat) : (PySem.Txt.mul z n).cps.toList = (List.replicate n z.cps.toList).flatten := by
  unfold PySem.Txt.mul
  by_cases h : (n : Int) < 1
  · have e : n = 0 := by omega
    subst e
    rfl
  · rw [if_neg h]
    by_cases h2 : ((n : Int) == 1 || z.length == 0) = true
    · rw [if_pos h2]
      rcases Bool.or_eq_true_iff.mp h2 with h3 | h3
      · have e : n = 1 := by
          have := beq_iff_eq.mp h3
          omega
        subst e
        simp
      · have e : z.cps.toList = [] := by
          have h4 : z.cps.size = 0 := beq_iff_eq.mp h3
          exact List.eq_nil_of_length_eq_zero (by rw [Array.length_toList]; exact h4)
        rw [e]
        simp
    · rw [if_neg h2]
      rw [show ((n : Int)).toNat = n from rfl]
      exact foldl_rep z.cps n
theorem rep_one (c n : Nat) : (List.replicate n [c]).flatten = List.replicate n c := by
  induction n with
  | zero => rfl
  | succ n ih => rw [List.replicate_succ, List.flatten_cons, ih]; rfl
theorem str_app (x y : Str) : (x ++ y).cps.toList = x.cps.toList ++ y.cps.toList := Array.toList_append
theorem one_zeros (n : Nat) : (("1" : Str) ++ PySem.Txt.mul "0" n).cps.toList = 49 :: List.replicate n 48 := by
  rw [str_app, mul_list]
  have e1 : ("1" : Str).cps.toList = [49] := by decide +kernel
  have e0 : ("0" : Str).cps.toList = [48] := by decide +kernel
  rw [e1, e0, rep_one]
  rfl
theorem val_zeros (n a : Nat) : (List.replicate n 48).foldl (fun acc c => acc * 10 + (c - 48)) a = a * 10 ^ n := by
  induction n generalizing a with
  | zero => simp
  | succ n ih =>
    rw [List.replicate_succ, List.foldl_cons, ih, Nat.pow_succ]
    show (a * 10 + 0) * 10 ^ n = a * (10 ^ n * 10)
    rw [Nat.add_zero, Nat.mul_assoc, Nat.mul_comm 10]
theorem digs_zeros (n : Nat) : PySem.NumText.AllDigits (49 :: List.replicate n 48) := by
  intro c hc
  rcases List.mem_cons.mp hc with e | h
  · subst e
    decide
  · have e := (List.mem_replicate.mp h).2
    subst e
    decide
theorem str_len (x : Str) : x.length = x.cps.toList.length := by rw [Array.length_toList]; rfl
theorem tens_read (n : Nat) (h : n ≤ 1000) : PySem.intText? (("1" : Str) ++ PySem.Txt.mul "0" n) = some ((10 ^ n : Nat) : Int) := by
  have e := one_zeros n
  have l : (("1" : Str) ++ PySem.Txt.mul "0" n).length ≤ 4300 := by
    rw [str_len, e]
    simp
    omega
  rw [PySem.intText_digits (by rw [e]; exact digs_zeros n) (by rw [e]; exact List.cons_ne_nil _ _) l, e]
  have v : PySem.NumText.digitsVal (49 :: List.replicate n 48) = 10 ^ n := by
    show (List.replicate n 48).foldl (fun acc c => acc * 10 + (c - 48)) 1 = 10 ^ n
    rw [val_zeros, Nat.one_mul]
  rw [v]
theorem seen_digits (x : Str) (h : PySem.NumText.AllDigits x.cps.toList) : (PySem.numSeenOf x).length = x.length := by
  have ha : x.cps.all (· < 128) = true := by
    rw [← Array.all_toList, List.all_eq_true]
    intro c hc
    have := h c hc
    exact decide_eq_true (by omega)
  have e : PySem.numTextOf x = x.cps.toList := if_pos ha
  have t : ∀ l : List Nat, PySem.NumText.AllDigits l → l.takeWhile (· != 0) = l := by
    intro l
    induction l with
    | nil => intro _; rfl
    | cons c r ih =>
      intro hl
      have hc := hl.head
      rw [List.takeWhile_cons, if_pos (by simp; omega), ih hl.tail]
  show ((PySem.numTextOf x).takeWhile (· != 0)).length = x.length
  rw [e, t _ h, str_len]
theorem ten_le {n m : Nat} (h : n ≤ m) : (10 : Int) ^ n ≤ 10 ^ m := by
  have := Nat.pow_le_pow_right (show 0 < 10 by decide) h
  exact_mod_cast this
theorem ten_lt {n m : Nat} (h : n < m) : (10 : Int) ^ n < 10 ^ m := by
  have := Nat.pow_lt_pow_right (show 1 < 10 by decide) h
  exact_mod_cast this
theorem ten_pos (n : Nat) : (1 : Int) ≤ 10 ^ n := by
  have := Nat.pow_pos (n := n) (show 0 < 10 by decide)
  have h : (1 : Nat) ≤ 10 ^ n := this
  exact_mod_cast h
theorem ten_big : (10 : Int) ^ 1000 < BIG := by decide +kernel
section
variable {P : Program} {w : World} {K : PySem.W.Frag} {mg : Str → Option Value} {base : Heap}
theorem ok_takeB (T : Txt K mg) : FnOk P w K mg base CX0 171 T.dtake.f T.dtake.fd P_take (spTakeB K) :=
  fn_weak (ok_take (P := P) (w := w) (base := base) T 171) fun vs H Q E h => by
    obtain ⟨s, many, e, st, hm, k⟩ := h
    exact ⟨s, many, e, st, Int.le_of_lt (Int.lt_of_lt_of_le hm BN_big), hm, k⟩
theorem ok_store (T : Txt K mg) : FnOk P w K mg base CX0 1 T.dstore.f T.dstore.fd P_store (spStore K) := by
  refine T.dstore.F.ok sc_store (fun vs H Q E h => ?_) (fun cdv A outer s H vs Q E hr h => ?_)
  · obtain ⟨a, ns, rfl, _⟩ := h
    rfl
  · obtain ⟨a, ns, rfl, hq, hl, k⟩ := h
    refine ⟨_, (pss_one (ps_ret (pe_lst (pa_cons (pe_callTy c_list (by rfl) T.m_list bt_list (pa_cons (pv 0) pa_nil)) (pa_cons pe_int (pa_cons pe_int (pa_cons pe_int (pa_cons pe_int (pa_cons pe_int pa_nil))))))))), ?_⟩
    try dsimp only [cxOf, Cx.nox, Cx.wish]
    walk_at "go"
    refine ⟨a, _, rfl, .inl hq, fun L hL => ?_⟩
    walk_at "go"
    refine ⟨by show 6 ≤ sizeLine; decide, fun p hp => ?_⟩
    have nLp : L ≠ p := fun e => by
      rw [← e, upd_same] at hp
      cases hp
    have sL : Same H (upd H L (.lst (ns.map V.int))) := same_new hL
    refine k p _ (sL.free hp) (sL.trans (same_new hp)) ⟨L, ns, 0, 0, 0, 0, 0, ⟨upd_same, nLp, ?_, by decide, by decide, by decide, by decide, by decide, hl⟩⟩
    exact .inl (.inl (by rw [upd_ne nLp, upd_same]))
theorem ok_edge (T : Txt K mg) : FnOk P w K mg base CX0 172 T.dedge.f T.dedge.fd P_edge (spTakeB K) := by
  have G_take : FnOk P w K mg base CX0 171 T.dtake.f T.dtake.fd P_take (spTakeB K) := ok_takeB T
  refine T.dedge.F.ok sc_edge (fun vs H Q E h => ?_) (fun cdv A outer s_ H vs Q E hr h => ?_)
  · obtain ⟨s, many, rfl, _⟩ := h
    rfl
  · obtain ⟨s, many, rfl, st, hm, k⟩ := h
    refine ⟨_, (pss_cons (ps_if (pt_cmpR op_lt (pv 1) pe_int (nomark _))
        (pss_one (ps_ret pe_int))
        pss_nil)
      (pss_cons (ps_if (pt_cmpR op_eq (pe_call G_take (hr.mono (by omega)) rfl T.dtake.g T.dtake.F.kp T.dtake.b .nil pass0 (pa_cons (pv 0) (pa_cons pe_int pa_nil))) pe_int (nomark _))
        (pss_one (ps_ret (pe_op op_mulW (pe_op op_sub (pv 1) pe_int) (pe_call G_take (hr.mono (by omega)) rfl T.dtake.g T.dtake.F.kp T.dtake.b .nil pass0 (pa_cons (pv 0) (pa_cons pe_int pa_nil))))))
        pss_nil)
      (pss_one (ps_ret (pe_call G_take (hr.mono (by omega)) rfl T.dtake.g T.dtake.F.kp T.dtake.b .nil pass0 (pa_cons (pv 0) (pa_cons (pv 1) pa_nil))))))), ?_⟩
    try dsimp only [cxOf, Cx.nox, Cx.wish]
    walk_at "go"
    refine g_ite (fun h => ?_) (fun h => ?_)
    · walk_at "go"
      exact k 0 H (Int.le_refl _) (.inl rfl) (Sx.refl s H) st
    have h2 := of_decide_eq_false h
    walk_at "go"
    refine take_go st (big_of (by decide)) fun r H1 r0 r1 x1 st1 => ?_
    walk_at "go"
    refine g_ite (fun h3 => ?_) (fun h3 => ?_)
    · walk_at "go"
      refine take_go st1 (big_of (by decide)) fun r2 H2 r20 r21 x2 st2 => ?_
      have e : r2 = 0 ∨ r2 = 1 := by omega
      have c : CMulW (many - 1) r2 := by
        unfold CMulW
        have b : (many - 1).natAbs.log2 < 5000 := by
          have b1 : (many - 1).natAbs < 2 ^ 5000 := by
            unfold BIG at hm
            omega
          exact PySem.Flt.log2_lt_of (by decide) b1
        have b2 : r2.natAbs.log2 = 0 := by
          rcases e with e | e <;> subst e <;> decide
        omega
      refine g_I c ?_
      walk_at "go"
      refine k _ H2 ?_ ?_ (x1.trans x2) st2
      · rcases e with e | e <;> subst e <;> omega
      · rcases e with e | e <;> subst e <;> omega
    · walk_at "go"
      exact take_go st1 hm fun r2 H2 r20 r21 x2 st2 => k r2 H2 r20 r21 (x1.trans x2) st2
theorem ok_between (T : Txt K mg) : FnOk P w K mg base CX0 173 T.dbetween.f T.dbetween.fd P_between (spBetween K) := by
  have G_edge : FnOk P w K mg base CX0 172 T.dedge.f T.dedge.fd P_edge (spTakeB K) := ok_edge T
  refine T.dbetween.F.ok sc_between (fun vs H Q E h => ?_) (fun cdv A outer s_ H vs Q E hr h => ?_)
  · obtain ⟨s, low, high, rfl, _⟩ := h
    rfl
  · obtain ⟨s, low, high, rfl, st, h1, h2, k⟩ := h
    refine ⟨_, (pss_one (ps_ret (pe_op op_add (pv 1) (pe_call G_edge (hr.mono (by omega)) rfl T.dedge.g T.dedge.F.kp T.dedge.b .nil pass0 (pa_cons (pv 0) (pa_cons (pe_op op_add (pe_op op_sub (pv 2) (pv 1)) pe_int) pa_nil)))))), ?_⟩
    try dsimp only [cxOf, Cx.nox, Cx.wish]
    walk_at "go"
    refine take_go st (big_of (by omega)) fun r H1 r0 r1 x1 st1 => ?_
    walk_at "go"
    exact k _ H1 (by omega) (by omega) x1 st1
end
end My
namespace My
open PySem PySem.Spec PyProof.Rows L2
local macro_rules | `(tactic| walk_at "arith") => `(tactic| first
  | (with_reducible show _ ≠ _; omega)
  | (unfold CMul; omega)
  | (unfold CPow; omega)
  | (unfold CPow; decide)
  | exact wide_div (b := 100) (by decide) (by decide) (by decide) (by decide))
local macro_rules | `(tactic| walk_at "go") => `(tactic| repeat (first
  | with_reducible refine g_seq ?_
  | with_reducible refine g_asg ?_
  | with_reducible refine g_name ?_
  | with_reducible refine g_sub ?_
  | with_reducible refine g_ret ?_
  | with_reducible refine g_drop ?_
  | ((with_reducible refine g_next ?_); dsimp only)
  | with_reducible refine g_if ?_
  | with_reducible refine g_var rfl ?_
  | with_reducible refine g_c ?_
  | with_reducible refine g_op ?_
  | with_reducible refine g_un ?_
  | with_reducible refine g_I0 ?_
  | with_reducible refine g_U ?_
  | with_reducible refine g_eq rfl ?_
  | with_reducible refine g_test ?_
  | with_reducible refine g_bl ?_
  | with_reducible refine iteF ?_
  | with_reducible refine iteT ?_
  | ((with_reducible apply g_iteT); (case e => rfl))
  | ((with_reducible apply g_iteF); (case e => rfl))
  | with_reducible refine g_int1 ?_
  | with_reducible refine g_max2 ?_
  | with_reducible refine g_min2 ?_
  | with_reducible refine g_isN ?_
  | with_reducible refine g_notN ?_
  | ((with_reducible apply g_lenL); (case hs => assumption))
  | ((with_reducible apply g_ixL); (case hs => exact SqL.of (by assumption)); (case ha => rfl))
  | with_reducible refine g_pow9 ?_
  | with_reducible refine g_pow18 ?_
  | ((with_reducible apply g_I); (case c => walk_at "arith"))
  | ((with_reducible apply g_st); (case hs => assumption); (case hL => assumption); (case ne => assumption); (case x0 => assumption); (case hj => rfl); (case j0 => decide); intro _ _ _ _)
  | with_reducible refine g_and ?_
  | with_reducible refine g_or ?_
  | with_reducible refine g_not ?_
  | with_reducible refine g_nil ?_
  | with_reducible refine g_cons ?_
  | with_reducible refine g_callB ?_
  | with_reducible refine g_call ?_
  | with_reducible refine g_tup ?_
  | with_reducible refine g_lst ?_
  | with_reducible refine g_andV ?_
  | with_reducible refine g_orV ?_
  | with_reducible refine g_notV ?_
  | with_reducible refine g_tB ?_
  | with_reducible refine g_ne rfl ?_
  | with_reducible refine g_abs ?_
  | with_reducible refine g_isB ?_
  | with_reducible refine g_for ?_
  | with_reducible refine g_rng1 ?_
  | with_reducible refine g_rng2 ?_
  | with_reducible refine g_iList ?_
  | ((with_reducible refine g_break ?_); dsimp only)
  | ((with_reducible refine g_cont ?_); dsimp only)
  | with_reducible refine g_retN ?_
  | ((with_reducible apply isi_go (T := "int")); (case h => assumption); (case hb => exact k_int_ _))
  | ((with_reducible apply isi_go (T := "str")); (case h => assumption); (case hb => exact k_str_ _))
  | ((with_reducible apply isi_go (T := "bool")); (case h => assumption); (case hb => exact k_bool_ _))
  | ((with_reducible apply isi_go (T := "list")); (case h => assumption); (case hb => exact k_list_ _))
  | ((with_reducible apply isi_go (T := "tuple")); (case h => assumption); (case hb => exact k_tuple_ _))
  | ((with_reducible apply isi_go (T := "dict")); (case h => assumption); (case hb => exact k_dict_ _))
  | with_reducible refine g_intb ?_))

/-! ### what the law alone needs: the store laid, lists thawed -/
def spStoreL (K : PySem.W.Frag) : Sp := fun vs H Q _ => ∃ (a : Addr) (ns : List Int), vs = [.ref a] ∧ SqL K H a (ns.map V.int) ∧ ns.length ≤ 63 ∧
  ∀ (L s : Addr) (H' : Hp), L ≠ s → H' s = some (.lst (StL L 0 0 0 0 0)) → H' L = some (.lst (ns.map V.int)) → Q (.ref s) H'
section
variable {P : Program} {w : World} {K : PySem.W.Frag} {mg : Str → Option Value} {base : Heap}
theorem ok_storeL (T : Txt K mg) : FnOk P w K mg base CX0 1 T.dstore.f T.dstore.fd P_store (spStoreL K) := by
  refine T.dstore.F.ok sc_store (fun vs H Q E h => ?_) (fun cdv A outer s H vs Q E hr h => ?_)
  · obtain ⟨a, ns, rfl, _⟩ := h
    rfl
  · obtain ⟨a, ns, rfl, hq, hl, k⟩ := h
    refine ⟨_, (pss_one (ps_ret (pe_lst (pa_cons (pe_callTy c_list (by rfl) T.m_list bt_list (pa_cons (pv 0) pa_nil)) (pa_cons pe_int (pa_cons pe_int (pa_cons pe_int (pa_cons pe_int (pa_cons pe_int pa_nil))))))))), ?_⟩
    try dsimp only [cxOf, Cx.nox, Cx.wish]
    walk_at "go"
    refine ⟨a, _, rfl, .inl hq, fun L hL => ?_⟩
    walk_at "go"
    refine ⟨by show 6 ≤ sizeLine; decide, fun p hp => ?_⟩
    have nLp : L ≠ p := fun e => by
      rw [← e, upd_same] at hp
      cases hp
    exact k L p _ nLp upd_same (by rw [upd_ne nLp, upd_same])
end
mutual
/-- no list within -/
def lfD : D → Bool
  | .non => true
  | .bl _ => true
  | .int _ => true
  | .str _ => true
  | .tup l => lfL l
  | _ => false
def lfL : List D → Bool
  | [] => true
  | d :: l => lfD d && lfL l
end
def noL (A : Hp) : Hp := fun b => match A b with
  | some (.lst _) => none
  | o => o
theorem noL_sub {A : Hp} {b : Addr} {o : HO} (h : noL A b = some o) : A b = some o := by
  unfold noL at h
  split at h
  · cases h
  · exact h
theorem noL_of {A : Hp} {b : Addr} {o : HO} (h : A b = some o) (n : ∀ xs, o ≠ .lst xs) : noL A b = some o := by
  unfold noL
  rw [h]
  cases o <;> first | rfl | exact absurd rfl (n _)
theorem noL_lst {A : Hp} {b : Addr} {xs : List V} (h : A b = some (.lst xs)) : noL A b = none := by
  unfold noL
  rw [h]
mutual
theorem Da.noL {K : PySem.W.Frag} {so so' : Option Addr} {A : Hp} : ∀ (d : D) (v : V), lfD d = true → Da K so A d v → Da K so' (noL A) d v
  | .non, _, _, h => h
  | .bl _, _, _, h => h
  | .int _, _, _, h => h
  | .str _, _, _, h => h
  | .tup l, _, e, ⟨a, xs, e1, h, q⟩ => by
    refine ⟨a, xs, e1, ?_, DaL.noL l xs e q⟩
    rcases h with (h | ⟨o, h⟩) | h
    · exact .inl (.inl (noL_of h (fun xs z => by cases z)))
    · exact .inl (.inr ⟨o, noL_of h (fun xs z => by cases z)⟩)
    · exact .inr h
  | .lst _, _, e, _ => by cases e
  | .dct _ _, _, e, _ => by cases e
  | .ins _ _ _, _, e, _ => by cases e
  | .scr _, _, e, _ => by cases e
  | .sto, _, e, _ => by cases e
  | .exc _, _, e, _ => by cases e
  | .err _ _ _, _, e, _ => by cases e
theorem DaL.noL {K : PySem.W.Frag} {so so' : Option Addr} {A : Hp} : ∀ (l : List D) (xs : List V), lfL l = true → DaL K so A l xs → DaL K so' (noL A) l xs
  | [], _, _, h => h
  | d :: l, _, e, ⟨v, r, e1, h, q⟩ => by
    have e : (lfD d && lfL l) = true := e
    rw [Bool.and_eq_true] at e
    exact ⟨v, r, e1, Da.noL d v e.1 h, DaL.noL l r e.2 q⟩
end
def thawS : Sl → Sl
  | .fr d => if lfD d = true then .fr d else .no
  | _ => .no
def thawD (i : Nat) (l : List D) (ρ : DEnv) : DEnv := (ρ.map thawS).set i (.ow l)
def lawEnds : DEnds := ⟨fun _ => False, fun d => d = .bl true, fun _ => False, fun _ => False, fun _ => False, True⟩
def sThaw (i : Nat) (r : DS) : DS := fun DD ρ => DD.fr ∧ ∃ l, ρ[i]? = some (.fr (.lst l)) ∧ lfL l = true ∧ r lawEnds (thawD i l ρ)
section
variable {X : Cx} {g : Gx} {EX : EXT} {rest : List Stmt} {r : DS}
theorem lawEnds_ok {g : Gx} {n : Nat} {B : Hp} {De : Ends} (h : ∀ H, De.rt (.bl true) H) : EndsOk X.K g EX n B lawEnds De :=
  ⟨fun _ _ _ _ _ _ _ q => q.elim, fun A H d v x da q => by
    have q : d = .bl true := q
    subst q
    have da : v = _ := da
    subst da
    exact h H, fun _ _ _ _ _ _ _ q => q.elim, fun _ _ _ _ _ _ _ q => q.elim, fun _ _ _ _ _ _ _ _ _ _ _ _ q => q.elim, fun _ => h⟩
theorem pds_thaw (i : Nat) (h : ∀ g', PDSs X g' EX rest r) : PDSs X g EX rest (sThaw i r) := by
  refine ⟨⟨fun pins s σ H De I q => ?_⟩⟩
  obtain ⟨A, ρ, DD, S, ⟨hf, l, hi, hl, q⟩, k⟩ := q
  obtain ⟨o, so, v, ev, a, xs, e2, ha, da⟩ := S.e.ok i _ hi
  subst ev e2
  have g1 : Good X.K none (noL A) H := ⟨fun b o e => S.good.sub b o (noL_sub e), fun s e => by cases e⟩
  have x1 : Ext X.K none (noL A) (noL A) (noL A) H := ⟨g1, fun _ _ e => e, fun b o _ e => g1.sub b o e, fun b o e => .inl e⟩
  refine (h ⟨none, noL A, noL A⟩).pss.run pins s σ H De I ⟨noL A, thawD i l ρ, lawEnds, ⟨x1, ?_⟩, q, lawEnds_ok (k.fr hf)⟩
  refine ⟨by rw [thawD, List.length_set, List.length_map]; exact S.e.len, fun j sl e => ?_, fun j1 j2 sl1 sl2 b n e1 e2 o1 o2 _ _ => ?_⟩
  · by_cases hj : i = j
    · subst hj
      have hlt : i < ρ.length := (List.getElem?_eq_some_iff.mp hi).1
      rw [thawD, List.getElem?_set_self (by rw [List.length_map]; exact hlt)] at e
      cases e
      exact ⟨_, so, a, xs, rfl, S.x.good.sub _ _ ha, noL_lst ha, noL_lst ha, (fun z => by cases z), DaL.noL l xs hl da⟩
    · rw [thawD, List.getElem?_set_ne hj, List.getElem?_map] at e
      cases e0 : ρ[j]? with
      | none =>
        rw [e0] at e
        cases e
      | some sl0 =>
        rw [e0] at e
        cases e
        obtain ⟨o, so2, h2⟩ := S.e.ok j sl0 e0
        refine ⟨o, so2, ?_⟩
        cases sl0 with
        | fr d =>
          show SlOk X.K none (My.noL A) (My.noL A) H (if lfD d = true then .fr d else .no) o
          split
          · rename_i hd
            obtain ⟨u, eu, du⟩ := h2
            exact ⟨u, eu, Da.noL d u hd du⟩
          · trivial
        | _ => exact trivial
  · have own : ∀ (j : Nat) (sl : Sl), (thawD i l ρ)[j]? = some sl → sl.own = true → i = j := fun j sl e o => by
      by_cases hj : i = j
      · exact hj
      · rw [thawD, List.getElem?_set_ne hj, List.getElem?_map] at e
        cases e0 : ρ[j]? with
        | none =>
          rw [e0] at e
          cases e
        | some sl0 =>
          rw [e0] at e
          cases e
          cases sl0 with
          | fr d =>
            have o : (if lfD d = true then Sl.fr d else Sl.no).own = true := o
            split at o <;> cases o
          | _ => cases o
    exact n ((own _ _ e1 o1).symm.trans (own _ _ e2 o2))
def onlyAt (H : Hp) (L : Addr) : Hp := fun b => if b = L then H L else none
theorem onlyAt_sub {H : Hp} {L b : Addr} {o : HO} (e : onlyAt H L b = some o) : H b = some o := by
  unfold onlyAt at e
  by_cases z : b = L
  · rw [if_pos z] at e
    rw [z]
    exact e
  · rw [if_neg z] at e
    cases e
theorem onlyAt_at {H : Hp} {L : Addr} : onlyAt H L L = H L := if_pos rfl
theorem onlyAt_ne {H : Hp} {L b : Addr} (n : b ≠ L) : onlyAt H L b = none := if_neg n
/-- the store is laid: nothing else is looked at behind it -/
def sStore (i : Nat) (r : DS) : DS := fun DD ρ => DD.fr ∧ i < ρ.length ∧ ∃ ns : List Int, ρ[0]? = some (.fr (.scr ns)) ∧ ns.length ≤ 63 ∧ r lawEnds ((ρ.map fun _ => Sl.no).set i (.fr .sto))
theorem pds_storeL {i lv : Nat} {y x : Str} {py p pos spos : Pos} {o : Expr} {f : Addr} {fd : FuncData} {ps : List Str} (F : FnOk X.prog X.w X.K X.mg X.base CX0 lv f fd ps (spStoreL X.K)) (hr : Room lv X.A) (hg : Gl X x) (hm : X.mg x = some (.ref f)) (hk : PySem.W.keepIn X.K (.ref f) = true) (hb : Binds X.K fd ps [])
    (ho : PE X o (tVar 0)) (hN : X.N.Nodup) (hi : X.N[i]? = some y) (hx : Loc X.env.scope y) (h : ∀ g', PDSs X g' EX rest r) (hs1 : starEach [o] X.env = (false, eval o X.env) :: starEach [] X.env) (hsw : swapsWith (.Call (.Name x p) [o] [] pos) (some (.Name y py)) spos.line X.env = pure false)
    (hf : X.fn y = true ∨ X.env.scope.names.lookup y = some .local) (nd : (x == ("__debug__" : Str)) = false := by decide) : PDSs X g EX (.Assign [.Name y py] (.Call (.Name x p) [o] [] pos) spos :: rest) (sStore i r) := by
  have h2 : PSs X rest (fun De σ H => ∃ g', lS X.K g' EX r De σ H) := ⟨fun pins s σ H De I ⟨g', q⟩ => (h g').pss.run pins s σ H De I q⟩
  refine ⟨(pss_cons (ps_set (pos := spos) hN hi hx (pe_callS F hr hg hm hk hb (fun σ => pass00 EX σ) (pa_cons ho pa_nil hs1) nd hs1 rfl) hsw hf) h2).imp fun De σ H q => ?_⟩
  obtain ⟨A, ρ, DD, S, ⟨hfr, hlt, ns, h0, hl, q⟩, k⟩ := q
  obtain ⟨o, so, v, ev, a, e2, hq⟩ := S.e.ok 0 _ h0
  subst ev e2
  refine ⟨_, so, a, ns, rfl, Sub.sqL S.good.sub hq, hl, fun L s H' ne h1 h2 => ?_⟩
  refine ⟨⟨some s, onlyAt H' L, H'⟩, onlyAt H' L, _, lawEnds, ⟨Ext.refl ⟨fun b o e => ?_, fun s' e => ?_⟩, ?_⟩, q, lawEnds_ok (k.fr hfr)⟩
  · exact onlyAt_sub e
  · cases e
    exact ⟨onlyAt_ne (Ne.symm ne), L, ns, 0, 0, 0, 0, 0, h1, onlyAt_at.trans h2, by decide, by decide, by decide, by decide, by decide, hl⟩
  · have hls := S.e.len
    refine ⟨by rw [List.length_set, List.length_set, List.length_map]; exact hls, fun j sl e => ?_, fun j1 j2 sl1 sl2 b n e1 e2 o1 o2 _ _ => ?_⟩
    · by_cases hj : i = j
      · subst hj
        rw [List.getElem?_set_self (by rw [List.length_map]; exact hlt)] at e
        cases e
        exact ⟨_, List.getElem?_set_self (by rw [hls]; exact hlt), .ref s, rfl, s, rfl, rfl⟩
      · rw [List.getElem?_set_ne hj, List.getElem?_map] at e
        rw [List.getElem?_set_ne hj]
        cases e0 : ρ[j]? with
        | none =>
          rw [e0] at e
          cases e
        | some sl0 =>
          rw [e0] at e
          cases e
          obtain ⟨o, so2, _⟩ := S.e.ok j sl0 e0
          exact ⟨o, so2, trivial⟩
    · have own : ∀ (j : Nat) (sl : Sl), ((ρ.map fun _ => Sl.no).set i (.fr .sto))[j]? = some sl → sl.own = true → False := fun j sl e o => by
        by_cases hj : i = j
        · subst hj
          rw [List.getElem?_set_self (by rw [List.length_map]; exact hlt)] at e
          cases e
          cases o
        · rw [List.getElem?_set_ne hj, List.getElem?_map] at e
          cases e0 : ρ[j]? with
          | none =>
            rw [e0] at e
            cases e
          | some sl0 =>
            rw [e0] at e
            cases e
            cases o
      exact (own _ _ e1 o1).elim
end
/-! ### the law's promise -/
def spLaw (K : PySem.W.Frag) : Sp := fun vs H Q _ => ∃ (a : Addr) (ns : List Int), vs = [.ref a] ∧ SqL K H a (ns.map V.int) ∧ ns.length ≤ 63 ∧ ∀ H', Q (.bl true) H'
section
variable {P : Program} {w : World} {K : PySem.W.Frag} {mg : Str → Option Value} {base : Heap}
theorem Df.okLaw {y : Str} {st : Stmt} {N : List Str} {pn : Str} {lv : Nat} (D : Df K mg y st [pn]) (S : FnScope N [pn] (defScope st))
    (body : ∀ (cdv : Value) (A : Around) (outer : List PySem.Env) (s : Shared) (H : Hp) (E : XK) (g : Gx), Room lv (A.deeper (envOfC y (defScope st) s.heap.objs.size D.f cdv)) →
      L2N.Takes (cxOf (L2N.CX P w) P w K mg base N y (defScope st) D.f cdv A outer s H E) (fun c d _ H => E c d H) →
      PassesOwn (model P w) (A.deeper (envOfC y (defScope st) s.heap.objs.size D.f cdv)) (envOfC y (defScope st) s.heap.objs.size D.f cdv) (cxOf (L2N.CX P w) P w K mg base N y (defScope st) D.f cdv A outer s H E).xe →
      ∃ r, PDSs (cxOf (L2N.CX P w) P w K mg base N y (defScope st) D.f cdv A outer s H E) g (fun _ => E) (defBody st) r ∧ ∀ ns : List Int, ns.length ≤ 63 → r lawEnds (startD N [.scr ns])) :
    FnOk P w K mg base (L2N.CX P w) (lv + 1) D.f D.fd [pn] (spLaw K) := by
  refine D.okN S (fun vs H Q E h => ?_) fun cdv A outer s H vs Q E room h => ?_
  · obtain ⟨_, _, rfl, _⟩ := h
    rfl
  · obtain ⟨a, ns, rfl, hq, hl, k⟩ := h
    obtain ⟨r, hr, kr⟩ := body cdv A outer s H E ⟨none, H, H⟩ room (L2N.takes_of rfl rfl rfl rfl) PassesOwn.leaving
    have gd : Good K none H H := ⟨fun _ _ e => e, fun s e => by cases e⟩
    exact ⟨_, hr.pss, H, startD N [.scr ns], lawEnds, ⟨Ext.refl gd, startOk gd (DaL.one ⟨a, rfl, hq⟩)⟩, kr ns hl, lawEnds_ok k⟩
end
end My
namespace My
open PySem PySem.Spec PyProof.Rows L2
/-! ### a call that lays a new list: it is owned by the caller -/
def tupH : List D → Bool
  | .tup _ :: _ => true
  | _ => false
theorem tupH_ints {K : PySem.W.Frag} {so : Option Addr} {A : Hp} {l : List D} {ns : List Int} (h : tupH l = true) (dl : DaL K so A l (ns.map V.int)) : False := by
  match l, h with
  | .tup t :: l', _ =>
    obtain ⟨v, r, e, dv, _⟩ := dl
    obtain ⟨a, xs, e1, _⟩ := dv
    subst e1
    cases ns with
    | nil => cases e
    | cons n ns => cases e
/-- the heap A, and behind it what the call froze, but for p -/
def under (A A' : Hp) (p : Addr) : Hp := fun b => match A b with
  | some o => some o
  | none => if b = p then none else A' b
def cutAt (H : Hp) (p : Addr) : Hp := fun b => if b = p then none else H b
theorem cutAt_eq {H : Hp} {p : Addr} {o : HO} (h : H p = some o) : upd (cutAt H p) p o = H := by
  funext b
  unfold upd cutAt
  by_cases e : b = p
  · subst e
    simp [h]
  · simp [e]
theorem cutAt_ne {H : Hp} {p b : Addr} (n : b ≠ p) : cutAt H p b = H b := if_neg n
def nCallF (m : DF) (i : Nat) : DL := fun ρ Q _ => ρ[i]? = some (.fr .sto) ∧ m [.sto] (fun d => ∃ l, d = .lst l ∧ tupH l = true ∧ lfL l = true ∧ Q l) (fun _ => False)
section
variable {X : Cx} {g : Gx} {EX : EXT} {e : Expr} {pos p : Pos} {lv : Nat} {f : Addr} {fd : FuncData} {ps : List Str} {m : DF} {x : Str} {CX : CXT} {i : Nat}
theorem pdn_callF (F : FnOk X.prog X.w X.K X.mg X.base CX lv f fd ps (spD X.K 1 m)) (hr : Room lv X.A) (hg : Gl X x) (hm : X.mg x = some (.ref f)) (hk : PySem.W.keepIn X.K (.ref f) = true) (hb : Binds X.K fd ps []) (hx : ∀ σ, PassesAt CX X σ (EX σ))
    (hv : PD X g EX e (dVar i)) (hdb : (x == ("__debug__" : Str)) = false := by decide) (he : starEach [e] X.env = (false, eval e X.env) :: starEach [] X.env := by rfl) (hpl : (backTo pos (starEach [] X.env)).any (·.1) = false := by rfl) :
    PDN X g EX (.Call (.Name x p) [e] [] pos) (nCallF m i) := ⟨(pe_callS F hr hg hm hk hb hx (pda_cons hv pda_nil he).pa hdb he hpl).imp fun σ H Q h => by
  obtain ⟨A, ρ, Qd, Ed, S, ⟨hi, h⟩, c, cx⟩ := h
  refine ⟨A, ρ, fun ds => ds = [.sto], Ed, S, ?_, fun ds vs A1 H1 x1 das q => ?_, cx⟩
  · show rdS ρ[i]? _
    rw [hi]
    rfl
  subst q
  obtain ⟨v, rfl, s, rfl, es⟩ := das.one'
  have g1 := x1.good
  obtain ⟨na, L, ns, p0, a0, b0, c0, d0, hs, hL, q1, q2, q3, q4, q5, q6⟩ := g1.st s es
  have sL : L ≠ s := fun z => by
    rw [z, na] at hL
    cases hL
  have g0 : Good X.K g.so (onlyAt A1 L) H1 := ⟨fun b o e => g1.sub b o (onlyAt_sub e), fun s' e' => by
    rw [es] at e'
    cases e'
    exact ⟨onlyAt_ne (Ne.symm sL), L, ns, p0, a0, b0, c0, d0, hs, onlyAt_at.trans hL, q1, q2, q3, q4, q5, q6⟩⟩
  refine ⟨g.so, onlyAt A1 L, [.sto], _, (fun _ => False), g0, rfl, ⟨_, _, rfl, ⟨s, rfl, es⟩, rfl⟩, h, fun d v A' H' x da q => ?_, fun _ _ _ _ _ _ _ _ _ _ z => z.elim⟩
  obtain ⟨l, rfl, ht, hl, q⟩ := q
  obtain ⟨pp, xs, rfl, hp, dl⟩ := da
  have hL' : A' L = some (.lst (ns.map V.int)) := x.mono _ _ (onlyAt_at.trans hL)
  have nt : ∀ {b : Addr} {ms : List Int}, A' b = some (.lst (ms.map V.int)) → b ≠ pp := fun hb z => by
    rw [z, hp] at hb
    cases hb
    exact tupH_ints ht dl
  have pL : L ≠ pp := nt hL'
  have hp0 : H1 pp = none := by
    rcases x.new pp _ hp with z | z
    · rw [onlyAt_ne (Ne.symm pL)] at z
      cases z
    · exact z
  have ap0 : A1 pp = none := by
    cases z : A1 pp with
    | none => rfl
    | some o =>
      rw [g1.sub _ _ z] at hp0
      cases hp0
  have keep : ∀ b o, A1 b = some o → H' b = some o ∧ b ≠ pp := fun b o e => by
    refine ⟨x.kept b o (fun z => ?_) (g1.sub _ _ e), fun z => ?_⟩
    · rw [es] at z
      cases z
      rw [na] at e
      cases e
    · rw [z, ap0] at e
      cases e
  have und : ∀ b o, A' b = some o → b ≠ pp → under A1 A' pp b = some o := fun b o e n => by
    unfold under
    cases z : A1 b with
    | none => simp [n, e]
    | some o' =>
      have := (keep b o' z).1
      rw [x.good.sub b o e] at this
      cases this
      rfl
  have und1 : ∀ b o, A1 b = some o → under A1 A' pp b = some o := fun b o e => by
    unfold under
    rw [e]
  have und2 : ∀ b o, under A1 A' pp b = some o → A1 b = some o ∨ (A' b = some o ∧ b ≠ pp) := fun b o e => by
    unfold under at e
    cases z : A1 b with
    | some o' =>
      rw [z] at e
      cases e
      exact .inl rfl
    | none =>
      rw [z] at e
      dsimp only at e
      split at e
      · cases e
      · rename_i n
        exact .inr ⟨e, n⟩
  have y : Ext X.K g.so A1 H1 (under A1 A' pp) (cutAt H' pp) := by
    refine ⟨⟨fun b o e => ?_, fun s' e' => ?_⟩, und1, fun b o n e => ?_, fun b o e => ?_⟩
    · rcases und2 b o e with z | ⟨z, n⟩
      · obtain ⟨k1, k2⟩ := keep b o z
        rw [cutAt_ne k2]
        exact k1
      · rw [cutAt_ne n]
        exact x.good.sub _ _ z
    · rw [es] at e'
      cases e'
      obtain ⟨nb, L', ns', p1, a1, b1, c1, d1, hs', hL2, r1, r2, r3, r4, r5, r6⟩ := x.good.st s es
      have sp : s ≠ pp := fun z => by
        rw [← z, hs] at hp0
        cases hp0
      refine ⟨?_, L', ns', p1, a1, b1, c1, d1, by rw [cutAt_ne sp]; exact hs', und _ _ hL2 (nt hL2), r1, r2, r3, r4, r5, r6⟩
      unfold under
      rw [na]
      simp [sp, nb]
    · have n2 : b ≠ pp := fun z => by
        rw [z, hp0] at e
        cases e
      rw [cutAt_ne n2]
      exact x.kept b o n e
    · rcases und2 b o e with z | ⟨z, n⟩
      · exact .inl z
      · rcases x.new b o z with k | k
        · exact .inl (onlyAt_sub k)
        · exact .inr k
  have hpH : H' pp = some (.lst xs) := x.good.sub _ _ hp
  have fin := (c.ext x1) l xs pp (under A1 A' pp) (cutAt H' pp) y (if_pos rfl) (DaL.mono (fun b o e => und b o (noL_sub e) (fun z => by
    rw [z, noL_lst hp] at e
    cases e)) l xs (DaL.noL (so' := g.so) l xs hl dl)) q
  rw [cutAt_eq hpH] at fin
  exact fin⟩
end
end My
namespace My
open PySem PySem.Spec PyProof.Rows L2 RT
/-! ### list(reversed(x)), x a list -/
section
variable {prog : Program} {w : World} {A : Around} {E : Value → Shared → Prop} {s : Shared}
theorem ext_rev {R : Result → Shared → Prop} {it l S : Addr} {items : Array Value} {res : Value} {c0 : Nat} (hh : A.handled = none) (hit : s.heap.IsRevIter it l ((items.size : Int) - 1)) (hl : s.heap.IsList l items) (nli : l ≠ it) (nSi : S ≠ it) (nSl : S ≠ l)
    (hn : items.size ≤ sizeLine) (hS : s.heap.get? S = some { cls := .type "list", data := .seq #[] c0 })
    (hR : ∀ h' tk acc c', (∀ b o, b ≠ S → b ≠ it → s.heap.get? b = some o → h'.get? b = some o) → h'.get? S = some { cls := .type "list", dict := none, data := .seq acc c', slots := #[] } →
      ItemsOf (fun i v => items[items.size - 1 - i]? = some v) acc items.size → R (.ok (.ret res)) { s with heap := h', toks := tk }) :
    wpAny (model prog w) A.in1 (Builtin.List.listExtendWith (.ref S) (.ref it) res)
      (fun fin s' => match fin with | .done f => R (.ok f) s' | .again c' => c'.quiet = true ∧ codeAny (model prog w) A c' R s') (fun e s' => R (.error e) s') s := by
  have Wk := (Walks.listRev (prog := prog) (w := w) (A := A.in1) hh it l nli items).toS
  have nf : S ∉ [it, l] := fun z => by
    rcases List.mem_cons.mp z with e | z
    · exact nSi e
    · exact nSl (List.mem_singleton.mp z)
  have tI : s.TypeIs (.ref it) "list_reverseiterator" := Heap.IsRevIter.typeIs (s := s) hit
  have no : Builtin.List.listSameRef (.ref S) (.ref it) = false := by simp [Builtin.List.listSameRef, nSi]
  unfold Builtin.List.listExtendWith
  refine wpAny_bind (wpAny_typeOf tI ?_)
  rw [if_neg (by rw [no]; decide)]
  refine wpAny_bind (wpAny_pyIter_revIter (s := s) hit (wpAny_bind (wpAny_holding ?_)))
  unfold Builtin.List.listLengthHint
  refine wpAny_bind (wpAny_specialOf tI nolen_lri ?_)
  show wpAny _ A.in1 (specialOf (.ref it) (Str.ofString "__length_hint__") >>= _) _ _ _
  refine wpAny_bind (wpAny_specialOf tI hint_lri ?_)
  generalize hid : ("list_reverseiterator.__length_hint__" : String) = idx
  wp_delta
  have sp : splitId idx = some ("list_reverseiterator", "__length_hint__") := by
    subst hid
    decide +kernel
  rw [sp]
  subst hid
  refine wpAny_bind (wpAny_isInstance (b := true) tI (by rw [isSubtype_type]; kernel_rfl) (wpAny_pure ?_))
  rw [if_neg (by decide)]
  have z0 : ((items.size : Nat) : Int) - 1 - ((0 : Nat) : Int) = (items.size : Int) - 1 := by omega
  refine wpAny_pure ⟨plainId_quiet F.plain_extend_loop _, ?_⟩
  refine codeAny_extend_loopS Wk hn _ nf _ items.size 0 _ _ _ rfl (Nat.zero_le _) ⟨Nat.zero_le _, by rw [z0]; exact hit, hl⟩ hS (ItemsOf.nil _) fun s' acc' c' hm hS' hacc => ?_
  rw [Moved.eq_with hm]
  refine hR s'.heap s'.toks acc' c' (fun b o nS nI e => hm.heap b o (fun z => ?_) e) hS' hacc
  rcases List.mem_cons.mp z with e | z
  · exact nS e
  · exact nI (List.mem_singleton.mp z)
theorem init_rev {R : Result → Shared → Prop} {it l S : Addr} {items : Array Value} (hh : A.handled = none) (hit : s.heap.IsRevIter it l ((items.size : Int) - 1)) (hl : s.heap.IsList l items) (nli : l ≠ it) (nSi : S ≠ it) (nSl : S ≠ l)
    (hn : items.size ≤ sizeLine) (hS : s.heap.get? S = some { cls := .type "list", data := .seq #[] })
    (hR : ∀ h' tk acc c', (∀ b o, b ≠ S → b ≠ it → s.heap.get? b = some o → h'.get? b = some o) → h'.get? S = some { cls := .type "list", dict := none, data := .seq acc c', slots := #[] } →
      ItemsOf (fun i v => items[items.size - 1 - i]? = some v) acc items.size → R (.ok (.ret .none)) { s with heap := h', toks := tk }) :
    wpAny (model prog w) A.in1 (Builtin.«list.__init__» ⟨[.ref S, .ref it], []⟩)
      (fun fin s' => match fin with | .done f => R (.ok f) s' | .again c' => c'.quiet = true ∧ codeAny (model prog w) A c' R s') (fun e s' => R (.error e) s') s := by
  show wpAny _ _ (do let old ← Builtin.List.listItems (.ref S); Builtin.List.listUpdate (.ref S) (fun _ => #[]); letGo old.toList.reverse
                     Builtin.List.listExtendWith (.ref S) (.ref it) .none) _ _ s
  unfold Builtin.List.listItems
  refine wpAny_bind (wpAny_bind (wpAny_seqItems hS rfl (wpAny_pure ?_)))
  show wpAny _ _ (updateSeq S (fun _ => #[]) >>= fun _ => (letGo (#[] : Array Value).toList.reverse >>= fun _ => Builtin.List.listExtendWith (.ref S) (.ref it) .none)) _ _ s
  refine wpAny_bind (wpAny_updateSeq hS rfl (wpAny_bind (wpAny_letGo ?_)))
  have S2 := Heap.get?_update_self (Obj.mapSeq (fun _ => (#[] : Array Value))) hS rfl
  have k : ∀ b o, b ≠ S → s.heap.get? b = some o → (s.heap.update S (Obj.mapSeq (fun _ => (#[] : Array Value)))).get? b = some o := fun b o n e => (Heap.get?_update_other _ _ (Ne.symm n)).trans e
  refine ext_rev hh (hit.at fun o e => k it o (Ne.symm nSi) e) (hl.at fun o e => k l o (Ne.symm nSl) e) nli nSi nSl hn S2 fun h' tk acc c' hk hs hacc => ?_
  exact hR h' tk acc c' (fun b o n1 n2 e => hk b o n1 n2 (k b o n1 e)) hs hacc
theorem call_list_rev {it l : Addr} {items : Array Value} {Q : Value → Shared → Prop} (hh : A.handled = none) (hit : s.heap.IsRevIter it l ((items.size : Int) - 1)) (hl : s.heap.IsList l items) (nli : l ≠ it) (hn : items.size ≤ sizeLine)
    (hQ : ∀ h' tk acc c', (∀ b o, b ≠ it → s.heap.get? b = some o → h'.get? b = some o) → h'.get? s.heap.objs.size = some { cls := .type "list", dict := none, data := .seq acc c', slots := #[] } →
      ItemsOf (fun i v => items[items.size - 1 - i]? = some v) acc items.size → Q (.ref s.heap.objs.size) { s with heap := h', toks := tk }) :
    wpAny (model prog w) A (call (.type "list") [.ref it]) Q E s := by
  refine callType_codes (Q₁ := fun obj t => obj = .ref s.heap.objs.size ∧ t = { s with heap := s.heap.push { cls := .type "list", data := .seq #[] } }) F.called_list (F.typeCall_list_1 _) F.entry_list_init (code_list_new _ ⟨rfl, rfl⟩) ?_
  rintro obj t ⟨rfl, rfl⟩
  have hS : (s.heap.push { cls := .type "list", data := .seq #[] }).get? s.heap.objs.size = some { cls := .type "list", data := .seq #[] } := Heap.get?_push_size _ rfl
  obtain ⟨o1, e1, _⟩ := id hit
  obtain ⟨o2, e2, _⟩ := id hl
  refine ⟨⟨_, hS, rfl⟩, F.args_list_init_2 _ _, ?_⟩
  refine init_rev (A := A.in1) hh (hit.at fun o e => Heap.get?_push_of_some _ e) (hl.push _) nli (Nat.ne_of_gt (Heap.lt_size e1)) (Nat.ne_of_gt (Heap.lt_size e2)) hn hS fun h' tk acc c' hk hs hacc => ?_
  exact ⟨rfl, hQ h' tk acc c' (fun b o n e => hk b o (Nat.ne_of_lt (Heap.lt_size e)) n (Heap.get?_push_of_some _ e)) hs hacc⟩
end
def tLstRev (K : PySem.W.Frag) (te : TE) : TE := fun σ H Q => te σ H fun v H1 => ∃ (a : Addr) (xs : List V), v = .ref a ∧ SqL K H1 a xs ∧ ∀ q, H1 q = none → Q (.ref q) (upd H1 q (.lst xs.reverse))
theorem pe_lstRev {X : Cx} {e : Expr} {te : TE} {p p2 pos pos2 : Pos} (hc : X.calm = true) (hg : Gl X "list") (hm : X.mg "list" = none) (hg2 : Gl X "reversed") (hm2 : X.mg "reversed" = none) (he : PE X e te)
    (hs : starEach [e] X.env = (false, eval e X.env) :: starEach [] X.env := by rfl)
    (hs2 : starEach [.Call (.Name "reversed" p2) [e] [] pos2] X.env = (false, eval (.Call (.Name "reversed" p2) [e] [] pos2) X.env) :: starEach [] X.env := by rfl) :
    PE X (.Call (.Name "list" p) [.Call (.Name "reversed" p2) [e] [] pos2] [] pos) (tLstRev X.K te) := by
  refine ⟨fun pins s σ H Q I rd => Call_ (ld_blt I hg hm bt_list (PyProof.Rows.callWith_type1 (args_cons ?_ hs2) hs2 rfl))⟩
  refine Call_ (ld_blt I hg2 hm2 PyProof.Rows.boot_reversed (PyProof.Rows.callWith_type1 (args_cons (thn (he.run pins s σ H _ I rd) fun u s1 hh => args_nil ?_) hs) hs rfl))
  obtain ⟨v, H1, I1, r1, a, xs, rfl, hq, q⟩ := hh
  cases (show u = Value.ref a from r1)
  obtain ⟨its, rv, pl, hz⟩ := I1.list hq
  refine call_reversed_list pl.isList (args_nil ?_)
  generalize er : revObj a ((its.toArray.size : Int) - 1) = ro
  have k0 : ∀ b o, s1.heap.get? b = some o → (s1.heap.push ro).get? b = some o := fun b o e => Heap.get?_push_of_some _ e
  obtain ⟨ol, hol, _⟩ := id pl.isList
  have hne : a ≠ s1.heap.objs.size := Nat.ne_of_lt (Heap.lt_size hol)
  have hn : its.toArray.size ≤ sizeLine := by
    rw [List.size_toArray, ← rv.length]
    exact hz
  refine call_list_rev (it := s1.heap.objs.size) (l := a) (items := its.toArray) (s := { s1 with heap := s1.heap.push ro }) (I1.ok.hd hc) (by rw [← er]; exact ⟨_, Heap.get?_push_size _ rfl, rfl, rfl⟩) (pl.isList.push _) hne hn fun h' tk acc c' hk hs' hi => ?_
  have esz : (s1.heap.push ro).objs.size = s1.heap.objs.size + 1 := Heap.size_push _ _
  rw [esz] at hs' ⊢
  have hp : s1.heap.objs.size ≤ s1.heap.objs.size + 1 := Nat.le_succ _
  have kk : ∀ b o, s1.heap.get? b = some o → h'.get? b = some o := fun b o e => hk b o (Nat.ne_of_lt (Heap.lt_size e)) (k0 b o e)
  refine ⟨.ref (s1.heap.objs.size + 1), upd H1 (s1.heap.objs.size + 1) (.lst xs.reverse), I1.laid (t' := tk) kk hp ?_, rfl, q _ (I1.hok.fresh hp)⟩
  refine ⟨by rw [List.length_reverse]; exact hz, acc.toList, c', vals_rev rv hi, ?_⟩
  rw [Array.toArray_toList]
  exact hs'
end My
namespace My
open PySem PySem.Spec PyProof.Rows L2
/-! ### steps of methods -/
def rJoin (K : PySem.W.Frag) : V → List V → Hp → VK → Prop := fun x xs H Q => ∃ a p, ∃ ys : List Str, x = .str a ∧ xs = [.ref p] ∧ (SqL K H p (ys.map V.str) ∨ SqT K H p (ys.map V.str)) ∧
    (ys.map (·.length)).sum + ys.length * a.length ≤ 16777216 ∧ Q (.str (Txt.join a ys)) H
theorem m_join {X : Cx} : MtR X "str.join" (rJoin X.K) := mt_join
def rSplit : V → List V → Hp → VK → Prop := fun x xs H Q => ∃ a b, x = .str a ∧ xs = [.str b] ∧ (b.length == 0) = false ∧ a.length + 2 ≤ sizeLine ∧ rNewStrs (Txt.split a b) H Q
theorem m_split {X : Cx} : MtR X "str.split" rSplit := mt_split
def rInsert : V → List V → Hp → VK → Prop := fun x vs H Q => ∃ (l : Addr) (xs : List V) (i : Int) (y : V), x = .ref l ∧ vs = [.int i, y] ∧ H l = some (.lst xs) ∧ xs.length < sizeLine ∧ 0 ≤ i ∧ i < 2 ^ 63 ∧
    Q .non (upd H l (.lst (xs.take i.toNat ++ [y] ++ xs.drop i.toNat)))
theorem m_insert {X : Cx} : MtR X "list.insert" rInsert := mt_insert
def rInS : R2 := fun x y H Q => ∃ (c : Nat) (z : Str), x = .str ⟨#[c]⟩ ∧ y = .str z ∧ Q (.bl (decide (c ∈ z.cps.toList))) H
theorem o_inS {X : Cx} : OpR X (compareOp .In) rInS := op_in_sign
section
variable {σ : L2.St} {H : Hp} {Q : VK} {D : Ends} {to te : TE} {t : TA}
theorem g_bm {K : PySem.W.Frag} {T : String} {r : V → List V → Hp → VK → Prop} (h : to σ H fun x H1 => tyV K T x H1 ∧ t σ H1 fun xs H2 => r x xs H2 Q) : tBM K T r to t σ H Q := h
theorem g_tyL {K : PySem.W.Frag} {p : Addr} {xs : List V} {R : Prop} (hs : H p = some (.lst xs)) (h : R) : tyV K "list" (.ref p) H ∧ R := ⟨.inl ⟨rfl, xs, SqL.of hs⟩, h⟩
theorem g_tyS {K : PySem.W.Frag} {z : Str} {R : Prop} (h : R) : tyV K "str" (.str z) H ∧ R := ⟨rfl, h⟩
theorem g_app {l : Addr} {xs : List V} {y : V} (hH : H l = some (.lst xs)) (hz : xs.length < sizeLine) (h : Q .non (upd H l (.lst (xs ++ [y])))) : rAppend (.ref l) [y] H Q := ⟨l, xs, y, rfl, rfl, hH, hz, h⟩
theorem g_list {K : PySem.W.Frag} {p : Addr} {xs : List V} (hs : SqL K H p xs) (h : ∀ l, H l = none → Q (.ref l) (upd H l (.lst xs))) : rListQ K [.ref p] H Q := ⟨p, xs, rfl, .inl hs, h⟩
theorem g_lstRev {K : PySem.W.Frag} (h : te σ H fun v H1 => ∃ (a : Addr) (xs : List V), v = .ref a ∧ SqL K H1 a xs ∧ ∀ q, H1 q = none → Q (.ref q) (upd H1 q (.lst xs.reverse))) : tLstRev K te σ H Q := h
theorem g_sl {r : V → Option Int → Option Int → Hp → VK → Prop} {tl th : TO} (h : te σ H fun x H1 => tl σ H1 fun l H2 => th σ H2 fun u H3 => r x l u H3 Q) : tSl r te tl th σ H Q := h
theorem g_noP {R : Option Int → Hp → Prop} (h : R none H) : tNoPart σ H R := h
theorem g_part {R : Option Int → Hp → Prop} (h : te σ H fun x H1 => ∃ i, x = .int i ∧ R (some i) H1) : tPart te σ H R := h
theorem g_pI {i : Int} {R : Int → Prop} (h : R i) : ∃ j, V.int i = .int j ∧ R j := ⟨i, rfl, h⟩
theorem g_lc {wi : TI} {g : TG} {tt : TT} {vs : List Nat} (h : wi σ H fun J H1 => ∀ D, H1 D = none → ∃ W : Nat → Nat → Hp → Prop, (∃ m, W 0 m (upd H1 D (.lst []))) ∧ ∀ i m H, W i m H →
  (J.stop i H ∧ Q (.ref D) H) ∨ (J.go i H ∧ ∃ Nx : Hp → Prop, (∀ H', Nx H' → ∃ m', m' < m ∧ W (i + 1) m' H') ∧ ∀ x H', J.yld i H x H' → g x (wipe σ vs) H' fun σ2 H2 => wipe σ2 vs = wipe σ vs ∧ tt σ2 H2 fun b H3 =>
    if b = true then te σ2 H3 fun y H4 => ∃ acc, H4 D = some (.lst acc) ∧ acc.length < sizeLine ∧ Nx (upd H4 D (.lst (acc ++ [y]))) else Nx H3)) : tLc wi g tt te vs σ H Q := h
end
theorem idx_ok {i : Int} {n : Nat} (h0 : 0 ≤ i) (h1 : i < n) : seqIndex? i n = some i.toNat := by
  have e : (if i < 0 then i + (n : Int) else i) = i := if_neg (by omega)
  unfold seqIndex?
  simp only [e]
  rw [if_pos (by simp [h0, h1])]
local macro_rules | `(tactic| walk_at "arith") => `(tactic| first
  | (with_reducible show _ ≠ _; omega)
  | (unfold CMul; omega)
  | (unfold CPow; omega)
  | (unfold CPow; decide)
  | exact wide_div (b := 100) (by decide) (by decide) (by decide) (by decide))
local macro_rules | `(tactic| walk_at "go") => `(tactic| repeat (first
  | with_reducible refine g_seq ?_
  | with_reducible refine g_asg ?_
  | with_reducible refine g_name ?_
  | with_reducible refine g_sub ?_
  | with_reducible refine g_ret ?_
  | with_reducible refine g_drop ?_
  | ((with_reducible refine g_next ?_); dsimp only)
  | with_reducible refine g_if ?_
  | with_reducible refine g_var rfl ?_
  | with_reducible refine g_c ?_
  | with_reducible refine g_op ?_
  | with_reducible refine g_un ?_
  | with_reducible refine g_I0 ?_
  | with_reducible refine g_U ?_
  | with_reducible refine g_eq rfl ?_
  | with_reducible refine g_test ?_
  | with_reducible refine g_bl ?_
  | with_reducible refine iteF ?_
  | with_reducible refine iteT ?_
  | ((with_reducible apply g_iteT); (case e => rfl))
  | ((with_reducible apply g_iteF); (case e => rfl))
  | with_reducible refine g_int1 ?_
  | with_reducible refine g_max2 ?_
  | with_reducible refine g_min2 ?_
  | with_reducible refine g_isN ?_
  | with_reducible refine g_notN ?_
  | ((with_reducible apply g_lenL); (case hs => assumption))
  | ((with_reducible apply g_ixL); (case hs => exact SqL.of (by assumption)); (case ha => rfl))
  | with_reducible refine g_pow9 ?_
  | with_reducible refine g_pow18 ?_
  | ((with_reducible apply g_I); (case c => walk_at "arith"))
  | ((with_reducible apply g_st); (case hs => assumption); (case hL => assumption); (case ne => assumption); (case x0 => assumption); (case hj => rfl); (case j0 => decide); intro _ _ _ _)
  | with_reducible refine g_and ?_
  | with_reducible refine g_or ?_
  | with_reducible refine g_not ?_
  | with_reducible refine g_nil ?_
  | with_reducible refine g_cons ?_
  | with_reducible refine g_callB ?_
  | with_reducible refine g_call ?_
  | with_reducible refine g_tup ?_
  | with_reducible refine g_lst ?_
  | with_reducible refine g_andV ?_
  | with_reducible refine g_orV ?_
  | with_reducible refine g_notV ?_
  | with_reducible refine g_tB ?_
  | with_reducible refine g_ne rfl ?_
  | with_reducible refine g_abs ?_
  | with_reducible refine g_isB ?_
  | with_reducible refine g_for ?_
  | with_reducible refine g_rng1 ?_
  | with_reducible refine g_rng2 ?_
  | with_reducible refine g_iList ?_
  | ((with_reducible refine g_break ?_); dsimp only)
  | ((with_reducible refine g_cont ?_); dsimp only)
  | with_reducible refine g_retN ?_
  | ((with_reducible apply isi_go (T := "int")); (case h => assumption); (case hb => exact k_int_ _))
  | ((with_reducible apply isi_go (T := "str")); (case h => assumption); (case hb => exact k_str_ _))
  | ((with_reducible apply isi_go (T := "bool")); (case h => assumption); (case hb => exact k_bool_ _))
  | ((with_reducible apply isi_go (T := "list")); (case h => assumption); (case hb => exact k_list_ _))
  | ((with_reducible apply isi_go (T := "tuple")); (case h => assumption); (case hb => exact k_tuple_ _))
  | ((with_reducible apply isi_go (T := "dict")); (case h => assumption); (case hb => exact k_dict_ _))
  | with_reducible refine g_intb ?_
  | with_reducible refine g_bm ?_
  | with_reducible refine g_tyS ?_
  | ((with_reducible apply g_tyL); (case hs => assumption))
  | with_reducible refine g_lc ?_
  | with_reducible refine g_sl ?_
  | with_reducible refine g_noP ?_
  | with_reducible refine g_part ?_
  | with_reducible refine g_pI ?_))

/-! ### mixed -/
theorem erase_perm {α : Type} : ∀ (l : List α) (i : Nat) (h : i < l.length), ([l[i]] ++ l.eraseIdx i).Perm l
  | a :: l, 0, _ => List.Perm.refl _
  | a :: l, i + 1, h => by
    have hi : i < l.length := by simpa using h
    have ih := erase_perm l i hi
    show ([l[i]] ++ a :: l.eraseIdx i).Perm (a :: l)
    exact (List.Perm.swap a l[i] _).trans (ih.cons a)
def spMixed (K : PySem.W.Frag) : Sp := fun vs H Q _ => ∃ (s p : Addr) (xs : List V), vs = [.ref s, .ref p] ∧ Store K H s ∧ p ≠ s ∧ H p = some (.lst xs) ∧ xs.length ≤ 100000 ∧
  ∀ (q : Addr) (ys : List V) (H' : Hp), H q = none → H' q = some (.lst ys) → ys.Perm xs → Sx s H H' → Store K H' s → Q (.ref q) H'
abbrev s_mixed : Stmt := topS 55
abbrev N_mixed : List Str := ["store", "items", "way", "left", "out", "k"]
abbrev P_mixed : List Str := ["store", "items"]
theorem sc_mixed : FnScope N_mixed P_mixed (defScope s_mixed) := ⟨rfl, rfl, rfl, by decide +kernel, rfl, by decide +kernel, by decide +kernel⟩

section
variable {P : Program} {w : World} {K : PySem.W.Frag} {mg : Str → Option Value} {base : Heap}
theorem ok_mixed (T : Txt K mg) : FnOk P w K mg base CX0 172 T.dmixed.f T.dmixed.fd P_mixed (spMixed K) := by
  have G_take : FnOk P w K mg base CX0 171 T.dtake.f T.dtake.fd P_take (spTakeB K) := ok_takeB T
  refine T.dmixed.F.ok sc_mixed (fun vs H Q E h => ?_) (fun cdv A outer s_ H vs Q E hr h => ?_)
  · obtain ⟨s, p, xs, rfl, _⟩ := h
    rfl
  · obtain ⟨s, p, xs, rfl, st, ps, hp, hl, k⟩ := h
    refine ⟨_, (pss_cons (ps_set (i := 2) sc_mixed.nd rfl (by first | exact .inl rfl | exact .inr rfl) (pe_call G_take (hr.mono (by omega)) rfl T.dtake.g T.dtake.F.kp T.dtake.b .nil pass0 (pa_cons (pv 0) (pa_cons pe_int pa_nil))))
      (pss_cons (ps_if (pt_cmpR op_eq (pv 2) pe_int (nomark _))
        (pss_one (ps_ret (pe_callTy c_list (by rfl) T.m_list bt_list (pa_cons (pv 1) pa_nil))))
        pss_nil)
      (pss_cons (ps_if (pt_cmpR op_eq (pv 2) pe_int (nomark _))
        (pss_one (ps_ret (pe_lstRev rfl (by rfl) T.m_list (by rfl) T.m_reversed (pv 1))))
        pss_nil)
      (pss_cons (ps_set (i := 3) sc_mixed.nd rfl (by first | exact .inl rfl | exact .inr rfl) (pe_callTy c_list (by rfl) T.m_list bt_list (pa_cons (pv 1) pa_nil)))
      (pss_cons (ps_set (i := 4) sc_mixed.nd rfl (by first | exact .inl rfl | exact .inr rfl) (pe_lst pa_nil))
      (pss_cons (ps_for PassesOwn.never rfl (pi_range1 rfl T.m_range (pa_cons (pe_callB c_len (by rfl) T.m_len bt_len (pa_cons (pv 1) pa_nil)) pa_nil)) (pg_name (i := 5) sc_mixed.nd rfl (by first | exact .inl rfl | exact .inr rfl))
        (pss_one (ps_expr (pe_bm PySem.F.plainAttrs_list PySem.F.slot_list_append PySem.F.type_list_append mt_append (pv 4) (pa_cons (pe_bm PySem.F.plainAttrs_list PySem.F.slot_list_pop PySem.F.type_list_pop mt_popAt (pv 3) (pa_cons (pe_call G_take (hr.mono (by omega)) rfl T.dtake.g T.dtake.F.kp T.dtake.b .nil pass0 (pa_cons (pv 0) (pa_cons (pe_callB c_len (by rfl) T.m_len bt_len (pa_cons (pv 3) pa_nil)) pa_nil))) pa_nil)) pa_nil)))))
      (pss_one (ps_ret (pv 4))))))))), ?_⟩
    try dsimp only [cxOf, Cx.nox, Cx.wish]
    walk_at "go"
    refine take_go st (big_of (by decide)) fun r H1 r0 r1 x1 st1 => ?_
    have hp1 := x1.kp _ _ ps hp
    walk_at "go"
    refine g_ite (fun h1 => ?_) (fun h1 => ?_)
    · walk_at "go"
      refine g_list (SqL.of hp1) fun l h0 => ?_
      walk_at "go"
      have hl0 := st1.free x1 h0
      exact k l xs _ hl0 upd_same (List.Perm.refl _) (x1.mut hl0) (st.mut x1 st1 hl0)
    walk_at "go"
    refine g_ite (fun h2 => ?_) (fun h2 => ?_)
    · walk_at "go"
      refine g_lstRev ?_
      walk_at "go"
      refine ⟨p, xs, rfl, SqL.of hp1, fun l h0 => ?_⟩
      have hl0 := st1.free x1 h0
      exact k l xs.reverse _ hl0 upd_same (List.reverse_perm xs) (x1.mut hl0) (st.mut x1 st1 hl0)
    walk_at "go"
    refine g_list (SqL.of hp1) fun l h0 => ?_
    have hl0 := st1.free x1 h0
    have x2 := x1.mut (o := .lst xs) hl0
    have st2 := st.mut (o := .lst xs) x1 st1 hl0
    walk_at "go"
    refine ⟨by decide, fun o h3 => ?_⟩
    have ho0 := st2.free x2 h3
    have x3 := x2.mut (o := .lst []) ho0
    have st3 := st.mut (o := .lst []) x2 st2 ho0
    have nlo : l ≠ o := ne_of_none upd_same h3
    have hl3 : upd (upd H1 l (.lst xs)) o (.lst []) l = some (.lst xs) := by rw [upd_ne nlo, upd_same]
    have ho3 : upd (upd H1 l (.lst xs)) o (.lst []) o = some (.lst []) := upd_same
    generalize upd (upd H1 l (.lst xs)) o (.lst []) = H3 at *
    have hp3 := x3.kp _ _ ps hp
    walk_at "go"
    refine g_lenL (SqL.of hp3) ?_
    walk_at "go"
    refine ⟨_, rfl, by omega, by omega, ?_⟩
    refine for_range (n := xs.length) (fun i σ' H' => ∃ z ls os, σ' = [some (.ref s), some (.ref p), some (.int r), some (.ref l), some (.ref o), z] ∧ H' l = some (.lst ls) ∧ H' o = some (.lst os) ∧ (os ++ ls).Perm xs ∧
      ls.length + i = xs.length ∧ os.length = i ∧ Sx s H H' ∧ Store K H' s) ⟨none, xs, [], rfl, hl3, ho3, List.Perm.refl _, rfl, rfl, x3, st3⟩ ?_ ?_
    · rintro i σ' H' hi ⟨z, ls, os, rfl, hls, hos, pm, e1, e2, x4, st4⟩
      walk_at "go"
      refine g_lenL (SqL.of hls) ?_
      walk_at "go"
      refine take_go st4 (big_of (by omega)) fun r H5 r0 r1 x5 st5 => ?_
      have nls : l ≠ s := st.ne hl0
      have nos : o ≠ s := st.ne ho0
      have hls5 := x5.kp _ _ nls hls
      have hos5 := x5.kp _ _ nos hos
      have hr : r.toNat < ls.length := by omega
      walk_at "go"
      refine ⟨l, ls, r, r.toNat, ls[r.toNat], rfl, rfl, hls5, by omega, by omega, idx_ok r0 (by omega), List.getElem?_eq_getElem hr, ?_⟩
      have x6 := (x4.trans x5).mut (o := .lst (ls.eraseIdx r.toNat)) hl0
      have st6 := st.mut (o := .lst (ls.eraseIdx r.toNat)) (x4.trans x5) st5 hl0
      have hos6 : upd H5 l (.lst (ls.eraseIdx r.toNat)) o = some (.lst os) := by rw [upd_ne (Ne.symm nlo)]; exact hos5
      have hls6 : upd H5 l (.lst (ls.eraseIdx r.toNat)) l = some (.lst (ls.eraseIdx r.toNat)) := upd_same
      generalize upd H5 l (.lst (ls.eraseIdx r.toNat)) = H6 at *
      walk_at "go"
      refine g_app hos6 (by rw [sizeLine_eq]; omega) ?_
      walk_at "go"
      refine ⟨_, ls.eraseIdx r.toNat, os ++ [ls[r.toNat]], rfl, by rw [upd_ne nlo]; exact hls6, upd_same, ?_, ?_, ?_, x6.mut ho0, st.mut x6 st6 ho0⟩
      · refine List.Perm.trans ?_ pm
        rw [List.append_assoc]
        exact List.Perm.append_left os (erase_perm ls r.toNat hr)
      · have := List.length_eraseIdx_of_lt hr
        omega
      · rw [List.length_append, e2]
        rfl
    · rintro σ' H' ⟨z, ls, os, rfl, hls, hos, pm, e1, e2, x4, st4⟩
      walk_at "go"
      have e0 : ls = [] := List.eq_nil_of_length_eq_zero (by omega)
      rw [e0, List.append_nil] at pm
      exact k o os H' ho0 hos pm x4 st4
end
/-! ### the same over data -/
def m_mixed : DF := fun ds Q _ => match ds with
  | [.sto, .lst l] => l.length ≤ 100000 ∧ ∀ l' : List D, l'.Perm l → Q (.lst l')
  | _ => False
theorem daL_perm {K : PySem.W.Frag} {so : Option Addr} {A : Hp} {ys xs : List V} (p : ys.Perm xs) : ∀ {l : List D}, DaL K so A l xs → ∃ l', DaL K so A l' ys ∧ l'.Perm l := by
  induction p with
  | nil => exact fun h => ⟨_, h, List.Perm.refl _⟩
  | cons x p ih =>
    intro l h
    match l, h with
    | [], h =>
      have h : _ = _ := h
      cases h
    | d :: l, ⟨v, r, e, dv, dr⟩ =>
      cases e
      obtain ⟨l', h1, h2⟩ := ih dr
      exact ⟨d :: l', ⟨_, _, rfl, dv, h1⟩, h2.cons d⟩
  | swap x y xs =>
    intro l h
    match l, h with
    | [], h =>
      have h : _ = _ := h
      cases h
    | d :: l, ⟨v, r, e, dv, dr⟩ =>
      cases e
      match l, dr with
      | [], dr =>
        have dr : _ = _ := dr
        cases dr
      | c :: l, ⟨v2, r2, e2, dv2, dr2⟩ =>
        cases e2
        exact ⟨c :: d :: l, ⟨_, _, rfl, dv2, _, _, rfl, dv, dr2⟩, List.Perm.swap ..⟩
  | trans p q ih1 ih2 =>
    intro l h
    obtain ⟨l', h1, h2⟩ := ih2 h
    obtain ⟨l2, h3, h4⟩ := ih1 h1
    exact ⟨l2, h3, h4.trans h2⟩
section
variable {P : Program} {w : World} {K : PySem.W.Frag} {mg : Str → Option Value} {base : Heap}
theorem ok_mixedD (T : Txt K mg) : FnOk P w K mg base (L2N.CX P w) 172 T.dmixed.f T.dmixed.fd P_mixed (spD K 2 m_mixed) := FnOk_cx (ok_mixed T) fun vs H Q E h => by
  obtain ⟨so, A, ds, Qd, Ed, gd, hl, da, m, c, cx⟩ := h
  unfold m_mixed at m
  split at m
  · rename_i l
    obtain ⟨ll, m⟩ := m
    obtain ⟨v, u, rfl, ⟨s, rfl, es⟩, d2⟩ := da.two'
    obtain ⟨p, xs, rfl, hp, dl⟩ := d2
    have pH := gd.sub _ _ hp
    have as := (gd.st s es).1
    refine ⟨s, p, xs, rfl, StoOk.store gd es, fun z => ?_, pH, by rw [dl.len]; exact ll, fun q ys H' h0 h1 h2 x st => ?_⟩
    · rw [z, as] at hp
      cases hp
    obtain ⟨l', k1, k2⟩ := daL_perm h2 dl
    have y1 := Ext.store gd es x st
    have aq : A q = none := by
      cases z : A q with
      | none => rfl
      | some o =>
        rw [gd.sub _ _ z] at h0
        cases h0
    have sub2 : Sub A (upd A q (.lst ys)) := fun b o e => by
      have n : b ≠ q := fun z => by
        rw [z, aq] at e
        cases e
      rw [upd_ne n]
      exact e
    have hsq : s ≠ q := fun z => by
      obtain ⟨_, L, ns, p0, a0, b0, c0, d0, hs, _⟩ := gd.st s es
      rw [z, h0] at hs
      cases hs
    refine c (.lst l') (.ref q) (upd A q (.lst ys)) H' ⟨⟨fun b o e => ?_, fun s' e' => ?_⟩, sub2, y1.kept, fun b o e => ?_⟩ ⟨q, ys, rfl, upd_same, DaL.mono sub2 l' ys k1⟩ (m l' k2)
    · by_cases n : b = q
      · subst n
        rw [upd_same] at e
        cases e
        exact h1
      · rw [upd_ne n] at e
        exact y1.good.sub _ _ e
    · rw [es] at e'
      cases e'
      obtain ⟨n1, L, ns, p0, a0, b0, c0, d0, hs, hL, rest⟩ := y1.good.st s es
      exact ⟨by rw [upd_ne hsq]; exact n1, L, ns, p0, a0, b0, c0, d0, hs, sub2 _ _ hL, rest⟩
    · by_cases n : b = q
      · subst n
        exact .inr h0
      · rw [upd_ne n] at e
        exact .inl e
  · exact m.elim
end
end My
namespace My
open PySem PySem.Spec PyProof.Rows L2
/-! ### equations for the walk -/
theorem atI_0 {α : Type} (a : α) (l : List α) : atI (a :: l) 0 = some a := atI_nat (j := 0) rfl
theorem atI_1 {α : Type} (a b : α) (l : List α) : atI (a :: b :: l) 1 = some b := atI_nat (j := 1) rfl
theorem atI_2 {α : Type} (a b c : α) (l : List α) : atI (a :: b :: c :: l) 2 = some c := atI_nat (j := 2) rfl
theorem ddIx_t0 (a : D) (l : List D) (Q : D → Prop) : ddIx (.tup (a :: l)) (.int 0) Q = Q a := by
  show (∃ d, atI (a :: l) 0 = some d ∧ Q d) = Q a
  rw [atI_0]
  simp
theorem ddIx_t1 (a b : D) (l : List D) (Q : D → Prop) : ddIx (.tup (a :: b :: l)) (.int 1) Q = Q b := by
  show (∃ d, atI (a :: b :: l) 1 = some d ∧ Q d) = Q b
  rw [atI_1]
  simp
theorem ddIx_t2 (a b c : D) (l : List D) (Q : D → Prop) : ddIx (.tup (a :: b :: c :: l)) (.int 2) Q = Q c := by
  show (∃ d, atI (a :: b :: c :: l) 2 = some d ∧ Q d) = Q c
  rw [atI_2]
  simp
theorem ddIx_l0 (a : D) (l : List D) (Q : D → Prop) : ddIx (.lst (a :: l)) (.int 0) Q = Q a := by
  show (∃ d, atI (a :: l) 0 = some d ∧ Q d) = Q a
  rw [atI_0]
  simp
theorem ddIx_l1 (a b : D) (l : List D) (Q : D → Prop) : ddIx (.lst (a :: b :: l)) (.int 1) Q = Q b := by
  show (∃ d, atI (a :: b :: l) 1 = some d ∧ Q d) = Q b
  rw [atI_1]
  simp
theorem atI_3 {α : Type} (a b c d : α) (l : List α) : atI (a :: b :: c :: d :: l) 3 = some d := atI_nat (j := 3) rfl
theorem ddIx_l2 (a b c : D) (l : List D) (Q : D → Prop) : ddIx (.lst (a :: b :: c :: l)) (.int 2) Q = Q c := by
  show (∃ d, atI (a :: b :: c :: l) 2 = some d ∧ Q d) = Q c
  rw [atI_2]
  simp
theorem ddIx_t3 (a b c d : D) (l : List D) (Q : D → Prop) : ddIx (.tup (a :: b :: c :: d :: l)) (.int 3) Q = Q d := by
  show (∃ e, atI (a :: b :: c :: d :: l) 3 = some e ∧ Q e) = Q d
  rw [atI_3]
  simp
theorem ddEq_ii (n : Bool) (i j : Int) (Q : D → Prop) : ddEq n (.int i) (.int j) Q = Q (.bl (n != decide (i = j))) := rfl
theorem ddEq_ss (n : Bool) (i j : Str) (Q : D → Prop) : ddEq n (.str i) (.str j) Q = Q (.bl (n != decide (i = j))) := rfl
theorem ddEq_bb (n : Bool) (i j : Bool) (Q : D → Prop) : ddEq n (.bl i) (.bl j) Q = Q (.bl (n != decide (i = j))) := rfl
/-! ### comprehensions, all, any -/
theorem compL_map {gr : DG} {te : DE} {ρ : DEnv} {Q : List D → Prop} (f : D → D) : ∀ (ds acc : List D), (∀ d ∈ ds, ∀ R : D → Prop, R (f d) → gr d ρ fun ρ2 => te ρ2 R (fun _ => False)) → acc.length + ds.length ≤ sizeLine → Q (acc ++ ds.map f) → compL gr qYes te ρ Q ds acc
  | [], acc, _, _, q => by
    rw [List.map_nil, List.append_nil] at q
    exact q
  | d :: ds, acc, h, hl, q => by
    have h1 := h d (List.mem_cons_self ..)
    rw [List.length_cons] at hl
    have key := h1 (fun y => acc.length < sizeLine ∧ compL gr qYes te ρ Q ds (acc ++ [y])) ⟨by omega, compL_map f ds (acc ++ [f d]) (fun c hc => h c (List.mem_cons_of_mem _ hc)) (by rw [List.length_append, List.length_cons, List.length_nil]; omega) (by rw [List.append_assoc]; exact q)⟩
    show gr d ρ fun ρ2 => qYes ρ2 (fun b => if b = true then _ else _) (fun _ => False)
    unfold qYes
    simp only [if_true]
    exact key
/-- each element is one of P -/
theorem compL_any {gr : DG} {te : DE} {ρ : DEnv} {Q : List D → Prop} (P : D → Prop) : ∀ (ds acc : List D), (∀ d ∈ ds, ∀ R : D → Prop, (∀ x, P x → R x) → gr d ρ fun ρ2 => te ρ2 R (fun _ => False)) → acc.length + ds.length ≤ sizeLine → (∀ l : List D, l.length = ds.length → (∀ x ∈ l, P x) → Q (acc ++ l)) → compL gr qYes te ρ Q ds acc
  | [], acc, _, _, q => by
    have := q [] rfl (fun x hx => by cases hx)
    rw [List.append_nil] at this
    exact this
  | d :: ds, acc, h, hl, q => by
    have h1 := h d (List.mem_cons_self ..)
    rw [List.length_cons] at hl
    have key := h1 (fun y => acc.length < sizeLine ∧ compL gr qYes te ρ Q ds (acc ++ [y])) fun x hx => ⟨by omega, compL_any P ds (acc ++ [x]) (fun c hc => h c (List.mem_cons_of_mem _ hc)) (by rw [List.length_append, List.length_cons, List.length_nil]; omega) (fun l e pl => by
      rw [List.append_assoc]
      exact q (x :: l) (by rw [List.length_cons, List.length_cons, e]) (fun z hz => by
        rcases List.mem_cons.mp hz with rfl | hz
        · exact hx
        · exact pl z hz))⟩
    show gr d ρ fun ρ2 => qYes ρ2 (fun b => if b = true then _ else _) (fun _ => False)
    unfold qYes
    simp only [if_true]
    exact key
theorem rangeD_len (lo : Int) (n : Nat) : (rangeD lo n).length = n := by
  unfold rangeD
  rw [List.length_map, List.length_range]
def ddAll : DCall := fun ds Q => match ds with
  | [.lst l] => ∃ bs : List Bool, l = bs.map D.bl ∧ Q (.bl (bs.all id))
  | _ => False
def ddAny : DCall := fun ds Q => match ds with
  | [.lst l] => ∃ bs : List Bool, l = bs.map D.bl ∧ Q (.bl (bs.any id))
  | _ => False
theorem daL_bls {K : PySem.W.Frag} {so : Option Addr} {A : Hp} : ∀ (bs : List Bool) (vs : List V), DaL K so A (bs.map D.bl) vs → vs = bs.map V.bl
  | [], _, h => h
  | b :: bs, _, ⟨x, r, e, h, q⟩ => by
    have h : x = _ := h
    rw [e, h, daL_bls bs r q]
    rfl
theorem cl_all {K : PySem.W.Frag} : CallL K (rAll K) ddAll := by
  intro so A H ds vs Qd Q gd da q c
  unfold ddAll at q
  split at q
  · obtain ⟨bs, rfl, q⟩ := q
    obtain ⟨v, rfl, a, xs, rfl, hs, qa⟩ := da.one'
    exact ⟨a, bs, rfl, SqL.of (by rw [← daL_bls _ _ qa]; exact gd.sub _ _ hs), c.nowB gd q⟩
  · exact q.elim
theorem cl_any {K : PySem.W.Frag} : CallL K (rAny K) ddAny := by
  intro so A H ds vs Qd Q gd da q c
  unfold ddAny at q
  split at q
  · obtain ⟨bs, rfl, q⟩ := q
    obtain ⟨v, rfl, a, xs, rfl, hs, qa⟩ := da.one'
    exact ⟨a, bs, rfl, SqL.of (by rw [← daL_bls _ _ qa]; exact gd.sub _ _ hs), c.nowB gd q⟩
  · exact q.elim
theorem bt_all : bootBuiltins "all" = some (.builtin "all") := by decide +kernel
theorem bt_any : bootBuiltins "any" = some (.builtin "any") := by decide +kernel
theorem bt_ValueError : bootBuiltins "ValueError" = some (.type "ValueError") := by decide +kernel
end My
namespace My
open PySem PySem.Spec PyProof.Rows L2
local macro_rules | `(tactic| walk_at "dl") => `(tactic| simp only [startD, List.map_cons, List.map_nil, List.length_cons, List.length_nil, List.cons_append, List.nil_append, List.replicate_succ, List.replicate_zero, List.getElem?_cons_zero, List.getElem?_cons_succ, List.set_cons_zero, List.set_cons_succ,
  dVar, rdS, dC, dNew, dOp, onB, qB, dChain, qAnd, qOr, qNot, qTru, truD, dIf, dAnd, dOr, dNot, dUn, ddNeg, lNil, lCons, dTup, nLst, ddI, ddI0, ddAdd, isNonD, isBlD, ddIsN, ddIsB, ddIx_t0, ddIx_t1, ddIx_t2, ddIx_t3, ddIx_l0, ddIx_l1, ddIx_l2, dCB, ddLen, ddInt1, ddAbs, ddMM, ddTuple, nCB, nnList, ddIsi, dCall,
  sSkip, sSeq, sBreak, sCont, sExpr, sRet, sRetN, sIf, sNever, gdName, gdNil, gdCons, gdTup, sAsg, sSetN, sPar, sRaise, sFrz, owS, sApp, sIns, dLenO, dIxO, sTry, sFor, iL, iT, onL, onT, iR1, iR2, nComp, qYes,
  ddEq_ii, ddEq_ss, ddEq_bb, Bool.false_bne, Bool.true_bne, List.append_nil, true_and, and_true, if_true, if_false, Bool.not_true, Bool.not_false, Bool.true_eq_false, Bool.false_eq_true, ite_true, ite_false, id_eq])

/-! ### the greatest common divisor -/
theorem fmod_nat (m n : Nat) (h : 0 < n) : (m : Int).fmod (n : Int) = ((m % n : Nat) : Int) := by
  rw [Int.fmod_eq_emod_of_nonneg _ (by omega)]
  exact (Int.natCast_emod m n).symm
theorem gcd_step (m n : Nat) : Nat.gcd n (m % n) = Nat.gcd m n := by
  rw [Nat.gcd_comm m n, Nat.gcd_rec n m, Nat.gcd_comm]
theorem abs_nat (i : Int) : (if i < 0 then -i else i) = (i.natAbs : Int) := by
  split <;> omega
theorem max_nat (i : Int) : (if -i > i then -i else i) = (i.natAbs : Int) := by
  split <;> omega
def G2 (a b : Int) : Nat := Nat.gcd a.natAbs b.natAbs
theorem log2_mono {a b : Nat} (h : a ≤ b) : a.log2 ≤ b.log2 := by
  by_cases ha : a = 0
  · subst ha
    exact Nat.zero_le _
  · have hb : b ≠ 0 := by omega
    exact (Nat.le_log2 hb).mpr (Nat.le_trans (Nat.log2_self_le ha) h)
/-- the lowest terms of a / b -/
def lowP (a b : Int) : Int := (if b < 0 then -a else a) / (G2 a b : Int)
def lowQ (a b : Int) : Int := (b.natAbs : Int) / (G2 a b : Int)
theorem low_div (a b : Int) (hb : b ≠ 0) : a.fdiv (if b < 0 then -(G2 a b : Int) else G2 a b) = lowP a b ∧ b.fdiv (if b < 0 then -(G2 a b : Int) else G2 a b) = lowQ a b := by
  have hG : 0 < G2 a b := Nat.gcd_pos_of_pos_right _ (by omega)
  obtain ⟨c, hc⟩ : (G2 a b : Int) ∣ a := Int.ofNat_dvd_left.mpr (Nat.gcd_dvd_left _ _)
  obtain ⟨d, hd⟩ : (G2 a b : Int) ∣ b := Int.ofNat_dvd_left.mpr (Nat.gcd_dvd_right _ _)
  unfold lowP lowQ
  generalize G2 a b = g at *
  have gz : (g : Int) ≠ 0 := by omega
  by_cases h : b < 0
  · rw [if_pos h, if_pos h]
    have e1 : a = (-(g : Int)) * (-c) := by rw [hc, Int.neg_mul_neg]
    have e2 : b = (-(g : Int)) * (-d) := by rw [hd, Int.neg_mul_neg]
    have e3 : -a = (g : Int) * (-c) := by rw [hc, Int.mul_neg]
    have e4 : (b.natAbs : Int) = (g : Int) * (-d) := by
      have z : (b.natAbs : Int) = -b := by omega
      rw [z, hd, Int.mul_neg]
    have f1 : a.fdiv (-(g : Int)) = -c := by
      conv => lhs; arg 1; rw [e1]
      exact Int.mul_fdiv_cancel_left _ (by omega)
    have f2 : b.fdiv (-(g : Int)) = -d := by
      conv => lhs; arg 1; rw [e2]
      exact Int.mul_fdiv_cancel_left _ (by omega)
    have f3 : -a / (g : Int) = -c := by
      rw [e3]
      exact Int.mul_ediv_cancel_left _ gz
    have f4 : (b.natAbs : Int) / (g : Int) = -d := by
      rw [e4]
      exact Int.mul_ediv_cancel_left _ gz
    rw [f1, f2, f3, f4]
    exact ⟨rfl, rfl⟩
  · rw [if_neg h, if_neg h]
    have f1 : a.fdiv (g : Int) = c := by
      conv => lhs; arg 1; rw [hc]
      exact Int.mul_fdiv_cancel_left _ gz
    have f2 : b.fdiv (g : Int) = d := by
      conv => lhs; arg 1; rw [hd]
      exact Int.mul_fdiv_cancel_left _ gz
    have f3 : a / (g : Int) = c := by
      conv => lhs; arg 1; rw [hc]
      exact Int.mul_ediv_cancel_left _ gz
    have e4 : (b.natAbs : Int) = b := by omega
    have f4 : (b.natAbs : Int) / (g : Int) = d := by
      rw [e4]
      conv => lhs; arg 1; rw [hd]
      exact Int.mul_ediv_cancel_left _ gz
    rw [f1, f2, f3, f4]
    exact ⟨rfl, rfl⟩
theorem gcd_bits {a b : Int} (hb : b ≠ 0) (hz : b.natAbs.log2 < 9000) (i j : Int) : CDivZ i (if b < 0 then -(G2 a b : Int) else G2 a b) ∧ CDivZ j (if b < 0 then -(G2 a b : Int) else G2 a b) := by
  have hG : 0 < G2 a b := Nat.gcd_pos_of_pos_right _ (by omega)
  have hl : G2 a b ≤ b.natAbs := Nat.gcd_le_right _ (by omega)
  have hz2 : (G2 a b).log2 < 9000 := Nat.lt_of_le_of_lt (log2_mono hl) hz
  have : (if b < 0 then -(G2 a b : Int) else G2 a b) ≠ 0 ∧ (if b < 0 then -(G2 a b : Int) else G2 a b).natAbs = G2 a b := by split <;> omega
  exact ⟨⟨this.1, by rw [this.2]; exact hz2⟩, ⟨this.1, by rw [this.2]; exact hz2⟩⟩
/-! ### what the defs do -/
def isW : D → Bool
  | .int _ => true
  | _ => false
def ratD (a b : Int) : D := .tup [.int a, .int b]
def isRat : D → Bool
  | .tup [.int a, .int b] => decide (1 ≤ b) && decide (G2 a b = 1)
  | _ => false
def sgn (n : Int) : Int := if n > 0 then 1 else if n < 0 then -1 else 0
def m_is_whole : DF := fun ds Q _ => match ds with
  | [d] => plainD d = true ∧ Q (.bl (isW d))
  | _ => False
def m_sign_of : DF := fun ds Q _ => match ds with
  | [.int n] => Q (.int (sgn n))
  | _ => False
def m_divisor : DF := fun ds Q _ => match ds with
  | [.int a, .int b] => Q (.int (G2 a b))
  | _ => False
def m_lowest : DF := fun ds Q _ => match ds with
  | [.int a, .int b] => b ≠ 0 ∧ b.natAbs.log2 < 9000 ∧ Q (ratD (lowP a b) (lowQ a b))
  | _ => False
def m_is_ratio : DF := fun ds Q _ => match ds with
  | [d] => (plainD d = true ∧ ∀ l, d = .tup l → ∀ e ∈ l, plainD e = true) ∧ Q (.bl (isRat d))
  | _ => False
theorem isW_eq (d : D) : (isIn d "int" && !isIn d "bool") = isW d := by
  cases d with
  | bl b => show (("bool" == "int" || "int" == "int") && !("bool" == "bool" || "bool" == "int")) = false; decide +kernel
  | int i => show ("int" == "int" && !("bool" == "int")) = true; decide +kernel
  | str i => show ("int" == "str" && !("bool" == "str")) = false; decide +kernel
  | tup i => show ("int" == "tuple" && !("bool" == "tuple")) = false; decide +kernel
  | lst i => show ("int" == "list" && !("bool" == "list")) = false; decide +kernel
  | dct i _ => show ("int" == "dict" && !("bool" == "dict")) = false; decide +kernel
  | _ => rfl
theorem tup_cases : ∀ d : D, (isIn d "tuple" = false ∧ isRat d = false) ∨ ∃ l, d = .tup l ∧ isIn (.tup l) "tuple" = true
  | .tup l => .inr ⟨l, rfl, by show ("tuple" == "tuple") = true; decide +kernel⟩
  | .non => .inl ⟨rfl, rfl⟩
  | .bl _ => .inl ⟨by show ("tuple" == "bool" || "tuple" == "int") = false; decide +kernel, rfl⟩
  | .int _ => .inl ⟨by show ("tuple" == "int") = false; decide +kernel, rfl⟩
  | .str _ => .inl ⟨by show ("tuple" == "str") = false; decide +kernel, rfl⟩
  | .dct _ _ => .inl ⟨by show ("tuple" == "dict") = false; decide +kernel, rfl⟩
  | .lst _ => .inl ⟨by show ("tuple" == "list") = false; decide +kernel, rfl⟩
  | .ins _ _ _ => .inl ⟨rfl, rfl⟩
  | .scr _ => .inl ⟨rfl, rfl⟩
  | .sto => .inl ⟨rfl, rfl⟩
  | .exc _ => .inl ⟨rfl, rfl⟩
  | .err _ _ _ => .inl ⟨rfl, rfl⟩
theorem rat_no {l : List D} (h : ¬ l.length = 2) : isRat (.tup l) = false := by
  match l, h with
  | [], _ => rfl
  | [d1], _ => cases d1 <;> rfl
  | [d1, d2], h => exact absurd rfl h
  | d1 :: d2 :: d3 :: r, _ =>
    cases d1 <;> first | rfl | (cases d2 <;> rfl)
theorem isW_int {d : D} (h : isW d = true) : ∃ i, d = .int i := by
  cases d <;> first | exact ⟨_, rfl⟩ | cases h
theorem rat_no1 {d1 d2 : D} (h : isW d1 = false) : isRat (.tup [d1, d2]) = false := by
  cases d1 <;> first | rfl | cases h
theorem rat_no2 {d1 d2 : D} (h : isW d2 = false) : isRat (.tup [d1, d2]) = false := by
  cases d1 <;> cases d2 <;> first | rfl | cases h
abbrev s_is_whole : Stmt := topS 12
abbrev N_is_whole : List Str := ["value"]
abbrev P_is_whole : List Str := ["value"]
theorem sc_is_whole : FnScope N_is_whole P_is_whole (defScope s_is_whole) := ⟨rfl, rfl, rfl, by decide +kernel, rfl, by decide +kernel, by decide +kernel⟩

abbrev s_sign_of : Stmt := topS 15
abbrev N_sign_of : List Str := ["number"]
abbrev P_sign_of : List Str := ["number"]
theorem sc_sign_of : FnScope N_sign_of P_sign_of (defScope s_sign_of) := ⟨rfl, rfl, rfl, by decide +kernel, rfl, by decide +kernel, by decide +kernel⟩

abbrev s_divisor : Stmt := topS 13
abbrev N_divisor : List Str := ["one", "other", "first", "second"]
abbrev P_divisor : List Str := ["one", "other"]
theorem sc_divisor : FnScope N_divisor P_divisor (defScope s_divisor) := ⟨rfl, rfl, rfl, by decide +kernel, rfl, by decide +kernel, by decide +kernel⟩

abbrev s_is_ratio : Stmt := topS 19
abbrev N_is_ratio : List Str := ["value", "top", "bottom"]
abbrev P_is_ratio : List Str := ["value"]
theorem sc_is_ratio : FnScope N_is_ratio P_is_ratio (defScope s_is_ratio) := ⟨rfl, rfl, rfl, by decide +kernel, rfl, by decide +kernel, by decide +kernel⟩

section
variable {P : Program} {w : World} {K : PySem.W.Frag} {mg : Str → Option Value} {base : Heap}
theorem ok_is_whole (T : Txt K mg) : FnOk P w K mg base (L2N.CX P w) 1 T.dis_whole.f T.dis_whole.fd P_is_whole (spD K 1 m_is_whole) := by
  refine T.dis_whole.okD sc_is_whole fun cdv A outer s H E so A0 hr tk hp => ⟨_, (pds_one (pds_ret (pd_and (pd_isi (by rfl) T.m_isinstance (pd_var (pv 0)) (pe_bltn (v := .ty "int") (by rfl) T.m_int bt_int rfl) tq_int) (pd_one (pd_not (pd_isi (by rfl) T.m_isinstance (pd_var (pv 0)) (pe_bltn (v := .ty "bool") (by rfl) T.m_bool bt_bool rfl) tq_bool)))))), fun ds Q E hl h => ?_⟩
  match ds, hl with
  | [d], _ =>
    obtain ⟨p, h⟩ := h
    walk_at "dl"
    refine ⟨p, ?_⟩
    rw [← isW_eq] at h
    split
    · rename_i e
      rw [e] at h
      exact ⟨p, h⟩
    · rename_i e
      rw [Bool.not_eq_true] at e
      rw [e] at h
      exact h
theorem ok_sign_of (T : Txt K mg) : FnOk P w K mg base (L2N.CX P w) 1 T.dsign_of.f T.dsign_of.fd P_sign_of (spD K 1 m_sign_of) := by
  refine T.dsign_of.okD sc_sign_of fun cdv A outer s H E so A0 hr tk hp => ⟨_, (pds_cons (pds_if (pdt_cmp op_gt ol_gt (pd_var (pv 0)) pd_int (nomark _))
        (pds_one (pds_ret pd_int))
        pds_nil)
      (pds_cons (pds_if (pdt_cmp op_lt ol_lt (pd_var (pv 0)) pd_int (nomark _))
        (pds_one (pds_ret (pd_neg pd_int)))
        pds_nil)
      (pds_one (pds_ret pd_int)))), fun ds Q E hl h => ?_⟩
  unfold m_sign_of at h
  split at h
  · rename_i n
    unfold sgn at h
    walk_at "dl"
    split
    · rename_i c
      simpa [of_decide_eq_true c] using h
    · rename_i c
      have c : ¬ (0 < n) := by simpa using c
      split
      · rename_i c2
        have c2 : n < 0 := by simpa using c2
        simpa [c, c2] using h
      · rename_i c2
        have c2 : ¬ n < 0 := by simpa using c2
        simpa [c, c2] using h
  · exact h.elim
theorem ok_divisor (T : Txt K mg) : FnOk P w K mg base (L2N.CX P w) 1 T.ddivisor.f T.ddivisor.fd P_divisor (spD K 2 m_divisor) := by
  refine T.ddivisor.okD sc_divisor fun cdv A outer s H E so A0 hr tk hp => ⟨_, (pds_cons (pds_par (i := 2) (j := 3) (by rfl) sc_divisor.nd rfl rfl (by decide) rfl rfl (pda_cons (pd_callB c_abs cl_abs (by rfl) T.m_abs bt_abs (pda_cons (pd_var (pv 0)) pda_nil)) (pda_cons (pd_callB c_abs cl_abs (by rfl) T.m_abs bt_abs (pda_cons (pd_var (pv 1)) pda_nil)) pda_nil)) (by rfl))
      (pds_cons (pds_while hp (pdt_cmp (oo_ne hr.units) ol_ne (pd_var (pv 3)) pd_int (nomark _))
        (pds_one (pds_par (i := 2) (j := 3) (by rfl) sc_divisor.nd rfl rfl (by decide) rfl rfl (pda_cons (pd_var (pv 3)) (pda_cons (pd_op op_modN ol_mod (pd_var (pv 2)) (pd_var (pv 3))) pda_nil)) (by rfl))))
      (pds_one (pds_ret (pd_var (pv 2)))))), fun ds Q E hl h => ?_⟩
  unfold m_divisor at h
  split at h
  · rename_i a b
    walk_at "dl"
    rw [abs_nat, abs_nat]
    refine ⟨fun m ρ => ∃ x : Nat, ρ = [.fr (.int a), .fr (.int b), .fr (.int (x : Int)), .fr (.int (m : Int))] ∧ Nat.gcd x m = G2 a b, ⟨b.natAbs, a.natAbs, rfl, rfl⟩, ?_⟩
    rintro m ρ ⟨x, rfl, hg⟩
    walk_at "dl"
    split
    · rename_i c
      have hm : 0 < m := by
        have : ¬ ((m : Int) = 0) := by simpa using c
        omega
      refine ⟨fun ρ' => ∃ x : Nat, ρ' = [.fr (.int a), .fr (.int b), .fr (.int (m : Int)), .fr (.int (x : Int))] ∧ Nat.gcd m x = G2 a b ∧ x < m, ?_, ?_⟩
      · rintro ρ' ⟨y, e1, e2, e3⟩
        exact ⟨y, e3, m, e1, e2⟩
      · refine ⟨by omega, ?_⟩
        rw [fmod_nat x m hm]
        exact ⟨x % m, rfl, by rw [gcd_step]; exact hg, Nat.mod_lt x hm⟩
    · rename_i c
      have hm : m = 0 := by
        have : ((m : Int) = 0) := by simpa using c
        omega
      subst hm
      rw [Nat.gcd_zero_right] at hg
      rw [hg]
      exact h
  · exact h.elim
theorem ok_is_ratio (T : Txt K mg) : FnOk P w K mg base (L2N.CX P w) 2 T.dis_ratio.f T.dis_ratio.fd P_is_ratio (spD K 1 m_is_ratio) := by
  have G_is_whole : FnOk P w K mg base (L2N.CX P w) 1 T.dis_whole.f T.dis_whole.fd P_is_whole (spD K 1 m_is_whole) := ok_is_whole T
  have G_divisor : FnOk P w K mg base (L2N.CX P w) 1 T.ddivisor.f T.ddivisor.fd P_divisor (spD K 2 m_divisor) := ok_divisor T
  refine T.dis_ratio.okD sc_is_ratio fun cdv A outer s H E so A0 hr tk hp => ⟨_, (pds_cons (pds_if (PDW.t (pdw_or (pdt_not (pdt_tru (pd_isi (by rfl) T.m_isinstance (pd_var (pv 0)) (pe_bltn (v := .ty "tuple") (by rfl) T.m_tuple bt_tuple rfl) tq_tuple))) (pdw_or1 (pdt_cmp (oo_ne hr.units) ol_ne (pd_callB oo_len cl_len (by rfl) T.m_len bt_len (pda_cons (pd_var (pv 0)) pda_nil)) pd_int (nomark _)))))
        (pds_one (pds_ret pd_bl))
        pds_nil)
      (pds_cons (pds_asg (pd_var (pv 0)) (pdg_tup (n := 2) rfl (pdgs_cons (pdg_name (pg_name (i := 1) sc_is_ratio.nd rfl (by first | exact .inl rfl | exact .inr rfl))) (pdgs_cons (pdg_name (pg_name (i := 2) sc_is_ratio.nd rfl (by first | exact .inl rfl | exact .inr rfl))) pdgs_nil))))
      (pds_cons (pds_if (PDW.t (pdw_or (pdt_not (pdt_tru (pd_call G_is_whole (hr.mono (by omega)) (by rfl) T.dis_whole.g T.dis_whole.F.kp T.dis_whole.b (fun σ => L2N.passAt tk σ) (pda_cons (pd_var (pv 1)) pda_nil)))) (pdw_or1 (pdt_not (pdt_tru (pd_call G_is_whole (hr.mono (by omega)) (by rfl) T.dis_whole.g T.dis_whole.F.kp T.dis_whole.b (fun σ => L2N.passAt tk σ) (pda_cons (pd_var (pv 2)) pda_nil)))))))
        (pds_one (pds_ret pd_bl))
        pds_nil)
      (pds_one (pds_ret (pd_and (pd_cmp op_ge ol_ge (pd_var (pv 2)) pd_int (nomark _)) (pd_one (pd_cmp (oo_eq hr.units) ol_eq (pd_call G_divisor (hr.mono (by omega)) (by rfl) T.ddivisor.g T.ddivisor.F.kp T.ddivisor.b (fun σ => L2N.passAt tk σ) (pda_cons (pd_var (pv 1)) (pda_cons (pd_var (pv 2)) pda_nil))) pd_int (nomark _))))))))), fun ds Q E hl h => ?_⟩
  match ds, hl with
  | [d], _ =>
    obtain ⟨⟨p, pl⟩, h⟩ := h
    walk_at "dl"
    refine ⟨p, ?_⟩
    rcases tup_cases d with ⟨hd, hn⟩ | ⟨l, rfl, ht⟩
    · rw [hd]
      walk_at "dl"
      rw [hn] at h
      exact h
    rw [ht]
    walk_at "dl"
    by_cases h2 : l.length = 2
    · obtain ⟨d1, d2, rfl⟩ : ∃ d1 d2, l = [d1, d2] := by
        match l, h2 with
        | [d1, d2], _ => exact ⟨d1, d2, rfl⟩
      have p1 := pl _ rfl d1 (by simp)
      have p2 := pl _ rfl d2 (by simp)
      walk_at "dl"
      simp only [m_is_whole, p1, p2, true_and]
      cases w1 : isW d1 with
      | false =>
        rw [rat_no1 w1] at h
        simpa using h
      | true =>
        cases w2 : isW d2 with
        | false =>
          rw [rat_no2 w2] at h
          simpa using h
        | true =>
          obtain ⟨a, rfl⟩ := isW_int w1
          obtain ⟨b, rfl⟩ := isW_int w2
          have h : Q (.bl (decide (1 ≤ b) && decide (G2 a b = 1))) := h
          by_cases hb : 1 ≤ b
          · rw [decide_eq_true hb, Bool.true_and] at h
            have e : decide ((G2 a b : Int) = 1) = decide (G2 a b = 1) := decide_eq_decide.mpr (by omega)
            simp [hb, m_divisor, ddEq_ii, e]
            exact h
          · rw [decide_eq_false hb, Bool.false_and] at h
            simp [hb]
            exact h
    · rw [rat_no h2] at h
      have e : ¬ ((l.length : Int) = 2) := by omega
      simp only [decide_eq_false e, Bool.not_false, if_true]
      exact h
end
end My
namespace My
open PySem PySem.Spec PyProof.Rows L2
local macro_rules | `(tactic| walk_at "dl") => `(tactic| simp only [startD, List.map_cons, List.map_nil, List.length_cons, List.length_nil, List.cons_append, List.nil_append, List.replicate_succ, List.replicate_zero, List.getElem?_cons_zero, List.getElem?_cons_succ, List.set_cons_zero, List.set_cons_succ,
  dVar, rdS, dC, dNew, dOp, onB, qB, dChain, qAnd, qOr, qNot, qTru, truD, dIf, dAnd, dOr, dNot, dUn, ddNeg, lNil, lCons, dTup, nLst, ddI, ddI0, ddAdd, isNonD, isBlD, ddIsN, ddIsB, ddIx_t0, ddIx_t1, ddIx_t2, ddIx_t3, ddIx_l0, ddIx_l1, ddIx_l2, dCB, ddLen, ddInt1, ddAbs, ddMM, ddTuple, nCB, nnList, ddIsi, dCall,
  sSkip, sSeq, sBreak, sCont, sExpr, sRet, sRetN, sIf, sNever, gdName, gdNil, gdCons, gdTup, sAsg, sSetN, sPar, sRaise, sFrz, owS, sApp, sIns, dLenO, dIxO, sTry, sFor, iL, iT, onL, onT, iR1, iR2, nComp, qYes,
  ddEq_ii, ddEq_ss, ddEq_bb, Bool.false_bne, Bool.true_bne, List.append_nil, true_and, and_true, if_true, if_false, Bool.not_true, Bool.not_false, Bool.true_eq_false, Bool.false_eq_true, ite_true, ite_false, id_eq])

/-- data that is_ratio may be asked -/
def Pl (d : D) : Prop := plainD d = true ∧ ∀ l, d = .tup l → ∀ e ∈ l, plainD e = true
theorem rat_shape {d : D} (h : isRat d = true) : ∃ a b, d = ratD a b ∧ 1 ≤ b ∧ G2 a b = 1 := by
  match d, h with
  | .tup [.int a, .int b], h =>
    have h : (decide (1 ≤ b) && decide (G2 a b = 1)) = true := h
    rw [Bool.and_eq_true] at h
    exact ⟨a, b, rfl, of_decide_eq_true h.1, of_decide_eq_true h.2⟩
theorem rat_pl {d : D} (h : isRat d = true) : Pl d := by
  obtain ⟨a, b, rfl, _⟩ := rat_shape h
  refine ⟨rfl, fun l e x hx => ?_⟩
  cases e
  simp at hx
  rcases hx with rfl | rfl <;> rfl
/-- small enough to be multiplied and divided -/
def Sm (x : Int) : Prop := x.natAbs < 2 ^ 4000
theorem Sm.mul {x y : Int} (hx : Sm x) (hy : Sm y) : CMulW x y := wide_mul hx hy (by decide) (by decide) (by decide)
theorem Sm.prod {x y : Int} (hx : Sm x) (hy : Sm y) : (x * y).natAbs.log2 < 9000 := by
  have h : (x * y).natAbs < 2 ^ (4000 + 4000) := by
    rw [Int.natAbs_mul, Nat.pow_add]
    exact Nat.mul_lt_mul'' hx hy
  exact Nat.lt_of_lt_of_le (PySem.Flt.log2_lt_of (by decide) h) (by decide)
section
variable {K : PySem.W.Frag} {mg : Str → Option Value} (T : Txt K mg)
def wkX (x : Str) : XD := ⟨T.cWrongKind.C, ["argument"], [.str x]⟩
def m_need_ratio : DF := fun ds Q E => match ds with
  | [d, .str x] => Pl d ∧ (isRat d = false → E (wkX T x)) ∧ (isRat d = true → Q .non)
  | _ => False
/-- the ratio in lowest terms -/
def lowD (p : Int × Int) : D := ratD (lowP p.1 p.2) (lowQ p.1 p.2)
end
abbrev s_WrongKind_init : Stmt := inClass (topS 2) 0
abbrev N_WrongKind_init : List Str := ["self", "argument"]
abbrev P_WrongKind_init : List Str := ["self", "argument"]
theorem sc_WrongKind_init : FnScope N_WrongKind_init P_WrongKind_init (defScope s_WrongKind_init) := ⟨rfl, rfl, rfl, by decide +kernel, rfl, by decide +kernel, by decide +kernel⟩

abbrev s_need_ratio : Stmt := topS 17
abbrev N_need_ratio : List Str := ["value", "argument"]
abbrev P_need_ratio : List Str := ["value", "argument"]
theorem sc_need_ratio : FnScope N_need_ratio P_need_ratio (defScope s_need_ratio) := ⟨rfl, rfl, rfl, by decide +kernel, rfl, by decide +kernel, by decide +kernel⟩

theorem pl_no : ∀ d : D, isRat d = false ∨ isRat d = true := fun d => by cases isRat d <;> simp
section
variable {P : Program} {w : World} {K : PySem.W.Frag} {mg : Str → Option Value} {base : Heap}
theorem ok_iWrongKind (T : Txt K mg) : FnOk P w K mg base CX0 1 T.iWrongKind.f T.iWrongKind.fd P_WrongKind_init (spIni K T.cWrongKind.C ["argument"] 1 (mk1 "argument")) :=
  T.iWrongKind.ok1 sc_WrongKind_init fun cdv A outer s H E => pss_one (ps_ost (pv 0) (pv 1))
theorem ok_need_ratio (T : Txt K mg) : FnOk P w K mg base (L2N.CX P w) 4 T.dneed_ratio.f T.dneed_ratio.fd P_need_ratio (spD K 2 (m_need_ratio T)) := by
  have I_WrongKind := ok_iWrongKind (P := P) (w := w) (base := base) T
  have G_is_ratio : FnOk P w K mg base (L2N.CX P w) 2 T.dis_ratio.f T.dis_ratio.fd P_is_ratio (spD K 1 m_is_ratio) := ok_is_ratio T
  refine T.dneed_ratio.okD sc_need_ratio fun cdv A outer s H E so A0 hr tk hp => ⟨_, (pds_one (pds_if (pdt_not (pdt_tru (pd_call G_is_ratio (hr.mono (by omega)) (by rfl) T.dis_ratio.g T.dis_ratio.F.kp T.dis_ratio.b (fun σ => L2N.passAt tk σ) (pda_cons (pd_var (pv 0)) pda_nil))))
        (pds_one (pds_raise T.zWrongKind rfl tk T.iWrongKind.i T.iWrongKind.t I_WrongKind (hr.mono (by omega)) T.iWrongKind.b .nil (dd := []) (fun _ _ => rfl) rfl T.cWrongKind.g (pda_cons (pd_var (pv 1)) pda_nil)))
        pds_nil)), fun ds Q E hl h => ?_⟩
  unfold m_need_ratio at h
  split at h
  · rename_i d x
    obtain ⟨pl, h0, h1⟩ := h
    walk_at "dl"
    refine ⟨pl, ?_⟩
    cases hR : isRat d with
    | false =>
      walk_at "dl"
      exact ⟨by decide, h0 hR⟩
    | true =>
      walk_at "dl"
      exact h1 hR
  · exact h.elim
end
end My
set_option exponentiation.threshold 100000
namespace My
open PySem PySem.Spec PyProof.Rows L2
/-! ### ratios as Rat -/
def rq (q : Rat) : D := ratD q.num q.den
theorem rq_rat (q : Rat) : isRat (rq q) = true := by
  show (decide (1 ≤ (q.den : Int)) && decide (G2 q.num (q.den : Int) = 1)) = true
  have h1 : 1 ≤ (q.den : Int) := by have := q.den_pos; omega
  have h2 : G2 q.num (q.den : Int) = 1 := q.reduced
  rw [decide_eq_true h1, decide_eq_true h2]
  rfl
theorem rq_of {d : D} (h : isRat d = true) : ∃ q, d = rq q := by
  obtain ⟨a, b, rfl, h1, h2⟩ := rat_shape h
  obtain ⟨m, rfl⟩ : ∃ m : Nat, b = m := ⟨b.toNat, by omega⟩
  exact ⟨⟨a, m, by omega, h2⟩, rfl⟩
theorem rq_inj {p q : Rat} (h : rq p = rq q) : p = q := by
  unfold rq ratD at h
  injection h with h
  injection h with h1 h2
  injection h2 with h2 _
  injection h1 with h1
  injection h2 with h2
  exact Rat.ext h1 (by omega)
theorem low_div_rq {a b : Int} (hb : b ≠ 0) : lowD (a, b) = rq (Rat.divInt a b) := by
  have g : (b.gcd a) = G2 a b := Nat.gcd_comm _ _
  unfold lowD rq
  rw [Rat.num_divInt, Rat.den_divInt, if_neg hb, g]
  dsimp only
  unfold lowP lowQ
  have e1 : b.sign * a = (if b < 0 then -a else a) := by
    split
    · rename_i h
      rw [Int.sign_eq_neg_one_of_neg h]
      omega
    · rw [Int.sign_eq_one_of_pos (by omega)]
      omega
  rw [e1, Int.natCast_ediv]
theorem rq_add (p q : Rat) : lowD (p.num * q.den + q.num * p.den, p.den * q.den) = rq (p + q) := by
  have := p.den_pos
  have := q.den_pos
  have h : ((p.den : Int) * (q.den : Int)) ≠ 0 := Int.mul_ne_zero (by omega) (by omega)
  rw [low_div_rq h, Rat.add_def', ← Int.natCast_mul, Rat.divInt_ofNat]
theorem rq_sub (p q : Rat) : lowD (p.num * q.den - q.num * p.den, p.den * q.den) = rq (p - q) := by
  have := p.den_pos
  have := q.den_pos
  have h : ((p.den : Int) * (q.den : Int)) ≠ 0 := Int.mul_ne_zero (by omega) (by omega)
  rw [low_div_rq h, Rat.sub_def', ← Int.natCast_mul, Rat.divInt_ofNat]
theorem rq_mul (p q : Rat) : lowD (p.num * q.num, p.den * q.den) = rq (p * q) := by
  have := p.den_pos
  have := q.den_pos
  have h : ((p.den : Int) * (q.den : Int)) ≠ 0 := Int.mul_ne_zero (by omega) (by omega)
  rw [low_div_rq h, Rat.mul_def', ← Int.natCast_mul, Rat.divInt_ofNat]
theorem rq_div {p q : Rat} (h0 : q ≠ 0) : lowD (p.num * q.den, p.den * q.num) = rq (p / q) := by
  have := p.den_pos
  have n0 : q.num ≠ 0 := fun e => h0 (Rat.num_eq_zero.mp e)
  have h : ((p.den : Int) * q.num) ≠ 0 := Int.mul_ne_zero (by omega) n0
  rw [low_div_rq h, Rat.div_def, Rat.inv_def]
  conv => rhs; rw [← Rat.num_divInt_den p]
  rw [Rat.divInt_mul_divInt]
theorem rq_neg (q : Rat) : ratD (-q.num) q.den = rq (-q) := rfl
/-- sizes: figures of the numerator, of the denominator -/
structure Sz (n m : Nat) (q : Rat) : Prop where
  n : q.num.natAbs < 10 ^ n
  m : q.den < 10 ^ m
theorem Sz.up {n m n' m' : Nat} {q : Rat} (h : Sz n m q) (a : n ≤ n') (b : m ≤ m') : Sz n' m' q := ⟨Nat.lt_of_lt_of_le h.n (Nat.pow_le_pow_right (by decide) a), Nat.lt_of_lt_of_le h.m (Nat.pow_le_pow_right (by decide) b)⟩
theorem sz_div {a b : Int} {n m : Nat} (ha : a.natAbs < 10 ^ n) (hb : b.natAbs < 10 ^ m) (h0 : b ≠ 0) : Sz n m (Rat.divInt a b) := by
  have gp : 0 < b.gcd a := Int.gcd_pos_of_ne_zero_left _ h0
  refine ⟨?_, ?_⟩
  · rw [Rat.num_divInt]
    refine Nat.lt_of_le_of_lt ?_ ha
    rw [Int.natAbs_ediv_of_dvd]
    · refine Nat.le_trans (Nat.div_le_self _ _) ?_
      rw [Int.natAbs_mul]
      have : b.sign.natAbs ≤ 1 := by rw [Int.natAbs_sign]; split <;> omega
      calc b.sign.natAbs * a.natAbs ≤ 1 * a.natAbs := Nat.mul_le_mul_right _ this
        _ = a.natAbs := Nat.one_mul _
    · exact Int.dvd_mul_of_dvd_right (Int.gcd_dvd_right ..)
  · rw [Rat.den_divInt, if_neg h0]
    exact Nat.lt_of_le_of_lt (Nat.div_le_self _ _) hb
theorem nat_lt_mul {a b n m : Nat} (ha : a < 10 ^ n) (hb : b < 10 ^ m) : a * b < 10 ^ (n + m) := by
  rw [Nat.pow_add]
  exact Nat.mul_lt_mul'' ha hb
theorem cross_lt {x y u v : Int} {a b c d k : Nat} (h1 : x.natAbs < 10 ^ a) (h2 : y.natAbs < 10 ^ b) (h3 : u.natAbs < 10 ^ c) (h4 : v.natAbs < 10 ^ d) (l1 : a + b < k) (l2 : c + d < k) : (x * y + u * v).natAbs < 10 ^ k ∧ (x * y - u * v).natAbs < 10 ^ k := by
  have p1 : (x * y).natAbs < 10 ^ (a + b) := by rw [Int.natAbs_mul]; exact nat_lt_mul h1 h2
  have p2 : (u * v).natAbs < 10 ^ (c + d) := by rw [Int.natAbs_mul]; exact nat_lt_mul h3 h4
  obtain ⟨j, rfl⟩ : ∃ j, k = j + 1 := ⟨k - 1, by omega⟩
  have q1 : 10 ^ (a + b) ≤ 10 ^ j := Nat.pow_le_pow_right (by decide) (by omega)
  have q2 : 10 ^ (c + d) ≤ 10 ^ j := Nat.pow_le_pow_right (by decide) (by omega)
  have e : 10 ^ (j + 1) = 10 ^ j * 10 := Nat.pow_succ ..
  rw [e]
  generalize 10 ^ j = z at *
  omega
theorem den_ne (p q : Rat) : ((p.den : Int) * (q.den : Int)) ≠ 0 := by
  have := p.den_pos
  have := q.den_pos
  exact Int.mul_ne_zero (by omega) (by omega)
theorem den_lt {a b c d : Nat} {p q : Rat} (h : Sz a b p) (k : Sz c d q) : ((p.den : Int) * (q.den : Int)).natAbs < 10 ^ (b + d) := by
  rw [Int.natAbs_mul]
  exact nat_lt_mul h.m k.m
theorem Sz.add {a b c d : Nat} {p q : Rat} (h : Sz a b p) (k : Sz c d q) : Sz (max (a + d) (c + b) + 1) (b + d) (p + q) := by
  have e : p + q = Rat.divInt (p.num * q.den + q.num * p.den) (p.den * q.den) := by rw [Rat.add_def', ← Int.natCast_mul, Rat.divInt_ofNat]
  rw [e]
  exact sz_div (cross_lt h.n k.m k.n h.m (by omega) (by omega)).1 (den_lt h k) (den_ne p q)
theorem Sz.sub {a b c d : Nat} {p q : Rat} (h : Sz a b p) (k : Sz c d q) : Sz (max (a + d) (c + b) + 1) (b + d) (p - q) := by
  have e : p - q = Rat.divInt (p.num * q.den - q.num * p.den) (p.den * q.den) := by rw [Rat.sub_def', ← Int.natCast_mul, Rat.divInt_ofNat]
  rw [e]
  exact sz_div (cross_lt h.n k.m k.n h.m (by omega) (by omega)).2 (den_lt h k) (den_ne p q)
theorem Sz.mul {a b c d : Nat} {p q : Rat} (h : Sz a b p) (k : Sz c d q) : Sz (a + c) (b + d) (p * q) := by
  have e : p * q = Rat.divInt (p.num * q.num) (p.den * q.den) := by rw [Rat.mul_def', ← Int.natCast_mul, Rat.divInt_ofNat]
  rw [e]
  exact sz_div (by rw [Int.natAbs_mul]; exact nat_lt_mul h.n k.n) (den_lt h k) (den_ne p q)
theorem Sz.div {a b c d : Nat} {p q : Rat} (h : Sz a b p) (k : Sz c d q) (h0 : q ≠ 0) : Sz (a + d) (b + c) (p / q) := by
  have := p.den_pos
  have n0 : q.num ≠ 0 := fun e => h0 (Rat.num_eq_zero.mp e)
  have e : p / q = Rat.divInt (p.num * q.den) (p.den * q.num) := by
    rw [Rat.div_def, Rat.inv_def]
    conv => lhs; rw [← Rat.num_divInt_den p]
    rw [Rat.divInt_mul_divInt]
  rw [e]
  exact sz_div (by rw [Int.natAbs_mul]; exact nat_lt_mul h.n k.m) (by rw [Int.natAbs_mul]; exact nat_lt_mul h.m k.n) (Int.mul_ne_zero (by omega) n0)
theorem Sz.neg {a b : Nat} {p : Rat} (h : Sz a b p) : Sz a b (-p) := ⟨by rw [Rat.neg_num, Int.natAbs_neg]; exact h.n, h.m⟩
/-- at most n bits -/
def Bi (n : Nat) (x : Int) : Prop := x.natAbs < 2 ^ n
theorem Bi.mul {n m : Nat} {x y : Int} (h : Bi n x) (k : Bi m y) : Bi (n + m) (x * y) := by
  unfold Bi
  rw [Int.natAbs_mul, Nat.pow_add]
  exact Nat.mul_lt_mul'' h k
theorem Bi.cm {n m : Nat} {x y : Int} (h : Bi n x) (k : Bi m y) (hn : 0 < n) (hm : 0 < m) (l : n + m ≤ 1000000) : CMulW x y := wide_mul h k hn hm l
theorem ten_two (n : Nat) : 10 ^ n ≤ 2 ^ (4 * n) := by
  rw [Nat.pow_mul]
  exact Nat.pow_le_pow_left (by decide) n
/-- one may be multiplied -/
structure Sm1 (q : Rat) : Prop where
  n : Bi 100000 q.num
  d : Bi 100000 (q.den : Int)
/-- two may be counted with -/
structure Ok2 (p q : Rat) : Prop where
  a : Sm1 p
  b : Sm1 q
  m : (p.den * q.den).log2 < 9000
theorem Sz.sm {n m : Nat} {q : Rat} (h : Sz n m q) (l : n ≤ 25000 ∧ m ≤ 25000) : Sm1 q := by
  refine ⟨Nat.lt_of_lt_of_le h.n (Nat.le_trans (ten_two n) (Nat.pow_le_pow_right (by decide) (by omega))), ?_⟩
  unfold Bi
  rw [Int.natAbs_natCast]
  exact Nat.lt_of_lt_of_le h.m (Nat.le_trans (ten_two m) (Nat.pow_le_pow_right (by decide) (by omega)))
theorem log_lt {x k : Nat} (h : x < 10 ^ k) (l : k ≤ 2700) : x.log2 < 9000 := by
  by_cases c : x = 0
  · rw [c]
    decide
  · refine (Nat.log2_lt c).mpr (Nat.lt_of_lt_of_le h (Nat.le_trans (Nat.pow_le_pow_right (by decide) l) ?_))
    decide +kernel
theorem Sz.ok {a b c d : Nat} {p q : Rat} (h : Sz a b p) (k : Sz c d q) (l : (a ≤ 25000 ∧ b ≤ 25000 ∧ c ≤ 25000 ∧ d ≤ 25000) ∧ b + d ≤ 2700) : Ok2 p q :=
  ⟨h.sm ⟨l.1.1, l.1.2.1⟩, k.sm ⟨l.1.2.2.1, l.1.2.2.2⟩, log_lt (nat_lt_mul h.m k.m) l.2⟩
theorem Ok2.cm {p q : Rat} (h : Ok2 p q) : CMulW p.num q.num ∧ CMulW p.num q.den ∧ CMulW q.num p.den ∧ CMulW p.den q.den ∧ CMulW p.den q.num ∧ ((p.den : Int) * q.den).natAbs.log2 < 9000 :=
  ⟨h.a.n.cm h.b.n (by decide) (by decide) (by decide), h.a.n.cm h.b.d (by decide) (by decide) (by decide), h.b.n.cm h.a.d (by decide) (by decide) (by decide), h.a.d.cm h.b.d (by decide) (by decide) (by decide), h.a.d.cm h.b.n (by decide) (by decide) (by decide), by
    rw [Int.natAbs_mul]
    exact h.m⟩
/-- a square's root has half the figures -/
theorem Sz.half {n m : Nat} {r : Rat} (e1 : (r * r).num = r.num * r.num) (e2 : (r * r).den = r.den * r.den) (h : Sz (2 * n) (2 * m) (r * r)) : Sz n m r := by
  refine ⟨Nat.lt_of_not_le fun z => ?_, Nat.lt_of_not_le fun z => ?_⟩
  · have a := Nat.mul_le_mul z z
    have b := h.n
    rw [e1, Int.natAbs_mul, Nat.two_mul, Nat.pow_add] at b
    omega
  · have a := Nat.mul_le_mul z z
    have b := h.m
    rw [e2, Nat.two_mul, Nat.pow_add] at b
    omega
/-- the sign of a Rat -/
def sg (q : Rat) : Int := sgn q.num
theorem sg_pos {q : Rat} (h : 0 < q) : sg q = 1 := by
  unfold sg sgn
  have : 0 < q.num := by
    rcases Int.lt_trichotomy q.num 0 with z | z | z
    · have := Rat.num_nonneg.mpr (Rat.le_of_lt h)
      omega
    · have := Rat.num_eq_zero.mp z
      rw [this] at h
      exact absurd h Rat.lt_irrefl
    · exact z
  rw [if_pos (by omega)]
theorem sg_neg' (q : Rat) : sg (-q) = -sg q := by
  unfold sg
  rw [Rat.neg_num]
  generalize q.num = n
  unfold sgn
  by_cases h1 : n > 0
  · rw [if_neg (by omega), if_pos (by omega), if_pos h1]
  · by_cases h2 : n < 0
    · rw [if_pos (by omega), if_neg h1, if_pos h2]
      rfl
    · rw [if_neg (by omega), if_neg (by omega), if_neg h1, if_neg h2]
      rfl
theorem sg_zero : sg 0 = 0 := rfl
theorem sg_neg {q : Rat} (h : q < 0) : sg q = -1 := by
  have h2 : (0 : Rat) < -q := by
    have := Rat.neg_lt_neg h
    simpa using this
  have := sg_pos h2
  rw [sg_neg'] at this
  omega
theorem sg_cases (q : Rat) : (0 < q ∧ sg q = 1) ∨ (q < 0 ∧ sg q = -1) ∨ (q = 0 ∧ sg q = 0) := by
  by_cases h : 0 < q
  · exact .inl ⟨h, sg_pos h⟩
  · by_cases k : q < 0
    · exact .inr (.inl ⟨k, sg_neg k⟩)
    · have : q = 0 := Rat.le_antisymm (Rat.not_lt.mp h) (Rat.not_lt.mp k)
      exact .inr (.inr ⟨this, by rw [this]; rfl⟩)
end My
set_option exponentiation.threshold 100000
namespace My
open PySem PySem.Spec PyProof.Rows L2
local macro_rules | `(tactic| walk_at "dl") => `(tactic| simp only [startD, List.map_cons, List.map_nil, List.length_cons, List.length_nil, List.cons_append, List.nil_append, List.replicate_succ, List.replicate_zero, List.getElem?_cons_zero, List.getElem?_cons_succ, List.set_cons_zero, List.set_cons_succ,
  dVar, rdS, dC, dNew, dOp, onB, qB, dChain, qAnd, qOr, qNot, qTru, truD, dIf, dAnd, dOr, dNot, dUn, ddNeg, lNil, lCons, dTup, nLst, ddI, ddI0, ddAdd, isNonD, isBlD, ddIsN, ddIsB, ddIx_t0, ddIx_t1, ddIx_t2, ddIx_t3, ddIx_l0, ddIx_l1, ddIx_l2, dCB, ddLen, ddInt1, ddAbs, ddMM, ddTuple, nCB, nnList, ddIsi, dCall,
  sSkip, sSeq, sBreak, sCont, sExpr, sRet, sRetN, sIf, sNever, gdName, gdNil, gdCons, gdTup, sAsg, sSetN, sPar, sRaise, sFrz, owS, sApp, sIns, dLenO, dIxO, sTry, sFor, iL, iT, onL, onT, iR1, iR2, nComp, qYes,
  ddEq_ii, ddEq_ss, ddEq_bb, Bool.false_bne, Bool.true_bne, List.append_nil, true_and, and_true, if_true, if_false, Bool.not_true, Bool.not_false, Bool.true_eq_false, Bool.false_eq_true, ite_true, ite_false, id_eq])

abbrev s_lowest : Stmt := topS 14
abbrev N_lowest : List Str := ["top", "bottom", "common"]
abbrev P_lowest : List Str := ["top", "bottom"]
theorem sc_lowest : FnScope N_lowest P_lowest (defScope s_lowest) := ⟨rfl, rfl, rfl, by decide +kernel, rfl, by decide +kernel, by decide +kernel⟩

abbrev s_need_two : Stmt := topS 18
abbrev N_need_two : List Str := ["one", "other"]
abbrev P_need_two : List Str := ["one", "other"]
theorem sc_need_two : FnScope N_need_two P_need_two (defScope s_need_two) := ⟨rfl, rfl, rfl, by decide +kernel, rfl, by decide +kernel, by decide +kernel⟩

abbrev s_add : Stmt := topS 20
abbrev N_add : List Str := ["one", "other"]
abbrev P_add : List Str := ["one", "other"]
theorem sc_add : FnScope N_add P_add (defScope s_add) := ⟨rfl, rfl, rfl, by decide +kernel, rfl, by decide +kernel, by decide +kernel⟩

abbrev s_subtract : Stmt := topS 21
abbrev N_subtract : List Str := ["one", "other"]
abbrev P_subtract : List Str := ["one", "other"]
theorem sc_subtract : FnScope N_subtract P_subtract (defScope s_subtract) := ⟨rfl, rfl, rfl, by decide +kernel, rfl, by decide +kernel, by decide +kernel⟩

abbrev s_multiply : Stmt := topS 22
abbrev N_multiply : List Str := ["one", "other"]
abbrev P_multiply : List Str := ["one", "other"]
theorem sc_multiply : FnScope N_multiply P_multiply (defScope s_multiply) := ⟨rfl, rfl, rfl, by decide +kernel, rfl, by decide +kernel, by decide +kernel⟩

abbrev s_divide : Stmt := topS 23
abbrev N_divide : List Str := ["one", "other"]
abbrev P_divide : List Str := ["one", "other"]
theorem sc_divide : FnScope N_divide P_divide (defScope s_divide) := ⟨rfl, rfl, rfl, by decide +kernel, rfl, by decide +kernel, by decide +kernel⟩

abbrev s_negate : Stmt := topS 24
abbrev N_negate : List Str := ["one"]
abbrev P_negate : List Str := ["one"]
theorem sc_negate : FnScope N_negate P_negate (defScope s_negate) := ⟨rfl, rfl, rfl, by decide +kernel, rfl, by decide +kernel, by decide +kernel⟩

abbrev s_sign : Stmt := topS 25
abbrev N_sign : List Str := ["one"]
abbrev P_sign : List Str := ["one"]
theorem sc_sign : FnScope N_sign P_sign (defScope s_sign) := ⟨rfl, rfl, rfl, by decide +kernel, rfl, by decide +kernel, by decide +kernel⟩

abbrev s_compare : Stmt := topS 26
abbrev N_compare : List Str := ["one", "other"]
abbrev P_compare : List Str := ["one", "other"]
theorem sc_compare : FnScope N_compare P_compare (defScope s_compare) := ⟨rfl, rfl, rfl, by decide +kernel, rfl, by decide +kernel, by decide +kernel⟩

/-! ### arithmetic over Rat -/
def m_two : DF := fun ds Q _ => ∃ p q, ds = [rq p, rq q] ∧ Q .non
def m_r2 (f : Rat → Rat → Rat) : DF := fun ds Q _ => ∃ p q, ds = [rq p, rq q] ∧ Ok2 p q ∧ Q (rq (f p q))
def m_div : DF := fun ds Q _ => ∃ p q, ds = [rq p, rq q] ∧ (Sm1 p ∧ Sm1 q ∧ (p.den * q.num.natAbs).log2 < 9000) ∧ q ≠ 0 ∧ Q (rq (p / q))
def m_neg1 : DF := fun ds Q _ => ∃ p, ds = [rq p] ∧ Q (rq (-p))
def m_sign1 : DF := fun ds Q _ => ∃ p, ds = [rq p] ∧ Q (.int (sg p))
def m_cmp2 : DF := fun ds Q _ => ∃ p q, ds = [rq p, rq q] ∧ Ok2 p q ∧ Q (.int (sg (p - q)))
theorem sg_div {a b : Int} (hb : 0 < b) : sg (Rat.divInt a b) = sgn a := by
  unfold sg
  rw [Rat.num_divInt, Int.sign_eq_one_of_pos hb, Int.one_mul]
  have gp : 0 < (b.gcd a : Int) := by
    have := Int.gcd_pos_of_ne_zero_left (a := b) a (by omega)
    omega
  obtain ⟨c, hc⟩ : (b.gcd a : Int) ∣ a := Int.gcd_dvd_right ..
  generalize (b.gcd a : Int) = g at *
  rw [hc, Int.mul_ediv_cancel_left _ (by omega)]
  unfold sgn
  rcases Int.lt_trichotomy c 0 with h | h | h
  · have : g * c < 0 := Int.mul_neg_of_pos_of_neg gp h
    rw [if_neg (by omega), if_pos h, if_neg (by omega), if_pos this]
  · rw [h, Int.mul_zero]
  · have : 0 < g * c := Int.mul_pos gp h
    rw [if_pos (by omega), if_pos (by omega)]
theorem sg_cmp (p q : Rat) : sgn (p.num * q.den - q.num * p.den) = sg (p - q) := by
  have e : p - q = Rat.divInt (p.num * q.den - q.num * p.den) (p.den * q.den) := by rw [Rat.sub_def', ← Int.natCast_mul, Rat.divInt_ofNat]
  have := p.den_pos
  have := q.den_pos
  rw [e, sg_div (Int.mul_pos (by omega) (by omega))]
theorem SmR.den {q : Rat} : ((q.den : Int)) ≠ 0 := by
  have := q.den_pos
  omega
section
variable {P : Program} {w : World} {K : PySem.W.Frag} {mg : Str → Option Value} {base : Heap}
theorem ok_lowest (T : Txt K mg) : FnOk P w K mg base (L2N.CX P w) 2 T.dlowest.f T.dlowest.fd P_lowest (spD K 2 m_lowest) := by
  have G_divisor : FnOk P w K mg base (L2N.CX P w) 1 T.ddivisor.f T.ddivisor.fd P_divisor (spD K 2 m_divisor) := ok_divisor T
  refine T.dlowest.okD sc_lowest fun cdv A outer s H E so A0 hr tk hp => ⟨_, (pds_cons (pds_set (i := 2) sc_lowest.nd rfl (by first | exact .inl rfl | exact .inr rfl) (pd_call G_divisor (hr.mono (by omega)) (by rfl) T.ddivisor.g T.ddivisor.F.kp T.ddivisor.b (fun σ => L2N.passAt tk σ) (pda_cons (pd_var (pv 0)) (pda_cons (pd_var (pv 1)) pda_nil))))
      (pds_cons (pds_if (pdt_cmp op_lt ol_lt (pd_var (pv 1)) pd_int (nomark _))
        (pds_one (pds_set (i := 2) sc_lowest.nd rfl (by first | exact .inl rfl | exact .inr rfl) (pd_neg (pd_var (pv 2)))))
        pds_nil)
      (pds_one (pds_ret (pd_tup (pda_cons (pd_op op_fdivZ ol_fdiv (pd_var (pv 0)) (pd_var (pv 2))) (pda_cons (pd_op op_fdivZ ol_fdiv (pd_var (pv 1)) (pd_var (pv 2))) pda_nil))))))), fun ds Q E hl h => ?_⟩
  unfold m_lowest at h
  split at h
  · rename_i a b
    obtain ⟨hb, hz, h⟩ := h
    obtain ⟨f1, f2⟩ := low_div a b hb
    obtain ⟨c1, c2⟩ := gcd_bits (a := a) hb hz a b
    walk_at "dl"
    simp only [m_divisor]
    split
    · rename_i c
      have c : b < 0 := by simpa using c
      rw [if_pos c] at c1 c2 f1 f2
      refine ⟨c1, c2, (by show 2 ≤ sizeLine; decide), ?_⟩
      rw [f1, f2]
      exact h
    · rename_i c
      have c : ¬ b < 0 := by simpa using c
      rw [if_neg c] at c1 c2 f1 f2
      refine ⟨c1, c2, (by show 2 ≤ sizeLine; decide), ?_⟩
      rw [f1, f2]
      exact h
  · exact h.elim
theorem ok_need_two (T : Txt K mg) : FnOk P w K mg base (L2N.CX P w) 5 T.dneed_two.f T.dneed_two.fd P_need_two (spD K 2 m_two) := by
  have G_need_ratio : FnOk P w K mg base (L2N.CX P w) 4 T.dneed_ratio.f T.dneed_ratio.fd P_need_ratio (spD K 2 (m_need_ratio T)) := ok_need_ratio T
  refine T.dneed_two.okD sc_need_two fun cdv A outer s H E so A0 hr tk hp => ⟨_, (pds_cons (pds_expr (pd_call G_need_ratio (hr.mono (by omega)) (by rfl) T.dneed_ratio.g T.dneed_ratio.F.kp T.dneed_ratio.b (fun σ => L2N.passAt tk σ) (pda_cons (pd_var (pv 0)) (pda_cons pd_str pda_nil))))
      (pds_one (pds_expr (pd_call G_need_ratio (hr.mono (by omega)) (by rfl) T.dneed_ratio.g T.dneed_ratio.F.kp T.dneed_ratio.b (fun σ => L2N.passAt tk σ) (pda_cons (pd_var (pv 1)) (pda_cons pd_str pda_nil)))))), fun ds Q E hl h => ?_⟩
  obtain ⟨p, q, rfl, h⟩ := h
  walk_at "dl"
  exact ⟨rat_pl (rq_rat p), fun e => (by rw [rq_rat] at e; cases e), fun _ => ⟨rat_pl (rq_rat q), fun e => (by rw [rq_rat] at e; cases e), fun _ => h⟩⟩
theorem ok_add (T : Txt K mg) : FnOk P w K mg base (L2N.CX P w) 6 T.dadd.f T.dadd.fd P_add (spD K 2 (m_r2 fun p q => p + q)) := by
  have G_need_two : FnOk P w K mg base (L2N.CX P w) 5 T.dneed_two.f T.dneed_two.fd P_need_two (spD K 2 m_two) := ok_need_two T
  have G_lowest : FnOk P w K mg base (L2N.CX P w) 2 T.dlowest.f T.dlowest.fd P_lowest (spD K 2 m_lowest) := ok_lowest T
  refine T.dadd.okD sc_add fun cdv A outer s H E so A0 hr tk hp => ⟨_, (pds_cons (pds_expr (pd_call G_need_two (hr.mono (by omega)) (by rfl) T.dneed_two.g T.dneed_two.F.kp T.dneed_two.b (fun σ => L2N.passAt tk σ) (pda_cons (pd_var (pv 0)) (pda_cons (pd_var (pv 1)) pda_nil))))
      (pds_one (pds_ret (pd_call G_lowest (hr.mono (by omega)) (by rfl) T.dlowest.g T.dlowest.F.kp T.dlowest.b (fun σ => L2N.passAt tk σ) (pda_cons (pd_op oo_add ol_add (pd_op op_mulW ol_mul (pd_ix ix_seq ol_ix (pd_var (pv 0)) pd_int (fun _ _ => rfl)) (pd_ix ix_seq ol_ix (pd_var (pv 1)) pd_int (fun _ _ => rfl))) (pd_op op_mulW ol_mul (pd_ix ix_seq ol_ix (pd_var (pv 1)) pd_int (fun _ _ => rfl)) (pd_ix ix_seq ol_ix (pd_var (pv 0)) pd_int (fun _ _ => rfl)))) (pda_cons (pd_op op_mulW ol_mul (pd_ix ix_seq ol_ix (pd_var (pv 0)) pd_int (fun _ _ => rfl)) (pd_ix ix_seq ol_ix (pd_var (pv 1)) pd_int (fun _ _ => rfl))) pda_nil)))))), fun ds Q E hl h => ?_⟩
  obtain ⟨p, q, rfl, ok, h⟩ := h
  obtain ⟨c1, c2, c3, c4, c5, c6⟩ := ok.cm
  walk_at "dl"
  refine ⟨p, q, rfl, ?_⟩
  simp only [rq, ratD]
  walk_at "dl"
  refine ⟨c2, c3, c4, den_ne p q, c6, ?_⟩
  rw [← rq_add p q] at h
  exact h
theorem ok_subtract (T : Txt K mg) : FnOk P w K mg base (L2N.CX P w) 6 T.dsubtract.f T.dsubtract.fd P_subtract (spD K 2 (m_r2 fun p q => p - q)) := by
  have G_need_two : FnOk P w K mg base (L2N.CX P w) 5 T.dneed_two.f T.dneed_two.fd P_need_two (spD K 2 m_two) := ok_need_two T
  have G_lowest : FnOk P w K mg base (L2N.CX P w) 2 T.dlowest.f T.dlowest.fd P_lowest (spD K 2 m_lowest) := ok_lowest T
  refine T.dsubtract.okD sc_subtract fun cdv A outer s H E so A0 hr tk hp => ⟨_, (pds_cons (pds_expr (pd_call G_need_two (hr.mono (by omega)) (by rfl) T.dneed_two.g T.dneed_two.F.kp T.dneed_two.b (fun σ => L2N.passAt tk σ) (pda_cons (pd_var (pv 0)) (pda_cons (pd_var (pv 1)) pda_nil))))
      (pds_one (pds_ret (pd_call G_lowest (hr.mono (by omega)) (by rfl) T.dlowest.g T.dlowest.F.kp T.dlowest.b (fun σ => L2N.passAt tk σ) (pda_cons (pd_op op_sub ol_sub (pd_op op_mulW ol_mul (pd_ix ix_seq ol_ix (pd_var (pv 0)) pd_int (fun _ _ => rfl)) (pd_ix ix_seq ol_ix (pd_var (pv 1)) pd_int (fun _ _ => rfl))) (pd_op op_mulW ol_mul (pd_ix ix_seq ol_ix (pd_var (pv 1)) pd_int (fun _ _ => rfl)) (pd_ix ix_seq ol_ix (pd_var (pv 0)) pd_int (fun _ _ => rfl)))) (pda_cons (pd_op op_mulW ol_mul (pd_ix ix_seq ol_ix (pd_var (pv 0)) pd_int (fun _ _ => rfl)) (pd_ix ix_seq ol_ix (pd_var (pv 1)) pd_int (fun _ _ => rfl))) pda_nil)))))), fun ds Q E hl h => ?_⟩
  obtain ⟨p, q, rfl, ok, h⟩ := h
  obtain ⟨c1, c2, c3, c4, c5, c6⟩ := ok.cm
  walk_at "dl"
  refine ⟨p, q, rfl, ?_⟩
  simp only [rq, ratD]
  walk_at "dl"
  refine ⟨c2, c3, c4, den_ne p q, c6, ?_⟩
  rw [← rq_sub p q] at h
  exact h
theorem ok_multiply (T : Txt K mg) : FnOk P w K mg base (L2N.CX P w) 6 T.dmultiply.f T.dmultiply.fd P_multiply (spD K 2 (m_r2 fun p q => p * q)) := by
  have G_need_two : FnOk P w K mg base (L2N.CX P w) 5 T.dneed_two.f T.dneed_two.fd P_need_two (spD K 2 m_two) := ok_need_two T
  have G_lowest : FnOk P w K mg base (L2N.CX P w) 2 T.dlowest.f T.dlowest.fd P_lowest (spD K 2 m_lowest) := ok_lowest T
  refine T.dmultiply.okD sc_multiply fun cdv A outer s H E so A0 hr tk hp => ⟨_, (pds_cons (pds_expr (pd_call G_need_two (hr.mono (by omega)) (by rfl) T.dneed_two.g T.dneed_two.F.kp T.dneed_two.b (fun σ => L2N.passAt tk σ) (pda_cons (pd_var (pv 0)) (pda_cons (pd_var (pv 1)) pda_nil))))
      (pds_one (pds_ret (pd_call G_lowest (hr.mono (by omega)) (by rfl) T.dlowest.g T.dlowest.F.kp T.dlowest.b (fun σ => L2N.passAt tk σ) (pda_cons (pd_op op_mulW ol_mul (pd_ix ix_seq ol_ix (pd_var (pv 0)) pd_int (fun _ _ => rfl)) (pd_ix ix_seq ol_ix (pd_var (pv 1)) pd_int (fun _ _ => rfl))) (pda_cons (pd_op op_mulW ol_mul (pd_ix ix_seq ol_ix (pd_var (pv 0)) pd_int (fun _ _ => rfl)) (pd_ix ix_seq ol_ix (pd_var (pv 1)) pd_int (fun _ _ => rfl))) pda_nil)))))), fun ds Q E hl h => ?_⟩
  obtain ⟨p, q, rfl, ok, h⟩ := h
  obtain ⟨c1, c2, c3, c4, c5, c6⟩ := ok.cm
  walk_at "dl"
  refine ⟨p, q, rfl, ?_⟩
  simp only [rq, ratD]
  walk_at "dl"
  refine ⟨c1, c4, den_ne p q, c6, ?_⟩
  rw [← rq_mul p q] at h
  exact h
theorem ok_divide (T : Txt K mg) : FnOk P w K mg base (L2N.CX P w) 6 T.ddivide.f T.ddivide.fd P_divide (spD K 2 m_div) := by
  have G_need_two : FnOk P w K mg base (L2N.CX P w) 5 T.dneed_two.f T.dneed_two.fd P_need_two (spD K 2 m_two) := ok_need_two T
  have G_lowest : FnOk P w K mg base (L2N.CX P w) 2 T.dlowest.f T.dlowest.fd P_lowest (spD K 2 m_lowest) := ok_lowest T
  refine T.ddivide.okD sc_divide fun cdv A outer s H E so A0 hr tk hp => ⟨_, (pds_cons (pds_expr (pd_call G_need_two (hr.mono (by omega)) (by rfl) T.dneed_two.g T.dneed_two.F.kp T.dneed_two.b (fun σ => L2N.passAt tk σ) (pda_cons (pd_var (pv 0)) (pda_cons (pd_var (pv 1)) pda_nil))))
      (pds_cons (pds_if (pdt_cmp (oo_eq hr.units) ol_eq (pd_ix ix_seq ol_ix (pd_var (pv 1)) pd_int (fun _ _ => rfl)) pd_int (nomark _))
        pds_never
        pds_nil)
      (pds_one (pds_ret (pd_call G_lowest (hr.mono (by omega)) (by rfl) T.dlowest.g T.dlowest.F.kp T.dlowest.b (fun σ => L2N.passAt tk σ) (pda_cons (pd_op op_mulW ol_mul (pd_ix ix_seq ol_ix (pd_var (pv 0)) pd_int (fun _ _ => rfl)) (pd_ix ix_seq ol_ix (pd_var (pv 1)) pd_int (fun _ _ => rfl))) (pda_cons (pd_op op_mulW ol_mul (pd_ix ix_seq ol_ix (pd_var (pv 0)) pd_int (fun _ _ => rfl)) (pd_ix ix_seq ol_ix (pd_var (pv 1)) pd_int (fun _ _ => rfl))) pda_nil))))))), fun ds Q E hl h => ?_⟩
  obtain ⟨p, q, rfl, ⟨sp, sq, lg⟩, q0, h⟩ := h
  have n0 : q.num ≠ 0 := fun e => q0 (Rat.num_eq_zero.mp e)
  walk_at "dl"
  refine ⟨p, q, rfl, ?_⟩
  simp only [rq, ratD]
  walk_at "dl"
  rw [if_neg (by rw [decide_eq_true_iff]; exact n0)]
  refine ⟨sp.n.cm sq.d (by decide) (by decide) (by decide), sp.d.cm sq.n (by decide) (by decide) (by decide), Int.mul_ne_zero SmR.den n0, by rw [Int.natAbs_mul]; exact lg, ?_⟩
  rw [← rq_div q0] at h
  exact h
theorem ok_negate (T : Txt K mg) : FnOk P w K mg base (L2N.CX P w) 5 T.dnegate.f T.dnegate.fd P_negate (spD K 1 m_neg1) := by
  have G_need_ratio : FnOk P w K mg base (L2N.CX P w) 4 T.dneed_ratio.f T.dneed_ratio.fd P_need_ratio (spD K 2 (m_need_ratio T)) := ok_need_ratio T
  refine T.dnegate.okD sc_negate fun cdv A outer s H E so A0 hr tk hp => ⟨_, (pds_cons (pds_expr (pd_call G_need_ratio (hr.mono (by omega)) (by rfl) T.dneed_ratio.g T.dneed_ratio.F.kp T.dneed_ratio.b (fun σ => L2N.passAt tk σ) (pda_cons (pd_var (pv 0)) (pda_cons pd_str pda_nil))))
      (pds_one (pds_ret (pd_tup (pda_cons (pd_neg (pd_ix ix_seq ol_ix (pd_var (pv 0)) pd_int (fun _ _ => rfl))) (pda_cons (pd_ix ix_seq ol_ix (pd_var (pv 0)) pd_int (fun _ _ => rfl)) pda_nil)))))), fun ds Q E hl h => ?_⟩
  obtain ⟨p, rfl, h⟩ := h
  walk_at "dl"
  refine ⟨rat_pl (rq_rat p), fun e => (by rw [rq_rat] at e; cases e), fun _ => ?_⟩
  simp only [rq, ratD]
  walk_at "dl"
  exact ⟨by show 2 ≤ sizeLine; decide, h⟩
theorem ok_sign (T : Txt K mg) : FnOk P w K mg base (L2N.CX P w) 5 T.dsign.f T.dsign.fd P_sign (spD K 1 m_sign1) := by
  have G_need_ratio : FnOk P w K mg base (L2N.CX P w) 4 T.dneed_ratio.f T.dneed_ratio.fd P_need_ratio (spD K 2 (m_need_ratio T)) := ok_need_ratio T
  have G_sign_of : FnOk P w K mg base (L2N.CX P w) 1 T.dsign_of.f T.dsign_of.fd P_sign_of (spD K 1 m_sign_of) := ok_sign_of T
  refine T.dsign.okD sc_sign fun cdv A outer s H E so A0 hr tk hp => ⟨_, (pds_cons (pds_expr (pd_call G_need_ratio (hr.mono (by omega)) (by rfl) T.dneed_ratio.g T.dneed_ratio.F.kp T.dneed_ratio.b (fun σ => L2N.passAt tk σ) (pda_cons (pd_var (pv 0)) (pda_cons pd_str pda_nil))))
      (pds_one (pds_ret (pd_call G_sign_of (hr.mono (by omega)) (by rfl) T.dsign_of.g T.dsign_of.F.kp T.dsign_of.b (fun σ => L2N.passAt tk σ) (pda_cons (pd_ix ix_seq ol_ix (pd_var (pv 0)) pd_int (fun _ _ => rfl)) pda_nil))))), fun ds Q E hl h => ?_⟩
  obtain ⟨p, rfl, h⟩ := h
  walk_at "dl"
  refine ⟨rat_pl (rq_rat p), fun e => (by rw [rq_rat] at e; cases e), fun _ => ?_⟩
  simp only [rq, ratD, m_sign_of]
  walk_at "dl"
  exact h
theorem ok_compare (T : Txt K mg) : FnOk P w K mg base (L2N.CX P w) 6 T.dcompare.f T.dcompare.fd P_compare (spD K 2 m_cmp2) := by
  have G_need_two : FnOk P w K mg base (L2N.CX P w) 5 T.dneed_two.f T.dneed_two.fd P_need_two (spD K 2 m_two) := ok_need_two T
  have G_sign_of : FnOk P w K mg base (L2N.CX P w) 1 T.dsign_of.f T.dsign_of.fd P_sign_of (spD K 1 m_sign_of) := ok_sign_of T
  refine T.dcompare.okD sc_compare fun cdv A outer s H E so A0 hr tk hp => ⟨_, (pds_cons (pds_expr (pd_call G_need_two (hr.mono (by omega)) (by rfl) T.dneed_two.g T.dneed_two.F.kp T.dneed_two.b (fun σ => L2N.passAt tk σ) (pda_cons (pd_var (pv 0)) (pda_cons (pd_var (pv 1)) pda_nil))))
      (pds_one (pds_ret (pd_call G_sign_of (hr.mono (by omega)) (by rfl) T.dsign_of.g T.dsign_of.F.kp T.dsign_of.b (fun σ => L2N.passAt tk σ) (pda_cons (pd_op op_sub ol_sub (pd_op op_mulW ol_mul (pd_ix ix_seq ol_ix (pd_var (pv 0)) pd_int (fun _ _ => rfl)) (pd_ix ix_seq ol_ix (pd_var (pv 1)) pd_int (fun _ _ => rfl))) (pd_op op_mulW ol_mul (pd_ix ix_seq ol_ix (pd_var (pv 1)) pd_int (fun _ _ => rfl)) (pd_ix ix_seq ol_ix (pd_var (pv 0)) pd_int (fun _ _ => rfl)))) pda_nil))))), fun ds Q E hl h => ?_⟩
  obtain ⟨p, q, rfl, ok, h⟩ := h
  obtain ⟨c1, c2, c3, c4, c5, c6⟩ := ok.cm
  walk_at "dl"
  refine ⟨p, q, rfl, ?_⟩
  simp only [rq, ratD, m_sign_of]
  walk_at "dl"
  refine ⟨c2, c3, ?_⟩
  rw [sg_cmp]
  exact h
end
end My
namespace My
/-! ### the integer root -/
def IsRt (n s : Nat) : Prop := s * s ≤ n ∧ n < (s + 1) * (s + 1)
theorem IsRt.uniq {n s t : Nat} (h : IsRt n s) (k : IsRt n t) : s = t := by
  obtain ⟨h1, h2⟩ := h
  obtain ⟨k1, k2⟩ := k
  have a : s < t + 1 := Nat.lt_of_not_le fun z => absurd (Nat.mul_le_mul z z) (by omega)
  have b : t < s + 1 := Nat.lt_of_not_le fun z => absurd (Nat.mul_le_mul z z) (by omega)
  omega
theorem rt_ex : ∀ n : Nat, ∃ s, IsRt n s
  | 0 => ⟨0, by simp [IsRt]⟩
  | n + 1 => by
    obtain ⟨s, h1, h2⟩ := rt_ex n
    by_cases c : n + 1 < (s + 1) * (s + 1)
    · exact ⟨s, by omega, c⟩
    · refine ⟨s + 1, by omega, ?_⟩
      have : (s + 1 + 1) * (s + 1 + 1) = (s + 1) * (s + 1) + (2 * s + 3) := by grind
      omega
def nstep (n a : Nat) : Nat := (a + n / a) / 2
theorem nstep_ge {n s a : Nat} (h : IsRt n s) (ha : 0 < a) : s ≤ nstep n a := by
  unfold nstep
  have key : 2 * s ≤ a + n / a := by
    by_cases c : 2 * s ≤ a
    · exact Nat.le_trans c (Nat.le_add_right _ _)
    · obtain ⟨d, hd⟩ : ∃ d, 2 * s = a + d := ⟨2 * s - a, by omega⟩
      have e : d ≤ n / a := by
        rw [Nat.le_div_iff_mul_le ha]
        refine Nat.le_trans ?_ h.1
        have e4 : d * a * 4 ≤ (a + d) * (a + d) := by
          rcases Nat.le_total a d with z | z
          · obtain ⟨k, rfl⟩ := Nat.exists_eq_add_of_le z
            have : (a + (a + k)) * (a + (a + k)) = (a + k) * a * 4 + k * k := by grind
            omega
          · obtain ⟨k, rfl⟩ := Nat.exists_eq_add_of_le z
            have : (d + k + d) * (d + k + d) = d * (d + k) * 4 + k * k := by grind
            omega
        rw [← hd] at e4
        have : 2 * s * (2 * s) = s * s * 4 := by grind
        omega
      rw [hd]
      exact Nat.add_le_add_left e _
  generalize n / a = q at *
  omega
theorem nstep_lt {n s a : Nat} (h : IsRt n s) (ha : s < a) : nstep n a < a := by
  unfold nstep
  have h1 : n / a < a := by
    rw [Nat.div_lt_iff_lt_mul (by omega)]
    exact Nat.lt_of_lt_of_le h.2 (Nat.mul_le_mul ha ha)
  omega
/-- 2 a (a' - s) ≤ (a - s)² + 2 s -/
theorem nstep_err {n s e e' : Nat} (h : IsRt n s) (h2 : nstep n (s + e) = s + e') (ha : 0 < s + e) : 2 * (s + e) * e' ≤ e * e + 2 * s := by
  have h3 : 2 * (s + e') ≤ (s + e) + n / (s + e) := by
    rw [← h2]
    unfold nstep
    omega
  have h4 : (s + e) * (n / (s + e)) ≤ n := Nat.mul_div_le n (s + e)
  have h5 : (s + e) * (2 * (s + e')) ≤ (s + e) * ((s + e) + n / (s + e)) := Nat.mul_le_mul_left _ h3
  have h6 := h.2
  have a1 : (s + e) * (2 * (s + e')) = 2 * (s + e) * e' + 2 * (s * s) + 2 * (e * s) := by grind
  have a2 : (s + e) * (s + e) = s * s + 2 * (e * s) + e * e := by grind
  have a3 : (s + 1) * (s + 1) = s * s + 2 * s + 1 := by grind
  rw [a1, Nat.mul_add (s + e) (s + e), a2] at h5
  rw [a3] at h6
  generalize (s + e) * (n / (s + e)) = z at *
  generalize 2 * (s + e) * e' = y at *
  omega
theorem step_half {s e e' : Nat} (hs : 1 ≤ s) (h : 2 * (s + e) * e' ≤ e * e + 2 * s) : 2 * e' ≤ e + 2 := by
  refine Nat.le_of_not_lt fun z => ?_
  have z2 : (s + e) * (e + 3) ≤ (s + e) * (2 * e') := Nat.mul_le_mul_left _ z
  have a1 : (s + e) * (e + 3) = s * e + 3 * s + e * e + 3 * e := by grind
  have a2 : (s + e) * (2 * e') = 2 * (s + e) * e' := by grind
  omega
theorem step_quad {s e e' P : Nat} (hs : 8 ≤ s) (hP : 8 ≤ P) (h : 2 * (s + e) * e' ≤ e * e + 2 * s) (x : (e - 2) * P ≤ s) : (e' - 2) * (2 * (P * P)) ≤ s := by
  by_cases c : e' ≤ 2
  · have : e' - 2 = 0 := by omega
    rw [this, Nat.zero_mul]
    omega
  obtain ⟨y, rfl⟩ : ∃ y, e' = y + 2 := ⟨e' - 2, by omega⟩
  obtain ⟨u, hu⟩ : ∃ u, u = e - 2 := ⟨_, rfl⟩
  have he : e ≤ u + 2 := by omega
  rw [← hu] at x
  have h1 : 2 * s * (y + 2) ≤ (u + 2) * (u + 2) + 2 * s := by
    have b1 : 2 * s * (y + 2) ≤ 2 * (s + e) * (y + 2) := Nat.mul_le_mul_right _ (by omega)
    have b2 := Nat.mul_le_mul he he
    omega
  have h2 : 2 * (s * y) + 2 * s ≤ u * u + 4 * u + 4 := by
    have b1 : 2 * s * (y + 2) = 2 * (s * y) + 4 * s := by grind
    have b2 : (u + 2) * (u + 2) = u * u + 4 * u + 4 := by grind
    omega
  have h3 := Nat.mul_le_mul_right (P * P) h2
  have c1 : (2 * (s * y) + 2 * s) * (P * P) = s * (2 * (y * (P * P))) + 2 * (s * (P * P)) := by grind
  have c2 : (u * u + 4 * u + 4) * (P * P) = (u * P) * (u * P) + 4 * ((u * P) * P) + 4 * (P * P) := by grind
  have d1 : (u * P) * (u * P) ≤ s * s := Nat.mul_le_mul x x
  have d2 : (u * P) * P ≤ s * P := Nat.mul_le_mul_right _ x
  have d3 : 8 * (s * P) ≤ s * (P * P) := by
    have := Nat.mul_le_mul_left (s * P) hP
    have e1 : s * P * 8 = 8 * (s * P) := by grind
    have e2 : s * P * P = s * (P * P) := by grind
    omega
  have d4 : 8 * (P * P) ≤ s * (P * P) := Nat.mul_le_mul_right _ hs
  have h4 : s * (2 * (y * (P * P))) ≤ s * s := by omega
  have h5 := Nat.le_of_mul_le_mul_left h4 (by omega)
  have e1 : (y + 2 - 2) * (2 * (P * P)) = 2 * (y * (P * P)) := by
    rw [Nat.add_sub_cancel]
    grind
  rw [e1]
  exact h5
def mstep (n a : Nat) : Nat := if a ≤ nstep n a then a else nstep n a
theorem mstep_le (n a : Nat) : mstep n a ≤ nstep n a ∧ mstep n a ≤ a := by
  unfold mstep
  split <;> omega
theorem mstep_ge {n s a : Nat} (h : IsRt n s) (hs : 0 < s) (ha : s ≤ a) : s ≤ mstep n a := by
  have := nstep_ge h (a := a) (by omega)
  unfold mstep
  split <;> omega
def niter (n : Nat) : Nat → Nat → Nat
  | 0, a => a
  | k + 1, a => niter n k (mstep n a)
theorem niter_ge {n s : Nat} (h : IsRt n s) (hs : 0 < s) : ∀ (k a : Nat), s ≤ a → s ≤ niter n k a
  | 0, _, ha => ha
  | k + 1, a, ha => niter_ge h hs k _ (mstep_ge h hs ha)
theorem niter_app (n : Nat) : ∀ (k m a : Nat), niter n (k + m) a = niter n m (niter n k a)
  | 0, m, a => by rw [Nat.zero_add]; rfl
  | k + 1, m, a => by
    rw [Nat.add_right_comm]
    exact niter_app n k m _
theorem err_of {n s a : Nat} (h : IsRt n s) (hs : 0 < s) (ha : s ≤ a) : 2 * (s + (a - s)) * (mstep n a - s) ≤ (a - s) * (a - s) + 2 * s := by
  have g := nstep_ge h (a := a) (by omega)
  have l := (mstep_le n a).1
  have r : 2 * (s + (a - s)) * (nstep n a - s) ≤ (a - s) * (a - s) + 2 * s := by
    refine nstep_err h ?_ (by omega)
    have e1 : s + (a - s) = a := by omega
    rw [e1]
    omega
  exact Nat.le_trans (Nat.mul_le_mul_left _ (by omega)) r
theorem half_it {n s : Nat} (h : IsRt n s) (hs : 0 < s) : ∀ (k a q : Nat), s ≤ a → (a - s - 2) * q ≤ 3 * s → (niter n k a - s - 2) * (q * 2 ^ k) ≤ 3 * s
  | 0, a, q, _, e => by
    rw [Nat.pow_zero, Nat.mul_one]
    exact e
  | k + 1, a, q, ha, e => by
    have r := step_half hs (err_of h hs ha)
    have e2 : (mstep n a - s - 2) * (q * 2) ≤ 3 * s := by
      have : (mstep n a - s - 2) * 2 ≤ a - s - 2 := by omega
      have := Nat.mul_le_mul_right q this
      have z : (mstep n a - s - 2) * (q * 2) = (mstep n a - s - 2) * 2 * q := by grind
      omega
    have := half_it h hs k _ (q * 2) (mstep_ge h hs ha) e2
    have z : q * 2 ^ (k + 1) = q * 2 * 2 ^ k := by rw [Nat.pow_succ', Nat.mul_assoc]
    rw [z]
    exact this
def pw : Nat → Nat
  | 0 => 3
  | k + 1 => 2 * pw k + 1
theorem quad_it {n s : Nat} (h : IsRt n s) (hs : 8 ≤ s) : ∀ (k a : Nat), s ≤ a → (a - s - 2) * 8 ≤ s → (niter n k a - s - 2) * 2 ^ pw k ≤ s ∧ 3 ≤ pw k
  | 0, a, _, e => ⟨e, by decide⟩
  | k + 1, a, ha, e => by
    have e0 : niter n (k + 1) a = mstep n (niter n k a) := by
      rw [niter_app n k 1 a]
      rfl
    obtain ⟨i1, i2⟩ := quad_it h hs k a ha e
    have g := niter_ge h (by omega) k a ha
    have p8 : 8 ≤ 2 ^ pw k := Nat.pow_le_pow_right (n := 2) (by decide) i2
    have := step_quad hs p8 (err_of h (by omega) g) i1
    rw [e0]
    refine ⟨?_, by show 3 ≤ 2 * pw k + 1; omega⟩
    have e3 : 2 ^ pw (k + 1) = 2 * (2 ^ pw k * 2 ^ pw k) := by
      show 2 ^ (2 * pw k + 1) = _
      rw [Nat.pow_succ, Nat.two_mul, Nat.pow_add]
      omega
    rw [e3]
    exact this
theorem last_it {n s a : Nat} (h : IsRt n s) (hs : 0 < s) (ha : s ≤ a) (e : a ≤ s + 2) : niter n 2 a = s := by
  have st : ∀ b, s ≤ b → b ≤ s + 2 → s ≤ mstep n b ∧ mstep n b ≤ s + 1 ∧ (b ≤ s + 1 → mstep n b = s) := fun b h1 h2 => by
    have g := mstep_ge h hs h1
    have r := err_of h hs h1
    have l := (mstep_le n b).2
    obtain ⟨d, rfl⟩ := Nat.exists_eq_add_of_le h1
    obtain ⟨d', hd'⟩ := Nat.exists_eq_add_of_le g
    rw [hd'] at r l ⊢
    rw [Nat.add_sub_cancel_left, Nat.add_sub_cancel_left] at r
    have : d = 0 ∨ d = 1 ∨ d = 2 := by omega
    rcases this with rfl | rfl | rfl
    · omega
    · have : d' = 0 := by
        rcases Nat.eq_zero_or_pos d' with z | z
        · exact z
        · have := Nat.mul_le_mul_left (2 * (s + 1)) (show 1 ≤ d' from z)
          omega
      omega
    · have : d' ≤ 1 := Nat.le_of_not_lt fun z2 => by
        have := Nat.mul_le_mul_left (2 * (s + 2)) (show 2 ≤ d' from z2)
        omega
      omega
  obtain ⟨a1, a2, _⟩ := st a ha e
  obtain ⟨b1, b2, b3⟩ := st (mstep n a) a1 (by omega)
  exact b3 a2
def nrun (n : Nat) : Nat → Nat → Nat
  | 0, a => a
  | k + 1, a => if a ≤ nstep n a then a else nrun n k (nstep n a)
theorem nrun_rt {n s : Nat} (h : IsRt n s) (hs : 0 < s) : ∀ k, nrun n k s = s
  | 0 => rfl
  | k + 1 => by
    show (if s ≤ nstep n s then s else nrun n k (nstep n s)) = s
    rw [if_pos (nstep_ge h hs)]
theorem nrun_of {n s : Nat} (h : IsRt n s) (hs : 0 < s) : ∀ (i m a : Nat), s ≤ a → niter n i a = s → nrun n (i + m) a = s
  | 0, m, a, _, e => by
    have e : a = s := e
    subst e
    exact nrun_rt h hs _
  | i + 1, m, a, ha, e => by
    by_cases c : a = s
    · subst c
      exact nrun_rt h hs _
    · rw [Nat.add_right_comm]
      show (if a ≤ nstep n a then a else nrun n (i + m) (nstep n a)) = s
      have c2 : ¬ a ≤ nstep n a := Nat.not_le_of_lt (nstep_lt h (by omega))
      rw [if_neg c2]
      have e1 : mstep n a = nstep n a := if_neg c2
      have e : niter n i (mstep n a) = s := e
      rw [e1] at e
      exact nrun_of h hs i m _ (nstep_ge h (by omega)) e
theorem nrun_all {n s a : Nat} (h : IsRt n s) (hs : 0 < s) (ha : s ≤ a) (h4 : a ≤ 4 * s) (hb : s < 2 ^ 16383) : nrun n 200 a = s := by
  have e5 := half_it h hs 5 a 1 ha (by omega)
  have g5 := niter_ge h hs 5 a ha
  have z : (niter n 5 a - s - 2) * 32 ≤ 3 * s := by simpa using e5
  by_cases c : s < 8
  · have := last_it h hs g5 (by omega)
    rw [← niter_app n 5 2 a] at this
    exact nrun_of h hs 7 193 a ha this
  · obtain ⟨q, _⟩ := quad_it h (by omega) 12 (niter n 5 a) g5 (by omega)
    rw [← niter_app n 5 12 a] at q
    have e : pw 12 = 16383 := by decide
    rw [e] at q
    have g17 := niter_ge h hs 17 a ha
    have zero : niter n 17 a - s - 2 = 0 := by
      rcases Nat.eq_zero_or_pos (niter n 17 a - s - 2) with z | z
      · exact z
      · have := Nat.mul_le_mul_right (2 ^ 16383) (show 1 ≤ niter n 17 a - s - 2 from z)
        rw [Nat.one_mul] at this
        have := Nat.le_trans this q
        omega
    have := last_it h hs g17 (by omega)
    rw [← niter_app n 17 2 a] at this
    exact nrun_of h hs 19 181 a ha this
end My
set_option exponentiation.threshold 100000
namespace My
open PySem PySem.Spec PyProof.Rows L2
local macro_rules | `(tactic| walk_at "dl") => `(tactic| simp only [startD, List.map_cons, List.map_nil, List.length_cons, List.length_nil, List.cons_append, List.nil_append, List.replicate_succ, List.replicate_zero, List.getElem?_cons_zero, List.getElem?_cons_succ, List.set_cons_zero, List.set_cons_succ,
  dVar, rdS, dC, dNew, dOp, onB, qB, dChain, qAnd, qOr, qNot, qTru, truD, dIf, dAnd, dOr, dNot, dUn, ddNeg, lNil, lCons, dTup, nLst, ddI, ddI0, ddAdd, isNonD, isBlD, ddIsN, ddIsB, ddIx_t0, ddIx_t1, ddIx_t2, ddIx_t3, ddIx_l0, ddIx_l1, ddIx_l2, dCB, ddLen, ddInt1, ddAbs, ddMM, ddTuple, nCB, nnList, ddIsi, dCall,
  sSkip, sSeq, sBreak, sCont, sExpr, sRet, sRetN, sIf, sNever, gdName, gdNil, gdCons, gdTup, sAsg, sSetN, sPar, sRaise, sFrz, owS, sApp, sIns, dLenO, dIxO, sTry, sFor, iL, iT, onL, onT, iR1, iR2, nComp, qYes,
  ddEq_ii, ddEq_ss, ddEq_bb, Bool.false_bne, Bool.true_bne, List.append_nil, true_and, and_true, if_true, if_false, Bool.not_true, Bool.not_false, Bool.true_eq_false, Bool.false_eq_true, ite_true, ite_false, id_eq])

/-! ### roots -/
theorem fdiv_nat (m n : Nat) : (m : Int).fdiv (n : Int) = ((m / n : Nat) : Int) := by
  rw [Int.fdiv_eq_ediv_of_nonneg _ (by omega)]
  exact (Int.natCast_ediv m n).symm
theorem bits_of (n : Nat) (h : 0 < n) : Builtin.Int.intBits (n : Int) = n.log2 + 1 := by
  unfold Builtin.Int.intBits
  rw [if_neg (by simp; omega)]
  rfl
/-- small enough to be rooted -/
def Rb (n : Nat) : Prop := n.log2 < 16000
def m_floor_root : DF := fun ds Q _ => match ds with
  | [.int i] => 0 ≤ i ∧ Rb i.toNat ∧ ∀ s : Nat, IsRt i.toNat s → Q (.int s)
  | _ => False
theorem rt_lt {n s k : Nat} (h : IsRt n s) (hk : n < 2 ^ k * 2 ^ k) : s < 2 ^ k := Nat.lt_of_not_le fun z => by
  have := Nat.mul_le_mul z z
  have := h.1
  omega
theorem rt_ge {n s k : Nat} (h : IsRt n s) (hk : 2 ^ k * 2 ^ k ≤ n) : 2 ^ k ≤ s := Nat.le_of_not_lt fun z => by
  have := Nat.mul_le_mul (show s + 1 ≤ 2 ^ k from z) (show s + 1 ≤ 2 ^ k from z)
  have := h.2
  omega
/-- where the search begins -/
theorem start_ge {n s k : Nat} (h : IsRt n s) (hn : 0 < n) (hk : n.log2 + 1 ≤ 2 * k) : s < 2 ^ k := by
  refine rt_lt h ?_
  rw [← Nat.pow_add]
  exact Nat.lt_of_lt_of_le Nat.lt_log2_self (Nat.pow_le_pow_right (by decide) (by omega))
theorem start_le {n s k : Nat} (h : IsRt n s) (hn : 0 < n) (hk : 2 * k ≤ n.log2 + 4) : 2 ^ k ≤ 4 * s := by
  have hs : 0 < s := by
    rcases Nat.eq_zero_or_pos s with z | z
    · have := h.2
      rw [z] at this
      omega
    · exact z
  by_cases c : k < 2
  · have : 2 ^ k ≤ 2 ^ 2 := Nat.pow_le_pow_right (by decide) (by omega)
    omega
  · obtain ⟨j, rfl⟩ : ∃ j, k = j + 2 := ⟨k - 2, by omega⟩
    have : 2 ^ j ≤ s := by
      refine rt_ge h ?_
      rw [← Nat.pow_add]
      exact Nat.le_trans (Nat.pow_le_pow_right (by decide) (by omega)) (Nat.log2_self_le (by omega))
    rw [Nat.pow_add]
    omega
theorem div_small {g k : Nat} (hg : 0 < g) (h : g ≤ 2 ^ k) (hk : k < 9000) (i : Int) : CDivZ i (g : Int) := by
  refine ⟨by omega, ?_⟩
  rw [Int.natAbs_natCast]
  refine (Nat.log2_lt (by omega)).mpr (Nat.lt_of_le_of_lt h (Nat.pow_lt_pow_right (by decide) hk))
abbrev s_floor_root : Stmt := topS 16
abbrev N_floor_root : List Str := ["number", "guess", "following"]
abbrev P_floor_root : List Str := ["number"]
theorem sc_floor_root : FnScope N_floor_root P_floor_root (defScope s_floor_root) := ⟨rfl, rfl, rfl, by decide +kernel, rfl, by decide +kernel, by decide +kernel⟩

section
variable {P : Program} {w : World} {K : PySem.W.Frag} {mg : Str → Option Value} {base : Heap}
theorem shl_one (k : Nat) (hk : k < 9000) : CShl 1 (k : Int) := shl_ok (i := 1) (n := 1) (by decide) (by omega)
theorem two_sh (k : Nat) : (1 : Int) * 2 ^ k = ((2 ^ k : Nat) : Int) := by
  rw [Int.one_mul, Int.natCast_pow]
  rfl
theorem nstep_int (n a : Nat) : ((a : Int) + ((n / a : Nat) : Int)).fdiv 2 = (nstep n a : Int) := by
  rw [← Int.natCast_add]
  exact fdiv_nat _ 2
theorem cdiv2 (i : Int) : CDivZ i 2 := ⟨by decide, by decide⟩
theorem ok_floor_root (T : Txt K mg) : FnOk P w K mg base (L2N.CX P w) 1 T.dfloor_root.f T.dfloor_root.fd P_floor_root (spD K 1 m_floor_root) := by
  refine T.dfloor_root.okD sc_floor_root fun cdv A outer s H E so A0 hr tk hp => ⟨_, (pds_cons (pds_if (pdt_cmp op_lt ol_lt (pd_var (pv 0)) pd_int (nomark _))
        (pds_one (pds_ret (pd_var (pv 0))))
        pds_nil)
      (pds_cons (pds_set (i := 1) sc_floor_root.nd rfl (by first | exact .inl rfl | exact .inr rfl) (pd_op op_shlW ol_shl pd_int (pd_op op_fdivZ ol_fdiv (pd_op oo_add ol_add (pd_bits (pd_var (pv 0))) pd_int) pd_int)))
      (pds_cons (pds_set (i := 2) sc_floor_root.nd rfl (by first | exact .inl rfl | exact .inr rfl) (pd_op op_fdivZ ol_fdiv (pd_op oo_add ol_add (pd_var (pv 1)) (pd_op op_fdivZ ol_fdiv (pd_var (pv 0)) (pd_var (pv 1)))) pd_int))
      (pds_cons (pds_while hp (pdt_cmp op_lt ol_lt (pd_var (pv 2)) (pd_var (pv 1)) (nomark _))
        (pds_cons (pds_set (i := 1) sc_floor_root.nd rfl (by first | exact .inl rfl | exact .inr rfl) (pd_var (pv 2)))
        (pds_one (pds_set (i := 2) sc_floor_root.nd rfl (by first | exact .inl rfl | exact .inr rfl) (pd_op op_fdivZ ol_fdiv (pd_op oo_add ol_add (pd_var (pv 1)) (pd_op op_fdivZ ol_fdiv (pd_var (pv 0)) (pd_var (pv 1)))) pd_int)))))
      (pds_one (pds_ret (pd_var (pv 1)))))))), fun ds Q E hl h => ?_⟩
  unfold m_floor_root at h
  split at h
  · rename_i i
    obtain ⟨h0, hb, h⟩ := h
    obtain ⟨n, rfl⟩ : ∃ n : Nat, i = n := ⟨i.toNat, by omega⟩
    rw [Int.toNat_natCast] at hb h
    walk_at "dl"
    by_cases c : n < 2
    · rw [if_pos (by rw [decide_eq_true_iff]; omega)]
      exact h n (by
        have : n = 0 ∨ n = 1 := by omega
        rcases this with rfl | rfl <;> simp [IsRt])
    rw [if_neg (by rw [decide_eq_true_iff]; omega)]
    simp only [ddBits, bits_of n (by omega)]
    (try walk_at "dl")
    obtain ⟨r, hr⟩ := rt_ex n
    have ek : (((n.log2 + 1 : Nat) : Int) + 1).fdiv 2 = (((n.log2 + 2) / 2 : Nat) : Int) := by
      rw [show (((n.log2 + 1 : Nat) : Int) + 1) = ((n.log2 + 2 : Nat) : Int) by omega]
      exact fdiv_nat _ 2
    rw [ek]
    unfold Rb at hb
    have k1 : n.log2 + 1 ≤ 2 * ((n.log2 + 2) / 2) := by omega
    have k2 : (n.log2 + 2) / 2 < 9000 := by omega
    generalize (n.log2 + 2) / 2 = k at *
    have st := start_ge hr (by omega) k1
    rw [Int.toNat_natCast, two_sh]
    have gp : 0 < 2 ^ k := Nat.pow_pos (by decide)
    refine ⟨cdiv2 _, shl_one k k2, div_small gp (Nat.le_refl _) k2 _, cdiv2 _, ?_⟩
    rw [fdiv_nat, nstep_int]
    have r0 : 0 < r := by
      rcases Nat.eq_zero_or_pos r with z | z
      · have := hr.2
        rw [z] at this
        omega
      · exact z
    refine ⟨fun m ρ => ρ = [.fr (.int n), .fr (.int (m : Int)), .fr (.int (nstep n m : Int))] ∧ r ≤ m ∧ m ≤ 2 ^ k, ⟨2 ^ k, rfl, Nat.le_of_lt st, Nat.le_refl _⟩, ?_⟩
    rintro m ρ ⟨rfl, m1, m2⟩
    walk_at "dl"
    split
    · rename_i c
      have c : nstep n m < m := by
        have := of_decide_eq_true c
        omega
      have g := nstep_ge hr (a := m) (by omega)
      refine ⟨fun ρ' => ρ' = [.fr (.int n), .fr (.int (nstep n m : Int)), .fr (.int (nstep n (nstep n m) : Int))], ?_, ?_⟩
      · rintro ρ' rfl
        exact ⟨nstep n m, c, rfl, g, by omega⟩
      · refine ⟨div_small (by omega) (show nstep n m ≤ 2 ^ k by omega) k2 _, cdiv2 _, ?_⟩
        rw [fdiv_nat, nstep_int]
    · rename_i c
      have c : ¬ nstep n m < m := by
        intro z
        exact c (decide_eq_true (by omega))
      have : m = r := by
        rcases Nat.lt_or_ge r m with z | z
        · exact absurd (nstep_lt hr z) c
        · omega
      subst this
      exact h m hr
  · exact h.elim
end
end My
set_option exponentiation.threshold 100000
namespace My
open PySem PySem.Spec PyProof.Rows L2
local macro_rules | `(tactic| walk_at "dl") => `(tactic| simp only [startD, List.map_cons, List.map_nil, List.length_cons, List.length_nil, List.cons_append, List.nil_append, List.replicate_succ, List.replicate_zero, List.getElem?_cons_zero, List.getElem?_cons_succ, List.set_cons_zero, List.set_cons_succ,
  dVar, rdS, dC, dNew, dOp, onB, qB, dChain, qAnd, qOr, qNot, qTru, truD, dIf, dAnd, dOr, dNot, dUn, ddNeg, lNil, lCons, dTup, nLst, ddI, ddI0, ddAdd, isNonD, isBlD, ddIsN, ddIsB, ddIx_t0, ddIx_t1, ddIx_t2, ddIx_t3, ddIx_l0, ddIx_l1, ddIx_l2, dCB, ddLen, ddInt1, ddAbs, ddMM, ddTuple, nCB, nnList, ddIsi, dCall,
  sSkip, sSeq, sBreak, sCont, sExpr, sRet, sRetN, sIf, sNever, gdName, gdNil, gdCons, gdTup, sAsg, sSetN, sPar, sRaise, sFrz, owS, sApp, sIns, dLenO, dIxO, sTry, sFor, iL, iT, onL, onT, iR1, iR2, nComp, qYes,
  ddEq_ii, ddEq_ss, ddEq_bb, Bool.false_bne, Bool.true_bne, List.append_nil, true_and, and_true, if_true, if_false, Bool.not_true, Bool.not_false, Bool.true_eq_false, Bool.false_eq_true, ite_true, ite_false, id_eq])

/-! ### roots over Rat -/
noncomputable def rt (n : Nat) : Nat := (rt_ex n).choose
theorem rt_is (n : Nat) : IsRt n (rt n) := (rt_ex n).choose_spec
theorem rt_eq {n s : Nat} (h : IsRt n s) : rt n = s := (rt_is n).uniq h
theorem sq_num (r : Rat) : (r * r).num = r.num * r.num ∧ (r * r).den = r.den * r.den := by
  have e : r * r = r ^ 2 := by rw [Rat.pow_succ, Rat.pow_one]
  rw [e, Rat.num_pow, Rat.den_pow]
  constructor
  · rw [Int.pow_succ, Int.pow_succ, Int.pow_zero, Int.one_mul]
  · rw [Nat.pow_succ, Nat.pow_succ, Nat.pow_zero, Nat.one_mul]
theorem sq_rt {n x : Nat} (h : x * x = n) : rt n = x := rt_eq ⟨by omega, by
  have : (x + 1) * (x + 1) = x * x + 2 * x + 1 := by grind
  omega⟩
/-- the two roots of a ratio -/
theorem root_yes {p : Rat} (h0 : 0 ≤ p.num) (h1 : rt p.num.toNat * rt p.num.toNat = p.num.toNat) (h2 : rt p.den * rt p.den = p.den) : ∃ r : Rat, 0 ≤ r ∧ r * r = p ∧ rq r = ratD (rt p.num.toNat) (rt p.den) := by
  generalize hx : rt p.num.toNat = x at *
  generalize hy : rt p.den = y at *
  have y0 : y ≠ 0 := fun e => by
    rw [e] at h2
    have := p.den_pos
    omega
  have g : Nat.Coprime x y := by
    have c := p.reduced
    have e : p.num.natAbs = x * x := by omega
    rw [e, ← h2] at c
    refine Nat.dvd_one.mp ?_
    rw [← (show Nat.gcd (x * x) (y * y) = 1 from c)]
    exact Nat.dvd_gcd (Nat.dvd_mul_right_of_dvd (Nat.gcd_dvd_left x y) x) (Nat.dvd_mul_right_of_dvd (Nat.gcd_dvd_right x y) y)
  refine ⟨⟨x, y, y0, g⟩, ?_, ?_, rfl⟩
  · rw [← Rat.num_nonneg]
    exact Int.natCast_nonneg x
  · obtain ⟨e1, e2⟩ := sq_num ⟨x, y, y0, g⟩
    refine Rat.ext ?_ ?_
    · rw [e1]
      show (x : Int) * (x : Int) = p.num
      rw [← Int.natCast_mul]
      omega
    · rw [e2]
      exact h2
theorem root_no {p : Rat} (h : ¬ (0 ≤ p.num ∧ rt p.num.toNat * rt p.num.toNat = p.num.toNat ∧ rt p.den * rt p.den = p.den)) (r : Rat) : r * r ≠ p := fun e => by
  obtain ⟨e1, e2⟩ := sq_num r
  rw [e] at e1 e2
  have n0 : p.num = ((r.num.natAbs * r.num.natAbs : Nat) : Int) := by
    rw [e1, Int.natCast_mul]
    rcases Int.natAbs_eq r.num with z | z
    · rw [← z]
    · generalize (r.num.natAbs : Int) = k at *
      rw [z, Int.neg_mul_neg]
  have x : rt p.num.toNat = r.num.natAbs := sq_rt (by omega)
  have y : rt p.den = r.den := sq_rt e2.symm
  refine h ⟨by omega, ?_, ?_⟩
  · rw [x]
    omega
  · rw [y]
    exact e2.symm
theorem root_one {r s p : Rat} (h1 : 0 ≤ r) (h2 : 0 ≤ s) (e1 : r * r = p) (e2 : s * s = p) : r = s := by
  have z : (r - s) * (r + s) = 0 := by grind
  rcases Rat.mul_eq_zero.mp z with h | h
  · grind
  · have r0 : r = 0 := by
      refine Rat.le_antisymm ?_ h1
      have : r = -s := by grind
      rw [this]
      have := Rat.neg_le_neg h2
      simpa using this
    have s0 : s = 0 := by grind
    rw [r0, s0]
def m_root : DF := fun ds Q _ => ∃ p, ds = [rq p] ∧ (Bi 15000 p.num ∧ Bi 15000 (p.den : Int)) ∧ (∀ r : Rat, 0 ≤ r → r * r = p → Q (rq r)) ∧ ((∀ r : Rat, r * r ≠ p) → Q .non)
/-- the sign of p + f * root u -/
def rsQ (p f u : Rat) : Int := if sg p = 0 then sg (f * u) else if sg (f * u) = 0 ∨ sg (f * u) = sg p then sg p else sg p * sg (p * p - f * f * u)
def m_root_sign : DF := fun ds Q _ => ∃ p f u, ds = [rq p, rq f, rq u] ∧ 0 ≤ u ∧ (Sm1 p ∧ Sm1 f ∧ Sm1 u) ∧ Q (.int (rsQ p f u))
theorem sg_mul (f u : Rat) : sgn (f.num * u.num) = sg (f * u) := by
  have e : f * u = Rat.divInt (f.num * u.num) (f.den * u.den) := by rw [Rat.mul_def', ← Int.natCast_mul, Rat.divInt_ofNat]
  have := f.den_pos
  have := u.den_pos
  rw [e, sg_div (Int.mul_pos (by omega) (by omega))]
theorem sg_left (p f u : Rat) : sgn (p.num * p.num * f.den * f.den * u.den - f.num * f.num * u.num * p.den * p.den) = sg (p * p - f * f * u) := by
  have e : p * p - f * f * u = Rat.divInt (p.num * p.num * f.den * f.den * u.den - f.num * f.num * u.num * p.den * p.den) (p.den * p.den * (f.den * f.den * u.den)) := by
    have h1 : p * p = Rat.divInt (p.num * p.num) (p.den * p.den) := by rw [Rat.mul_def', ← Int.natCast_mul, Rat.divInt_ofNat]
    have h2 : f * f = Rat.divInt (f.num * f.num) (f.den * f.den) := by rw [Rat.mul_def', ← Int.natCast_mul, Rat.divInt_ofNat]
    have h3 : u = Rat.divInt u.num u.den := (Rat.num_divInt_den u).symm
    have d1 : (p.den : Int) * p.den ≠ 0 := den_ne p p
    have d2 : (f.den : Int) * f.den ≠ 0 := den_ne f f
    have d3 : (u.den : Int) ≠ 0 := SmR.den
    have h4 : f * f * u = Rat.divInt (f.num * f.num * u.num) (f.den * f.den * u.den) := by
      rw [h2]
      conv => lhs; rw [h3]
      rw [Rat.divInt_mul_divInt]
    rw [h1, h4, Rat.divInt_sub_divInt _ _ d1 (Int.mul_ne_zero d2 d3)]
    congr 1
    grind
  have := p.den_pos
  have := f.den_pos
  have := u.den_pos
  have c1 : 0 < (p.den : Int) * p.den := Int.mul_pos (by omega) (by omega)
  have c2 : 0 < (f.den : Int) * f.den * u.den := Int.mul_pos (Int.mul_pos (by omega) (by omega)) (by omega)
  rw [e, sg_div (Int.mul_pos c1 c2)]
abbrev s_root : Stmt := topS 27
abbrev N_root : List Str := ["one", "top", "bottom", "above", "below"]
abbrev P_root : List Str := ["one"]
theorem sc_root : FnScope N_root P_root (defScope s_root) := ⟨rfl, rfl, rfl, by decide +kernel, rfl, by decide +kernel, by decide +kernel⟩

abbrev s_root_sign : Stmt := topS 28
abbrev N_root_sign : List Str := ["plain", "factor", "under", "first", "second", "left", "right"]
abbrev P_root_sign : List Str := ["plain", "factor", "under"]
theorem sc_root_sign : FnScope N_root_sign P_root_sign (defScope s_root_sign) := ⟨rfl, rfl, rfl, by decide +kernel, rfl, by decide +kernel, by decide +kernel⟩

theorem Bi.rb {x : Int} (h : Bi 15000 x) : Rb x.toNat := by
  unfold Rb
  by_cases c : x.toNat = 0
  · rw [c]
    decide
  · refine (Nat.log2_lt c).mpr ?_
    exact Nat.lt_of_lt_of_le (show x.toNat < 2 ^ 15000 by unfold Bi at h; omega) (Nat.pow_le_pow_right (by decide) (by decide))
section
variable {P : Program} {w : World} {K : PySem.W.Frag} {mg : Str → Option Value} {base : Heap}
theorem ok_root (T : Txt K mg) : FnOk P w K mg base (L2N.CX P w) 5 T.droot.f T.droot.fd P_root (spD K 1 m_root) := by
  have G_need_ratio : FnOk P w K mg base (L2N.CX P w) 4 T.dneed_ratio.f T.dneed_ratio.fd P_need_ratio (spD K 2 (m_need_ratio T)) := ok_need_ratio T
  have G_floor_root : FnOk P w K mg base (L2N.CX P w) 1 T.dfloor_root.f T.dfloor_root.fd P_floor_root (spD K 1 m_floor_root) := ok_floor_root T
  refine T.droot.okD sc_root fun cdv A outer s H E so A0 hr tk hp => ⟨_, (pds_cons (pds_expr (pd_call G_need_ratio (hr.mono (by omega)) (by rfl) T.dneed_ratio.g T.dneed_ratio.F.kp T.dneed_ratio.b (fun σ => L2N.passAt tk σ) (pda_cons (pd_var (pv 0)) (pda_cons pd_str pda_nil))))
      (pds_cons (pds_asg (pd_var (pv 0)) (pdg_tup (n := 2) rfl (pdgs_cons (pdg_name (pg_name (i := 1) sc_root.nd rfl (by first | exact .inl rfl | exact .inr rfl))) (pdgs_cons (pdg_name (pg_name (i := 2) sc_root.nd rfl (by first | exact .inl rfl | exact .inr rfl))) pdgs_nil))))
      (pds_cons (pds_if (pdt_cmp op_lt ol_lt (pd_var (pv 1)) pd_int (nomark _))
        (pds_one (pds_ret pd_non))
        pds_nil)
      (pds_cons (pds_par (i := 3) (j := 4) (by rfl) sc_root.nd rfl rfl (by decide) rfl rfl (pda_cons (pd_call G_floor_root (hr.mono (by omega)) (by rfl) T.dfloor_root.g T.dfloor_root.F.kp T.dfloor_root.b (fun σ => L2N.passAt tk σ) (pda_cons (pd_var (pv 1)) pda_nil)) (pda_cons (pd_call G_floor_root (hr.mono (by omega)) (by rfl) T.dfloor_root.g T.dfloor_root.F.kp T.dfloor_root.b (fun σ => L2N.passAt tk σ) (pda_cons (pd_var (pv 2)) pda_nil)) pda_nil)) (by rfl))
      (pds_cons (pds_if (PDW.t (pdw_or (pdt_cmp (oo_ne hr.units) ol_ne (pd_op op_mulW ol_mul (pd_var (pv 3)) (pd_var (pv 3))) (pd_var (pv 1)) (nomark _)) (pdw_or1 (pdt_cmp (oo_ne hr.units) ol_ne (pd_op op_mulW ol_mul (pd_var (pv 4)) (pd_var (pv 4))) (pd_var (pv 2)) (nomark _)))))
        (pds_one (pds_ret pd_non))
        pds_nil)
      (pds_one (pds_ret (pd_tup (pda_cons (pd_var (pv 3)) (pda_cons (pd_var (pv 4)) pda_nil)))))))))), fun ds Q E hl h => ?_⟩
  obtain ⟨p, rfl, ⟨s1, s2⟩, hy, hn⟩ := h
  walk_at "dl"
  refine ⟨rat_pl (rq_rat p), fun e => (by rw [rq_rat] at e; cases e), fun _ => ?_⟩
  simp only [rq, ratD]
  walk_at "dl"
  by_cases ha : p.num < 0
  · rw [if_pos (decide_eq_true ha)]
    exact hn (root_no fun z => by omega)
  rw [if_neg (by rw [decide_eq_true_iff]; exact ha)]
  simp only [m_floor_root]
  refine ⟨by omega, s1.rb, fun x hx => ⟨by omega, s2.rb, fun y hy' => ?_⟩⟩
  rw [Int.toNat_natCast] at hy'
  have ex := rt_eq hx
  have ey := rt_eq hy'
  have bx : Bi 15000 (x : Int) := by
    have := hx.1
    have := Nat.le_mul_self x
    unfold Bi at s1
    unfold Bi
    rw [Int.natAbs_natCast]
    omega
  have bY : Bi 15000 (y : Int) := by
    have := hy'.1
    have := Nat.le_mul_self y
    unfold Bi at s2
    unfold Bi
    rw [Int.natAbs_natCast] at s2 ⊢
    omega
  (try walk_at "dl")
  refine ⟨bx.cm bx (by decide) (by decide) (by decide), ?_⟩
  have cx : ((x : Int) * (x : Int) = p.num) ↔ x * x = p.num.toNat := by
    rw [← Int.natCast_mul]
    omega
  have cy : ((y : Int) * (y : Int) = (p.den : Int)) ↔ y * y = p.den := by
    rw [← Int.natCast_mul]
    omega
  by_cases c1 : x * x = p.num.toNat
  · rw [if_neg (by rw [decide_eq_true (cx.mpr c1)]; decide)]
    refine ⟨bY.cm bY (by decide) (by decide) (by decide), ?_⟩
    by_cases c2 : y * y = p.den
    · rw [if_neg (by rw [decide_eq_true (cy.mpr c2)]; decide)]
      obtain ⟨r, r0, rr, er⟩ := root_yes (p := p) (by omega) (by rw [ex]; exact c1) (by rw [ey]; exact c2)
      have := hy r r0 rr
      rw [er, ex, ey] at this
      exact ⟨by show 2 ≤ sizeLine; decide, this⟩
    · rw [if_pos (by rw [decide_eq_false (fun z => c2 (cy.mp z))]; decide)]
      exact hn (root_no fun z => c2 (by rw [← ey]; exact z.2.2))
  · rw [if_pos (by rw [decide_eq_false (fun z => c1 (cx.mp z))]; decide)]
    exact hn (root_no fun z => c1 (by rw [← ex]; exact z.2.1))
theorem ok_root_sign (T : Txt K mg) : FnOk P w K mg base (L2N.CX P w) 5 T.droot_sign.f T.droot_sign.fd P_root_sign (spD K 3 m_root_sign) := by
  have G_need_ratio : FnOk P w K mg base (L2N.CX P w) 4 T.dneed_ratio.f T.dneed_ratio.fd P_need_ratio (spD K 2 (m_need_ratio T)) := ok_need_ratio T
  have G_sign_of : FnOk P w K mg base (L2N.CX P w) 1 T.dsign_of.f T.dsign_of.fd P_sign_of (spD K 1 m_sign_of) := ok_sign_of T
  refine T.droot_sign.okD sc_root_sign fun cdv A outer s H E so A0 hr tk hp => ⟨_, (pds_cons (pds_expr (pd_call G_need_ratio (hr.mono (by omega)) (by rfl) T.dneed_ratio.g T.dneed_ratio.F.kp T.dneed_ratio.b (fun σ => L2N.passAt tk σ) (pda_cons (pd_var (pv 0)) (pda_cons pd_str pda_nil))))
      (pds_cons (pds_expr (pd_call G_need_ratio (hr.mono (by omega)) (by rfl) T.dneed_ratio.g T.dneed_ratio.F.kp T.dneed_ratio.b (fun σ => L2N.passAt tk σ) (pda_cons (pd_var (pv 1)) (pda_cons pd_str pda_nil))))
      (pds_cons (pds_expr (pd_call G_need_ratio (hr.mono (by omega)) (by rfl) T.dneed_ratio.g T.dneed_ratio.F.kp T.dneed_ratio.b (fun σ => L2N.passAt tk σ) (pda_cons (pd_var (pv 2)) (pda_cons pd_str pda_nil))))
      (pds_cons (pds_if (pdt_cmp op_lt ol_lt (pd_ix ix_seq ol_ix (pd_var (pv 2)) pd_int (fun _ _ => rfl)) pd_int (nomark _))
        pds_never
        pds_nil)
      (pds_cons (pds_set (i := 3) sc_root_sign.nd rfl (by first | exact .inl rfl | exact .inr rfl) (pd_call G_sign_of (hr.mono (by omega)) (by rfl) T.dsign_of.g T.dsign_of.F.kp T.dsign_of.b (fun σ => L2N.passAt tk σ) (pda_cons (pd_ix ix_seq ol_ix (pd_var (pv 0)) pd_int (fun _ _ => rfl)) pda_nil)))
      (pds_cons (pds_set (i := 4) sc_root_sign.nd rfl (by first | exact .inl rfl | exact .inr rfl) (pd_call G_sign_of (hr.mono (by omega)) (by rfl) T.dsign_of.g T.dsign_of.F.kp T.dsign_of.b (fun σ => L2N.passAt tk σ) (pda_cons (pd_op op_mulW ol_mul (pd_ix ix_seq ol_ix (pd_var (pv 1)) pd_int (fun _ _ => rfl)) (pd_ix ix_seq ol_ix (pd_var (pv 2)) pd_int (fun _ _ => rfl))) pda_nil)))
      (pds_cons (pds_if (pdt_cmp (oo_eq hr.units) ol_eq (pd_var (pv 3)) pd_int (nomark _))
        (pds_one (pds_ret (pd_var (pv 4))))
        pds_nil)
      (pds_cons (pds_if (PDW.t (pdw_or (pdt_cmp (oo_eq hr.units) ol_eq (pd_var (pv 4)) pd_int (nomark _)) (pdw_or1 (pdt_cmp (oo_eq hr.units) ol_eq (pd_var (pv 4)) (pd_var (pv 3)) (nomark _)))))
        (pds_one (pds_ret (pd_var (pv 3))))
        pds_nil)
      (pds_cons (pds_set (i := 5) sc_root_sign.nd rfl (by first | exact .inl rfl | exact .inr rfl) (pd_op op_mulW ol_mul (pd_op op_mulW ol_mul (pd_op op_mulW ol_mul (pd_op op_mulW ol_mul (pd_ix ix_seq ol_ix (pd_var (pv 0)) pd_int (fun _ _ => rfl)) (pd_ix ix_seq ol_ix (pd_var (pv 0)) pd_int (fun _ _ => rfl))) (pd_ix ix_seq ol_ix (pd_var (pv 1)) pd_int (fun _ _ => rfl))) (pd_ix ix_seq ol_ix (pd_var (pv 1)) pd_int (fun _ _ => rfl))) (pd_ix ix_seq ol_ix (pd_var (pv 2)) pd_int (fun _ _ => rfl))))
      (pds_cons (pds_set (i := 6) sc_root_sign.nd rfl (by first | exact .inl rfl | exact .inr rfl) (pd_op op_mulW ol_mul (pd_op op_mulW ol_mul (pd_op op_mulW ol_mul (pd_op op_mulW ol_mul (pd_ix ix_seq ol_ix (pd_var (pv 1)) pd_int (fun _ _ => rfl)) (pd_ix ix_seq ol_ix (pd_var (pv 1)) pd_int (fun _ _ => rfl))) (pd_ix ix_seq ol_ix (pd_var (pv 2)) pd_int (fun _ _ => rfl))) (pd_ix ix_seq ol_ix (pd_var (pv 0)) pd_int (fun _ _ => rfl))) (pd_ix ix_seq ol_ix (pd_var (pv 0)) pd_int (fun _ _ => rfl))))
      (pds_one (pds_ret (pd_op op_mulW ol_mul (pd_var (pv 3)) (pd_call G_sign_of (hr.mono (by omega)) (by rfl) T.dsign_of.g T.dsign_of.F.kp T.dsign_of.b (fun σ => L2N.passAt tk σ) (pda_cons (pd_op op_sub ol_sub (pd_var (pv 5)) (pd_var (pv 6))) pda_nil))))))))))))))), fun ds Q E hl h => ?_⟩
  obtain ⟨p, f, u, rfl, u0, ⟨⟨p1, p2⟩, ⟨f1, f2⟩, ⟨u1, u2⟩⟩, k⟩ := h
  walk_at "dl"
  refine ⟨rat_pl (rq_rat p), fun e => (by rw [rq_rat] at e; cases e), fun _ => ⟨rat_pl (rq_rat f), fun e => (by rw [rq_rat] at e; cases e), fun _ => ⟨rat_pl (rq_rat u), fun e => (by rw [rq_rat] at e; cases e), fun _ => ?_⟩⟩⟩
  have un : ¬ u.num < 0 := by
    have := Rat.num_nonneg.mpr u0
    omega
  simp only [rq, ratD, m_sign_of]
  walk_at "dl"
  rw [if_neg (by rw [decide_eq_true_iff]; exact un)]
  have c : ∀ {x y : Int}, Bi 100000 x → Bi 100000 y → CMulW x y := fun h k => h.cm k (by decide) (by decide) (by decide)
  have b : ∀ {x : Int}, Bi 100000 x → Bi 100000 x := fun h => h
  refine ⟨c f1 u1, ?_⟩
  rw [sg_mul]
  unfold rsQ at k
  have e0 : sgn p.num = sg p := rfl
  rw [e0]
  by_cases c0 : sg p = 0
  · rw [if_pos c0] at k
    rw [if_pos (decide_eq_true c0)]
    exact k
  rw [if_neg c0] at k
  rw [if_neg (by rw [decide_eq_true_iff]; exact c0)]
  by_cases c1 : sg (f * u) = 0
  · rw [if_pos (.inl c1)] at k
    rw [if_pos (decide_eq_true c1)]
    exact k
  rw [if_neg (by rw [decide_eq_true_iff]; exact c1)]
  by_cases c2 : sg (f * u) = sg p
  · rw [if_pos (.inr c2)] at k
    rw [if_pos (decide_eq_true c2)]
    exact k
  rw [if_neg (fun z => z.elim c1 c2)] at k
  rw [if_neg (by rw [decide_eq_true_iff]; exact c2)]
  have a1 := (b p1).mul (b p1)
  have a2 := a1.mul (b f2)
  have a3 := a2.mul (b f2)
  have d1 := (b f1).mul (b f1)
  have d2 := d1.mul (b u1)
  have d3 := d2.mul (b p2)
  have sm : ∀ q : Rat, Bi 1 (sg q) := fun q => by
    unfold Bi
    rcases sg_cases q with ⟨_, e⟩ | ⟨_, e⟩ | ⟨_, e⟩ <;> rw [e] <;> decide
  refine ⟨c p1 p1, a1.cm (b f2) (by decide) (by decide) (by decide), a2.cm (b f2) (by decide) (by decide) (by decide), a3.cm (b u2) (by decide) (by decide) (by decide), c f1 f1, d1.cm (b u1) (by decide) (by decide) (by decide), d2.cm (b p2) (by decide) (by decide) (by decide), d3.cm (b p2) (by decide) (by decide) (by decide), ?_⟩
  rw [sg_left]
  exact ⟨(sm p).cm (sm _) (by decide) (by decide) (by decide), k⟩
end
end My
set_option exponentiation.threshold 100000
namespace My
open PySem PySem.Spec PyProof.Rows L2
local macro_rules | `(tactic| walk_at "dl") => `(tactic| simp only [startD, List.map_cons, List.map_nil, List.length_cons, List.length_nil, List.cons_append, List.nil_append, List.replicate_succ, List.replicate_zero, List.getElem?_cons_zero, List.getElem?_cons_succ, List.set_cons_zero, List.set_cons_succ,
  dVar, rdS, dC, dNew, dOp, onB, qB, dChain, qAnd, qOr, qNot, qTru, truD, dIf, dAnd, dOr, dNot, dUn, ddNeg, lNil, lCons, dTup, nLst, ddI, ddI0, ddAdd, isNonD, isBlD, ddIsN, ddIsB, ddIx_t0, ddIx_t1, ddIx_t2, ddIx_t3, ddIx_l0, ddIx_l1, ddIx_l2, dCB, ddLen, ddInt1, ddAbs, ddMM, ddTuple, nCB, nnList, ddIsi, dCall,
  sSkip, sSeq, sBreak, sCont, sExpr, sRet, sRetN, sIf, sNever, gdName, gdNil, gdCons, gdTup, sAsg, sSetN, sPar, sRaise, sFrz, owS, sApp, sIns, dLenO, dIxO, sTry, sFor, iL, iT, onL, onT, iR1, iR2, nComp, qYes,
  ddEq_ii, ddEq_ss, ddEq_bb, Bool.false_bne, Bool.true_bne, List.append_nil, true_and, and_true, if_true, if_false, Bool.not_true, Bool.not_false, Bool.true_eq_false, Bool.false_eq_true, ite_true, ite_false, id_eq])

/-! ### points -/
def pt (a b : Rat) : D := .tup [rq a, rq b]
def m_p2 (f : Rat → Rat → Rat) : DF := fun ds Q _ => ∃ a b c d, ds = [pt a b, pt c d] ∧ Ok2 a c ∧ Ok2 b d ∧ Q (pt (f a c) (f b d))
def m_ptimes : DF := fun ds Q _ => ∃ a b k, ds = [pt a b, rq k] ∧ Ok2 a k ∧ Ok2 b k ∧ Q (pt (a * k) (b * k))
def m_pmul : DF := fun ds Q _ => ∃ k a b, ds = [rq k, pt a b] ∧ Ok2 k a ∧ Ok2 k b ∧ Q (pt (k * a) (k * b))
def m_pdot : DF := fun ds Q _ => ∃ a b c d, ds = [pt a b, pt c d] ∧ Ok2 a c ∧ Ok2 b d ∧ Ok2 (a * c) (b * d) ∧ Q (rq (a * c + b * d))
def m_pcross : DF := fun ds Q _ => ∃ a b c d, ds = [pt a b, pt c d] ∧ Ok2 a d ∧ Ok2 b c ∧ Ok2 (a * d) (b * c) ∧ Q (rq (a * d - b * c))
def m_left : DF := fun ds Q _ => ∃ a b, ds = [pt a b] ∧ Q (pt (-b) a)
def m_psq : DF := fun ds Q _ => ∃ a b, ds = [pt a b] ∧ Ok2 a a ∧ Ok2 b b ∧ Ok2 (a * a) (b * b) ∧ Q (rq (a * a + b * b))
abbrev s_point_sum : Stmt := topS 32
abbrev N_point_sum : List Str := ["one", "other"]
abbrev P_point_sum : List Str := ["one", "other"]
theorem sc_point_sum : FnScope N_point_sum P_point_sum (defScope s_point_sum) := ⟨rfl, rfl, rfl, by decide +kernel, rfl, by decide +kernel, by decide +kernel⟩

abbrev s_point_gap : Stmt := topS 33
abbrev N_point_gap : List Str := ["one", "other"]
abbrev P_point_gap : List Str := ["one", "other"]
theorem sc_point_gap : FnScope N_point_gap P_point_gap (defScope s_point_gap) := ⟨rfl, rfl, rfl, by decide +kernel, rfl, by decide +kernel, by decide +kernel⟩

abbrev s_point_times : Stmt := topS 34
abbrev N_point_times : List Str := ["point", "factor"]
abbrev P_point_times : List Str := ["point", "factor"]
theorem sc_point_times : FnScope N_point_times P_point_times (defScope s_point_times) := ⟨rfl, rfl, rfl, by decide +kernel, rfl, by decide +kernel, by decide +kernel⟩

abbrev s_point_dot : Stmt := topS 35
abbrev N_point_dot : List Str := ["one", "other"]
abbrev P_point_dot : List Str := ["one", "other"]
theorem sc_point_dot : FnScope N_point_dot P_point_dot (defScope s_point_dot) := ⟨rfl, rfl, rfl, by decide +kernel, rfl, by decide +kernel, by decide +kernel⟩

abbrev s_left_turn : Stmt := topS 36
abbrev N_left_turn : List Str := ["point"]
abbrev P_left_turn : List Str := ["point"]
theorem sc_left_turn : FnScope N_left_turn P_left_turn (defScope s_left_turn) := ⟨rfl, rfl, rfl, by decide +kernel, rfl, by decide +kernel, by decide +kernel⟩

abbrev s_point_square : Stmt := topS 37
abbrev N_point_square : List Str := ["point"]
abbrev P_point_square : List Str := ["point"]
theorem sc_point_square : FnScope N_point_square P_point_square (defScope s_point_square) := ⟨rfl, rfl, rfl, by decide +kernel, rfl, by decide +kernel, by decide +kernel⟩

section
variable {P : Program} {w : World} {K : PySem.W.Frag} {mg : Str → Option Value} {base : Heap}
theorem ok_point_sum (T : Txt K mg) : FnOk P w K mg base (L2N.CX P w) 7 T.dpoint_sum.f T.dpoint_sum.fd P_point_sum (spD K 2 (m_p2 fun p q => p + q)) := by
  have G_add : FnOk P w K mg base (L2N.CX P w) 6 T.dadd.f T.dadd.fd P_add (spD K 2 (m_r2 fun p q => p + q)) := ok_add T
  refine T.dpoint_sum.okD sc_point_sum fun cdv A outer s H E so A0 hr tk hp => ⟨_, (pds_one (pds_ret (pd_tup (pda_cons (pd_call G_add (hr.mono (by omega)) (by rfl) T.dadd.g T.dadd.F.kp T.dadd.b (fun σ => L2N.passAt tk σ) (pda_cons (pd_ix ix_seq ol_ix (pd_var (pv 0)) pd_int (fun _ _ => rfl)) (pda_cons (pd_ix ix_seq ol_ix (pd_var (pv 1)) pd_int (fun _ _ => rfl)) pda_nil))) (pda_cons (pd_call G_add (hr.mono (by omega)) (by rfl) T.dadd.g T.dadd.F.kp T.dadd.b (fun σ => L2N.passAt tk σ) (pda_cons (pd_ix ix_seq ol_ix (pd_var (pv 0)) pd_int (fun _ _ => rfl)) (pda_cons (pd_ix ix_seq ol_ix (pd_var (pv 1)) pd_int (fun _ _ => rfl)) pda_nil))) pda_nil))))), fun ds Q E hl h => ?_⟩
  obtain ⟨a, b, c, d, rfl, o1, o2, h⟩ := h
  simp only [pt]
  walk_at "dl"
  exact ⟨_, _, rfl, o1, _, _, rfl, o2, by show 2 ≤ sizeLine; decide, h⟩
theorem ok_point_gap (T : Txt K mg) : FnOk P w K mg base (L2N.CX P w) 7 T.dpoint_gap.f T.dpoint_gap.fd P_point_gap (spD K 2 (m_p2 fun p q => p - q)) := by
  have G_subtract : FnOk P w K mg base (L2N.CX P w) 6 T.dsubtract.f T.dsubtract.fd P_subtract (spD K 2 (m_r2 fun p q => p - q)) := ok_subtract T
  refine T.dpoint_gap.okD sc_point_gap fun cdv A outer s H E so A0 hr tk hp => ⟨_, (pds_one (pds_ret (pd_tup (pda_cons (pd_call G_subtract (hr.mono (by omega)) (by rfl) T.dsubtract.g T.dsubtract.F.kp T.dsubtract.b (fun σ => L2N.passAt tk σ) (pda_cons (pd_ix ix_seq ol_ix (pd_var (pv 0)) pd_int (fun _ _ => rfl)) (pda_cons (pd_ix ix_seq ol_ix (pd_var (pv 1)) pd_int (fun _ _ => rfl)) pda_nil))) (pda_cons (pd_call G_subtract (hr.mono (by omega)) (by rfl) T.dsubtract.g T.dsubtract.F.kp T.dsubtract.b (fun σ => L2N.passAt tk σ) (pda_cons (pd_ix ix_seq ol_ix (pd_var (pv 0)) pd_int (fun _ _ => rfl)) (pda_cons (pd_ix ix_seq ol_ix (pd_var (pv 1)) pd_int (fun _ _ => rfl)) pda_nil))) pda_nil))))), fun ds Q E hl h => ?_⟩
  obtain ⟨a, b, c, d, rfl, o1, o2, h⟩ := h
  simp only [pt]
  walk_at "dl"
  exact ⟨_, _, rfl, o1, _, _, rfl, o2, by show 2 ≤ sizeLine; decide, h⟩
theorem ok_point_times (T : Txt K mg) : FnOk P w K mg base (L2N.CX P w) 7 T.dpoint_times.f T.dpoint_times.fd P_point_times (spD K 2 m_ptimes) := by
  have G_multiply : FnOk P w K mg base (L2N.CX P w) 6 T.dmultiply.f T.dmultiply.fd P_multiply (spD K 2 (m_r2 fun p q => p * q)) := ok_multiply T
  refine T.dpoint_times.okD sc_point_times fun cdv A outer s H E so A0 hr tk hp => ⟨_, (pds_one (pds_ret (pd_tup (pda_cons (pd_call G_multiply (hr.mono (by omega)) (by rfl) T.dmultiply.g T.dmultiply.F.kp T.dmultiply.b (fun σ => L2N.passAt tk σ) (pda_cons (pd_ix ix_seq ol_ix (pd_var (pv 0)) pd_int (fun _ _ => rfl)) (pda_cons (pd_var (pv 1)) pda_nil))) (pda_cons (pd_call G_multiply (hr.mono (by omega)) (by rfl) T.dmultiply.g T.dmultiply.F.kp T.dmultiply.b (fun σ => L2N.passAt tk σ) (pda_cons (pd_ix ix_seq ol_ix (pd_var (pv 0)) pd_int (fun _ _ => rfl)) (pda_cons (pd_var (pv 1)) pda_nil))) pda_nil))))), fun ds Q E hl h => ?_⟩
  obtain ⟨a, b, k, rfl, o1, o2, h⟩ := h
  simp only [pt]
  walk_at "dl"
  exact ⟨_, _, rfl, o1, _, _, rfl, o2, by show 2 ≤ sizeLine; decide, h⟩
theorem ok_point_dot (T : Txt K mg) : FnOk P w K mg base (L2N.CX P w) 7 T.dpoint_dot.f T.dpoint_dot.fd P_point_dot (spD K 2 m_pdot) := by
  have G_add : FnOk P w K mg base (L2N.CX P w) 6 T.dadd.f T.dadd.fd P_add (spD K 2 (m_r2 fun p q => p + q)) := ok_add T
  have G_multiply : FnOk P w K mg base (L2N.CX P w) 6 T.dmultiply.f T.dmultiply.fd P_multiply (spD K 2 (m_r2 fun p q => p * q)) := ok_multiply T
  refine T.dpoint_dot.okD sc_point_dot fun cdv A outer s H E so A0 hr tk hp => ⟨_, (pds_one (pds_ret (pd_call G_add (hr.mono (by omega)) (by rfl) T.dadd.g T.dadd.F.kp T.dadd.b (fun σ => L2N.passAt tk σ) (pda_cons (pd_call G_multiply (hr.mono (by omega)) (by rfl) T.dmultiply.g T.dmultiply.F.kp T.dmultiply.b (fun σ => L2N.passAt tk σ) (pda_cons (pd_ix ix_seq ol_ix (pd_var (pv 0)) pd_int (fun _ _ => rfl)) (pda_cons (pd_ix ix_seq ol_ix (pd_var (pv 1)) pd_int (fun _ _ => rfl)) pda_nil))) (pda_cons (pd_call G_multiply (hr.mono (by omega)) (by rfl) T.dmultiply.g T.dmultiply.F.kp T.dmultiply.b (fun σ => L2N.passAt tk σ) (pda_cons (pd_ix ix_seq ol_ix (pd_var (pv 0)) pd_int (fun _ _ => rfl)) (pda_cons (pd_ix ix_seq ol_ix (pd_var (pv 1)) pd_int (fun _ _ => rfl)) pda_nil))) pda_nil))))), fun ds Q E hl h => ?_⟩
  obtain ⟨a, b, c, d, rfl, o1, o2, o3, h⟩ := h
  simp only [pt]
  walk_at "dl"
  exact ⟨_, _, rfl, o1, _, _, rfl, o2, _, _, rfl, o3, h⟩
theorem ok_left_turn (T : Txt K mg) : FnOk P w K mg base (L2N.CX P w) 6 T.dleft_turn.f T.dleft_turn.fd P_left_turn (spD K 1 m_left) := by
  have G_negate : FnOk P w K mg base (L2N.CX P w) 5 T.dnegate.f T.dnegate.fd P_negate (spD K 1 m_neg1) := ok_negate T
  refine T.dleft_turn.okD sc_left_turn fun cdv A outer s H E so A0 hr tk hp => ⟨_, (pds_one (pds_ret (pd_tup (pda_cons (pd_call G_negate (hr.mono (by omega)) (by rfl) T.dnegate.g T.dnegate.F.kp T.dnegate.b (fun σ => L2N.passAt tk σ) (pda_cons (pd_ix ix_seq ol_ix (pd_var (pv 0)) pd_int (fun _ _ => rfl)) pda_nil)) (pda_cons (pd_ix ix_seq ol_ix (pd_var (pv 0)) pd_int (fun _ _ => rfl)) pda_nil))))), fun ds Q E hl h => ?_⟩
  obtain ⟨a, b, rfl, h⟩ := h
  simp only [pt]
  walk_at "dl"
  exact ⟨_, rfl, by show 2 ≤ sizeLine; decide, h⟩
theorem ok_point_square (T : Txt K mg) : FnOk P w K mg base (L2N.CX P w) 8 T.dpoint_square.f T.dpoint_square.fd P_point_square (spD K 1 m_psq) := by
  have G_point_dot : FnOk P w K mg base (L2N.CX P w) 7 T.dpoint_dot.f T.dpoint_dot.fd P_point_dot (spD K 2 m_pdot) := ok_point_dot T
  refine T.dpoint_square.okD sc_point_square fun cdv A outer s H E so A0 hr tk hp => ⟨_, (pds_one (pds_ret (pd_call G_point_dot (hr.mono (by omega)) (by rfl) T.dpoint_dot.g T.dpoint_dot.F.kp T.dpoint_dot.b (fun σ => L2N.passAt tk σ) (pda_cons (pd_var (pv 0)) (pda_cons (pd_var (pv 0)) pda_nil))))), fun ds Q E hl h => ?_⟩
  obtain ⟨a, b, rfl, o1, o2, o3, h⟩ := h
  simp only [pt]
  walk_at "dl"
  exact ⟨_, _, _, _, rfl, o1, o2, o3, h⟩
end
end My
namespace My
open PySem PySem.Spec PyProof.Rows L2
local macro_rules | `(tactic| walk_at "dl") => `(tactic| simp only [startD, List.map_cons, List.map_nil, List.length_cons, List.length_nil, List.cons_append, List.nil_append, List.replicate_succ, List.replicate_zero, List.getElem?_cons_zero, List.getElem?_cons_succ, List.set_cons_zero, List.set_cons_succ,
  dVar, rdS, dC, dNew, dOp, onB, qB, dChain, qAnd, qOr, qNot, qTru, truD, dIf, dAnd, dOr, dNot, dUn, ddNeg, lNil, lCons, dTup, nLst, ddI, ddI0, ddAdd, isNonD, isBlD, ddIsN, ddIsB, ddIx_t0, ddIx_t1, ddIx_t2, ddIx_t3, ddIx_l0, ddIx_l1, ddIx_l2, dCB, ddLen, ddInt1, ddAbs, ddMM, ddTuple, nCB, nnList, ddIsi, dCall,
  sSkip, sSeq, sBreak, sCont, sExpr, sRet, sRetN, sIf, sNever, gdName, gdNil, gdCons, gdTup, sAsg, sSetN, sPar, sRaise, sFrz, owS, sApp, sIns, dLenO, dIxO, sTry, sFor, iL, iT, onL, onT, iR1, iR2, nComp, qYes,
  ddEq_ii, ddEq_ss, ddEq_bb, Bool.false_bne, Bool.true_bne, List.append_nil, true_and, and_true, if_true, if_false, Bool.not_true, Bool.not_false, Bool.true_eq_false, Bool.false_eq_true, ite_true, ite_false, id_eq])

/-! ### draws over data -/
def m_take : DF := fun ds Q _ => match ds with
  | [.sto, .int many] => many < BIG ∧ ∀ r : Int, 0 ≤ r → (r = 0 ∨ r < many) → Q (.int r)
  | _ => False
def m_between : DF := fun ds Q _ => match ds with
  | [.sto, .int low, .int high] => low ≤ high ∧ high - low < 1000000000 ∧ ∀ r : Int, low ≤ r → r ≤ high → Q (.int r)
  | _ => False
theorem sto2 {K : PySem.W.Frag} {so : Option Addr} {A : Hp} {i : Int} {vs : List V} (h : DaL K so A [.sto, .int i] vs) : ∃ s, vs = [.ref s, .int i] ∧ so = some s := by
  obtain ⟨v, w, rfl, ⟨s, rfl, e⟩, dw⟩ := h.two'
  cases dw
  exact ⟨s, rfl, e⟩
section
variable {P : Program} {w : World} {K : PySem.W.Frag} {mg : Str → Option Value} {base : Heap}
theorem takeD : ∀ vs H Q E, spD K 2 m_take vs H Q E → spTakeB K vs H Q E := fun vs H Q E h => by
  obtain ⟨so, A, ds, Qd, Ed, gd, hl, da, m, c, cx⟩ := h
  unfold m_take at m
  split at m
  · obtain ⟨s, rfl, e⟩ := sto2 da
    exact ⟨s, _, rfl, StoOk.store gd e, m.1, fun r H' h0 h1 x st => c (.int r) _ A H' (Ext.store gd e x st) rfl (m.2 r h0 h1)⟩
  · exact m.elim
theorem ok_takeD (T : Txt K mg) : FnOk P w K mg base (L2N.CX P w) 171 T.dtake.f T.dtake.fd P_take (spD K 2 m_take) := FnOk_cx (ok_takeB T) takeD
theorem ok_edgeD (T : Txt K mg) : FnOk P w K mg base (L2N.CX P w) 172 T.dedge.f T.dedge.fd P_edge (spD K 2 m_take) := FnOk_cx (ok_edge T) takeD
theorem ok_betweenD (T : Txt K mg) : FnOk P w K mg base (L2N.CX P w) 173 T.dbetween.f T.dbetween.fd P_between (spD K 3 m_between) := FnOk_cx (ok_between T) fun vs H Q E h => by
  obtain ⟨so, A, ds, Qd, Ed, gd, hl, da, m, c, cx⟩ := h
  unfold m_between at m
  split at m
  · obtain ⟨v, r, rfl, ⟨s, rfl, e⟩, d2⟩ := da
    obtain ⟨x, y, rfl, dx, dy⟩ := d2.two'
    cases dx
    cases dy
    exact ⟨s, _, _, rfl, StoOk.store gd e, m.1, m.2.1, fun r H' h0 h1 x st => c (.int r) _ A H' (Ext.store gd e x st) rfl (m.2.2 r h0 h1)⟩
  · exact m.elim
end
/-- at most n figures -/
def Dig (n : Nat) (x : Int) : Prop := x.natAbs < 10 ^ n
theorem Dig.up {n m : Nat} {x : Int} (h : Dig n x) (l : n ≤ m) : Dig m x := Nat.lt_of_lt_of_le h (Nat.pow_le_pow_right (by decide) l)
theorem p10 (n : Nat) : ((10 ^ n : Nat) : Int) = (10 : Int) ^ n := by
  rw [Int.natCast_pow]
  rfl
theorem p10_pos (n : Nat) : 1 ≤ 10 ^ n := Nat.pow_pos (by decide)
theorem Dig.small {n : Nat} {x : Int} (h : 1 ≤ n) (hx : x.natAbs ≤ 9) : Dig n x := by
  have : (10 : Nat) ^ 1 ≤ 10 ^ n := Nat.pow_le_pow_right (by decide) h
  unfold Dig
  omega
theorem big1000 : (10 : Nat) ^ 1000 < 2 ^ 4000 := by decide +kernel
theorem Dig.sm {n : Nat} {x : Int} (h : Dig n x) (l : n ≤ 1000) : Sm x := Nat.lt_trans (Nat.lt_of_lt_of_le h (Nat.pow_le_pow_right (by decide) l)) big1000
theorem Sm.log {x : Int} (h : Sm x) : x.natAbs.log2 < 9000 := Nat.lt_of_lt_of_le (PySem.Flt.log2_lt_of (by decide) h) (by decide)
def m_low : DF := fun ds Q _ => match ds with
  | [.int a, .int b] => b.natAbs.log2 < 9000 ∧ Q (if b = 0 then ratD 0 1 else lowD (a, b))
  | _ => False
abbrev s_low : Stmt := topS 56
abbrev N_low : List Str := ["up", "down", "one", "two", "rest"]
abbrev P_low : List Str := ["up", "down"]
theorem sc_low : FnScope N_low P_low (defScope s_low) := ⟨rfl, rfl, rfl, by decide +kernel, rfl, by decide +kernel, by decide +kernel⟩

/-- an item at a place that is not told -/
theorem ddIx_any {l : List D} {i : Int} {Q : D → Prop} (h0 : 0 ≤ i) (h1 : i < l.length) (q : ∀ d ∈ l, Q d) : ddIx (.lst l) (.int i) Q := by
  obtain ⟨j, rfl⟩ : ∃ j : Nat, i = j := ⟨i.toNat, by omega⟩
  have hj : j < l.length := by omega
  exact ⟨l[j], atI_nat (List.getElem?_eq_getElem hj), q _ (List.getElem_mem hj)⟩
theorem sgn_eq (a : Int) : (if decide (0 < a) = true then (1 : Int) else 0) - (if decide (a < 0) = true then 1 else 0) = sgn a := by
  unfold sgn
  by_cases h : 0 < a
  · have h2 : ¬ a < 0 := by omega
    simp [h, h2]
  · by_cases h2 : a < 0
    · simp [h, h2]
    · simp [h, h2]
section
variable {P : Program} {w : World} {K : PySem.W.Frag} {mg : Str → Option Value} {base : Heap}
theorem ok_low (T : Txt K mg) : FnOk P w K mg base (L2N.CX P w) 1 T.dlow.f T.dlow.fd P_low (spD K 2 m_low) := by
  refine T.dlow.okD sc_low fun cdv A outer s H E so A0 hr tk hp => ⟨_, (pds_cons (pds_if (pdt_cmp (oo_eq hr.units) ol_eq (pd_var (pv 1)) pd_int (nomark _))
        (pds_one (pds_ret (pd_tup (pda_cons pd_int (pda_cons pd_int pda_nil)))))
        pds_nil)
      (pds_cons (pds_set (i := 2) sc_low.nd rfl (by first | exact .inl rfl | exact .inr rfl) (pd_callB (c_max2 rfl) cl_max2 (by rfl) T.m_max bt_max (pda_cons (pd_var (pv 0)) (pda_cons (pd_neg (pd_var (pv 0))) pda_nil))))
      (pds_cons (pds_set (i := 3) sc_low.nd rfl (by first | exact .inl rfl | exact .inr rfl) (pd_callB (c_max2 rfl) cl_max2 (by rfl) T.m_max bt_max (pda_cons (pd_var (pv 1)) (pda_cons (pd_neg (pd_var (pv 1))) pda_nil))))
      (pds_cons (pds_while hp (pdt_cmp op_gt ol_gt (pd_var (pv 3)) pd_int (nomark _))
        (pds_cons (pds_set (i := 4) sc_low.nd rfl (by first | exact .inl rfl | exact .inr rfl) (pd_op op_modN ol_mod (pd_callTy c_int1 cl_int1 (by rfl) T.m_int bt_int (pda_cons (pd_var (pv 2)) pda_nil)) (pd_var (pv 3))))
        (pds_cons (pds_set (i := 2) sc_low.nd rfl (by first | exact .inl rfl | exact .inr rfl) (pd_var (pv 3)))
        (pds_one (pds_set (i := 3) sc_low.nd rfl (by first | exact .inl rfl | exact .inr rfl) (pd_var (pv 4)))))))
      (pds_cons (pds_if (pdt_cmp op_lt ol_lt (pd_var (pv 1)) pd_int (nomark _))
        (pds_one (pds_set (i := 2) sc_low.nd rfl (by first | exact .inl rfl | exact .inr rfl) (pd_neg (pd_var (pv 2)))))
        pds_nil)
      (pds_one (pds_ret (pd_tup (pda_cons (pd_op op_fdivZ ol_fdiv (pd_var (pv 0)) (pd_var (pv 2))) (pda_cons (pd_op op_fdivZ ol_fdiv (pd_var (pv 1)) (pd_var (pv 2))) pda_nil)))))))))), fun ds Q E hl h => ?_⟩
  unfold m_low at h
  split at h
  · rename_i a b
    obtain ⟨hz, h⟩ := h
    walk_at "dl"
    by_cases b0 : b = 0
    · rw [if_pos b0] at h
      rw [decide_eq_true b0]
      walk_at "dl"
      exact ⟨by show 2 ≤ sizeLine; decide, h⟩
    rw [if_neg b0] at h
    rw [decide_eq_false b0]
    walk_at "dl"
    obtain ⟨f1, f2⟩ := low_div a b b0
    obtain ⟨c1, c2⟩ := gcd_bits (a := a) b0 hz a b
    have mn : ∀ i : Int, (if i < -i then -i else i) = (i.natAbs : Int) := fun i => by split <;> omega
    rw [mn, mn]
    refine ⟨fun m ρ => ∃ (x : Nat) (z : Sl), ρ = [.fr (.int a), .fr (.int b), .fr (.int (x : Int)), .fr (.int (m : Int)), z] ∧ Nat.gcd x m = G2 a b, ⟨b.natAbs, a.natAbs, .no, rfl, rfl⟩, ?_⟩
    rintro m ρ ⟨x, z, rfl, hg⟩
    walk_at "dl"
    split
    · rename_i c
      have hm : 0 < m := by
        have := of_decide_eq_true c
        omega
      refine ⟨fun ρ' => ∃ (x : Nat) (z : Sl), ρ' = [.fr (.int a), .fr (.int b), .fr (.int (m : Int)), .fr (.int (x : Int)), z] ∧ Nat.gcd m x = G2 a b ∧ x < m, ?_, ?_⟩
      · rintro ρ' ⟨y, z, e1, e2, e3⟩
        exact ⟨y, e3, m, z, e1, e2⟩
      · refine ⟨by omega, ?_⟩
        rw [fmod_nat x m hm]
        exact ⟨x % m, _, rfl, by rw [gcd_step]; exact hg, Nat.mod_lt x hm⟩
    · rename_i c
      have hm : m = 0 := by
        have : ¬ (0 : Int) < m := by simpa using c
        omega
      subst hm
      rw [Nat.gcd_zero_right] at hg
      subst hg
      split
      · rename_i c
        have c : b < 0 := by simpa using c
        rw [if_pos c] at c1 c2 f1 f2
        refine ⟨c1, c2, (by show 2 ≤ sizeLine; decide), ?_⟩
        rw [f1, f2]
        exact h
      · rename_i c
        have c : ¬ b < 0 := by simpa using c
        rw [if_neg c] at c1 c2 f1 f2
        refine ⟨c1, c2, (by show 2 ≤ sizeLine; decide), ?_⟩
        rw [f1, f2]
        exact h
  · exact h.elim
end
end My
set_option exponentiation.threshold 100000
namespace My
open PySem PySem.Spec PyProof.Rows L2
local macro_rules | `(tactic| walk_at "dl") => `(tactic| simp only [startD, List.map_cons, List.map_nil, List.length_cons, List.length_nil, List.cons_append, List.nil_append, List.replicate_succ, List.replicate_zero, List.getElem?_cons_zero, List.getElem?_cons_succ, List.set_cons_zero, List.set_cons_succ,
  dVar, rdS, dC, dNew, dOp, onB, qB, dChain, qAnd, qOr, qNot, qTru, truD, dIf, dAnd, dOr, dNot, dUn, ddNeg, lNil, lCons, dTup, nLst, ddI, ddI0, ddAdd, isNonD, isBlD, ddIsN, ddIsB, ddIx_t0, ddIx_t1, ddIx_t2, ddIx_t3, ddIx_l0, ddIx_l1, ddIx_l2, dCB, ddLen, ddInt1, ddAbs, ddMM, ddTuple, nCB, nnList, ddIsi, dCall,
  sSkip, sSeq, sBreak, sCont, sExpr, sRet, sRetN, sIf, sNever, gdName, gdNil, gdCons, gdTup, sAsg, sSetN, sPar, sRaise, sFrz, owS, sApp, sIns, dLenO, dIxO, sTry, sFor, iL, iT, onL, onT, iR1, iR2, nComp, qYes,
  ddEq_ii, ddEq_ss, ddEq_bb, Bool.false_bne, Bool.true_bne, List.append_nil, true_and, and_true, if_true, if_false, Bool.not_true, Bool.not_false, Bool.true_eq_false, Bool.false_eq_true, ite_true, ite_false, id_eq])

def m_sgn : DF := fun ds Q _ => match ds with
  | [.tup (.int a :: _)] => Q (.int (sgn a))
  | _ => False
abbrev s_plus : Stmt := topS 57
abbrev N_plus : List Str := ["one", "two"]
abbrev P_plus : List Str := ["one", "two"]
theorem sc_plus : FnScope N_plus P_plus (defScope s_plus) := ⟨rfl, rfl, rfl, by decide +kernel, rfl, by decide +kernel, by decide +kernel⟩

abbrev s_minus : Stmt := topS 58
abbrev N_minus : List Str := ["one", "two"]
abbrev P_minus : List Str := ["one", "two"]
theorem sc_minus : FnScope N_minus P_minus (defScope s_minus) := ⟨rfl, rfl, rfl, by decide +kernel, rfl, by decide +kernel, by decide +kernel⟩

abbrev s_times : Stmt := topS 59
abbrev N_times : List Str := ["one", "two"]
abbrev P_times : List Str := ["one", "two"]
theorem sc_times : FnScope N_times P_times (defScope s_times) := ⟨rfl, rfl, rfl, by decide +kernel, rfl, by decide +kernel, by decide +kernel⟩

abbrev s_sgn : Stmt := topS 60
abbrev N_sgn : List Str := ["one"]
abbrev P_sgn : List Str := ["one"]
theorem sc_sgn : FnScope N_sgn P_sgn (defScope s_sgn) := ⟨rfl, rfl, rfl, by decide +kernel, rfl, by decide +kernel, by decide +kernel⟩

abbrev s_cmp : Stmt := topS 61
abbrev N_cmp : List Str := ["one", "two"]
abbrev P_cmp : List Str := ["one", "two"]
theorem sc_cmp : FnScope N_cmp P_cmp (defScope s_cmp) := ⟨rfl, rfl, rfl, by decide +kernel, rfl, by decide +kernel, by decide +kernel⟩

abbrev s_padd : Stmt := topS 63
abbrev N_padd : List Str := ["one", "two"]
abbrev P_padd : List Str := ["one", "two"]
theorem sc_padd : FnScope N_padd P_padd (defScope s_padd) := ⟨rfl, rfl, rfl, by decide +kernel, rfl, by decide +kernel, by decide +kernel⟩

abbrev s_psub : Stmt := topS 64
abbrev N_psub : List Str := ["one", "two"]
abbrev P_psub : List Str := ["one", "two"]
theorem sc_psub : FnScope N_psub P_psub (defScope s_psub) := ⟨rfl, rfl, rfl, by decide +kernel, rfl, by decide +kernel, by decide +kernel⟩

abbrev s_pmul : Stmt := topS 65
abbrev N_pmul : List Str := ["by", "one"]
abbrev P_pmul : List Str := ["by", "one"]
theorem sc_pmul : FnScope N_pmul P_pmul (defScope s_pmul) := ⟨rfl, rfl, rfl, by decide +kernel, rfl, by decide +kernel, by decide +kernel⟩

abbrev s_pdot : Stmt := topS 66
abbrev N_pdot : List Str := ["one", "two"]
abbrev P_pdot : List Str := ["one", "two"]
theorem sc_pdot : FnScope N_pdot P_pdot (defScope s_pdot) := ⟨rfl, rfl, rfl, by decide +kernel, rfl, by decide +kernel, by decide +kernel⟩

abbrev s_psq : Stmt := topS 67
abbrev N_psq : List Str := ["one"]
abbrev P_psq : List Str := ["one"]
theorem sc_psq : FnScope N_psq P_psq (defScope s_psq) := ⟨rfl, rfl, rfl, by decide +kernel, rfl, by decide +kernel, by decide +kernel⟩

section
variable {P : Program} {w : World} {K : PySem.W.Frag} {mg : Str → Option Value} {base : Heap}
theorem ok_plus (T : Txt K mg) : FnOk P w K mg base (L2N.CX P w) 2 T.dplus.f T.dplus.fd P_plus (spD K 2 (m_r2 fun p q => p + q)) := by
  have G_low : FnOk P w K mg base (L2N.CX P w) 1 T.dlow.f T.dlow.fd P_low (spD K 2 m_low) := ok_low T
  refine T.dplus.okD sc_plus fun cdv A outer s H E so A0 hr tk hp => ⟨_, (pds_one (pds_ret (pd_call G_low (hr.mono (by omega)) (by rfl) T.dlow.g T.dlow.F.kp T.dlow.b (fun σ => L2N.passAt tk σ) (pda_cons (pd_op oo_add ol_add (pd_op op_mulW ol_mul (pd_ix ix_seq ol_ix (pd_var (pv 0)) pd_int (fun _ _ => rfl)) (pd_ix ix_seq ol_ix (pd_var (pv 1)) pd_int (fun _ _ => rfl))) (pd_op op_mulW ol_mul (pd_ix ix_seq ol_ix (pd_var (pv 1)) pd_int (fun _ _ => rfl)) (pd_ix ix_seq ol_ix (pd_var (pv 0)) pd_int (fun _ _ => rfl)))) (pda_cons (pd_op op_mulW ol_mul (pd_ix ix_seq ol_ix (pd_var (pv 0)) pd_int (fun _ _ => rfl)) (pd_ix ix_seq ol_ix (pd_var (pv 1)) pd_int (fun _ _ => rfl))) pda_nil))))), fun ds Q E hl h => ?_⟩
  obtain ⟨p, q, rfl, ok, h⟩ := h
  simp only [rq, ratD, m_low]
  walk_at "dl"
  obtain ⟨c1, c2, c3, c4, c5, c6⟩ := ok.cm
  refine ⟨c2, c3, c4, c6, ?_⟩
  rw [if_neg (den_ne p q), rq_add]
  exact h
theorem ok_minus (T : Txt K mg) : FnOk P w K mg base (L2N.CX P w) 2 T.dminus.f T.dminus.fd P_minus (spD K 2 (m_r2 fun p q => p - q)) := by
  have G_low : FnOk P w K mg base (L2N.CX P w) 1 T.dlow.f T.dlow.fd P_low (spD K 2 m_low) := ok_low T
  refine T.dminus.okD sc_minus fun cdv A outer s H E so A0 hr tk hp => ⟨_, (pds_one (pds_ret (pd_call G_low (hr.mono (by omega)) (by rfl) T.dlow.g T.dlow.F.kp T.dlow.b (fun σ => L2N.passAt tk σ) (pda_cons (pd_op op_sub ol_sub (pd_op op_mulW ol_mul (pd_ix ix_seq ol_ix (pd_var (pv 0)) pd_int (fun _ _ => rfl)) (pd_ix ix_seq ol_ix (pd_var (pv 1)) pd_int (fun _ _ => rfl))) (pd_op op_mulW ol_mul (pd_ix ix_seq ol_ix (pd_var (pv 1)) pd_int (fun _ _ => rfl)) (pd_ix ix_seq ol_ix (pd_var (pv 0)) pd_int (fun _ _ => rfl)))) (pda_cons (pd_op op_mulW ol_mul (pd_ix ix_seq ol_ix (pd_var (pv 0)) pd_int (fun _ _ => rfl)) (pd_ix ix_seq ol_ix (pd_var (pv 1)) pd_int (fun _ _ => rfl))) pda_nil))))), fun ds Q E hl h => ?_⟩
  obtain ⟨p, q, rfl, ok, h⟩ := h
  simp only [rq, ratD, m_low]
  walk_at "dl"
  obtain ⟨c1, c2, c3, c4, c5, c6⟩ := ok.cm
  refine ⟨c2, c3, c4, c6, ?_⟩
  rw [if_neg (den_ne p q), rq_sub]
  exact h
theorem ok_times (T : Txt K mg) : FnOk P w K mg base (L2N.CX P w) 2 T.dtimes.f T.dtimes.fd P_times (spD K 2 (m_r2 fun p q => p * q)) := by
  have G_low : FnOk P w K mg base (L2N.CX P w) 1 T.dlow.f T.dlow.fd P_low (spD K 2 m_low) := ok_low T
  refine T.dtimes.okD sc_times fun cdv A outer s H E so A0 hr tk hp => ⟨_, (pds_one (pds_ret (pd_call G_low (hr.mono (by omega)) (by rfl) T.dlow.g T.dlow.F.kp T.dlow.b (fun σ => L2N.passAt tk σ) (pda_cons (pd_op op_mulW ol_mul (pd_ix ix_seq ol_ix (pd_var (pv 0)) pd_int (fun _ _ => rfl)) (pd_ix ix_seq ol_ix (pd_var (pv 1)) pd_int (fun _ _ => rfl))) (pda_cons (pd_op op_mulW ol_mul (pd_ix ix_seq ol_ix (pd_var (pv 0)) pd_int (fun _ _ => rfl)) (pd_ix ix_seq ol_ix (pd_var (pv 1)) pd_int (fun _ _ => rfl))) pda_nil))))), fun ds Q E hl h => ?_⟩
  obtain ⟨p, q, rfl, ok, h⟩ := h
  simp only [rq, ratD, m_low]
  walk_at "dl"
  obtain ⟨c1, c2, c3, c4, c5, c6⟩ := ok.cm
  refine ⟨c1, c4, c6, ?_⟩
  rw [if_neg (den_ne p q), rq_mul]
  exact h
theorem ok_sgn (T : Txt K mg) : FnOk P w K mg base (L2N.CX P w) 1 T.dsgn.f T.dsgn.fd P_sgn (spD K 1 m_sgn) := by
  refine T.dsgn.okD sc_sgn fun cdv A outer s H E so A0 hr tk hp => ⟨_, (pds_cons (pds_if (pdt_cmp op_gt ol_gt (pd_ix ix_seq ol_ix (pd_var (pv 0)) pd_int (fun _ _ => rfl)) pd_int (nomark _))
        (pds_one (pds_ret pd_int))
        pds_nil)
      (pds_cons (pds_if (pdt_cmp op_lt ol_lt (pd_ix ix_seq ol_ix (pd_var (pv 0)) pd_int (fun _ _ => rfl)) pd_int (nomark _))
        (pds_one (pds_ret (pd_neg pd_int)))
        pds_nil)
      (pds_one (pds_ret pd_int)))), fun ds Q E hl h => ?_⟩
  unfold m_sgn at h
  split at h
  · rename_i a l
    unfold sgn at h
    walk_at "dl"
    by_cases c : 0 < a
    · rw [if_pos c] at h
      rw [if_pos (decide_eq_true c)]
      exact h
    rw [if_neg c] at h
    rw [if_neg (by rw [decide_eq_true_iff]; exact c)]
    by_cases c : a < 0
    · rw [if_pos c] at h
      rw [if_pos (decide_eq_true c)]
      exact h
    rw [if_neg c] at h
    rw [if_neg (by rw [decide_eq_true_iff]; exact c)]
    exact h
  · exact h.elim
theorem ok_cmp (T : Txt K mg) : FnOk P w K mg base (L2N.CX P w) 2 T.dcmp.f T.dcmp.fd P_cmp (spD K 2 m_cmp2) := by
  have G_sgn : FnOk P w K mg base (L2N.CX P w) 1 T.dsgn.f T.dsgn.fd P_sgn (spD K 1 m_sgn) := ok_sgn T
  refine T.dcmp.okD sc_cmp fun cdv A outer s H E so A0 hr tk hp => ⟨_, (pds_one (pds_ret (pd_call G_sgn (hr.mono (by omega)) (by rfl) T.dsgn.g T.dsgn.F.kp T.dsgn.b (fun σ => L2N.passAt tk σ) (pda_cons (pd_tup (pda_cons (pd_op op_sub ol_sub (pd_op op_mulW ol_mul (pd_ix ix_seq ol_ix (pd_var (pv 0)) pd_int (fun _ _ => rfl)) (pd_ix ix_seq ol_ix (pd_var (pv 1)) pd_int (fun _ _ => rfl))) (pd_op op_mulW ol_mul (pd_ix ix_seq ol_ix (pd_var (pv 1)) pd_int (fun _ _ => rfl)) (pd_ix ix_seq ol_ix (pd_var (pv 0)) pd_int (fun _ _ => rfl)))) (pda_cons pd_int pda_nil))) pda_nil)))), fun ds Q E hl h => ?_⟩
  obtain ⟨p, q, rfl, ok, h⟩ := h
  simp only [rq, ratD, m_sgn]
  walk_at "dl"
  obtain ⟨c1, c2, c3, c4, c5, c6⟩ := ok.cm
  refine ⟨c2, c3, by show 2 ≤ sizeLine; decide, ?_⟩
  show Q (.int (sgn _))
  rw [sg_cmp]
  exact h
theorem ok_padd (T : Txt K mg) : FnOk P w K mg base (L2N.CX P w) 3 T.dpadd.f T.dpadd.fd P_padd (spD K 2 (m_p2 fun p q => p + q)) := by
  have G_plus : FnOk P w K mg base (L2N.CX P w) 2 T.dplus.f T.dplus.fd P_plus (spD K 2 (m_r2 fun p q => p + q)) := ok_plus T
  refine T.dpadd.okD sc_padd fun cdv A outer s H E so A0 hr tk hp => ⟨_, (pds_one (pds_ret (pd_tup (pda_cons (pd_call G_plus (hr.mono (by omega)) (by rfl) T.dplus.g T.dplus.F.kp T.dplus.b (fun σ => L2N.passAt tk σ) (pda_cons (pd_ix ix_seq ol_ix (pd_var (pv 0)) pd_int (fun _ _ => rfl)) (pda_cons (pd_ix ix_seq ol_ix (pd_var (pv 1)) pd_int (fun _ _ => rfl)) pda_nil))) (pda_cons (pd_call G_plus (hr.mono (by omega)) (by rfl) T.dplus.g T.dplus.F.kp T.dplus.b (fun σ => L2N.passAt tk σ) (pda_cons (pd_ix ix_seq ol_ix (pd_var (pv 0)) pd_int (fun _ _ => rfl)) (pda_cons (pd_ix ix_seq ol_ix (pd_var (pv 1)) pd_int (fun _ _ => rfl)) pda_nil))) pda_nil))))), fun ds Q E hl h => ?_⟩
  obtain ⟨a, b, c, d, rfl, o1, o2, h⟩ := h
  simp only [pt]
  walk_at "dl"
  exact ⟨_, _, rfl, o1, _, _, rfl, o2, by show 2 ≤ sizeLine; decide, h⟩
theorem ok_psub (T : Txt K mg) : FnOk P w K mg base (L2N.CX P w) 3 T.dpsub.f T.dpsub.fd P_psub (spD K 2 (m_p2 fun p q => p - q)) := by
  have G_minus : FnOk P w K mg base (L2N.CX P w) 2 T.dminus.f T.dminus.fd P_minus (spD K 2 (m_r2 fun p q => p - q)) := ok_minus T
  refine T.dpsub.okD sc_psub fun cdv A outer s H E so A0 hr tk hp => ⟨_, (pds_one (pds_ret (pd_tup (pda_cons (pd_call G_minus (hr.mono (by omega)) (by rfl) T.dminus.g T.dminus.F.kp T.dminus.b (fun σ => L2N.passAt tk σ) (pda_cons (pd_ix ix_seq ol_ix (pd_var (pv 0)) pd_int (fun _ _ => rfl)) (pda_cons (pd_ix ix_seq ol_ix (pd_var (pv 1)) pd_int (fun _ _ => rfl)) pda_nil))) (pda_cons (pd_call G_minus (hr.mono (by omega)) (by rfl) T.dminus.g T.dminus.F.kp T.dminus.b (fun σ => L2N.passAt tk σ) (pda_cons (pd_ix ix_seq ol_ix (pd_var (pv 0)) pd_int (fun _ _ => rfl)) (pda_cons (pd_ix ix_seq ol_ix (pd_var (pv 1)) pd_int (fun _ _ => rfl)) pda_nil))) pda_nil))))), fun ds Q E hl h => ?_⟩
  obtain ⟨a, b, c, d, rfl, o1, o2, h⟩ := h
  simp only [pt]
  walk_at "dl"
  exact ⟨_, _, rfl, o1, _, _, rfl, o2, by show 2 ≤ sizeLine; decide, h⟩
theorem ok_pmul (T : Txt K mg) : FnOk P w K mg base (L2N.CX P w) 3 T.dpmul.f T.dpmul.fd P_pmul (spD K 2 m_pmul) := by
  have G_times : FnOk P w K mg base (L2N.CX P w) 2 T.dtimes.f T.dtimes.fd P_times (spD K 2 (m_r2 fun p q => p * q)) := ok_times T
  refine T.dpmul.okD sc_pmul fun cdv A outer s H E so A0 hr tk hp => ⟨_, (pds_one (pds_ret (pd_tup (pda_cons (pd_call G_times (hr.mono (by omega)) (by rfl) T.dtimes.g T.dtimes.F.kp T.dtimes.b (fun σ => L2N.passAt tk σ) (pda_cons (pd_var (pv 0)) (pda_cons (pd_ix ix_seq ol_ix (pd_var (pv 1)) pd_int (fun _ _ => rfl)) pda_nil))) (pda_cons (pd_call G_times (hr.mono (by omega)) (by rfl) T.dtimes.g T.dtimes.F.kp T.dtimes.b (fun σ => L2N.passAt tk σ) (pda_cons (pd_var (pv 0)) (pda_cons (pd_ix ix_seq ol_ix (pd_var (pv 1)) pd_int (fun _ _ => rfl)) pda_nil))) pda_nil))))), fun ds Q E hl h => ?_⟩
  obtain ⟨k, a, b, rfl, o1, o2, h⟩ := h
  simp only [pt]
  walk_at "dl"
  exact ⟨_, _, rfl, o1, _, _, rfl, o2, by show 2 ≤ sizeLine; decide, h⟩
theorem ok_pdot (T : Txt K mg) : FnOk P w K mg base (L2N.CX P w) 3 T.dpdot.f T.dpdot.fd P_pdot (spD K 2 m_pdot) := by
  have G_plus : FnOk P w K mg base (L2N.CX P w) 2 T.dplus.f T.dplus.fd P_plus (spD K 2 (m_r2 fun p q => p + q)) := ok_plus T
  have G_times : FnOk P w K mg base (L2N.CX P w) 2 T.dtimes.f T.dtimes.fd P_times (spD K 2 (m_r2 fun p q => p * q)) := ok_times T
  refine T.dpdot.okD sc_pdot fun cdv A outer s H E so A0 hr tk hp => ⟨_, (pds_one (pds_ret (pd_call G_plus (hr.mono (by omega)) (by rfl) T.dplus.g T.dplus.F.kp T.dplus.b (fun σ => L2N.passAt tk σ) (pda_cons (pd_call G_times (hr.mono (by omega)) (by rfl) T.dtimes.g T.dtimes.F.kp T.dtimes.b (fun σ => L2N.passAt tk σ) (pda_cons (pd_ix ix_seq ol_ix (pd_var (pv 0)) pd_int (fun _ _ => rfl)) (pda_cons (pd_ix ix_seq ol_ix (pd_var (pv 1)) pd_int (fun _ _ => rfl)) pda_nil))) (pda_cons (pd_call G_times (hr.mono (by omega)) (by rfl) T.dtimes.g T.dtimes.F.kp T.dtimes.b (fun σ => L2N.passAt tk σ) (pda_cons (pd_ix ix_seq ol_ix (pd_var (pv 0)) pd_int (fun _ _ => rfl)) (pda_cons (pd_ix ix_seq ol_ix (pd_var (pv 1)) pd_int (fun _ _ => rfl)) pda_nil))) pda_nil))))), fun ds Q E hl h => ?_⟩
  obtain ⟨a, b, c, d, rfl, o1, o2, o3, h⟩ := h
  simp only [pt]
  walk_at "dl"
  exact ⟨_, _, rfl, o1, _, _, rfl, o2, _, _, rfl, o3, h⟩
theorem ok_psq (T : Txt K mg) : FnOk P w K mg base (L2N.CX P w) 4 T.dpsq.f T.dpsq.fd P_psq (spD K 1 m_psq) := by
  have G_pdot : FnOk P w K mg base (L2N.CX P w) 3 T.dpdot.f T.dpdot.fd P_pdot (spD K 2 m_pdot) := ok_pdot T
  refine T.dpsq.okD sc_psq fun cdv A outer s H E so A0 hr tk hp => ⟨_, (pds_one (pds_ret (pd_call G_pdot (hr.mono (by omega)) (by rfl) T.dpdot.g T.dpdot.F.kp T.dpdot.b (fun σ => L2N.passAt tk σ) (pda_cons (pd_var (pv 0)) (pda_cons (pd_var (pv 0)) pda_nil))))), fun ds Q E hl h => ?_⟩
  obtain ⟨a, b, rfl, o1, o2, o3, h⟩ := h
  simp only [pt]
  walk_at "dl"
  exact ⟨_, _, _, _, rfl, o1, o2, o3, h⟩
end
end My
namespace My
open PySem PySem.Spec PyProof.Rows L2
/-! ### x in a row of plain items -/
def vD : D → V
  | .bl b => .bl b
  | .int i => .int i
  | .str s => .str s
  | _ => .non
def flD : D → Bool
  | .non => true
  | .bl _ => true
  | .int _ => true
  | .str _ => true
  | _ => false
theorem Da.fl {K : PySem.W.Frag} {so : Option Addr} {A : Hp} : ∀ {d : D} {v : V}, flD d = true → Da K so A d v → v = vD d ∧ flatV v = true
  | .non, _, _, h => by cases h; exact ⟨rfl, rfl⟩
  | .bl _, _, _, h => by cases h; exact ⟨rfl, rfl⟩
  | .int _, _, _, h => by cases h; exact ⟨rfl, rfl⟩
  | .str _, _, _, h => by cases h; exact ⟨rfl, rfl⟩
  | .tup _, _, e, _ => by cases e
  | .lst _, _, e, _ => by cases e
  | .dct _ _, _, e, _ => by cases e
  | .ins _ _ _, _, e, _ => by cases e
  | .scr _, _, e, _ => by cases e
  | .sto, _, e, _ => by cases e
  | .exc _, _, e, _ => by cases e
  | .err _ _ _, _, e, _ => by cases e
theorem DaL.fl {K : PySem.W.Frag} {so : Option Addr} {A : Hp} : ∀ {l : List D} {xs : List V}, l.all flD = true → DaL K so A l xs → xs = l.map vD ∧ xs.all flatV = true
  | [], _, _, h => by
    have h : _ = _ := h
    subst h
    exact ⟨rfl, rfl⟩
  | d :: l, _, e, ⟨v, r, e1, h, q⟩ => by
    rw [List.all_cons, Bool.and_eq_true] at e
    obtain ⟨a, b⟩ := Da.fl e.1 h
    obtain ⟨c, d⟩ := DaL.fl e.2 q
    subst e1
    refine ⟨by rw [a, c]; rfl, by rw [List.all_cons, b, d]; rfl⟩
def ddIn : D2 := fun x y Q => ∃ l, (y = .tup l ∨ y = .lst l) ∧ flD x = true ∧ l.all flD = true ∧ Q (.bl (inV (vD x) (l.map vD)))
theorem ol_in {K : PySem.W.Frag} : OpL K (rIn K false) ddIn := by
  intro so A H x y v u Qd Q gd dx dy q c
  obtain ⟨l, hy, fx, fl, q⟩ := q
  obtain ⟨ex, fv⟩ := Da.fl fx dx
  rcases hy with rfl | rfl
  · obtain ⟨p, xs, rfl, hs, dl⟩ := dy
    obtain ⟨el, fa⟩ := DaL.fl fl dl
    refine ⟨p, xs, rfl, .inr (Sub.sqT gd.sub hs), fv, fa, ?_⟩
    rw [ex, el]
    exact c.nowB gd q
  · obtain ⟨p, xs, rfl, hs, dl⟩ := dy
    obtain ⟨el, fa⟩ := DaL.fl fl dl
    refine ⟨p, xs, rfl, .inl (SqL.of (gd.sub _ _ hs)), fv, fa, ?_⟩
    rw [ex, el]
    exact c.nowB gd q
/-! ### t[1:] of a tuple -/
def dTail (r : DE) : DE := fun ρ Q E => r ρ (fun d => onT d fun l => 2 ≤ l.length ∧ Q (.tup (l.drop 1))) E
section
variable {X : Cx} {g : Gx} {EX : EXT} {e ev : Expr} {es : List Expr} {ra rv : DE} {pos p p1 p2 kpos : Pos} {t : DL}
theorem pd_tail {j} (he : PD X g EX e ra) : PD X g EX (.Subscript e (.Slice (some (.Constant (.int 1) j p1)) none none p2) pos) (dTail ra) := ⟨(pe_slice sl_tupA he.pe (po_some pe_int) po_none).imp fun σ H Q h => by
  obtain ⟨A, ρ, Qd, Ed, S, h, c, cx⟩ := h
  refine ⟨A, ρ, _, Ed, S, h, fun d v A1 H1 x1 da q => ?_, cx⟩
  have q : onT d _ := q
  unfold onT at q
  split at q
  · obtain ⟨p, xs, rfl, hs, dl⟩ := da
    obtain ⟨hl, q⟩ := q
    have hx : 2 ≤ xs.length := by rw [dl.len]; exact hl
    have e1 : HT.sIx xs.length 0 (some (1 : Int)) = 1 := by
      rw [show (1 : Int) = ((1 : Nat) : Int) from rfl, HT.sIx_nat]
      omega
    refine ⟨1, rfl, p, xs, rfl, Sub.sqT x1.good.sub hs, fun z => ?_, fun _ p' hp' => ?_⟩
    · rw [e1] at z
      exact absurd z.1 (by decide)
    · have e2 : cutV xs (some (1 : Int)) none = xs.drop 1 := by
        unfold cutV
        rw [e1, HT.sIx_none, List.take_of_length_le]
        rw [List.length_drop]
        omega
      rw [e2]
      exact (c.ext x1).tup x1.good hp' (dl.drop 1) q
  · exact q.elim⟩
/-! ### f(e, .., k = v) -/
def tCallNS (n m : Nat) (sp : Sp) (gV : List V → List V → List V) (E : L2.St → XK) (t tk : TA) : TE := fun σ H Q => t σ H fun vs H1 => tk σ H1 fun zs H2 => vs.length = n ∧ zs.length = m ∧ sp (gV vs zs) H2 Q (E σ)
theorem pe_callNS {CX : CXT} {k n : Nat} {f : Addr} {fd : FuncData} {ps ks : List Str} {sp : Sp} {E : L2.St → XK} {x : Str} {kws : List Keyword} {t tk : TA} {g' : List Value → List Value → List Value} {gV : List V → List V → List V}
    (F : FnOk X.prog X.w X.K X.mg X.base CX k f fd ps sp) (hr : Room k X.A) (hg : Gl X x) (hm : X.mg x = some (.ref f)) (hk : PySem.W.keepIn X.K (.ref f) = true) (hb : KBn X.K fd ps n ks g' gV) (hx : ∀ σ, PassesAt CX X σ (E σ))
    (ha : PA X (e :: es) t) (hkw : PK X kws tk) (hall : (backToKw pos (keywordEach kws X.env)).all (·.1.isSome) = true := by rfl) (hks : (backToKw pos (keywordEach kws X.env)).filterMap (·.1) = ks := by rfl)
    (hdb : (x == ("__debug__" : Str)) = false := by decide) (he : starEach (e :: es) X.env = (false, eval e X.env) :: starEach es X.env := by rfl)
    (hpl : ((backTo pos (starEach (e :: es) X.env)).any (·.1) || (backToKw pos (keywordEach kws X.env)).any (·.1.isNone)) = false := by rfl) :
    PE X (.Call (.Name x p) (e :: es) kws pos) (tCallNS n ks.length sp gV E t tk) := by
  refine ⟨fun pins s σ H Q I h => ?_⟩
  refine wpAny_Call_Name_kw (ld_glob I hg hm ?_ hdb)
  refine PySem.W.callWith_KW (h₀ := X.base) I.ok.mod.kin hk hall (thn (ha.run pos pins s σ H _ I h) fun us s1 ⟨vs, H1, I1, r, q⟩ => ?_) hpl he
  refine thn (hkw.run pos pins s1 σ H1 _ I1 q) fun ws s2 ⟨zs, H2, I2, rz, l1, l2, q2⟩ => ⟨I2.kIn, ?_⟩
  rw [hks]
  have r2 := hb.rel r rz
  refine wpAny_call (codeAny_mono (F.run X.A X.stack s2 H2 ⟨us, ks.zip ws⟩ (g' us ws) (gV vs zs) Q (E σ) hr I2.env0 (hb.to s2 us ws I2.kIn (r.length.symm.trans l1) (rz.length.symm.trans l2)) r2 q2) fun r s' hq => ?_)
  cases r with
  | error e => exact hx σ pins H2 s2 e s' I2 hq
  | ok fl =>
    cases fl with
    | ret u => exact I2.after hq
    | next => exact False.elim hq
    | brk => exact False.elim hq
    | cont => exact False.elim hq
def dCallK (n : Nat) (m : DF) (t : DL) (rv : DE) : DE := fun ρ Q E => t ρ (fun ds => rv ρ (fun d => ds.length = n ∧ m (ds ++ [d]) Q E) E) E
theorem pd_callK {CX : CXT} {lv n : Nat} {f : Addr} {fd : FuncData} {ps : List Str} {m : DF} {x kn : Str} (F : FnOk X.prog X.w X.K X.mg X.base CX lv f fd ps (spD X.K (n + 1) m)) (hr : Room lv X.A) (hg : Gl X x) (hm : X.mg x = some (.ref f)) (hk : PySem.W.keepIn X.K (.ref f) = true)
    (hb : KBn X.K fd ps n [kn] (fun us ws => us ++ ws) (fun vs zs => vs ++ zs)) (hx : ∀ σ, PassesAt CX X σ (EX σ)) (ha : PDA X g EX (e :: es) t) (hv : PD X g EX ev rv)
    (hall : (backToKw pos (keywordEach [⟨some kn, ev, kpos⟩] X.env)).all (·.1.isSome) = true := by rfl) (hks : (backToKw pos (keywordEach [⟨some kn, ev, kpos⟩] X.env)).filterMap (·.1) = [kn] := by rfl)
    (hdb : (x == ("__debug__" : Str)) = false := by decide) (he : starEach (e :: es) X.env = (false, eval e X.env) :: starEach es X.env := by rfl)
    (hpl : ((backTo pos (starEach (e :: es) X.env)).any (·.1) || (backToKw pos (keywordEach [⟨some kn, ev, kpos⟩] X.env)).any (·.1.isNone)) = false := by rfl) :
    PD X g EX (.Call (.Name x p) (e :: es) [⟨some kn, ev, kpos⟩] pos) (dCallK n m t rv) := ⟨(pe_callNS F hr hg hm hk hb hx ha.pa (pk_cons hv.pe pk_nil) hall hks hdb he hpl).imp fun σ H Q h => by
  obtain ⟨A, ρ, Qd, Ed, S, h, c, cx⟩ := h
  refine ⟨A, ρ, _, Ed, S, h, fun ds vs A1 H1 x1 das q => ?_, cx⟩
  refine ⟨A1, ρ, _, Ed, S.ext x1, q, fun d v A2 H2 x2 da q2 => ?_, cx.ext x1⟩
  obtain ⟨hl, q2⟩ := q2
  exact ⟨by rw [das.len]; exact hl, rfl, g.so, A2, ds ++ [d], Qd, Ed, x2.good, by rw [List.length_append, hl]; rfl, (x2.daL das).app (DaL.one da), q2, (c.ext x1).ext x2, (cx.ext x1).ext x2⟩⟩
end
end My
namespace My
open PySem PySem.Spec PyProof.Rows L2
theorem sl0 : (0 ≤ sizeLine) = True := eq_true (by decide)
theorem sl1 : (0 + 1 ≤ sizeLine) = True := eq_true (by decide)
theorem sl2 : (0 + 1 + 1 ≤ sizeLine) = True := eq_true (by decide)
theorem sl3 : (0 + 1 + 1 + 1 ≤ sizeLine) = True := eq_true (by decide)
theorem sl4 : (0 + 1 + 1 + 1 + 1 ≤ sizeLine) = True := eq_true (by decide)
local macro_rules | `(tactic| walk_at "is") => `(tactic| simp only [plain_non, isIn_non_int, isIn_non_str, isIn_non_bool, isIn_non_list, isIn_non_tuple, isIn_non_dict, plain_bl, isIn_bl_int, isIn_bl_str, isIn_bl_bool, isIn_bl_list, isIn_bl_tuple, isIn_bl_dict, plain_int, isIn_int_int, isIn_int_str, isIn_int_bool, isIn_int_list, isIn_int_tuple, isIn_int_dict, plain_str, isIn_str_int, isIn_str_str, isIn_str_bool, isIn_str_list, isIn_str_tuple, isIn_str_dict, plain_tup, isIn_tup_int, isIn_tup_str, isIn_tup_bool, isIn_tup_list, isIn_tup_tuple, isIn_tup_dict, plain_lst, isIn_lst_int, isIn_lst_str, isIn_lst_bool, isIn_lst_list, isIn_lst_tuple, isIn_lst_dict, sl0, sl1, sl2, sl3, sl4, decide_true, decide_false, ddIsi, ddIsi2, true_and, if_true, if_false, Bool.false_eq_true, Bool.not_true, Bool.not_false, Bool.or_true, Bool.or_false, Bool.true_or, and_true])
local macro_rules | `(tactic| walk_at "wk") => `(tactic| ((try walk_at "dl"); (try walk_at "is"); (try walk_at "dl")))
/-! ### what is due -/
section
variable {X : Cx} {g : Gx} {EX : EXT} {e a b c : Expr} {es : List Expr} {ra rb : DE} {pos p pt : Pos} {T U : String}
def ddIsi2 (T U : String) (d : D) (Q : D → Prop) : Prop := plainD d = true ∧ Q (.bl (isIn d T || isIn d U))
theorem pd_isiT {k : Nat} (hg : Gl X "isinstance") (hm : X.mg "isinstance" = none) (ha : PD X g EX a ra) (hb : PE X b (tC (.ty T))) (hc : PE X c (tC (.ty U))) (hT : TyQ T) (hU : TyQ U)
    (he : starEach [a, .Tuple [b, c] k pt] X.env = (false, eval a X.env) :: starEach [.Tuple [b, c] k pt] X.env := by rfl)
    (hs : starEach [.Tuple [b, c] k pt] X.env = (false, eval (.Tuple [b, c] k pt) X.env) :: starEach [] X.env := by rfl)
    (h1 : starEach [b, c] X.env = (false, eval b X.env) :: starEach [c] X.env := by rfl) (h2 : starEach [c] X.env = (false, eval c X.env) :: starEach [] X.env := by rfl)
    (hpl : (backTo pos (starEach [.Tuple [b, c] k pt] X.env)).any (·.1) = false := by rfl) :
    PD X g EX (.Call (.Name "isinstance" p) [a, .Tuple [b, c] k pt] [] pos) (dUn (ddIsi2 T U) ra) :=
  ⟨(pe_callB call_isiT hg hm bt_isinstance (pa_cons ha.pe (pa_cons (pe_tup (pa_cons hb (pa_cons hc pa_nil h2) h1)) pa_nil hs) he) (by decide) (by decide) he hpl).imp fun σ H Q h => by
  obtain ⟨A, ρ, Qd, Ed, S, h, c, cx⟩ := h
  refine ⟨A, ρ, _, Ed, S, h, fun d v A1 H1 x1 da q => ?_, cx⟩
  have q : ddIsi2 T U d Qd := q
  refine ⟨by show 2 ≤ sizeLine; decide, fun tp hp => ?_⟩
  refine ⟨v, tp, _, _, _, isIn d T || isIn d U, rfl, upd_same, .cons (.ty T) (.cons (.ty U) .nil), da.ty (x1.trans (Ext.open_ x1.good hp)).good q.1, ?_, ?_⟩
  · refine kitAny_cons (kit_ty (hT.h d q.1)) (fun e => ?_) (fun e => by rw [e]; rfl)
    refine kitAny_cons (kit_ty (hU.h d q.1)) (fun e2 => ?_) (fun e2 => by rw [e2, Bool.or_true])
    rw [e, e2]
    exact kitAny_nil
  · exact c (.bl _) _ A1 _ (x1.trans (Ext.open_ x1.good hp)) rfl q.2⟩
end
local macro_rules | `(tactic| walk_at "dl") => `(tactic| simp only [startD, List.map_cons, List.map_nil, List.length_cons, List.length_nil, List.cons_append, List.nil_append, List.replicate_succ, List.replicate_zero, List.getElem?_cons_zero, List.getElem?_cons_succ, List.set_cons_zero, List.set_cons_succ,
  dVar, rdS, dC, dNew, dOp, onB, qB, dChain, qAnd, qOr, qNot, qTru, truD, dIf, dAnd, dOr, dNot, dUn, ddNeg, lNil, lCons, dTup, nLst, ddI, ddI0, ddAdd, isNonD, isBlD, ddIsN, ddIsB, ddIx_t0, ddIx_t1, ddIx_t2, ddIx_t3, ddIx_l0, ddIx_l1, ddIx_l2, dCB, ddLen, ddInt1, ddAbs, ddMM, ddTuple, nCB, nnList, ddIsi, dCall,
  sSkip, sSeq, sBreak, sCont, sExpr, sRet, sRetN, sIf, sNever, gdName, gdNil, gdCons, gdTup, sAsg, sSetN, sPar, sRaise, sFrz, owS, sApp, sIns, dLenO, dIxO, sTry, sFor, iL, iT, onL, onT, iR1, iR2, nComp, qYes,
  ddEq_ii, ddEq_ss, ddEq_bb, Bool.false_bne, Bool.true_bne, List.append_nil, true_and, and_true, if_true, if_false, Bool.not_true, Bool.not_false, Bool.true_eq_false, Bool.false_eq_true, ite_true, ite_false, id_eq])

theorem plain_non  : plainD D.non = true := rfl
theorem isIn_non_int  : isIn D.non "int" = false := rfl
theorem isIn_non_str  : isIn D.non "str" = false := rfl
theorem isIn_non_bool  : isIn D.non "bool" = false := rfl
theorem isIn_non_list  : isIn D.non "list" = false := rfl
theorem isIn_non_tuple  : isIn D.non "tuple" = false := rfl
theorem isIn_non_dict  : isIn D.non "dict" = false := rfl
theorem plain_bl (b : Bool) : plainD (.bl b) = true := rfl
theorem isIn_bl_int (b : Bool) : isIn (.bl b) "int" = true := by show ("int" == "bool" || "int" == "int") = true; decide +kernel
theorem isIn_bl_str (b : Bool) : isIn (.bl b) "str" = false := by show ("str" == "bool" || "str" == "int") = false; decide +kernel
theorem isIn_bl_bool (b : Bool) : isIn (.bl b) "bool" = true := by show ("bool" == "bool" || "bool" == "int") = true; decide +kernel
theorem isIn_bl_list (b : Bool) : isIn (.bl b) "list" = false := by show ("list" == "bool" || "list" == "int") = false; decide +kernel
theorem isIn_bl_tuple (b : Bool) : isIn (.bl b) "tuple" = false := by show ("tuple" == "bool" || "tuple" == "int") = false; decide +kernel
theorem isIn_bl_dict (b : Bool) : isIn (.bl b) "dict" = false := by show ("dict" == "bool" || "dict" == "int") = false; decide +kernel
theorem plain_int (i : Int) : plainD (.int i) = true := rfl
theorem isIn_int_int (i : Int) : isIn (.int i) "int" = true := by show ("int" == "int") = true; decide +kernel
theorem isIn_int_str (i : Int) : isIn (.int i) "str" = false := by show ("str" == "int") = false; decide +kernel
theorem isIn_int_bool (i : Int) : isIn (.int i) "bool" = false := by show ("bool" == "int") = false; decide +kernel
theorem isIn_int_list (i : Int) : isIn (.int i) "list" = false := by show ("list" == "int") = false; decide +kernel
theorem isIn_int_tuple (i : Int) : isIn (.int i) "tuple" = false := by show ("tuple" == "int") = false; decide +kernel
theorem isIn_int_dict (i : Int) : isIn (.int i) "dict" = false := by show ("dict" == "int") = false; decide +kernel
theorem plain_str (z : Str) : plainD (.str z) = true := rfl
theorem isIn_str_int (z : Str) : isIn (.str z) "int" = false := by show ("int" == "str") = false; decide +kernel
theorem isIn_str_str (z : Str) : isIn (.str z) "str" = true := by show ("str" == "str") = true; decide +kernel
theorem isIn_str_bool (z : Str) : isIn (.str z) "bool" = false := by show ("bool" == "str") = false; decide +kernel
theorem isIn_str_list (z : Str) : isIn (.str z) "list" = false := by show ("list" == "str") = false; decide +kernel
theorem isIn_str_tuple (z : Str) : isIn (.str z) "tuple" = false := by show ("tuple" == "str") = false; decide +kernel
theorem isIn_str_dict (z : Str) : isIn (.str z) "dict" = false := by show ("dict" == "str") = false; decide +kernel
theorem plain_tup (l : List D) : plainD (.tup l) = true := rfl
theorem isIn_tup_int (l : List D) : isIn (.tup l) "int" = false := by show ("int" == "tuple") = false; decide +kernel
theorem isIn_tup_str (l : List D) : isIn (.tup l) "str" = false := by show ("str" == "tuple") = false; decide +kernel
theorem isIn_tup_bool (l : List D) : isIn (.tup l) "bool" = false := by show ("bool" == "tuple") = false; decide +kernel
theorem isIn_tup_list (l : List D) : isIn (.tup l) "list" = false := by show ("list" == "tuple") = false; decide +kernel
theorem isIn_tup_tuple (l : List D) : isIn (.tup l) "tuple" = true := by show ("tuple" == "tuple") = true; decide +kernel
theorem isIn_tup_dict (l : List D) : isIn (.tup l) "dict" = false := by show ("dict" == "tuple") = false; decide +kernel
theorem plain_lst (l : List D) : plainD (.lst l) = true := rfl
theorem isIn_lst_int (l : List D) : isIn (.lst l) "int" = false := by show ("int" == "list") = false; decide +kernel
theorem isIn_lst_str (l : List D) : isIn (.lst l) "str" = false := by show ("str" == "list") = false; decide +kernel
theorem isIn_lst_bool (l : List D) : isIn (.lst l) "bool" = false := by show ("bool" == "list") = false; decide +kernel
theorem isIn_lst_list (l : List D) : isIn (.lst l) "list" = true := by show ("list" == "list") = true; decide +kernel
theorem isIn_lst_tuple (l : List D) : isIn (.lst l) "tuple" = false := by show ("tuple" == "list") = false; decide +kernel
theorem isIn_lst_dict (l : List D) : isIn (.lst l) "dict" = false := by show ("dict" == "list") = false; decide +kernel
local macro_rules | `(tactic| walk_at "is") => `(tactic| simp only [plain_non, isIn_non_int, isIn_non_str, isIn_non_bool, isIn_non_list, isIn_non_tuple, isIn_non_dict, plain_bl, isIn_bl_int, isIn_bl_str, isIn_bl_bool, isIn_bl_list, isIn_bl_tuple, isIn_bl_dict, plain_int, isIn_int_int, isIn_int_str, isIn_int_bool, isIn_int_list, isIn_int_tuple, isIn_int_dict, plain_str, isIn_str_int, isIn_str_str, isIn_str_bool, isIn_str_list, isIn_str_tuple, isIn_str_dict, plain_tup, isIn_tup_int, isIn_tup_str, isIn_tup_bool, isIn_tup_list, isIn_tup_tuple, isIn_tup_dict, plain_lst, isIn_lst_int, isIn_lst_str, isIn_lst_bool, isIn_lst_list, isIn_lst_tuple, isIn_lst_dict, ddIsi, ddIsi2, true_and, if_true, if_false, Bool.false_eq_true, Bool.not_true, Bool.not_false, Bool.or_true, Bool.or_false, Bool.true_or, and_true])
/-! ### the same data -/
mutual
/-- plain data no deeper than n, without dicts -/
def TreeD : Nat → D → Prop
  | 0, _ => False
  | n + 1, .tup l => l.length ≤ 1000000 ∧ ∀ d ∈ l, TreeD n d
  | n + 1, .lst l => l.length ≤ 1000000 ∧ ∀ d ∈ l, TreeD n d
  | _ + 1, .non => True
  | _ + 1, .bl _ => True
  | _ + 1, .int _ => True
  | _ + 1, .str _ => True
  | _, _ => False
end
theorem TreeD.plain : ∀ {n : Nat} {d : D}, TreeD n d → plainD d = true
  | 0, _, h => by unfold TreeD at h; exact h.elim
  | n + 1, d, h => by
    cases d <;> first | rfl | (unfold TreeD at h; exact h.elim)
theorem forL_inv {gr : DG} {body : DS} {DD : DEnds} (P : Nat → DEnv → Prop) : ∀ (ds : List D) (ρ : DEnv) (k : Nat),
    (∀ (i : Nat) (d : D) (ρ : DEnv) (R : DEnv → Prop), ds[i]? = some d → P (k + i) ρ → (∀ ρ', P (k + i + 1) ρ' → R ρ') → gr d ρ (fun ρ1 => body ⟨R, DD.rt, DD.nx, R, DD.ex, DD.fr⟩ ρ1)) →
    (∀ ρ, P (k + ds.length) ρ → DD.nx ρ) → P k ρ → forL gr body DD ds ρ
  | [], ρ, k, _, h2, h0 => h2 ρ h0
  | d :: ds, ρ, k, h1, h2, h0 => by
    refine h1 0 d ρ _ rfl h0 fun ρ' q => ?_
    refine forL_inv P ds ρ' (k + 1) (fun i e ρ R he hp hr => ?_) (fun ρ q => h2 ρ (by rw [List.length_cons]; rwa [Nat.add_assoc, Nat.add_comm 1] at q)) q
    refine h1 (i + 1) e ρ R (by rw [List.getElem?_cons_succ]; exact he) ?_ fun ρ' q => hr ρ' ?_
    · rwa [Nat.add_assoc, Nat.add_comm 1] at hp
    · rw [Nat.add_assoc k 1 i, Nat.add_comm 1 i]
      exact q
theorem rangeD_at {lo : Int} {n i : Nat} {d : D} (h : (rangeD lo n)[i]? = some d) : i < n ∧ d = .int (lo + (i : Nat)) := by
  unfold rangeD at h
  rw [List.getElem?_map] at h
  by_cases hi : i < n
  · rw [List.getElem?_range hi] at h
    exact ⟨hi, (Option.some.inj h).symm⟩
  · rw [List.getElem?_eq_none (by rw [List.length_range]; omega)] at h
    cases h
theorem ddIx_tup {l : List D} {i : Nat} {d : D} {Q : D → Prop} (h : l[i]? = some d) (q : Q d) : ddIx (.tup l) (.int (0 + (i : Nat))) Q := by
  refine ⟨d, ?_, q⟩
  rw [Int.zero_add]
  exact atI_nat h
theorem ddIx_lst {l : List D} {i : Nat} {d : D} {Q : D → Prop} (h : l[i]? = some d) (q : Q d) : ddIx (.lst l) (.int (0 + (i : Nat))) Q := by
  refine ⟨d, ?_, q⟩
  rw [Int.zero_add]
  exact atI_nat h
def m_same : Nat → DF
  | 0 => fun _ _ _ => False
  | n + 1 => fun ds Q _ => match ds with
    | [got, due] => TreeD (n + 1) got ∧ TreeD (n + 1) due ∧ ∀ b : Bool, (b = true ↔ got = due) → Q (.bl b)
    | _ => False
end My
namespace My
open PySem PySem.Spec PyProof.Rows L2
/-! ### list(range(n)), sorted(ints), x[:n] -/
def nListRg (r : DE) : DL := fun ρ Q E => r ρ (fun d => match d with
  | .int n => 0 ≤ n ∧ n ≤ 1000 ∧ Q (rangeD 0 n.toNat)
  | _ => False) E
theorem daL_rg {K : PySem.W.Frag} {so : Option Addr} {A : Hp} (n : Nat) : DaL K so A (rangeD 0 n) (rgV 0 (n : Int)) := by
  have e1 : rangeD 0 n = ((List.range n).map fun i => (0 : Int) + (i : Nat)).map D.int := by
    unfold rangeD
    rw [List.map_map]
    rfl
  have e2 : rgV 0 (n : Int) = ((List.range n).map fun i => (0 : Int) + (i : Nat)).map V.int := by
    unfold rgV
    rw [List.map_map, Int.sub_zero, Int.toNat_natCast]
    rfl
  rw [e1, e2]
  exact daL_ints _
def nnSorted : List D → (List D → Prop) → Prop := fun ds Q => match ds with
  | [.lst l] => ∃ ns : List Int, l = ns.map D.int ∧ ∀ ns' : List Int, ns'.Perm ns → ns'.Pairwise (· ≤ ·) → Q (ns'.map D.int)
  | _ => False
theorem daL_int_of {K : PySem.W.Frag} {so : Option Addr} {A : Hp} : ∀ {ns : List Int} {xs : List V}, DaL K so A (ns.map D.int) xs → xs = ns.map V.int
  | [], xs, h => h
  | n :: ns, xs, ⟨v, r, e, dv, dr⟩ => by
    have dv : v = .int n := dv
    rw [e, dv, daL_int_of dr]
    rfl
def nHeadE (r ru : DE) : DL := fun ρ Q E => r ρ (fun d => onL d fun l => ru ρ (fun u => match u with
  | .int k => 0 ≤ k ∧ Q (l.take k.toNat)
  | _ => False) E) E
theorem bt_sorted : bootBuiltins "sorted" = some (.builtin "sorted") := by kernel_rfl
section
variable {X : Cx} {g : Gx} {EX : EXT} {e u : Expr} {es : List Expr} {ra ru : DE} {pos p p2 : Pos} {t : DL}
theorem pdn_listRg {p1 pos1 : Pos} (hc : X.calm = true) (hg : Gl X "list") (hm : X.mg "list" = none) (hg2 : Gl X "range") (hm2 : X.mg "range" = none) (ha : PD X g EX e ra) (na : starEach [e] X.env = (false, eval e X.env) :: starEach [] X.env := by rfl)
    (nb : starEach [.Call (.Name "range" p1) [e] [] pos1] X.env = (false, eval (.Call (.Name "range" p1) [e] [] pos1) X.env) :: starEach [] X.env := by rfl) :
    PDN X g EX (.Call (.Name "list" p) [.Call (.Name "range" p1) [e] [] pos1] [] pos) (nListRg ra) := ⟨(pe_listRg hc hg hm (prg_1 hg2 hm2 ha.pe na) nb).imp fun σ H Q h => by
  obtain ⟨A, ρ, Qd, Ed, S, h, c, cx⟩ := h
  refine ⟨A, ρ, _, Ed, S, h, fun d v A1 H1 x1 da q => ?_, cx⟩
  dsimp only at q
  split at q
  · rename_i n
    obtain ⟨n0, n1, q⟩ := q
    have da : v = .int n := da
    subst da
    refine ⟨n, rfl, RgOk.of_le (by decide) (by omega) (by decide) n0, fun p' hp => ?_⟩
    obtain ⟨k, rfl⟩ : ∃ k : Nat, n = k := ⟨n.toNat, by omega⟩
    rw [Int.toNat_natCast] at q
    exact c _ _ p' A1 H1 x1 hp (daL_rg k) q
  · exact q.elim⟩
theorem pdn_sorted (hg : Gl X "sorted") (hm : X.mg "sorted" = none) (ha : PDA X g EX (e :: es) t)
    (he : starEach (e :: es) X.env = (false, eval e X.env) :: starEach es X.env := by rfl) (hpl : (backTo pos (starEach es X.env)).any (·.1) = false := by rfl) : PDN X g EX (.Call (.Name "sorted" p) (e :: es) [] pos) (nCB nnSorted t) :=
  ⟨(pe_callB cr_sortedI hg hm bt_sorted ha.pa (by decide) (by decide) he hpl).imp fun σ H Q h => by
  obtain ⟨A, ρ, Qd, Ed, S, h, c, cx⟩ := h
  refine ⟨A, ρ, _, Ed, S, h, fun ds vs A1 H1 x1 das q => ?_, cx⟩
  have q : nnSorted ds Qd := q
  unfold nnSorted at q
  split at q
  · obtain ⟨ns, el, qq⟩ := q
    subst el
    obtain ⟨v, rfl, pp, xs, rfl, hp, dl⟩ := das.one'
    rw [daL_int_of dl] at hp
    exact ⟨pp, ns, rfl, SqL.of (x1.good.sub _ _ hp), fun ns' p' h1 h2 hp' => c _ _ p' A1 H1 x1 hp' (daL_ints _) (qq ns' h1 h2)⟩
  · exact q.elim⟩
theorem pdn_headE (he : PD X g EX e ra) (hu : PD X g EX u ru) : PDN X g EX (.Subscript e (.Slice none (some u) none p2) pos) (nHeadE ra ru) := ⟨(pe_slice sl_list he.pe po_none (po_some hu.pe)).imp fun σ H Q h => by
  obtain ⟨A, ρ, Qd, Ed, S, h, c, cx⟩ := h
  refine ⟨A, ρ, _, Ed, S, h, fun d v A1 H1 x1 da q => ?_, cx⟩
  have q : onL d _ := q
  unfold onL at q
  split at q
  · obtain ⟨pp, xs, rfl, hs, dl⟩ := da
    refine ⟨A1, ρ, _, Ed, S.ext x1, q, fun d2 v2 A2 H2 x2 da2 q2 => ?_, cx.ext x1⟩
    dsimp only at q2
    split at q2
    · rename_i k
      obtain ⟨k0, q2⟩ := q2
      have da2 : v2 = .int k := da2
      subst da2
      refine ⟨k, rfl, pp, xs, rfl, SqL.of (x2.good.sub _ _ (x2.mono _ _ hs)), fun p' hp' => ?_⟩
      obtain ⟨m, rfl⟩ : ∃ m : Nat, k = m := ⟨k.toNat, by omega⟩
      have e : cutV xs none (some (m : Int)) = xs.take m := by
        unfold cutV
        rw [HT.sIx_none, HT.sIx_nat, List.drop_zero, Nat.sub_zero, List.take_eq_take_iff]
        omega
      rw [e]
      rw [Int.toNat_natCast] at q2
      exact c _ _ p' A2 H2 (x1.trans x2) hp' ((DaL.mono x2.mono _ _ dl).take m) q2
    · exact q2.elim
  · exact q.elim⟩
end
end My
set_option exponentiation.threshold 100000
namespace My
open PySem PySem.Spec PyProof.Rows L2
/-! ### lists: repeated, cut from behind, unpacked, searched -/
def ddRep : D2 := fun x y Q => match x, y with
  | .lst l, .int k => -(2 ^ 63) ≤ k ∧ k < 2 ^ 63 ∧ l.length * k.toNat ≤ sizeLine ∧ Q (.lst (List.replicate k.toNat l).flatten)
  | _, _ => False
theorem daL_rep {K : PySem.W.Frag} {so : Option Addr} {A : Hp} {l : List D} {xs : List V} (h : DaL K so A l xs) : ∀ n, DaL K so A (List.replicate n l).flatten (List.replicate n xs).flatten
  | 0 => rfl
  | n + 1 => by
    rw [List.replicate_succ, List.replicate_succ, List.flatten_cons, List.flatten_cons]
    exact h.app (daL_rep h n)
theorem ol_rep {K : PySem.W.Frag} : OpL K rRep ddRep := by
  intro so A H x y v u Qd Q gd dx dy q c
  unfold ddRep at q
  split at q
  · obtain ⟨a, xs, rfl, hs, qa⟩ := dx
    have dy : u = _ := dy
    subst dy
    exact ⟨a, _, xs, rfl, rfl, gd.sub _ _ hs, q.1, q.2.1, by rw [qa.len]; exact q.2.2.1, fun p hp => c.newL _ _ p A H (Ext.refl gd) hp (daL_rep qa _) q.2.2.2⟩
  · exact q.elim
def nTailE (r ru : DE) : DL := fun ρ Q E => r ρ (fun d => onL d fun l => ru ρ (fun u => match u with
  | .int k => 0 ≤ k ∧ Q (l.drop k.toNat)
  | _ => False) E) E
def gdLst (n : Nat) (u : DGs) : DG := fun d ρ R => match d with
  | .lst l => l.length = n ∧ u l ρ R
  | _ => False
def gLst (K : PySem.W.Frag) (n : Nat) (t : TGs) : TG := fun v σ H Q => ∃ a xs, v = .ref a ∧ SqL K H a xs ∧ xs.length = n ∧ t xs σ H Q
theorem pg_lstU {X : Cx} {pos : Pos} {es : List Expr} {k : Nat} {t : TGs} {n : Nat} (hc : X.calm = true) (h : PGs X es t)
    (hn : (assignEach es X.env).length = n := by rfl) (hst : (assignEach es X.env).findIdx? (·.1) = none := by rfl) : PG X (.Tuple es k pos) (gLst X.K n t) := by
  refine ⟨fun pins s σ H v u Q I r hw => ?_⟩
  obtain ⟨a, xs, e1, hq, hl, hw⟩ := hw
  subst e1
  cases r
  obtain ⟨its, rv, ht, hz⟩ := I.list hq
  rw [assign_Tuple]
  refine wpAny_bind (wpAny_standAt ?_)
  unfold unpack
  have e2 : (assignEach es X.env).length = its.toArray.size := by simp [hn, ← hl, rv.length]
  rw [e2, hst]
  refine wpAny_bind (wpAny_holding (PySem.W.kun_itemsOf (I.ok.hd hc) ht.isList fun h' hx => ?_))
  have I1 : Inv X pins σ H { s with heap := h' } := I.kept (t' := s.toks) fun b o e => hx b o (Nat.ne_of_lt (Heap.lt_size e)) e
  exact h.run pins _ σ H xs _ Q I1 (by simpa using rv) hw
def dIndex (ro rx : DE) : DE := fun ρ Q E => ro ρ (fun d => onL d fun l => rx ρ (fun y => match y with
  | .int k => ∃ (ns : List Int) (j : Nat), l = ns.map D.int ∧ ns[j]? = some k ∧ (∀ m z, m < j → ns[m]? = some z → z ≠ k) ∧ Q (.int j)
  | _ => False) E) E
section
variable {X : Cx} {g : Gx} {EX : EXT} {e o u : Expr} {es : List Expr} {ra ru ro rx : DE} {pos p p2 apos : Pos} {t : DL} {gu : DGs}
theorem pdn_tailE (he : PD X g EX e ra) (hu : PD X g EX u ru) : PDN X g EX (.Subscript e (.Slice (some u) none none p2) pos) (nTailE ra ru) := ⟨(pe_slice sl_list he.pe (po_some hu.pe) po_none).imp fun σ H Q h => by
  obtain ⟨A, ρ, Qd, Ed, S, h, c, cx⟩ := h
  refine ⟨A, ρ, _, Ed, S, h, fun d v A1 H1 x1 da q => ?_, cx⟩
  have q : onL d _ := q
  unfold onL at q
  split at q
  · obtain ⟨pp, xs, rfl, hs, dl⟩ := da
    refine ⟨A1, ρ, _, Ed, S.ext x1, q, fun d2 v2 A2 H2 x2 da2 q2 => ?_, cx.ext x1⟩
    dsimp only at q2
    split at q2
    · rename_i k
      obtain ⟨k0, q2⟩ := q2
      have da2 : v2 = .int k := da2
      subst da2
      refine ⟨k, rfl, pp, xs, rfl, SqL.of (x2.good.sub _ _ (x2.mono _ _ hs)), fun p' hp' => ?_⟩
      obtain ⟨m, rfl⟩ : ∃ m : Nat, k = m := ⟨k.toNat, by omega⟩
      have e : cutV xs (some (m : Int)) none = xs.drop m := by
        unfold cutV
        rw [HT.sIx_none, HT.sIx_nat, List.take_of_length_le (by rw [List.length_drop]; omega)]
        rcases Nat.le_total m xs.length with z | z
        · rw [Nat.min_eq_left z]
        · rw [Nat.min_eq_right z, List.drop_of_length_le (Nat.le_refl _), List.drop_of_length_le z]
      rw [e]
      rw [Int.toNat_natCast] at q2
      exact c _ _ p' A2 H2 (x1.trans x2) hp' ((DaL.mono x2.mono _ _ dl).drop m) q2
    · exact q2.elim
  · exact q.elim⟩
theorem pdg_tupL {n k : Nat} (hc : X.calm = true) (h : PDGs X g es gu) (hn : (assignEach es X.env).length = n := by rfl) (hst : (assignEach es X.env).findIdx? (·.1) = none := by rfl) : PDG X g (.Tuple es k pos) (gdLst n gu) := ⟨(pg_lstU hc h.pgs hn hst).imp fun v σ H R q => by
  obtain ⟨A, ρ, d, Rd, S, da, q, k⟩ := q
  unfold gdLst at q
  split at q
  · obtain ⟨a, xs, rfl, hs, qa⟩ := da
    exact ⟨a, xs, rfl, SqL.of (S.good.sub _ _ hs), by rw [qa.len]; exact q.1, A, ρ, _, Rd, S, qa, q.2, k⟩
  · exact q.elim⟩
theorem flat_ints : ∀ ns : List Int, (ns.map V.int).all flatV = true
  | [] => rfl
  | n :: ns => by
    rw [List.map_cons, List.all_cons, flat_ints ns]
    rfl
theorem pd_index (ho : PD X g EX o ro) (he : PD X g EX e rx)
    (hbase : attributeBase o "index" X.env (eval o X.env) = eval o X.env) (hline : (apos.endLine == pos.line) = true)
    (hfew : ((backTo pos (starEach [e] X.env)).all (fun x => !x.1) && (backToKw pos (keywordEach [] X.env)).all (fun x => x.1.isSome)
      && decide ([e].length + ([] : List Keyword).length + (if ([] : List Keyword).isEmpty then 0 else 1) < 30)) = true)
    (hs : starEach [e] X.env = (false, eval e X.env) :: starEach [] X.env) (hpl : (backTo pos (starEach [] X.env)).any (·.1) = false) :
    PD X g EX (.Call (.Attribute o "index" apos) [e] [] pos) (dIndex ro rx) := ⟨(pe_bm PySem.F.plainAttrs_list PySem.F.slot_list_index PySem.F.type_list_index mt_index ho.pe (pa_cons he.pe pa_nil hs) hbase hfew hline hs hpl).imp fun σ H Q h => by
  obtain ⟨A, ρ, Qd, Ed, S, h, c, cx⟩ := h
  refine ⟨A, ρ, _, Ed, S, h, fun d v A1 H1 x1 da q => ?_, cx⟩
  have q : onL d _ := q
  unfold onL at q
  split at q
  · obtain ⟨pp, xs, rfl, hp, dl⟩ := da
    refine ⟨.inl ⟨rfl, xs, SqL.of (x1.good.sub _ _ hp)⟩, A1, ρ, _, Ed, S.ext x1, q, fun d2 v2 A2 H2 x2 da2 q2 => ?_, cx.ext x1⟩
    dsimp only at q2
    split at q2
    · rename_i k
      obtain ⟨ns, j, el, h1, h2, q2⟩ := q2
      subst el
      have da2 : v2 = .int k := da2
      subst da2
      have ex := daL_int_of dl
      subst ex
      refine ⟨pp, ns.map V.int, .int k, j, .int k, rfl, rfl, SqL.of (x2.good.sub _ _ (x2.mono _ _ hp)), rfl, flat_ints ns, by rw [List.getElem?_map, h1]; rfl, beq_self_eq_true k, fun m z' hm hz => ?_, ?_⟩
      · rw [List.getElem?_map] at hz
        cases e : ns[m]? with
        | none =>
          rw [e] at hz
          cases hz
        | some z =>
          rw [e] at hz
          cases hz
          exact beq_false_of_ne (h2 m z hm e)
      · exact c (.int j) _ A2 H2 (x1.trans x2) rfl q2
    · exact q2.elim
  · exact q.elim⟩
end
end My
set_option exponentiation.threshold 100000
namespace My
open PySem PySem.Spec PyProof.Rows L2
/-! ### dicts with texts as keys -/
theorem nodup_inr : ∀ l : List (Str × Str), (l.map (·.1)).Nodup → (l.map ((fun p => p.1) ∘ fun p : Str × Str => ((.inr p.1 : Key), V.str p.2))).Nodup
  | [], _ => List.nodup_nil
  | p :: l, h => by
    rw [List.map_cons, List.nodup_cons] at h ⊢
    refine ⟨fun z => h.1 ?_, nodup_inr l h.2⟩
    obtain ⟨q, hq, e⟩ := List.mem_map.mp z
    have e : q.1 = p.1 := Sum.inr.inj e
    rw [← e]
    exact List.mem_map_of_mem hq
def dDispS (l : List (Str × Str)) : DE := fun _ Q _ => Q (.dct (l.map fun p => .str p.1) (l.map fun p => .str p.2))
theorem tPairs_c {σ : L2.St} : ∀ (l : List (Str × Str)) (H : Hp) (R : List (V × V) → Hp → Prop), R (l.map fun p => (V.str p.1, V.str p.2)) H → tPairs (l.map fun p => (tC (.str p.1), tC (.str p.2))) σ H R
  | [], _, _, h => h
  | p :: l, H, R, h => tPairs_c l H (fun ps H3 => R ((V.str p.1, V.str p.2) :: ps) H3) h
theorem merge_new : ∀ (more acc : List (Key × V)), ((acc ++ more).map (·.1)).Nodup → mergeK acc more = acc ++ more
  | [], acc, _ => by
    rw [List.append_nil]
    rfl
  | p :: more, acc, h => by
    have hn : (acc.any fun kv => decide (kv.1 = p.1)) = false := by
      rw [List.any_eq_false]
      intro kv hkv
      rw [decide_eq_true_iff]
      intro e
      rw [List.map_append, List.map_cons] at h
      have := (List.nodup_append.mp h).2.2
      exact absurd e (this kv.1 (List.mem_map_of_mem hkv) p.1 (List.mem_cons_self ..))
    have e : putK acc p.1 p.2 = acc ++ [p] := by
      unfold putK
      rw [hn]
      rfl
    show mergeK (putK acc p.1 p.2) more = _
    rw [e, merge_new more (acc ++ [p]) (by rw [List.append_assoc]; exact h), List.append_assoc]
    rfl
theorem daL_strs {K : PySem.W.Frag} {so : Option Addr} {A : Hp} : ∀ l : List (Str × Str), DaL K so A (l.map fun p => .str p.2) (l.map fun p => V.str p.2)
  | [] => rfl
  | p :: l => ⟨.str p.2, _, rfl, rfl, daL_strs l⟩
def keyD : D → Option Key
  | .int i => some (.inl i)
  | .str s => some (.inr s)
  | _ => none
def dGetK : List D → List D → Key → Option D
  | k :: ks, v :: vs, y => if keyD k = some y then some v else dGetK ks vs y
  | _, _, _ => none
theorem keyD_kD (k : Key) : keyD (kD k) = some k := by cases k <;> rfl
theorem dget_val {K : PySem.W.Frag} {so : Option Addr} {A : Hp} {y : Key} : ∀ {kvs : List (Key × V)} {vs : List D}, DaL K so A vs (kvs.map (·.2)) →
    (dGetK (kvs.map fun p => kD p.1) vs y = none ∧ valV kvs y = none) ∨ ∃ d v, dGetK (kvs.map fun p => kD p.1) vs y = some d ∧ valV kvs y = some v ∧ Da K so A d v
  | [], [], _ => .inl ⟨rfl, rfl⟩
  | [], d :: vs, ⟨v, r, e, _⟩ => by cases e
  | p :: kvs, [], h => by
    have h : _ = _ := h
    cases h
  | p :: kvs, d :: vs, ⟨v, r, e, dv, dr⟩ => by
    cases e
    show ((if keyD (kD p.1) = some y then some d else dGetK _ vs y) = none ∧ _) ∨ ∃ d' v, (if keyD (kD p.1) = some y then some d else dGetK _ vs y) = some d' ∧ _
    rw [keyD_kD]
    by_cases c : p.1 = y
    · rw [if_pos (congrArg some c), valV_pos c]
      exact .inr ⟨d, p.2, rfl, rfl, dv⟩
    · rw [if_neg (fun z => c (Option.some.inj z))]
      have e2 : valV (p :: kvs) y = valV kvs y := by
        unfold valV
        rw [List.find?_cons]
        simp [c]
      rw [e2]
      exact dget_val dr
def isDK (ks : List D) : Prop := ks ≠ [] ∧ ∀ k ∈ ks, ∃ y, k = kD y
def onDS (x d : D) (Q : List D → List D → Key → Prop) : Prop := match x, d with
  | .str z, .dct ks vs => isDK ks ∧ Q ks vs (.inr z)
  | _, _ => False
theorem dkOf {H : Hp} {a : Addr} {ks : List D} {us : List V} (h : DicV H a ks us) (hk : isDK ks) : ∃ kvs : List (Key × V), H a = some (.dK kvs) ∧ ks = kvs.map (fun p => kD p.1) ∧ us = kvs.map (·.2) := by
  rcases h with h | ⟨kvs, h, e1, e2⟩
  · exact h
  · subst e1
    match kvs, hk with
    | [], hk => exact absurd rfl hk.1
    | p :: r, hk =>
      obtain ⟨y, e⟩ := hk.2 (tD p.1) (List.mem_cons_self ..)
      cases y <;> cases e
def qNotInS (rx rd : DE) : DT := fun ρ Q E => rx ρ (fun x => rd ρ (fun d => onDS x d fun ks vs z => Q (!(dGetK ks vs z).isSome)) E) E
def dGetS (rd rx : DE) : DE := fun ρ Q E => rd ρ (fun d => rx ρ (fun x => onDS x d fun ks vs z => ∃ v, dGetK ks vs z = some v ∧ Q v) E) E
section
variable {X : Cx} {g : Gx} {EX : EXT} {e o u : Expr} {es : List Expr} {ra ru ro rx : DE} {pos p p2 apos : Pos} {t : DL}
theorem pd_dispS {keys : List (Option Expr)} {values : List Expr} (l : List (Str × Str)) (h : PPs X pos keys values (l.map fun p => (tC (.str p.1), tC (.str p.2)))) (hall : keys.all (·.isSome) = true) (hl : keys.length = values.length) (h0 : keys ≠ [])
    (h15 : keys.length ≤ 15) (hn : l.length ≤ 15 ∧ (l.map (·.1)).Nodup) : PD X g EX (.Dict keys values pos) (dDispS l) := ⟨(pe_disp h hall hl h0 h15).imp fun σ H Q q => by
  obtain ⟨A, ρ, Qd, Ed, S, q, c, cx⟩ := q
  intro pp hp
  refine tPairs_c l _ _ ⟨upd_same, l.map fun p => (.inr p.1, .str p.2), by rw [List.map_map]; rfl, by rw [List.length_map]; exact hn.1, ?_⟩
  have em : mergeK [] (l.map fun p => ((.inr p.1 : Key), V.str p.2)) = l.map fun p => ((.inr p.1 : Key), V.str p.2) := by
    rw [merge_new _ [] ?_, List.nil_append]
    rw [List.nil_append, List.map_map]
    exact nodup_inr l hn.2
  rw [em]
  have y := Ext.laid (o := .dK (l.map fun p => ((.inr p.1 : Key), V.str p.2))) S.good hp
  have e2 : upd (upd H pp (.dK [])) pp (.dK (l.map fun p => ((.inr p.1 : Key), V.str p.2))) = upd H pp (.dK (l.map fun p => ((.inr p.1 : Key), V.str p.2))) := by
    funext b
    unfold upd
    split <;> rfl
  rw [e2]
  refine c (.dct _ _) (.ref pp) _ _ y ⟨pp, l.map fun p => V.str p.2, rfl, .inl ⟨_, upd_same, ?_, ?_⟩, daL_strs l⟩ q
  · rw [List.map_map]
    rfl
  · rw [List.map_map]
    rfl⟩
theorem pdt_notinS (hu : X.A.units + 64 < cLine) (hx : PD X g EX e rx) (ho : PD X g EX o ro) (hm : behindInMarks .NotIn o = false) : PDT X g EX (.Compare e [.NotIn] [o] pos) (qNotInS rx ro) := ⟨(pt_cmp (pc_dnotin (by omega) hx.pe ho.pe) hm).imp fun σ H Q h => by
  obtain ⟨A, ρ, Qd, Ed, S, h, c, cx⟩ := h
  refine ⟨A, ρ, _, Ed, S, h, fun d v A1 H1 x1 da q => ?_, cx⟩
  refine ⟨A1, ρ, _, Ed, S.ext x1, q, fun d2 v2 A2 H2 x2 da2 q2 => ?_, cx.ext x1⟩
  dsimp only at q2
  unfold onDS at q2
  split at q2
  · rename_i z ks vs
    obtain ⟨hk, q2⟩ := q2
    have da := x2.da da
    have da : v = _ := da
    subst da
    obtain ⟨a, us, rfl, hd, dl⟩ := da2
    obtain ⟨kvs, h2, rfl, rfl⟩ := dkOf hd hk
    rcases dget_val (y := .inr z) dl with ⟨k1, k2⟩ | ⟨d3, v3, k1, k2, k3⟩
    · rw [k1] at q2
      exact ⟨a, none, rfl, .inl ⟨kvs, .inr z, .inl (x2.good.sub _ _ h2), rfl, k2.symm⟩, _, rfl, c _ A2 H2 (x1.trans x2) q2⟩
    · rw [k1] at q2
      exact ⟨a, some v3, rfl, .inl ⟨kvs, .inr z, .inl (x2.good.sub _ _ h2), rfl, k2.symm⟩, _, rfl, c _ A2 H2 (x1.trans x2) q2⟩
  · exact q2.elim⟩
theorem pd_getS (hu : X.A.units + 64 < cLine) (ho : PD X g EX o ro) (hx : PD X g EX e rx) (hs : NoSl e) : PD X g EX (.Subscript o e pos) (dGetS ro rx) := ⟨(pe_dget (by omega) ho.pe hx.pe hs).imp fun σ H Q h => by
  obtain ⟨A, ρ, Qd, Ed, S, h, c, cx⟩ := h
  refine ⟨A, ρ, _, Ed, S, h, fun d v A1 H1 x1 da q => ?_, cx⟩
  refine ⟨A1, ρ, _, Ed, S.ext x1, q, fun d2 v2 A2 H2 x2 da2 q2 => ?_, cx.ext x1⟩
  dsimp only at q2
  unfold onDS at q2
  split at q2
  · rename_i z ks vs
    obtain ⟨hk, r, h1, q2⟩ := q2
    have da2 : v2 = _ := da2
    subst da2
    obtain ⟨a, us, rfl, hd, dl⟩ := x2.da da
    obtain ⟨kvs, h2, rfl, rfl⟩ := dkOf hd hk
    rcases dget_val (y := .inr z) dl with ⟨k1, _⟩ | ⟨d3, v3, k1, k2, k3⟩
    · rw [k1] at h1
      cases h1
    · rw [k1] at h1
      cases h1
      exact ⟨a, v3, rfl, .inl ⟨kvs, .inr z, .inl (x2.good.sub _ _ h2), rfl, k2.symm⟩, c _ _ A2 H2 (x1.trans x2) k3 q2⟩
  · exact q2.elim⟩
end
/-! ### a call with an owned list as its first argument; what it returns has no list -/
def dCallO (n : Nat) (m : DF) (i : Nat) (t : DL) : DE := fun ρ Q E => owS ρ[i]? fun l => tupH l = true ∧ t ρ (fun ds => ds.length + 1 = n ∧ m (.lst l :: ds) (fun d => lfD d = true ∧ Q d) (fun _ => False)) E
section
variable {X : Cx} {g : Gx} {EX : EXT} {e : Expr} {es : List Expr} {pos p : Pos} {lv : Nat} {f : Addr} {fd : FuncData} {ps : List Str} {m : DF} {x : Str} {CX : CXT} {i : Nat} {t : DL}
theorem pd_callO (F : FnOk X.prog X.w X.K X.mg X.base CX lv f fd ps (spD X.K ps.length m)) (hr : Room lv X.A) (hg : Gl X x) (hm : X.mg x = some (.ref f)) (hk : PySem.W.keepIn X.K (.ref f) = true) (hb : Binds X.K fd ps []) (hx : ∀ σ, PassesAt CX X σ (EX σ))
    (ho : PE X e (tVar i)) (ha : PDA X g EX es t) (hdb : (x == ("__debug__" : Str)) = false := by decide) (he : starEach (e :: es) X.env = (false, eval e X.env) :: starEach es X.env := by rfl) (hpl : (backTo pos (starEach es X.env)).any (·.1) = false := by rfl) :
    PD X g EX (.Call (.Name x p) (e :: es) [] pos) (dCallO ps.length m i t) := ⟨(pe_callS F hr hg hm hk hb hx (pa_cons ho ha.pa he) hdb he hpl).imp fun σ H Q h => by
  obtain ⟨A, ρ, Qd, Ed, S, h, c, cx⟩ := h
  obtain ⟨l, el, ht, h⟩ := h.out
  obtain ⟨a, xs, es', ha', na, ni, ns', qa⟩ := S.e.ow el
  refine ⟨.ref a, es', A, ρ, _, Ed, S, h, fun ds vs A1 H1 x1 das q => ?_, cx⟩
  obtain ⟨hl, q⟩ := q
  have ha1 : H1 a = some (.lst xs) := x1.kept a _ ns' ha'
  have na1 : A1 a = none := x1.unfrozen na ha'
  have y := (S.ext x1).x.frz ni na1 ha1 ns'
  have sub1 : Sub A1 (upd A1 a (.lst xs)) := fun b o w => by rw [upd_ne (ne_of_none w na1)]; exact w
  refine ⟨g.so, upd A1 a (.lst xs), .lst l :: ds, _, (fun _ => False), y.good, hl, ⟨.ref a, vs, rfl, ⟨a, xs, rfl, upd_same, DaL.mono sub1 _ _ (x1.daL qa)⟩, DaL.mono sub1 _ _ das⟩, q, fun d v A2 H2 x2 da q => ?_, fun _ _ _ _ _ _ _ _ _ _ z => z.elim⟩
  obtain ⟨lf, q⟩ := q
  have a2 : A2 a = some (.lst xs) := x2.mono _ _ upd_same
  have ne : ∀ {b : Addr} {o : HO}, A1 b = some o → b ≠ a := fun w z => by
    rw [z, na1] at w
    cases w
  have off : ∀ {b : Addr} {o : HO}, A2 b = some o → b ≠ a → (fun b => if b = a then none else A2 b : Hp) b = some o := fun w n => by
    show (if _ = a then none else _) = _
    rw [if_neg n]
    exact w
  have on : ∀ {b : Addr} {o : HO}, (fun b => if b = a then none else A2 b : Hp) b = some o → b ≠ a ∧ A2 b = some o := fun {b o} w => by
    by_cases n : b = a
    · have w : (if b = a then none else A2 b) = some o := w
      rw [if_pos n] at w
      cases w
    · have w : (if b = a then none else A2 b) = some o := w
      rw [if_neg n] at w
      exact ⟨n, w⟩
  have ext : Ext X.K g.so A H (fun b => if b = a then none else A2 b) H2 := by
    refine ⟨⟨fun b o w => x2.good.sub _ _ (on w).2, fun s e' => ?_⟩, fun b o w => off (x2.mono _ _ (sub1 _ _ (x1.mono _ _ w))) (ne (x1.mono _ _ w)), fun b o n w => x2.kept b o n (x1.kept b o n w), fun b o w => ?_⟩
    · obtain ⟨h1, L, ns, p0, a0, b0, c0, d0, h2, h3, r⟩ := x2.good.st s e'
      refine ⟨?_, L, ns, p0, a0, b0, c0, d0, h2, off h3 (fun z => ?_), r⟩
      · show (if s = a then none else A2 s) = none
        split
        · rfl
        · exact h1
      · rw [z, a2] at h3
        cases h3
        exact tupH_ints ht qa
    · obtain ⟨n, w⟩ := on w
      rcases x2.new b o w with z | z
      · rw [upd_ne n] at z
        exact x1.new b o z
      · exact .inr (x1.fresh z)
  refine c d v _ H2 ext (Da.mono (fun b o w => ?_) d v (Da.noL (so' := g.so) d v lf da)) q
  refine off (noL_sub w) (fun z => ?_)
  rw [z, noL_lst a2] at w
  cases w⟩
end
end My
set_option exponentiation.threshold 100000
namespace My
open PySem PySem.Spec PyProof.Rows L2
local macro_rules | `(tactic| walk_at "dl") => `(tactic| simp only [startD, List.map_cons, List.map_nil, List.length_cons, List.length_nil, List.cons_append, List.nil_append, List.replicate_succ, List.replicate_zero, List.getElem?_cons_zero, List.getElem?_cons_succ, List.set_cons_zero, List.set_cons_succ,
  dVar, rdS, dC, dNew, dOp, onB, qB, dChain, qAnd, qOr, qNot, qTru, truD, dIf, dAnd, dOr, dNot, dUn, ddNeg, lNil, lCons, dTup, nLst, ddI, ddI0, ddAdd, isNonD, isBlD, ddIsN, ddIsB, ddIx_t0, ddIx_t1, ddIx_t2, ddIx_t3, ddIx_l0, ddIx_l1, ddIx_l2, dCB, ddLen, ddInt1, ddAbs, ddMM, ddTuple, nCB, nnList, ddIsi, dCall,
  sSkip, sSeq, sBreak, sCont, sExpr, sRet, sRetN, sIf, sNever, gdName, gdNil, gdCons, gdTup, sAsg, sSetN, sPar, sRaise, sFrz, owS, sApp, sIns, dLenO, dIxO, sTry, sFor, iL, iT, onL, onT, iR1, iR2, nComp, qYes,
  ddEq_ii, ddEq_ss, ddEq_bb, Bool.false_bne, Bool.true_bne, List.append_nil, true_and, and_true, if_true, if_false, Bool.not_true, Bool.not_false, Bool.true_eq_false, Bool.false_eq_true, ite_true, ite_false, id_eq])

local macro_rules | `(tactic| walk_at "is") => `(tactic| simp only [plain_non, isIn_non_int, isIn_non_str, isIn_non_bool, isIn_non_list, isIn_non_tuple, isIn_non_dict, plain_bl, isIn_bl_int, isIn_bl_str, isIn_bl_bool, isIn_bl_list, isIn_bl_tuple, isIn_bl_dict, plain_int, isIn_int_int, isIn_int_str, isIn_int_bool, isIn_int_list, isIn_int_tuple, isIn_int_dict, plain_str, isIn_str_int, isIn_str_str, isIn_str_bool, isIn_str_list, isIn_str_tuple, isIn_str_dict, plain_tup, isIn_tup_int, isIn_tup_str, isIn_tup_bool, isIn_tup_list, isIn_tup_tuple, isIn_tup_dict, plain_lst, isIn_lst_int, isIn_lst_str, isIn_lst_bool, isIn_lst_list, isIn_lst_tuple, isIn_lst_dict, sl0, sl1, sl2, sl3, sl4, decide_true, decide_false, ddIsi, ddIsi2, true_and, if_true, if_false, Bool.false_eq_true, Bool.not_true, Bool.not_false, Bool.or_true, Bool.or_false, Bool.true_or, and_true])
local macro_rules | `(tactic| walk_at "wk") => `(tactic| ((try walk_at "dl"); (try walk_at "is"); (try walk_at "dl")))

/-! ### what may be asked, what is told -/
/-- data that is_point may be asked -/
def Pl2 (d : D) : Prop := Pl d ∧ ∀ l, d = .tup l → ∀ e ∈ l, Pl e
def isPt : D → Bool
  | .tup [x, y] => isRat x && isRat y
  | _ => false
def isPos (d : D) : Bool := isRat d && match d with
  | .tup (.int a :: _) => decide (0 < a)
  | _ => false
def isSd : D → Bool
  | .int i => decide (i = 1) || decide (i = -1)
  | _ => false
theorem side_in (i : Int) : inV (vD (.int i)) ([D.int 1, D.int (-1)].map vD) = isSd (.int i) := by
  have e : ∀ a b : Int, (a == b) = decide (b = a) := fun a b => by
    by_cases h : b = a
    · subst h
      simp
    · rw [decide_eq_false h]
      exact beq_false_of_ne fun z => h z.symm
  show ((1 == i) || (((-1 : Int) == i) || false)) = _
  rw [e, e, Bool.or_false]
  rfl
def m_is_point : DF := fun ds Q _ => match ds with
  | [d] => Pl2 d ∧ Q (.bl (isPt d))
  | _ => False
def m_is_positive : DF := fun ds Q _ => match ds with
  | [d] => Pl d ∧ Q (.bl (isPos d))
  | _ => False
def m_is_side : DF := fun ds Q _ => match ds with
  | [d] => plainD d = true ∧ Q (.bl (isSd d))
  | _ => False
section
variable {K : PySem.W.Frag} {mg : Str → Option Value} (T : Txt K mg)
def m_check_point : DF := fun ds Q E => match ds with
  | [d, .str x] => Pl2 d ∧ (isPt d = false → E (wkX T x)) ∧ (isPt d = true → Q .non)
  | _ => False
def m_check_positive : DF := fun ds Q E => match ds with
  | [d, .str x] => Pl d ∧ (isPos d = false → E (wkX T x)) ∧ (isPos d = true → Q .non)
  | _ => False
end
theorem pt_no {l : List D} (h : ¬ l.length = 2) : isPt (.tup l) = false := by
  match l, h with
  | [], _ => rfl
  | [_], _ => rfl
  | [_, _], h => exact absurd rfl h
  | _ :: _ :: _ :: _, _ => rfl
open Classical in
/-- the root that a ratio has, if it has one -/
noncomputable def rootR (p : Rat) : Option Rat := if e : ∃ r : Rat, 0 ≤ r ∧ r * r = p then some e.choose else none
theorem rootR_some {p r : Rat} (h : rootR p = some r) : 0 ≤ r ∧ r * r = p := by
  unfold rootR at h
  split at h
  · rename_i e
    cases h
    exact e.choose_spec
  · cases h
theorem rootR_is {p r : Rat} (h0 : 0 ≤ r) (h1 : r * r = p) : rootR p = some r := by
  have e : ∃ r : Rat, 0 ≤ r ∧ r * r = p := ⟨r, h0, h1⟩
  unfold rootR
  rw [dif_pos e]
  exact congrArg some (root_one e.choose_spec.1 h0 e.choose_spec.2 h1)
theorem rootR_none {p : Rat} (h : ∀ r : Rat, r * r ≠ p) : rootR p = none := by
  unfold rootR
  rw [dif_neg]
  rintro ⟨r, _, e⟩
  exact h r e
def onR (o : Option Rat) (Q : D → Prop) : Prop := match o with
  | some r => Q (rq r)
  | none => Q .non
theorem root_on {p : Rat} {Q : D → Prop} (h : onR (rootR p) Q) : (∀ r : Rat, 0 ≤ r → r * r = p → Q (rq r)) ∧ ((∀ r : Rat, r * r ≠ p) → Q .non) := by
  refine ⟨fun r h0 h1 => ?_, fun k => ?_⟩
  · rw [rootR_is h0 h1] at h
    exact h
  · rw [rootR_none k] at h
    exact h
def Sm0 (h : Rat) : Prop := Bi 15000 h.num ∧ Bi 15000 (h.den : Int)
/-- what spot_at tells -/
noncomputable def spotD (a b c d h : Rat) : D := match rootR h with
  | some r => .tup [.str "at", pt (a + c * r) (b + d * r)]
  | none => .tup [.str "root", pt a b, pt c d, rq h]
def SpotOk (a b c d h : Rat) : Prop := Sm0 h ∧ ∀ r, rootR h = some r → Ok2 c r ∧ Ok2 d r ∧ Ok2 a (c * r) ∧ Ok2 b (d * r)
def m_spot_at : DF := fun ds Q _ => ∃ a b c d h, ds = [pt a b, pt c d, rq h] ∧ SpotOk a b c d h ∧ Q (spotD a b c d h)
abbrev s_is_point : Stmt := topS 31
abbrev N_is_point : List Str := ["value"]
abbrev P_is_point : List Str := ["value"]
theorem sc_is_point : FnScope N_is_point P_is_point (defScope s_is_point) := ⟨rfl, rfl, rfl, by decide +kernel, rfl, by decide +kernel, by decide +kernel⟩

abbrev s_is_positive : Stmt := topS 40
abbrev N_is_positive : List Str := ["value"]
abbrev P_is_positive : List Str := ["value"]
theorem sc_is_positive : FnScope N_is_positive P_is_positive (defScope s_is_positive) := ⟨rfl, rfl, rfl, by decide +kernel, rfl, by decide +kernel, by decide +kernel⟩

abbrev s_is_side : Stmt := topS 41
abbrev N_is_side : List Str := ["value"]
abbrev P_is_side : List Str := ["value"]
theorem sc_is_side : FnScope N_is_side P_is_side (defScope s_is_side) := ⟨rfl, rfl, rfl, by decide +kernel, rfl, by decide +kernel, by decide +kernel⟩

abbrev s_check_point : Stmt := topS 42
abbrev N_check_point : List Str := ["value", "argument"]
abbrev P_check_point : List Str := ["value", "argument"]
theorem sc_check_point : FnScope N_check_point P_check_point (defScope s_check_point) := ⟨rfl, rfl, rfl, by decide +kernel, rfl, by decide +kernel, by decide +kernel⟩

abbrev s_check_positive : Stmt := topS 43
abbrev N_check_positive : List Str := ["value", "argument"]
abbrev P_check_positive : List Str := ["value", "argument"]
theorem sc_check_positive : FnScope N_check_positive P_check_positive (defScope s_check_positive) := ⟨rfl, rfl, rfl, by decide +kernel, rfl, by decide +kernel, by decide +kernel⟩

abbrev s_spot_at : Stmt := topS 44
abbrev N_spot_at : List Str := ["base", "lean", "under", "found"]
abbrev P_spot_at : List Str := ["base", "lean", "under"]
theorem sc_spot_at : FnScope N_spot_at P_spot_at (defScope s_spot_at) := ⟨rfl, rfl, rfl, by decide +kernel, rfl, by decide +kernel, by decide +kernel⟩

section
variable {P : Program} {w : World} {K : PySem.W.Frag} {mg : Str → Option Value} {base : Heap}
theorem ok_is_point (T : Txt K mg) : FnOk P w K mg base (L2N.CX P w) 3 T.dis_point.f T.dis_point.fd P_is_point (spD K 1 m_is_point) := by
  have G_is_ratio : FnOk P w K mg base (L2N.CX P w) 2 T.dis_ratio.f T.dis_ratio.fd P_is_ratio (spD K 1 m_is_ratio) := ok_is_ratio T
  refine T.dis_point.okD sc_is_point fun cdv A outer s H E so A0 hr tk hp => ⟨_, (pds_one (pds_ret (pd_and (pd_isi (by rfl) T.m_isinstance (pd_var (pv 0)) (pe_bltn (v := .ty "tuple") (by rfl) T.m_tuple bt_tuple rfl) tq_tuple) (pd_and (pd_cmp (oo_eq hr.units) ol_eq (pd_callB oo_len cl_len (by rfl) T.m_len bt_len (pda_cons (pd_var (pv 0)) pda_nil)) pd_int (nomark _)) (pd_and (pd_call G_is_ratio (hr.mono (by omega)) (by rfl) T.dis_ratio.g T.dis_ratio.F.kp T.dis_ratio.b (fun σ => L2N.passAt tk σ) (pda_cons (pd_ix ix_seq ol_ix (pd_var (pv 0)) pd_int (fun _ _ => rfl)) pda_nil)) (pd_one (pd_call G_is_ratio (hr.mono (by omega)) (by rfl) T.dis_ratio.g T.dis_ratio.F.kp T.dis_ratio.b (fun σ => L2N.passAt tk σ) (pda_cons (pd_ix ix_seq ol_ix (pd_var (pv 0)) pd_int (fun _ _ => rfl)) pda_nil)))))))), fun ds Q E hl h => ?_⟩
  match ds, hl with
  | [d], _ =>
    obtain ⟨⟨⟨p, _⟩, pl⟩, h⟩ := h
    walk_at "wk"
    refine ⟨p, ?_⟩
    rcases tup_cases d with ⟨hd, _⟩ | ⟨l, rfl, ht⟩
    · have hn : isPt d = false := by
        cases d <;> first | rfl | (rw [show isIn (.tup _) "tuple" = true from by show ("tuple" == "tuple") = true; decide +kernel] at hd; cases hd)
      rw [hd]
      walk_at "wk"
      rw [hn] at h
      exact h
    rw [ht]
    walk_at "wk"
    by_cases h2 : l.length = 2
    · obtain ⟨d1, d2, rfl⟩ : ∃ d1 d2, l = [d1, d2] := by
        match l, h2 with
        | [d1, d2], _ => exact ⟨d1, d2, rfl⟩
      have p1 := pl _ rfl d1 (by simp)
      have p2 := pl _ rfl d2 (by simp)
      walk_at "wk"
      simp only [m_is_ratio]
      have h : Q (.bl (isRat d1 && isRat d2)) := h
      cases w1 : isRat d1 with
      | false =>
        rw [w1] at h
        exact ⟨p1, h⟩
      | true =>
        rw [w1] at h
        exact ⟨p1, p2, h⟩
    · rw [pt_no h2] at h
      have e : ¬ ((l.length : Int) = 2) := by omega
      simp only [decide_eq_false e]
      exact h
theorem ok_is_positive (T : Txt K mg) : FnOk P w K mg base (L2N.CX P w) 3 T.dis_positive.f T.dis_positive.fd P_is_positive (spD K 1 m_is_positive) := by
  have G_is_ratio : FnOk P w K mg base (L2N.CX P w) 2 T.dis_ratio.f T.dis_ratio.fd P_is_ratio (spD K 1 m_is_ratio) := ok_is_ratio T
  refine T.dis_positive.okD sc_is_positive fun cdv A outer s H E so A0 hr tk hp => ⟨_, (pds_one (pds_ret (pd_and (pd_call G_is_ratio (hr.mono (by omega)) (by rfl) T.dis_ratio.g T.dis_ratio.F.kp T.dis_ratio.b (fun σ => L2N.passAt tk σ) (pda_cons (pd_var (pv 0)) pda_nil)) (pd_one (pd_cmp op_gt ol_gt (pd_ix ix_seq ol_ix (pd_var (pv 0)) pd_int (fun _ _ => rfl)) pd_int (nomark _)))))), fun ds Q E hl h => ?_⟩
  match ds, hl with
  | [d], _ =>
    obtain ⟨p, h⟩ := h
    walk_at "wk"
    refine ⟨p, ?_⟩
    unfold isPos at h
    cases w1 : isRat d with
    | false =>
      rw [w1] at h
      exact h
    | true =>
      rw [w1] at h
      obtain ⟨a, b, rfl, _⟩ := rat_shape w1
      simp only [ratD] at h ⊢
      walk_at "wk"
      exact h
theorem ok_is_side (T : Txt K mg) : FnOk P w K mg base (L2N.CX P w) 1 T.dis_side.f T.dis_side.fd P_is_side (spD K 1 m_is_side) := by
  refine T.dis_side.okD sc_is_side fun cdv A outer s H E so A0 hr tk hp => ⟨_, (pds_one (pds_ret (pd_and (pd_isi (by rfl) T.m_isinstance (pd_var (pv 0)) (pe_bltn (v := .ty "int") (by rfl) T.m_int bt_int rfl) tq_int) (pd_and (pd_not (pd_isi (by rfl) T.m_isinstance (pd_var (pv 0)) (pe_bltn (v := .ty "bool") (by rfl) T.m_bool bt_bool rfl) tq_bool)) (pd_one (pd_cmp (show OpR _ _ (rIn _ false) from op_in_seq) ol_in (pd_var (pv 0)) (pd_tup (pda_cons pd_int (pda_cons (pd_neg pd_int) pda_nil))) rfl)))))), fun ds Q E hl h => ?_⟩
  match ds, hl with
  | [d], _ =>
    obtain ⟨p, h⟩ := h
    walk_at "wk"
    refine ⟨p, ?_⟩
    cases hw : isW d with
    | true =>
      obtain ⟨i, rfl⟩ := isW_int hw
      walk_at "wk"
      refine ⟨_, .inl rfl, rfl, rfl, ?_⟩
      have e : inV (vD (.int i)) ([D.int 1, D.int (-1)].map vD) = isSd (.int i) := side_in i
      rw [e]
      exact h
    | false =>
      have hn : isSd d = false := by
        cases d <;> first | rfl | cases hw
      rw [hn] at h
      rw [← isW_eq] at hw
      split
      · rename_i c
        rw [c, Bool.true_and] at hw
        rw [if_neg (by rw [hw]; decide)]
        exact ⟨p, h⟩
      · exact h
theorem ok_check_point (T : Txt K mg) : FnOk P w K mg base (L2N.CX P w) 5 T.dcheck_point.f T.dcheck_point.fd P_check_point (spD K 2 (m_check_point T)) := by
  have I_WrongKind := ok_iWrongKind (P := P) (w := w) (base := base) T
  have G_is_point : FnOk P w K mg base (L2N.CX P w) 3 T.dis_point.f T.dis_point.fd P_is_point (spD K 1 m_is_point) := ok_is_point T
  refine T.dcheck_point.okD sc_check_point fun cdv A outer s H E so A0 hr tk hp => ⟨_, (pds_one (pds_if (pdt_not (pdt_tru (pd_call G_is_point (hr.mono (by omega)) (by rfl) T.dis_point.g T.dis_point.F.kp T.dis_point.b (fun σ => L2N.passAt tk σ) (pda_cons (pd_var (pv 0)) pda_nil))))
        (pds_one (pds_raise T.zWrongKind rfl tk T.iWrongKind.i T.iWrongKind.t I_WrongKind (hr.mono (by omega)) T.iWrongKind.b .nil (dd := []) (fun _ _ => rfl) rfl T.cWrongKind.g (pda_cons (pd_var (pv 1)) pda_nil)))
        pds_nil)), fun ds Q E hl h => ?_⟩
  unfold m_check_point at h
  split at h
  · rename_i d x
    obtain ⟨pl, h0, h1⟩ := h
    walk_at "dl"
    refine ⟨pl, ?_⟩
    cases hR : isPt d with
    | false =>
      walk_at "dl"
      exact ⟨by decide, h0 hR⟩
    | true =>
      walk_at "dl"
      exact h1 hR
  · exact h.elim
theorem ok_check_positive (T : Txt K mg) : FnOk P w K mg base (L2N.CX P w) 5 T.dcheck_positive.f T.dcheck_positive.fd P_check_positive (spD K 2 (m_check_positive T)) := by
  have I_WrongKind := ok_iWrongKind (P := P) (w := w) (base := base) T
  have G_is_positive : FnOk P w K mg base (L2N.CX P w) 3 T.dis_positive.f T.dis_positive.fd P_is_positive (spD K 1 m_is_positive) := ok_is_positive T
  refine T.dcheck_positive.okD sc_check_positive fun cdv A outer s H E so A0 hr tk hp => ⟨_, (pds_one (pds_if (pdt_not (pdt_tru (pd_call G_is_positive (hr.mono (by omega)) (by rfl) T.dis_positive.g T.dis_positive.F.kp T.dis_positive.b (fun σ => L2N.passAt tk σ) (pda_cons (pd_var (pv 0)) pda_nil))))
        (pds_one (pds_raise T.zWrongKind rfl tk T.iWrongKind.i T.iWrongKind.t I_WrongKind (hr.mono (by omega)) T.iWrongKind.b .nil (dd := []) (fun _ _ => rfl) rfl T.cWrongKind.g (pda_cons (pd_var (pv 1)) pda_nil)))
        pds_nil)), fun ds Q E hl h => ?_⟩
  unfold m_check_positive at h
  split at h
  · rename_i d x
    obtain ⟨pl, h0, h1⟩ := h
    walk_at "dl"
    refine ⟨pl, ?_⟩
    cases hR : isPos d with
    | false =>
      walk_at "dl"
      exact ⟨by decide, h0 hR⟩
    | true =>
      walk_at "dl"
      exact h1 hR
  · exact h.elim
theorem ok_spot_at (T : Txt K mg) : FnOk P w K mg base (L2N.CX P w) 8 T.dspot_at.f T.dspot_at.fd P_spot_at (spD K 3 m_spot_at) := by
  have G_root : FnOk P w K mg base (L2N.CX P w) 5 T.droot.f T.droot.fd P_root (spD K 1 m_root) := ok_root T
  have G_point_sum : FnOk P w K mg base (L2N.CX P w) 7 T.dpoint_sum.f T.dpoint_sum.fd P_point_sum (spD K 2 (m_p2 fun p q => p + q)) := ok_point_sum T
  have G_point_times : FnOk P w K mg base (L2N.CX P w) 7 T.dpoint_times.f T.dpoint_times.fd P_point_times (spD K 2 m_ptimes) := ok_point_times T
  refine T.dspot_at.okD sc_spot_at fun cdv A outer s H E so A0 hr tk hp => ⟨_, (pds_cons (pds_set (i := 3) sc_spot_at.nd rfl (by first | exact .inl rfl | exact .inr rfl) (pd_call G_root (hr.mono (by omega)) (by rfl) T.droot.g T.droot.F.kp T.droot.b (fun σ => L2N.passAt tk σ) (pda_cons (pd_var (pv 2)) pda_nil)))
      (pds_cons (pds_if (pdt_cmp o_isN ol_isN (pd_var (pv 3)) pd_non (nomark _))
        (pds_one (pds_ret (pd_tup (pda_cons pd_str (pda_cons (pd_var (pv 0)) (pda_cons (pd_var (pv 1)) (pda_cons (pd_var (pv 2)) pda_nil)))))))
        pds_nil)
      (pds_one (pds_ret (pd_tup (pda_cons pd_str (pda_cons (pd_call G_point_sum (hr.mono (by omega)) (by rfl) T.dpoint_sum.g T.dpoint_sum.F.kp T.dpoint_sum.b (fun σ => L2N.passAt tk σ) (pda_cons (pd_var (pv 0)) (pda_cons (pd_call G_point_times (hr.mono (by omega)) (by rfl) T.dpoint_times.g T.dpoint_times.F.kp T.dpoint_times.b (fun σ => L2N.passAt tk σ) (pda_cons (pd_var (pv 1)) (pda_cons (pd_var (pv 3)) pda_nil))) pda_nil))) pda_nil))))))), fun ds Q E hl h => ?_⟩
  obtain ⟨a, b, c, d, u, rfl, ⟨s0, sr⟩, q⟩ := h
  walk_at "wk"
  refine ⟨u, rfl, s0, ?_⟩
  unfold spotD at q
  cases e : rootR u with
  | none =>
    rw [e] at q
    refine ⟨fun r h0 h1 => ?_, fun _ => ?_⟩
    · rw [rootR_is h0 h1] at e
      cases e
    · walk_at "wk"
      exact q
  | some r =>
    rw [e] at q
    obtain ⟨o1, o2, o3, o4⟩ := sr r e
    refine ⟨fun r' h0 h1 => ?_, fun k => ?_⟩
    · have z := rootR_is h0 h1
      rw [e] at z
      cases z
      dsimp only [rq, ratD]
      rw [if_neg (by decide)]
      exact ⟨_, _, r, rfl, o1, o2, _, _, _, _, rfl, o3, o4, q⟩
    · rw [rootR_none k] at e
      cases e
end
end My
set_option exponentiation.threshold 100000
namespace My
open PySem PySem.Spec PyProof.Rows L2
local macro_rules | `(tactic| walk_at "dl") => `(tactic| simp only [startD, List.map_cons, List.map_nil, List.length_cons, List.length_nil, List.cons_append, List.nil_append, List.replicate_succ, List.replicate_zero, List.getElem?_cons_zero, List.getElem?_cons_succ, List.set_cons_zero, List.set_cons_succ,
  dVar, rdS, dC, dNew, dOp, onB, qB, dChain, qAnd, qOr, qNot, qTru, truD, dIf, dAnd, dOr, dNot, dUn, ddNeg, lNil, lCons, dTup, nLst, ddI, ddI0, ddAdd, isNonD, isBlD, ddIsN, ddIsB, ddIx_t0, ddIx_t1, ddIx_t2, ddIx_t3, ddIx_l0, ddIx_l1, ddIx_l2, dCB, ddLen, ddInt1, ddAbs, ddMM, ddTuple, nCB, nnList, ddIsi, dCall,
  sSkip, sSeq, sBreak, sCont, sExpr, sRet, sRetN, sIf, sNever, gdName, gdNil, gdCons, gdTup, sAsg, sSetN, sPar, sRaise, sFrz, owS, sApp, sIns, dLenO, dIxO, sTry, sFor, iL, iT, onL, onT, iR1, iR2, nComp, qYes,
  ddEq_ii, ddEq_ss, ddEq_bb, Bool.false_bne, Bool.true_bne, List.append_nil, true_and, and_true, if_true, if_false, Bool.not_true, Bool.not_false, Bool.true_eq_false, Bool.false_eq_true, ite_true, ite_false, id_eq])

local macro_rules | `(tactic| walk_at "is") => `(tactic| simp only [plain_non, isIn_non_int, isIn_non_str, isIn_non_bool, isIn_non_list, isIn_non_tuple, isIn_non_dict, plain_bl, isIn_bl_int, isIn_bl_str, isIn_bl_bool, isIn_bl_list, isIn_bl_tuple, isIn_bl_dict, plain_int, isIn_int_int, isIn_int_str, isIn_int_bool, isIn_int_list, isIn_int_tuple, isIn_int_dict, plain_str, isIn_str_int, isIn_str_str, isIn_str_bool, isIn_str_list, isIn_str_tuple, isIn_str_dict, plain_tup, isIn_tup_int, isIn_tup_str, isIn_tup_bool, isIn_tup_list, isIn_tup_tuple, isIn_tup_dict, plain_lst, isIn_lst_int, isIn_lst_str, isIn_lst_bool, isIn_lst_list, isIn_lst_tuple, isIn_lst_dict, sl0, sl1, sl2, sl3, sl4, decide_true, decide_false, ddIsi, ddIsi2, true_and, if_true, if_false, Bool.false_eq_true, Bool.not_true, Bool.not_false, Bool.or_true, Bool.or_false, Bool.true_or, and_true])
local macro_rules | `(tactic| walk_at "wk") => `(tactic| ((try walk_at "dl"); (try walk_at "is"); (try walk_at "dl")))

/-! ### meet -/
structure PtSz (x y : Rat) : Prop where
  x : Sz 14 14 x
  y : Sz 14 14 y
theorem sz1 : Sz 1 1 (1 : Rat) := ⟨by decide, by decide⟩
theorem sz2 : Sz 1 1 (2 : Rat) := ⟨by decide, by decide⟩
theorem pt_of {d : D} (h : isPt d = true) : ∃ x y, d = pt x y := by
  match d, h with
  | .tup [x, y], h =>
    have h : (isRat x && isRat y) = true := h
    rw [Bool.and_eq_true] at h
    obtain ⟨p, rfl⟩ := rq_of h.1
    obtain ⟨q, rfl⟩ := rq_of h.2
    exact ⟨p, q, rfl⟩
theorem ddEq_rat (n : Bool) (a b c d : Int) (Q : D → Prop) : ddEq n (ratD a b) (ratD c d) Q = Q (.bl (n != (decide (a = c) && decide (b = d)))) := by
  show ddEqP n (ratD a b) (ratD c d) Q = _
  unfold ddEqP
  have e1 : ∀ x y : Int, pyD (ratD x y) = some (.tuple [.int x, .int y]) := fun _ _ => rfl
  have s1 : ∀ x y : Int, SeqAt.shaped (.tuple [.int x, .int y]) = true := fun x y => by simp [SeqAt.shaped, PyData.canLay0, PyData.canLayAll0, PyData.depth, PyData.depthAll]
  have e3 : PyData.eqv (.tuple [.int a, .int b]) (.tuple [.int c, .int d]) = (decide (a = c) && decide (b = d)) := by
    simp [PyData.eqv, PyData.eqvAll]
    by_cases h1 : a = c <;> by_cases h2 : b = d <;> simp [h1, h2]
  rw [e1, e1]
  simp [s1, e3]
theorem ddEq_rq (n : Bool) (p q : Rat) (Q : D → Prop) : ddEq n (rq p) (rq q) Q = Q (.bl (n != decide (p = q))) := by
  rw [rq, rq, ddEq_rat]
  have e : (decide (p.num = q.num) && decide ((p.den : Int) = q.den)) = decide (p = q) := by
    rw [← Bool.decide_and]
    refine decide_eq_decide.mpr ⟨fun h => Rat.ext h.1 (by omega), fun h => by rw [h]; exact ⟨rfl, rfl⟩⟩
  rw [e]
/-- the ways of a side -/
def Wy (d : D) (σ : Rat) : Prop := (d = .int 1 ∧ σ = 1) ∨ (d = .int (-1) ∧ σ = -1)
def sqq (x y z w : Rat) : Rat := (z - x) * (z - x) + (w - y) * (w - y)
def alg (G F S : Rat) : Rat := (G + F - S) / (2 * G)
def hei (G F S : Rat) : Rat := F / G - alg G F S * alg G F S
/-- what meet tells -/
noncomputable def meetD (x y z w F S σ : Rat) : D :=
  if sqq x y z w = 0 then .tup [.str "same"]
  else if hei (sqq x y z w) F S < 0 then
    (if 0 < sqq x y z w - (F + S) then .tup [.str "far", rq (sqq x y z w)] else .tup [.str "near", rq (sqq x y z w)])
  else spotD (x + (z - x) * alg (sqq x y z w) F S) (y + (w - y) * alg (sqq x y z w) F S) (-(w - y) * σ) ((z - x) * σ) (hei (sqq x y z w) F S)
structure MeetSz (x y z w F S : Rat) : Prop where
  a : PtSz x y
  b : PtSz z w
  f : Sz 90 90 F
  s : Sz 90 90 S
  t : sqq x y z w ≠ 0 → Sz 80 80 (alg (sqq x y z w) F S)
  h : sqq x y z w ≠ 0 → Sz 160 160 (hei (sqq x y z w) F S)
section
variable {K : PySem.W.Frag} {mg : Str → Option Value} (T : Txt K mg)
def m_meet : DF := fun ds Q E => match ds with
  | [one, other, first, second, side] => Pl2 one ∧ (isPt one = false → E (wkX T "one")) ∧ (isPt one = true → Pl2 other ∧ (isPt other = false → E (wkX T "other")) ∧ (isPt other = true →
      Pl first ∧ (isPos first = false → E (wkX T "first")) ∧ (isPos first = true → Pl second ∧ (isPos second = false → E (wkX T "second")) ∧ (isPos second = true →
      plainD side = true ∧ (isSd side = false → E (wkX T "side")) ∧
      ∀ x y z w F S σ, one = pt x y → other = pt z w → first = rq F → second = rq S → Wy side σ → MeetSz x y z w F S ∧ Q (meetD x y z w F S σ)))))
  | _ => False
end
theorem sq_ge (a : Rat) : 0 ≤ a * a := by
  rcases Rat.nonneg_total a with z | z
  · exact Rat.mul_nonneg z z
  · have := Rat.mul_nonneg z z
    have e : -a * -a = a * a := by grind
    rwa [e] at this
theorem sd_of {d : D} (h : isSd d = true) : ∃ σ, Wy d σ := by
  cases d with
  | int i =>
    have h : (decide (i = 1) || decide (i = -1)) = true := h
    rw [Bool.or_eq_true, decide_eq_true_iff, decide_eq_true_iff] at h
    rcases h with rfl | rfl
    · exact ⟨1, .inl ⟨rfl, rfl⟩⟩
    · exact ⟨-1, .inr ⟨rfl, rfl⟩⟩
  | _ => cases h
theorem Wy.sz {d : D} {σ : Rat} (h : Wy d σ) : Sz 1 1 σ := by
  rcases h with ⟨_, rfl⟩ | ⟨_, rfl⟩
  · exact ⟨by decide, by decide⟩
  · exact ⟨by decide, by decide⟩
theorem Wy.d {d : D} {σ : Rat} (h : Wy d σ) : D.tup [d, .int 1] = rq σ := by
  rcases h with ⟨rfl, rfl⟩ | ⟨rfl, rfl⟩
  · rfl
  · rfl
theorem sg_lt (q : Rat) : (sg q < 0) = (q < 0) := by
  rcases sg_cases q with ⟨h, e⟩ | ⟨h, e⟩ | ⟨h, e⟩
  · rw [e]
    refine propext ⟨fun z => absurd z (by decide), fun z => absurd z (Rat.not_lt.mpr (Rat.le_of_lt h))⟩
  · rw [e]
    exact propext ⟨fun _ => h, fun _ => by decide⟩
  · rw [e, h]
    exact propext ⟨fun z => absurd z (by decide), fun z => absurd z Rat.lt_irrefl⟩
theorem sg_gt (q : Rat) : (0 < sg q) = (0 < q) := by
  rcases sg_cases q with ⟨h, e⟩ | ⟨h, e⟩ | ⟨h, e⟩
  · rw [e]
    exact propext ⟨fun _ => h, fun _ => by decide⟩
  · rw [e]
    refine propext ⟨fun z => absurd z (by decide), fun z => absurd z (Rat.not_lt.mpr (Rat.le_of_lt h))⟩
  · rw [e, h]
    exact propext ⟨fun z => absurd z (by decide), fun z => absurd z Rat.lt_irrefl⟩
theorem Sz.half' {n m : Nat} {p r : Rat} (e : r * r = p) (h : Sz (2 * n) (2 * m) p) : Sz n m r := by
  rw [← e] at h
  exact Sz.half (sq_num r).1 (sq_num r).2 h
theorem Sz.sm0 {n m : Nat} {q : Rat} (h : Sz n m q) (l : n ≤ 3750 ∧ m ≤ 3750) : Sm0 q := by
  refine ⟨Nat.lt_of_lt_of_le h.n (Nat.le_trans (ten_two n) (Nat.pow_le_pow_right (by decide) (by omega))), ?_⟩
  unfold Bi
  rw [Int.natAbs_natCast]
  exact Nat.lt_of_lt_of_le h.m (Nat.le_trans (ten_two m) (Nat.pow_le_pow_right (by decide) (by omega)))
theorem dv_ok {n m n' m' : Nat} {p q : Rat} (h : Sz n m p) (k : Sz n' m' q) (l : n ≤ 1000 ∧ m ≤ 1000 ∧ n' ≤ 1000 ∧ m' ≤ 1000) : (Sm1 p ∧ Sm1 q ∧ (p.den * q.num.natAbs).log2 < 9000) := ⟨h.sm (by omega), k.sm (by omega), log_lt (nat_lt_mul h.m k.n) (by omega)⟩
theorem two_ne {G : Rat} (h : G ≠ 0) : 2 * G ≠ 0 := fun z => by
  rcases Rat.mul_eq_zero.mp z with e | e
  · exact absurd e (by decide)
  · exact h e
abbrev s_meet : Stmt := topS 45
abbrev N_meet : List Str := ["one", "other", "first", "second", "side", "gap", "squared_gap", "along", "height", "base"]
abbrev P_meet : List Str := ["one", "other", "first", "second", "side"]
theorem sc_meet : FnScope N_meet P_meet (defScope s_meet) := ⟨rfl, rfl, rfl, by decide +kernel, rfl, by decide +kernel, by decide +kernel⟩

section
variable {P : Program} {w : World} {K : PySem.W.Frag} {mg : Str → Option Value} {base : Heap}
theorem ok_meet (T : Txt K mg) : FnOk P w K mg base (L2N.CX P w) 9 T.dmeet.f T.dmeet.fd P_meet (spD K 5 (m_meet T)) := by
  have I_WrongKind := ok_iWrongKind (P := P) (w := w) (base := base) T
  have G_check_point : FnOk P w K mg base (L2N.CX P w) 5 T.dcheck_point.f T.dcheck_point.fd P_check_point (spD K 2 (m_check_point T)) := ok_check_point T
  have G_check_positive : FnOk P w K mg base (L2N.CX P w) 5 T.dcheck_positive.f T.dcheck_positive.fd P_check_positive (spD K 2 (m_check_positive T)) := ok_check_positive T
  have G_is_side : FnOk P w K mg base (L2N.CX P w) 1 T.dis_side.f T.dis_side.fd P_is_side (spD K 1 m_is_side) := ok_is_side T
  have G_spot_at : FnOk P w K mg base (L2N.CX P w) 8 T.dspot_at.f T.dspot_at.fd P_spot_at (spD K 3 m_spot_at) := ok_spot_at T
  have G_point_gap : FnOk P w K mg base (L2N.CX P w) 7 T.dpoint_gap.f T.dpoint_gap.fd P_point_gap (spD K 2 (m_p2 fun p q => p - q)) := ok_point_gap T
  have G_point_sum : FnOk P w K mg base (L2N.CX P w) 7 T.dpoint_sum.f T.dpoint_sum.fd P_point_sum (spD K 2 (m_p2 fun p q => p + q)) := ok_point_sum T
  have G_point_times : FnOk P w K mg base (L2N.CX P w) 7 T.dpoint_times.f T.dpoint_times.fd P_point_times (spD K 2 m_ptimes) := ok_point_times T
  have G_left_turn : FnOk P w K mg base (L2N.CX P w) 6 T.dleft_turn.f T.dleft_turn.fd P_left_turn (spD K 1 m_left) := ok_left_turn T
  have G_point_square : FnOk P w K mg base (L2N.CX P w) 8 T.dpoint_square.f T.dpoint_square.fd P_point_square (spD K 1 m_psq) := ok_point_square T
  have G_add : FnOk P w K mg base (L2N.CX P w) 6 T.dadd.f T.dadd.fd P_add (spD K 2 (m_r2 fun p q => p + q)) := ok_add T
  have G_subtract : FnOk P w K mg base (L2N.CX P w) 6 T.dsubtract.f T.dsubtract.fd P_subtract (spD K 2 (m_r2 fun p q => p - q)) := ok_subtract T
  have G_multiply : FnOk P w K mg base (L2N.CX P w) 6 T.dmultiply.f T.dmultiply.fd P_multiply (spD K 2 (m_r2 fun p q => p * q)) := ok_multiply T
  have G_divide : FnOk P w K mg base (L2N.CX P w) 6 T.ddivide.f T.ddivide.fd P_divide (spD K 2 m_div) := ok_divide T
  have G_sign : FnOk P w K mg base (L2N.CX P w) 5 T.dsign.f T.dsign.fd P_sign (spD K 1 m_sign1) := ok_sign T
  have G_compare : FnOk P w K mg base (L2N.CX P w) 6 T.dcompare.f T.dcompare.fd P_compare (spD K 2 m_cmp2) := ok_compare T
  refine T.dmeet.okD sc_meet fun cdv A outer s H E so A0 hr tk hp => ⟨_, (pds_cons (pds_expr (pd_call G_check_point (hr.mono (by omega)) (by rfl) T.dcheck_point.g T.dcheck_point.F.kp T.dcheck_point.b (fun σ => L2N.passAt tk σ) (pda_cons (pd_var (pv 0)) (pda_cons pd_str pda_nil))))
      (pds_cons (pds_expr (pd_call G_check_point (hr.mono (by omega)) (by rfl) T.dcheck_point.g T.dcheck_point.F.kp T.dcheck_point.b (fun σ => L2N.passAt tk σ) (pda_cons (pd_var (pv 1)) (pda_cons pd_str pda_nil))))
      (pds_cons (pds_expr (pd_call G_check_positive (hr.mono (by omega)) (by rfl) T.dcheck_positive.g T.dcheck_positive.F.kp T.dcheck_positive.b (fun σ => L2N.passAt tk σ) (pda_cons (pd_var (pv 2)) (pda_cons pd_str pda_nil))))
      (pds_cons (pds_expr (pd_call G_check_positive (hr.mono (by omega)) (by rfl) T.dcheck_positive.g T.dcheck_positive.F.kp T.dcheck_positive.b (fun σ => L2N.passAt tk σ) (pda_cons (pd_var (pv 3)) (pda_cons pd_str pda_nil))))
      (pds_cons (pds_if (pdt_not (pdt_tru (pd_call G_is_side (hr.mono (by omega)) (by rfl) T.dis_side.g T.dis_side.F.kp T.dis_side.b (fun σ => L2N.passAt tk σ) (pda_cons (pd_var (pv 4)) pda_nil))))
        (pds_one (pds_raise T.zWrongKind rfl tk T.iWrongKind.i T.iWrongKind.t I_WrongKind (hr.mono (by omega)) T.iWrongKind.b .nil (dd := []) (fun _ _ => rfl) rfl T.cWrongKind.g (pda_cons pd_str pda_nil)))
        pds_nil)
      (pds_cons (pds_set (i := 5) sc_meet.nd rfl (by first | exact .inl rfl | exact .inr rfl) (pd_call G_point_gap (hr.mono (by omega)) (by rfl) T.dpoint_gap.g T.dpoint_gap.F.kp T.dpoint_gap.b (fun σ => L2N.passAt tk σ) (pda_cons (pd_var (pv 1)) (pda_cons (pd_var (pv 0)) pda_nil))))
      (pds_cons (pds_set (i := 6) sc_meet.nd rfl (by first | exact .inl rfl | exact .inr rfl) (pd_call G_point_square (hr.mono (by omega)) (by rfl) T.dpoint_square.g T.dpoint_square.F.kp T.dpoint_square.b (fun σ => L2N.passAt tk σ) (pda_cons (pd_var (pv 5)) pda_nil)))
      (pds_cons (pds_if (pdt_cmp (oo_eq hr.units) ol_eq (pd_var (pv 6)) (pd_c (v := .ref T.aZERO_RATIO) (pe_glob rfl T.kZERO_RATIO rfl) T.vZERO_RATIO) (nomark _))
        (pds_one (pds_ret (pd_tup (pda_cons pd_str pda_nil))))
        pds_nil)
      (pds_cons (pds_set (i := 7) sc_meet.nd rfl (by first | exact .inl rfl | exact .inr rfl) (pd_call G_divide (hr.mono (by omega)) (by rfl) T.ddivide.g T.ddivide.F.kp T.ddivide.b (fun σ => L2N.passAt tk σ) (pda_cons (pd_call G_subtract (hr.mono (by omega)) (by rfl) T.dsubtract.g T.dsubtract.F.kp T.dsubtract.b (fun σ => L2N.passAt tk σ) (pda_cons (pd_call G_add (hr.mono (by omega)) (by rfl) T.dadd.g T.dadd.F.kp T.dadd.b (fun σ => L2N.passAt tk σ) (pda_cons (pd_var (pv 6)) (pda_cons (pd_var (pv 2)) pda_nil))) (pda_cons (pd_var (pv 3)) pda_nil))) (pda_cons (pd_call G_multiply (hr.mono (by omega)) (by rfl) T.dmultiply.g T.dmultiply.F.kp T.dmultiply.b (fun σ => L2N.passAt tk σ) (pda_cons (pd_tup (pda_cons pd_int (pda_cons pd_int pda_nil))) (pda_cons (pd_var (pv 6)) pda_nil))) pda_nil))))
      (pds_cons (pds_set (i := 8) sc_meet.nd rfl (by first | exact .inl rfl | exact .inr rfl) (pd_call G_subtract (hr.mono (by omega)) (by rfl) T.dsubtract.g T.dsubtract.F.kp T.dsubtract.b (fun σ => L2N.passAt tk σ) (pda_cons (pd_call G_divide (hr.mono (by omega)) (by rfl) T.ddivide.g T.ddivide.F.kp T.ddivide.b (fun σ => L2N.passAt tk σ) (pda_cons (pd_var (pv 2)) (pda_cons (pd_var (pv 6)) pda_nil))) (pda_cons (pd_call G_multiply (hr.mono (by omega)) (by rfl) T.dmultiply.g T.dmultiply.F.kp T.dmultiply.b (fun σ => L2N.passAt tk σ) (pda_cons (pd_var (pv 7)) (pda_cons (pd_var (pv 7)) pda_nil))) pda_nil))))
      (pds_cons (pds_if (pdt_cmp op_lt ol_lt (pd_call G_sign (hr.mono (by omega)) (by rfl) T.dsign.g T.dsign.F.kp T.dsign.b (fun σ => L2N.passAt tk σ) (pda_cons (pd_var (pv 8)) pda_nil)) pd_int (nomark _))
        (pds_cons (pds_if (pdt_cmp op_gt ol_gt (pd_call G_compare (hr.mono (by omega)) (by rfl) T.dcompare.g T.dcompare.F.kp T.dcompare.b (fun σ => L2N.passAt tk σ) (pda_cons (pd_var (pv 6)) (pda_cons (pd_call G_add (hr.mono (by omega)) (by rfl) T.dadd.g T.dadd.F.kp T.dadd.b (fun σ => L2N.passAt tk σ) (pda_cons (pd_var (pv 2)) (pda_cons (pd_var (pv 3)) pda_nil))) pda_nil))) pd_int (nomark _))
          (pds_one (pds_ret (pd_tup (pda_cons pd_str (pda_cons (pd_var (pv 6)) pda_nil)))))
          pds_nil)
        (pds_one (pds_ret (pd_tup (pda_cons pd_str (pda_cons (pd_var (pv 6)) pda_nil))))))
        pds_nil)
      (pds_cons (pds_set (i := 9) sc_meet.nd rfl (by first | exact .inl rfl | exact .inr rfl) (pd_call G_point_sum (hr.mono (by omega)) (by rfl) T.dpoint_sum.g T.dpoint_sum.F.kp T.dpoint_sum.b (fun σ => L2N.passAt tk σ) (pda_cons (pd_var (pv 0)) (pda_cons (pd_call G_point_times (hr.mono (by omega)) (by rfl) T.dpoint_times.g T.dpoint_times.F.kp T.dpoint_times.b (fun σ => L2N.passAt tk σ) (pda_cons (pd_var (pv 5)) (pda_cons (pd_var (pv 7)) pda_nil))) pda_nil))))
      (pds_one (pds_ret (pd_call G_spot_at (hr.mono (by omega)) (by rfl) T.dspot_at.g T.dspot_at.F.kp T.dspot_at.b (fun σ => L2N.passAt tk σ) (pda_cons (pd_var (pv 9)) (pda_cons (pd_call G_point_times (hr.mono (by omega)) (by rfl) T.dpoint_times.g T.dpoint_times.F.kp T.dpoint_times.b (fun σ => L2N.passAt tk σ) (pda_cons (pd_call G_left_turn (hr.mono (by omega)) (by rfl) T.dleft_turn.g T.dleft_turn.F.kp T.dleft_turn.b (fun σ => L2N.passAt tk σ) (pda_cons (pd_var (pv 5)) pda_nil)) (pda_cons (pd_tup (pda_cons (pd_var (pv 4)) (pda_cons pd_int pda_nil))) pda_nil))) (pda_cons (pd_var (pv 8)) pda_nil)))))))))))))))))), fun ds Q E hl h => ?_⟩
  match ds, hl with
  | [one, other, first, second, side], _ =>
    obtain ⟨p1, h0, h1⟩ := h
    walk_at "wk"
    refine ⟨p1, h0, fun ho => ?_⟩
    obtain ⟨p2, k0, k1⟩ := h1 ho
    refine ⟨p2, k0, fun hz => ?_⟩
    obtain ⟨p3, j0, j1⟩ := k1 hz
    refine ⟨p3, j0, fun hf => ?_⟩
    obtain ⟨p4, l0, l1⟩ := j1 hf
    refine ⟨p4, l0, fun hs => ?_⟩
    obtain ⟨p5, n0, n1⟩ := l1 hs
    refine ⟨p5, ?_⟩
    cases hw : isSd side with
    | false =>
      walk_at "wk"
      exact ⟨by decide, n0 hw⟩
    | true =>
    obtain ⟨x, y, rfl⟩ := pt_of ho
    obtain ⟨z, v, rfl⟩ := pt_of hz
    obtain ⟨F, rfl⟩ := rq_of (show isRat first = true from by unfold isPos at hf; rw [Bool.and_eq_true] at hf; exact hf.1)
    obtain ⟨S, rfl⟩ := rq_of (show isRat second = true from by unfold isPos at hs; rw [Bool.and_eq_true] at hs; exact hs.1)
    obtain ⟨σ, wy⟩ := sd_of hw
    obtain ⟨sz, q⟩ := n1 x y z v F S σ rfl rfl rfl rfl wy
    walk_at "wk"
    have g1 := sz.b.x.sub sz.a.x
    have g2 := sz.b.y.sub sz.a.y
    have q1 := g1.mul g1
    have q2 := g2.mul g2
    have GG := q1.add q2
    refine ⟨_, _, _, _, rfl, sz.b.x.ok sz.a.x (by decide), sz.b.y.ok sz.a.y (by decide), _, _, rfl, g1.ok g1 (by decide), g2.ok g2 (by decide), q1.ok q2 (by decide), ?_⟩
    have e0 : D.tup [.int 0, .int 1] = rq 0 := rfl
    unfold meetD at q
    change Sz _ _ (sqq x y z v) at GG
    have e1 : (z - x) * (z - x) + (v - y) * (v - y) = sqq x y z v := rfl
    dsimp only
    rw [e1, e0, ddEq_rq]
    have st := sz.t
    have sh := sz.h
    generalize sqq x y z v = G at *
    by_cases c : G = 0
    · rw [decide_eq_true c]
      rw [if_pos c] at q
      walk_at "wk"
      exact q
    rw [decide_eq_false c]
    rw [if_neg c] at q
    have st := st c
    have sh := sh c
    walk_at "wk"
    have GF := GG.add sz.f
    have GFS := GF.sub sz.s
    have G2 := sz2.mul GG
    have FG := sz.f.div GG c
    have tt := st.mul st
    refine ⟨G, F, rfl, GG.ok sz.f (by decide), _, S, rfl, GF.ok sz.s (by decide), 2, G, rfl, sz2.ok GG (by decide), _, _, rfl, dv_ok GFS G2 (by decide), two_ne c, F, G, rfl, dv_ok sz.f GG (by decide), c, alg G F S, alg G F S, rfl, st.ok st (by decide), _, _, rfl, FG.ok tt (by decide), hei G F S, rfl, ?_⟩
    simp only [sg_lt]
    by_cases c2 : hei G F S < 0
    · rw [decide_eq_true c2]
      rw [if_pos c2] at q
      walk_at "wk"
      refine ⟨F, S, rfl, sz.f.ok sz.s (by decide), G, _, rfl, GG.ok (sz.f.add sz.s) (by decide), ?_⟩
      simp only [sg_gt]
      by_cases c3 : 0 < G - (F + S)
      · rw [decide_eq_true c3]
        rw [if_pos c3] at q
        walk_at "wk"
        exact q
      · rw [decide_eq_false c3]
        rw [if_neg c3] at q
        walk_at "wk"
        exact q
    · rw [decide_eq_false c2]
      rw [if_neg c2] at q
      walk_at "wk"
      have b1 := g1.mul st
      have b2 := g2.mul st
      have B1 := sz.a.x.add b1
      have B2 := sz.a.y.add b2
      have sw := wy.sz
      have L1 := g2.neg.mul sw
      have L2 := g1.mul sw
      rw [wy.d]
      refine ⟨_, _, alg G F S, rfl, g1.ok st (by decide), g2.ok st (by decide), _, _, _, _, rfl, sz.a.x.ok b1 (by decide), sz.a.y.ok b2 (by decide), _, _, rfl, _, _, σ, rfl, g2.neg.ok sw (by decide), g1.ok sw (by decide), _, _, _, _, hei G F S, rfl, ⟨sh.sm0 (by decide), fun r er => ?_⟩, q⟩
      have sr : Sz 80 80 r := Sz.half' (rootR_some er).2 sh
      exact ⟨L1.ok sr (by decide), L2.ok sr (by decide), B1.ok (L1.mul sr) (by decide), B2.ok (L2.mul sr) (by decide)⟩
end
end My
set_option exponentiation.threshold 100000
namespace My
open PySem PySem.Spec PyProof.Rows L2
local macro_rules | `(tactic| walk_at "dl") => `(tactic| simp only [startD, List.map_cons, List.map_nil, List.length_cons, List.length_nil, List.cons_append, List.nil_append, List.replicate_succ, List.replicate_zero, List.getElem?_cons_zero, List.getElem?_cons_succ, List.set_cons_zero, List.set_cons_succ,
  dVar, rdS, dC, dNew, dOp, onB, qB, dChain, qAnd, qOr, qNot, qTru, truD, dIf, dAnd, dOr, dNot, dUn, ddNeg, lNil, lCons, dTup, nLst, ddI, ddI0, ddAdd, isNonD, isBlD, ddIsN, ddIsB, ddIx_t0, ddIx_t1, ddIx_t2, ddIx_t3, ddIx_l0, ddIx_l1, ddIx_l2, dCB, ddLen, ddInt1, ddAbs, ddMM, ddTuple, nCB, nnList, ddIsi, dCall,
  sSkip, sSeq, sBreak, sCont, sExpr, sRet, sRetN, sIf, sNever, gdName, gdNil, gdCons, gdTup, sAsg, sSetN, sPar, sRaise, sFrz, owS, sApp, sIns, dLenO, dIxO, sTry, sFor, iL, iT, onL, onT, iR1, iR2, nComp, qYes,
  ddEq_ii, ddEq_ss, ddEq_bb, Bool.false_bne, Bool.true_bne, List.append_nil, true_and, and_true, if_true, if_false, Bool.not_true, Bool.not_false, Bool.true_eq_false, Bool.false_eq_true, ite_true, ite_false, id_eq])

local macro_rules | `(tactic| walk_at "is") => `(tactic| simp only [plain_non, isIn_non_int, isIn_non_str, isIn_non_bool, isIn_non_list, isIn_non_tuple, isIn_non_dict, plain_bl, isIn_bl_int, isIn_bl_str, isIn_bl_bool, isIn_bl_list, isIn_bl_tuple, isIn_bl_dict, plain_int, isIn_int_int, isIn_int_str, isIn_int_bool, isIn_int_list, isIn_int_tuple, isIn_int_dict, plain_str, isIn_str_int, isIn_str_str, isIn_str_bool, isIn_str_list, isIn_str_tuple, isIn_str_dict, plain_tup, isIn_tup_int, isIn_tup_str, isIn_tup_bool, isIn_tup_list, isIn_tup_tuple, isIn_tup_dict, plain_lst, isIn_lst_int, isIn_lst_str, isIn_lst_bool, isIn_lst_list, isIn_lst_tuple, isIn_lst_dict, sl0, sl1, sl2, sl3, sl4, decide_true, decide_false, ddIsi, ddIsi2, true_and, if_true, if_false, Bool.false_eq_true, Bool.not_true, Bool.not_false, Bool.or_true, Bool.or_false, Bool.true_or, and_true])
local macro_rules | `(tactic| walk_at "wk") => `(tactic| ((try walk_at "dl"); (try walk_at "is"); (try walk_at "dl")))

/-! ### ratios with a known denominator -/
/-- q is i / D with |i| at most n -/
def Cd (D n : Nat) (q : Rat) : Prop := ∃ i : Int, q * (D : Rat) = (i : Rat) ∧ i.natAbs ≤ n
theorem Cd.add {D n m : Nat} {p q : Rat} (h : Cd D n p) (k : Cd D m q) : Cd D (n + m) (p + q) := by
  obtain ⟨i, e1, l1⟩ := h
  obtain ⟨j, e2, l2⟩ := k
  refine ⟨i + j, ?_, by omega⟩
  rw [Rat.intCast_add, Rat.add_mul, e1, e2]
theorem Cd.neg {D n : Nat} {p : Rat} (h : Cd D n p) : Cd D n (-p) := by
  obtain ⟨i, e1, l1⟩ := h
  refine ⟨-i, ?_, by omega⟩
  rw [Rat.intCast_neg, Rat.neg_mul, e1]
theorem Cd.sub {D n m : Nat} {p q : Rat} (h : Cd D n p) (k : Cd D m q) : Cd D (n + m) (p - q) := by
  rw [Rat.sub_eq_add_neg]
  exact h.add k.neg
theorem Cd.mul {D E n m : Nat} {p q : Rat} (h : Cd D n p) (k : Cd E m q) : Cd (D * E) (n * m) (p * q) := by
  obtain ⟨i, e1, l1⟩ := h
  obtain ⟨j, e2, l2⟩ := k
  refine ⟨i * j, ?_, ?_⟩
  · rw [Rat.intCast_mul, Rat.natCast_mul, ← e1, ← e2]
    grind
  · rw [Int.natAbs_mul]
    exact Nat.mul_le_mul l1 l2
theorem Cd.up {D n : Nat} {p : Rat} (h : Cd D n p) (k m : Nat) (l : n * k ≤ m) : Cd (D * k) m p := by
  obtain ⟨i, e1, l1⟩ := h
  refine ⟨i * k, ?_, ?_⟩
  · rw [Rat.intCast_mul, Rat.natCast_mul, ← Rat.mul_assoc, e1]
    rfl
  · rw [Int.natAbs_mul, Int.natAbs_natCast]
    exact Nat.le_trans (Nat.mul_le_mul_right _ l1) l
theorem Cd.le {D n m : Nat} {p : Rat} (h : Cd D n p) (l : n ≤ m) : Cd D m p := by
  obtain ⟨i, e1, l1⟩ := h
  exact ⟨i, e1, by omega⟩
theorem Cd.sz {D n a b : Nat} {q : Rat} (h : Cd D n q) (l : D ≠ 0 ∧ n < 10 ^ a ∧ D < 10 ^ b) : Sz a b q := by
  obtain ⟨i, e1, l1⟩ := h
  have e : q = Rat.divInt i D := by
    have d0 : ((D : Nat) : Rat) ≠ 0 := fun z => l.1 (by
      have : ((D : Nat) : Rat) = ((0 : Nat) : Rat) := z
      exact Rat.natCast_inj.mp this)
    rw [Rat.divInt_eq_div, ← e1]
    show q = q * (D : Rat) / ((D : Int) : Rat)
    rw [Rat.intCast_natCast]
    grind
  rw [e]
  exact sz_div (by omega) (by rw [Int.natAbs_natCast]; exact l.2.2) (by omega)
theorem cd_div (i : Int) (d c n : Nat) (h : d ≠ 0) (l : i.natAbs * c ≤ n) : Cd (d * c) n (Rat.divInt i d) := by
  refine ⟨i * c, ?_, by rw [Int.natAbs_mul, Int.natAbs_natCast]; exact l⟩
  have d0 : ((d : Nat) : Rat) ≠ 0 := fun z => h (by
    have : ((d : Nat) : Rat) = ((0 : Nat) : Rat) := z
    exact Rat.natCast_inj.mp this)
  rw [Rat.divInt_eq_div, Rat.intCast_mul, Rat.natCast_mul, Rat.intCast_natCast, Rat.intCast_natCast]
  grind
def m_small : DF := fun ds Q _ => match ds with
  | [.sto] => ∀ q, Cd 6 24 q → Q (rq q)
  | _ => False
def m_positive : DF := fun ds Q _ => match ds with
  | [.sto] => ∀ q, Cd 6 36 q → 0 < q → Q (rq q)
  | _ => False
def m_point : DF := fun ds Q _ => match ds with
  | [.sto] => ∀ x y, Cd 6 24 x → Cd 6 24 y → Q (pt x y)
  | _ => False
theorem low_at (a b : Int) (Q : D → Prop) (hb : b ≠ 0) (hz : b.natAbs.log2 < 9000) (h : Q (rq (Rat.divInt a b))) (E : XD → Prop) : m_low [.int a, .int b] Q E := by
  refine ⟨hz, ?_⟩
  rw [if_neg hb, low_div_rq hb]
  exact h
theorem pos_div {a b : Int} (h : 0 < a) (k : 0 < b) : 0 < Rat.divInt a b := by
  rcases sg_cases (Rat.divInt a b) with ⟨c, _⟩ | ⟨_, c⟩ | ⟨_, c⟩
  · exact c
  · rw [sg_div k, show sgn a = 1 from if_pos h] at c
    exact absurd c (by decide)
  · rw [sg_div k, show sgn a = 1 from if_pos h] at c
    exact absurd c (by decide)
abbrev s_small : Stmt := topS 68
abbrev N_small : List Str := ["store", "up"]
abbrev P_small : List Str := ["store"]
theorem sc_small : FnScope N_small P_small (defScope s_small) := ⟨rfl, rfl, rfl, by decide +kernel, rfl, by decide +kernel, by decide +kernel⟩

abbrev s_positive : Stmt := topS 69
abbrev N_positive : List Str := ["store"]
abbrev P_positive : List Str := ["store"]
theorem sc_positive : FnScope N_positive P_positive (defScope s_positive) := ⟨rfl, rfl, rfl, by decide +kernel, rfl, by decide +kernel, by decide +kernel⟩

abbrev s_point : Stmt := topS 71
abbrev N_point : List Str := ["store"]
abbrev P_point : List Str := ["store"]
theorem sc_point : FnScope N_point P_point (defScope s_point) := ⟨rfl, rfl, rfl, by decide +kernel, rfl, by decide +kernel, by decide +kernel⟩

section
variable {P : Program} {w : World} {K : PySem.W.Frag} {mg : Str → Option Value} {base : Heap}
theorem ok_small (T : Txt K mg) : FnOk P w K mg base (L2N.CX P w) 174 T.dsmall.f T.dsmall.fd P_small (spD K 1 m_small) := by
  have G_take : FnOk P w K mg base (L2N.CX P w) 171 T.dtake.f T.dtake.fd P_take (spD K 2 m_take) := ok_takeD T
  have G_between : FnOk P w K mg base (L2N.CX P w) 173 T.dbetween.f T.dbetween.fd P_between (spD K 3 m_between) := ok_betweenD T
  have G_low : FnOk P w K mg base (L2N.CX P w) 1 T.dlow.f T.dlow.fd P_low (spD K 2 m_low) := ok_low T
  refine T.dsmall.okD sc_small fun cdv A outer s H E so A0 hr tk hp => ⟨_, (pds_cons (pds_set (i := 1) sc_small.nd rfl (by first | exact .inl rfl | exact .inr rfl) (pd_op op_sub ol_sub (pd_call G_between (hr.mono (by omega)) (by rfl) T.dbetween.g T.dbetween.F.kp T.dbetween.b (fun σ => L2N.passAt tk σ) (pda_cons (pd_var (pv 0)) (pda_cons pd_int (pda_cons pd_int pda_nil)))) pd_int))
      (pds_cons (pds_if (pdt_cmp (oo_eq hr.units) ol_eq (pd_call G_take (hr.mono (by omega)) (by rfl) T.dtake.g T.dtake.F.kp T.dtake.b (fun σ => L2N.passAt tk σ) (pda_cons (pd_var (pv 0)) (pda_cons pd_int pda_nil))) pd_int (nomark _))
        (pds_one (pds_set (i := 1) sc_small.nd rfl (by first | exact .inl rfl | exact .inr rfl) pd_int))
        pds_nil)
      (pds_one (pds_ret (pd_call G_low (hr.mono (by omega)) (by rfl) T.dlow.g T.dlow.F.kp T.dlow.b (fun σ => L2N.passAt tk σ) (pda_cons (pd_var (pv 1)) (pda_cons (pd_ix ix_seq ol_ix (pd_new (pdn_lst (pda_cons pd_int (pda_cons pd_int (pda_cons pd_int (pda_cons pd_int pda_nil)))))) (pd_call G_take (hr.mono (by omega)) (by rfl) T.dtake.g T.dtake.F.kp T.dtake.b (fun σ => L2N.passAt tk σ) (pda_cons (pd_var (pv 0)) (pda_cons pd_int pda_nil))) (fun _ _ => rfl)) pda_nil))))))), fun ds Q E hl h => ?_⟩
  unfold m_small at h
  split at h
  · walk_at "wk"
    refine ⟨by decide, by decide, fun up u0 u1 => ?_⟩
    have last : ∀ up : Int, up.natAbs ≤ 4 → m_take [.sto, .int 4] (fun d_1 => ddIx (.lst [.int 1, .int 1, .int 2, .int 3]) d_1 fun d_2 => m_low [.int up, d_2] Q E) E := fun up lu => by
      refine ⟨by decide, fun i i0 i1 => ddIx_any i0 (by show i < 4; omega) fun d hd => ?_⟩
      simp only [List.mem_cons, List.not_mem_nil, or_false] at hd
      rcases hd with rfl | rfl | rfl | rfl
      · exact low_at _ _ _ (by decide) (by decide) (h _ (cd_div up 1 6 24 (by decide) (by omega))) E
      · exact low_at _ _ _ (by decide) (by decide) (h _ (cd_div up 1 6 24 (by decide) (by omega))) E
      · exact low_at _ _ _ (by decide) (by decide) (h _ (cd_div up 2 3 24 (by decide) (by omega))) E
      · exact low_at _ _ _ (by decide) (by decide) (h _ (cd_div up 3 2 24 (by decide) (by omega))) E
    refine ⟨by decide, fun r r0 r1 => ?_⟩
    walk_at "wk"
    by_cases z : r = 0
    · simp only [decide_eq_true z]
      walk_at "wk"
      exact last 0 (by decide)
    · simp only [decide_eq_false z]
      walk_at "wk"
      exact last (up - 4) (by omega)
  · exact h.elim
theorem ok_positive (T : Txt K mg) : FnOk P w K mg base (L2N.CX P w) 174 T.dpositive.f T.dpositive.fd P_positive (spD K 1 m_positive) := by
  have G_take : FnOk P w K mg base (L2N.CX P w) 171 T.dtake.f T.dtake.fd P_take (spD K 2 m_take) := ok_takeD T
  have G_between : FnOk P w K mg base (L2N.CX P w) 173 T.dbetween.f T.dbetween.fd P_between (spD K 3 m_between) := ok_betweenD T
  have G_low : FnOk P w K mg base (L2N.CX P w) 1 T.dlow.f T.dlow.fd P_low (spD K 2 m_low) := ok_low T
  refine T.dpositive.okD sc_positive fun cdv A outer s H E so A0 hr tk hp => ⟨_, (pds_one (pds_ret (pd_call G_low (hr.mono (by omega)) (by rfl) T.dlow.g T.dlow.F.kp T.dlow.b (fun σ => L2N.passAt tk σ) (pda_cons (pd_call G_between (hr.mono (by omega)) (by rfl) T.dbetween.g T.dbetween.F.kp T.dbetween.b (fun σ => L2N.passAt tk σ) (pda_cons (pd_var (pv 0)) (pda_cons pd_int (pda_cons pd_int pda_nil)))) (pda_cons (pd_ix ix_seq ol_ix (pd_new (pdn_lst (pda_cons pd_int (pda_cons pd_int (pda_cons pd_int (pda_cons pd_int pda_nil)))))) (pd_call G_take (hr.mono (by omega)) (by rfl) T.dtake.g T.dtake.F.kp T.dtake.b (fun σ => L2N.passAt tk σ) (pda_cons (pd_var (pv 0)) (pda_cons pd_int pda_nil))) (fun _ _ => rfl)) pda_nil))))), fun ds Q E hl h => ?_⟩
  unfold m_positive at h
  split at h
  · walk_at "wk"
    refine ⟨by decide, by decide, fun up u0 u1 => ?_⟩
    refine ⟨by decide, fun i i0 i1 => ddIx_any i0 (by show i < 4; omega) fun d hd => ?_⟩
    simp only [List.mem_cons, List.not_mem_nil, or_false] at hd
    rcases hd with rfl | rfl | rfl | rfl
    · exact low_at _ _ _ (by decide) (by decide) (h _ (cd_div up 1 6 36 (by decide) (by omega)) (pos_div (by omega) (by decide))) E
    · exact low_at _ _ _ (by decide) (by decide) (h _ (cd_div up 1 6 36 (by decide) (by omega)) (pos_div (by omega) (by decide))) E
    · exact low_at _ _ _ (by decide) (by decide) (h _ (cd_div up 2 3 36 (by decide) (by omega)) (pos_div (by omega) (by decide))) E
    · exact low_at _ _ _ (by decide) (by decide) (h _ (cd_div up 3 2 36 (by decide) (by omega)) (pos_div (by omega) (by decide))) E
  · exact h.elim
theorem ok_point (T : Txt K mg) : FnOk P w K mg base (L2N.CX P w) 175 T.dpoint.f T.dpoint.fd P_point (spD K 1 m_point) := by
  have G_small : FnOk P w K mg base (L2N.CX P w) 174 T.dsmall.f T.dsmall.fd P_small (spD K 1 m_small) := ok_small T
  refine T.dpoint.okD sc_point fun cdv A outer s H E so A0 hr tk hp => ⟨_, (pds_one (pds_ret (pd_tup (pda_cons (pd_call G_small (hr.mono (by omega)) (by rfl) T.dsmall.g T.dsmall.F.kp T.dsmall.b (fun σ => L2N.passAt tk σ) (pda_cons (pd_var (pv 0)) pda_nil)) (pda_cons (pd_call G_small (hr.mono (by omega)) (by rfl) T.dsmall.g T.dsmall.F.kp T.dsmall.b (fun σ => L2N.passAt tk σ) (pda_cons (pd_var (pv 0)) pda_nil)) pda_nil))))), fun ds Q E hl h => ?_⟩
  unfold m_point at h
  split at h
  · walk_at "wk"
    exact fun x hx y hy => h x y hx hy
  · exact h.elim
end
end My
set_option exponentiation.threshold 100000
namespace My
open PySem PySem.Spec PyProof.Rows L2
def dDNew : DE := fun _ Q _ => Q (.dct [] [])
section
variable {X : Cx} {g : Gx} {EX : EXT} {pos : Pos}
theorem pd_dnew : PD X g EX (.Dict [] [] pos) dDNew := ⟨pe_dnewK.imp fun σ H Q h => by
  obtain ⟨A, ρ, Qd, Ed, S, h, c, cx⟩ := h
  intro p hp
  have y := Ext.laid (o := .dK []) S.x.good hp
  exact c (.dct [] []) (.ref p) _ _ y ⟨p, [], rfl, .inl ⟨[], upd_same, rfl, rfl⟩, rfl⟩ h⟩
end
local macro_rules | `(tactic| walk_at "dl") => `(tactic| simp only [startD, List.map_cons, List.map_nil, List.length_cons, List.length_nil, List.cons_append, List.nil_append, List.replicate_succ, List.replicate_zero, List.getElem?_cons_zero, List.getElem?_cons_succ, List.set_cons_zero, List.set_cons_succ,
  dVar, rdS, dC, dNew, dOp, onB, qB, dChain, qAnd, qOr, qNot, qTru, truD, dIf, dAnd, dOr, dNot, dUn, ddNeg, lNil, lCons, dTup, nLst, ddI, ddI0, ddAdd, isNonD, isBlD, ddIsN, ddIsB, ddIx_t0, ddIx_t1, ddIx_t2, ddIx_t3, ddIx_l0, ddIx_l1, ddIx_l2, dCB, ddLen, ddInt1, ddAbs, ddMM, ddTuple, nCB, nnList, ddIsi, dCall,
  sSkip, sSeq, sBreak, sCont, sExpr, sRet, sRetN, sIf, sNever, gdName, gdNil, gdCons, gdTup, sAsg, sSetN, sPar, sRaise, sFrz, owS, sApp, sIns, dLenO, dIxO, sTry, sFor, iL, iT, onL, onT, iR1, iR2, nComp, qYes,
  ddEq_ii, ddEq_ss, ddEq_bb, Bool.false_bne, Bool.true_bne, List.append_nil, true_and, and_true, if_true, if_false, Bool.not_true, Bool.not_false, Bool.true_eq_false, Bool.false_eq_true, ite_true, ite_false, id_eq])

local macro_rules | `(tactic| walk_at "is") => `(tactic| simp only [plain_non, isIn_non_int, isIn_non_str, isIn_non_bool, isIn_non_list, isIn_non_tuple, isIn_non_dict, plain_bl, isIn_bl_int, isIn_bl_str, isIn_bl_bool, isIn_bl_list, isIn_bl_tuple, isIn_bl_dict, plain_int, isIn_int_int, isIn_int_str, isIn_int_bool, isIn_int_list, isIn_int_tuple, isIn_int_dict, plain_str, isIn_str_int, isIn_str_str, isIn_str_bool, isIn_str_list, isIn_str_tuple, isIn_str_dict, plain_tup, isIn_tup_int, isIn_tup_str, isIn_tup_bool, isIn_tup_list, isIn_tup_tuple, isIn_tup_dict, plain_lst, isIn_lst_int, isIn_lst_str, isIn_lst_bool, isIn_lst_list, isIn_lst_tuple, isIn_lst_dict, sl0, sl1, sl2, sl3, sl4, decide_true, decide_false, ddIsi, ddIsi2, true_and, if_true, if_false, Bool.false_eq_true, Bool.not_true, Bool.not_false, Bool.or_true, Bool.or_false, Bool.true_or, and_true])
local macro_rules | `(tactic| walk_at "wk") => `(tactic| ((try walk_at "dl"); (try walk_at "is"); (try walk_at "dl")))

/-- no ratio, but plain -/
def NotR (d : D) : Prop := Pl2 d ∧ isRat d = false
theorem NotR.pl {d : D} (h : NotR d) : Pl d := h.1.1
def m_not_ratio : DF := fun ds Q _ => match ds with
  | [.sto, .bl _] => ∀ d, NotR d → Q d
  | _ => False
def plB (d : D) : Bool := plainD d && match d with
  | .tup l => l.all plainD
  | _ => true
def pl2B (d : D) : Bool := plB d && match d with
  | .tup l => l.all plB
  | _ => true
def nrB (d : D) : Bool := pl2B d && !isRat d
theorem pl_of {d : D} (h : plB d = true) : Pl d := by
  unfold plB at h
  rw [Bool.and_eq_true] at h
  refine ⟨h.1, fun l e => ?_⟩
  subst e
  exact List.all_eq_true.mp h.2
theorem nrB_ok {d : D} (h : nrB d = true) : NotR d := by
  unfold nrB pl2B at h
  rw [Bool.and_eq_true, Bool.and_eq_true] at h
  refine ⟨⟨pl_of h.1.1, fun l e => ?_⟩, by simpa using h.2⟩
  subst e
  exact fun x hx => pl_of (List.all_eq_true.mp h.1.2 x hx)
def itemsR (up b : Int) : List D := [.int 1, .int 0, .bl true, .str "1", .str "1/2", .tup [.int 1], .tup [], .tup [.int 1, .int 0], .tup [.int 0, .int 0], .tup [.int 0, .int 2], .tup [.int 1, .int (-1)], .tup [.int 0, .int (-1)],
  .tup [.bl true, .int 1], .tup [.int 1, .bl true], .tup [.bl false, .int 1], .tup [.int 1, .int 1, .int 1], .tup [.str "1", .int 1], .tup [.int 1, .str "1"], .tup [.non, .int 1], .tup [.int 1, .non],
  .tup [.tup [.int 1, .int 1], .tup [.int 1, .int 1]], .tup [.tup [.int 1, .int 1], .int 1], .dct [] [], .lst [.int up, .int 1], .lst [.int 1, .int 1], .tup [.int (up * b), .int b], .tup [.int b, .int (2 * b)], .tup [.int (-b), .int (2 * b)], .tup [.int (10 ^ 40), .int (10 ^ 39)]]
theorem itemsR_fin : ∀ u : Fin 9, ∀ v : Fin 3, (itemsR ((u.val : Int) - 4) ((v.val : Int) + 2)).all nrB = true := by decide +kernel
theorem itemsR_ok {up b : Int} (h1 : -4 ≤ up) (h2 : up ≤ 4) (h3 : 2 ≤ b) (h4 : b < 5) : ∀ d ∈ itemsR up b, NotR d := fun d hd => by
  have h := itemsR_fin ⟨(up + 4).toNat, by omega⟩ ⟨(b - 2).toNat, by omega⟩
  have e1 : (((up + 4).toNat : Nat) : Int) - 4 = up := by omega
  have e2 : (((b - 2).toNat : Nat) : Int) + 2 = b := by omega
  dsimp only at h
  rw [e1, e2] at h
  exact nrB_ok (List.all_eq_true.mp h d hd)
abbrev s_not_ratio : Stmt := topS 72
abbrev N_not_ratio : List Str := ["store", "none_too", "up", "by", "ways"]
abbrev P_not_ratio : List Str := ["store", "none_too"]
theorem sc_not_ratio : FnScope N_not_ratio P_not_ratio (defScope s_not_ratio) := ⟨rfl, rfl, rfl, by decide +kernel, rfl, by decide +kernel, by decide +kernel⟩

section
variable {P : Program} {w : World} {K : PySem.W.Frag} {mg : Str → Option Value} {base : Heap}
theorem ok_not_ratio (T : Txt K mg) : FnOk P w K mg base (L2N.CX P w) 174 T.dnot_ratio.f T.dnot_ratio.fd P_not_ratio (spD K 2 m_not_ratio) := by
  have G_take : FnOk P w K mg base (L2N.CX P w) 171 T.dtake.f T.dtake.fd P_take (spD K 2 m_take) := ok_takeD T
  have G_edge : FnOk P w K mg base (L2N.CX P w) 172 T.dedge.f T.dedge.fd P_edge (spD K 2 m_take) := ok_edgeD T
  have G_between : FnOk P w K mg base (L2N.CX P w) 173 T.dbetween.f T.dbetween.fd P_between (spD K 3 m_between) := ok_betweenD T
  refine T.dnot_ratio.okD sc_not_ratio fun cdv A outer s H E so A0 hr tk hp => ⟨_, (pds_cons (pds_if (PDW.t (pdw_and (pdt_tru (pd_var (pv 1))) (pdw_and1 (pdt_cmp (oo_eq hr.units) ol_eq (pd_call G_take (hr.mono (by omega)) (by rfl) T.dtake.g T.dtake.F.kp T.dtake.b (fun σ => L2N.passAt tk σ) (pda_cons (pd_var (pv 0)) (pda_cons pd_int pda_nil))) pd_int (nomark _)))))
        (pds_one (pds_ret pd_non))
        pds_nil)
      (pds_cons (pds_set (i := 2) sc_not_ratio.nd rfl (by first | exact .inl rfl | exact .inr rfl) (pd_call G_between (hr.mono (by omega)) (by rfl) T.dbetween.g T.dbetween.F.kp T.dbetween.b (fun σ => L2N.passAt tk σ) (pda_cons (pd_var (pv 0)) (pda_cons (pd_neg pd_int) (pda_cons pd_int pda_nil)))))
      (pds_cons (pds_set (i := 3) sc_not_ratio.nd rfl (by first | exact .inl rfl | exact .inr rfl) (pd_op oo_add ol_add pd_int (pd_call G_take (hr.mono (by omega)) (by rfl) T.dtake.g T.dtake.F.kp T.dtake.b (fun σ => L2N.passAt tk σ) (pda_cons (pd_var (pv 0)) (pda_cons pd_int pda_nil)))))
      (pds_cons (pds_set (i := 4) sc_not_ratio.nd rfl (by first | exact .inl rfl | exact .inr rfl) (pd_new (pdn_lst (pda_cons pd_int (pda_cons pd_int (pda_cons pd_bl (pda_cons pd_str (pda_cons pd_str (pda_cons (pd_tup (pda_cons pd_int pda_nil)) (pda_cons (pd_tup pda_nil) (pda_cons (pd_tup (pda_cons pd_int (pda_cons pd_int pda_nil))) (pda_cons (pd_tup (pda_cons pd_int (pda_cons pd_int pda_nil))) (pda_cons (pd_tup (pda_cons pd_int (pda_cons pd_int pda_nil))) (pda_cons (pd_tup (pda_cons pd_int (pda_cons (pd_neg pd_int) pda_nil))) (pda_cons (pd_tup (pda_cons pd_int (pda_cons (pd_neg pd_int) pda_nil))) (pda_cons (pd_tup (pda_cons pd_bl (pda_cons pd_int pda_nil))) (pda_cons (pd_tup (pda_cons pd_int (pda_cons pd_bl pda_nil))) pda_nil)))))))))))))))))
      (pds_cons (pds_set (i := 4) sc_not_ratio.nd rfl (by first | exact .inl rfl | exact .inr rfl) (pd_op oo_add ol_add (pd_var (pv 4)) (pd_new (pdn_lst (pda_cons (pd_tup (pda_cons pd_bl (pda_cons pd_int pda_nil))) (pda_cons (pd_tup (pda_cons pd_int (pda_cons pd_int (pda_cons pd_int pda_nil)))) (pda_cons (pd_tup (pda_cons pd_str (pda_cons pd_int pda_nil))) (pda_cons (pd_tup (pda_cons pd_int (pda_cons pd_str pda_nil))) (pda_cons (pd_tup (pda_cons pd_non (pda_cons pd_int pda_nil))) (pda_cons (pd_tup (pda_cons pd_int (pda_cons pd_non pda_nil))) (pda_cons (pd_tup (pda_cons (pd_tup (pda_cons pd_int (pda_cons pd_int pda_nil))) (pda_cons (pd_tup (pda_cons pd_int (pda_cons pd_int pda_nil))) pda_nil))) (pda_cons (pd_tup (pda_cons (pd_tup (pda_cons pd_int (pda_cons pd_int pda_nil))) (pda_cons pd_int pda_nil))) (pda_cons pd_dnew pda_nil)))))))))))))
      (pds_cons (pds_set (i := 4) sc_not_ratio.nd rfl (by first | exact .inl rfl | exact .inr rfl) (pd_op oo_add ol_add (pd_var (pv 4)) (pd_new (pdn_lst (pda_cons (pd_new (pdn_lst (pda_cons (pd_var (pv 2)) (pda_cons pd_int pda_nil)))) (pda_cons (pd_new (pdn_lst (pda_cons pd_int (pda_cons pd_int pda_nil)))) (pda_cons (pd_tup (pda_cons (pd_op op_mulW ol_mul (pd_var (pv 2)) (pd_var (pv 3))) (pda_cons (pd_var (pv 3)) pda_nil))) (pda_cons (pd_tup (pda_cons (pd_var (pv 3)) (pda_cons (pd_op op_mulW ol_mul pd_int (pd_var (pv 3))) pda_nil))) (pda_cons (pd_tup (pda_cons (pd_neg (pd_var (pv 3))) (pda_cons (pd_op op_mulW ol_mul pd_int (pd_var (pv 3))) pda_nil))) (pda_cons (pd_tup (pda_cons (pd_op op_pow ol_pow pd_int pd_int) (pda_cons (pd_op op_pow ol_pow pd_int pd_int) pda_nil))) pda_nil))))))))))
      (pds_one (pds_ret (pd_ix ix_seq ol_ix (pd_var (pv 4)) (pd_call G_edge (hr.mono (by omega)) (by rfl) T.dedge.g T.dedge.F.kp T.dedge.b (fun σ => L2N.passAt tk σ) (pda_cons (pd_var (pv 0)) (pda_cons (pd_callB oo_len cl_len (by rfl) T.m_len bt_len (pda_cons (pd_var (pv 4)) pda_nil)) pda_nil))) (fun _ _ => rfl)))))))))), fun ds Q E hl h => ?_⟩
  unfold m_not_ratio at h
  split at h
  · rename_i b
    cases b
    · walk_at "wk"
      refine ⟨by decide, by decide, fun up u0 u1 => ?_⟩
      refine ⟨by decide, fun v v0 v1 => ?_⟩
      walk_at "wk"
      refine ⟨by decide, ?_⟩
      simp only [dDNew]
      walk_at "wk"
      refine ⟨by decide, by decide, ?_⟩
      have v3 : v < 3 := by omega
      have cm : ∀ a b : Int, -100 ≤ a → a ≤ 100 → -100 ≤ b → b ≤ 100 → CMulW a b := fun a b h1 h2 h3 h4 => wide_mul (a := 10) (b := 10) (by omega) (by omega) (by decide) (by decide) (by decide)
      refine ⟨cm _ _ (by omega) (by omega) (by omega) (by omega), cm _ _ (by omega) (by omega) (by omega) (by omega), cm _ _ (by omega) (by omega) (by omega) (by omega), ⟨by decide, by decide, by decide⟩, ⟨by decide, by decide, by decide⟩, by decide, by decide, ?_⟩
      refine ⟨by decide, fun r r0 r1 => ?_⟩
      refine ddIx_any (l := itemsR up (2 + v)) r0 (by show r < 29; omega) fun d hd => h d (itemsR_ok u0 u1 (by omega) (by omega) d hd)
    · walk_at "wk"
      refine ⟨by decide, fun r r0 r1 => ?_⟩
      walk_at "wk"
      by_cases z : r = 0
      · simp only [decide_eq_true z]
        walk_at "wk"
        exact h .non (nrB_ok (by decide +kernel))
      simp only [decide_eq_false z]
      walk_at "wk"
      refine ⟨by decide, by decide, fun up u0 u1 => ?_⟩
      refine ⟨by decide, fun v v0 v1 => ?_⟩
      walk_at "wk"
      refine ⟨by decide, ?_⟩
      simp only [dDNew]
      walk_at "wk"
      refine ⟨by decide, by decide, ?_⟩
      have v3 : v < 3 := by omega
      have cm : ∀ a b : Int, -100 ≤ a → a ≤ 100 → -100 ≤ b → b ≤ 100 → CMulW a b := fun a b h1 h2 h3 h4 => wide_mul (a := 10) (b := 10) (by omega) (by omega) (by decide) (by decide) (by decide)
      refine ⟨cm _ _ (by omega) (by omega) (by omega) (by omega), cm _ _ (by omega) (by omega) (by omega) (by omega), cm _ _ (by omega) (by omega) (by omega) (by omega), ⟨by decide, by decide, by decide⟩, ⟨by decide, by decide, by decide⟩, by decide, by decide, ?_⟩
      refine ⟨by decide, fun r r0 r1 => ?_⟩
      refine ddIx_any (l := itemsR up (2 + v)) r0 (by show r < 29; omega) fun d hd => h d (itemsR_ok u0 u1 (by omega) (by omega) d hd)
  · exact h.elim
end
end My
set_option exponentiation.threshold 100000
namespace My
open PySem PySem.Spec PyProof.Rows L2
local macro_rules | `(tactic| walk_at "dl") => `(tactic| simp only [startD, List.map_cons, List.map_nil, List.length_cons, List.length_nil, List.cons_append, List.nil_append, List.replicate_succ, List.replicate_zero, List.getElem?_cons_zero, List.getElem?_cons_succ, List.set_cons_zero, List.set_cons_succ,
  dVar, rdS, dC, dNew, dOp, onB, qB, dChain, qAnd, qOr, qNot, qTru, truD, dIf, dAnd, dOr, dNot, dUn, ddNeg, lNil, lCons, dTup, nLst, ddI, ddI0, ddAdd, isNonD, isBlD, ddIsN, ddIsB, ddIx_t0, ddIx_t1, ddIx_t2, ddIx_t3, ddIx_l0, ddIx_l1, ddIx_l2, dCB, ddLen, ddInt1, ddAbs, ddMM, ddTuple, nCB, nnList, ddIsi, dCall,
  sSkip, sSeq, sBreak, sCont, sExpr, sRet, sRetN, sIf, sNever, gdName, gdNil, gdCons, gdTup, sAsg, sSetN, sPar, sRaise, sFrz, owS, sApp, sIns, dLenO, dIxO, sTry, sFor, iL, iT, onL, onT, iR1, iR2, nComp, qYes,
  ddEq_ii, ddEq_ss, ddEq_bb, Bool.false_bne, Bool.true_bne, List.append_nil, true_and, and_true, if_true, if_false, Bool.not_true, Bool.not_false, Bool.true_eq_false, Bool.false_eq_true, ite_true, ite_false, id_eq])

local macro_rules | `(tactic| walk_at "is") => `(tactic| simp only [plain_non, isIn_non_int, isIn_non_str, isIn_non_bool, isIn_non_list, isIn_non_tuple, isIn_non_dict, plain_bl, isIn_bl_int, isIn_bl_str, isIn_bl_bool, isIn_bl_list, isIn_bl_tuple, isIn_bl_dict, plain_int, isIn_int_int, isIn_int_str, isIn_int_bool, isIn_int_list, isIn_int_tuple, isIn_int_dict, plain_str, isIn_str_int, isIn_str_str, isIn_str_bool, isIn_str_list, isIn_str_tuple, isIn_str_dict, plain_tup, isIn_tup_int, isIn_tup_str, isIn_tup_bool, isIn_tup_list, isIn_tup_tuple, isIn_tup_dict, plain_lst, isIn_lst_int, isIn_lst_str, isIn_lst_bool, isIn_lst_list, isIn_lst_tuple, isIn_lst_dict, sl0, sl1, sl2, sl3, sl4, decide_true, decide_false, ddIsi, ddIsi2, true_and, if_true, if_false, Bool.false_eq_true, Bool.not_true, Bool.not_false, Bool.or_true, Bool.or_false, Bool.true_or, and_true])
local macro_rules | `(tactic| walk_at "wk") => `(tactic| ((try walk_at "dl"); (try walk_at "is"); (try walk_at "dl")))

theorem seq_mid {r u : DS} {DD : DEnds} {ρ : DEnv} (P : DEnv → Prop) (h1 : ∀ R : DEnv → Prop, (∀ ρ', P ρ' → R ρ') → r { DD with nx := R } ρ) (h2 : ∀ ρ', P ρ' → u DD ρ') : sSeq r u DD ρ := h1 _ h2
theorem frz_at {i : Nat} {r : DS} {DD : DEnds} {ρ : DEnv} {l : List D} (e : ρ[i]? = some (.ow l)) (h : r DD (ρ.set i (.fr (.lst l)))) : sFrz i r DD ρ := by
  unfold sFrz
  rw [e]
  exact h
/-! ### chains: the program's way -/
def leftQ (L a b c : Rat) : Rat := (L + a - (b + c)) * (L + a - (b + c)) - 4 * (L * a + b * c)
def prodQ (L a b c : Rat) : Rat := L * a * (b * c)
def exc (L a b c : Rat) : Bool := decide (0 < L - a) && (decide (0 < L + a - (b + c)) && decide (0 < rsQ (leftQ L a b c) (-8) (prodQ L a b c)))
structure S4 (L a b c : Rat) : Prop where
  n : 0 ≤ L ∧ 0 ≤ a ∧ 0 ≤ b ∧ 0 ≤ c
  hL : Sz 60 60 L
  ha : Sz 60 60 a
  hb : Sz 60 60 b
  hc : Sz 60 60 c
theorem sz4 : Sz 1 1 (4 : Rat) := ⟨by decide, by decide⟩
theorem sz8 : Sz 1 1 (-8 : Rat) := ⟨by decide, by decide⟩
theorem sz64 : Sz 2 1 (64 : Rat) := ⟨by decide, by decide⟩
theorem S4.rest {L a b c : Rat} (h : S4 L a b c) : Sz 242 240 (L + a - (b + c)) := ((h.hL.add h.ha).sub (h.hb.add h.hc)).up (by decide) (by decide)
theorem S4.mix {L a b c : Rat} (h : S4 L a b c) : Sz 241 240 (L * a + b * c) := ((h.hL.mul h.ha).add (h.hb.mul h.hc)).up (by decide) (by decide)
theorem S4.left {L a b c : Rat} (h : S4 L a b c) : Sz 726 721 (leftQ L a b c) := ((h.rest.mul h.rest).sub (sz4.mul h.mix)).up (by decide) (by decide)
theorem S4.prod {L a b c : Rat} (h : S4 L a b c) : Sz 240 240 (prodQ L a b c) := ((h.hL.mul h.ha).mul (h.hb.mul h.hc)).up (by decide) (by decide)
theorem S4.p0 {L a b c : Rat} (h : S4 L a b c) : 0 ≤ prodQ L a b c := Rat.mul_nonneg (Rat.mul_nonneg h.n.1 h.n.2.1) (Rat.mul_nonneg h.n.2.2.1 h.n.2.2.2)
def m_exceeds : DF := fun ds Q _ => ∃ L a b c, ds = [rq L, .lst [rq a, rq b, rq c]] ∧ S4 L a b c ∧ Q (.bl (exc L a b c))
def pad3 (l : List Rat) : List Rat := l ++ List.replicate (3 - l.length) 0
def m_padded : DF := fun ds Q _ => ∃ l : List Rat, ds = [.lst (l.map rq)] ∧ l.length ≤ 3 ∧ Q (.lst ((pad3 l).map rq))
def getR (l : List Rat) (i : Nat) : Rat := l.getD i 0
def excL (L : Rat) (l : List Rat) : Bool := exc L (getR l 0) (getR l 1) (getR l 2)
theorem pad_get {l : List Rat} (h : l.length ≤ 3) : pad3 l = [getR l 0, getR l 1, getR l 2] := by
  match l, h with
  | [], _ => rfl
  | [a], _ => rfl
  | [a, b], _ => rfl
  | [a, b, c], _ => rfl
  | _ :: _ :: _ :: _ :: _, h => exact absurd h (by simp)
theorem sg_le (q : Rat) : (sg q ≤ 0) = ¬ (0 < q) := by
  have := sg_gt q
  rw [← this]
  exact propext ⟨fun h => by omega, fun h => by omega⟩
abbrev s_exceeds : Stmt := topS 46
abbrev N_exceeds : List Str := ["longest", "others", "one", "other", "third", "rest", "inner", "outer"]
abbrev P_exceeds : List Str := ["longest", "others"]
theorem sc_exceeds : FnScope N_exceeds P_exceeds (defScope s_exceeds) := ⟨rfl, rfl, rfl, by decide +kernel, rfl, by decide +kernel, by decide +kernel⟩

abbrev s_padded : Stmt := topS 47
abbrev N_padded : List Str := ["values"]
abbrev P_padded : List Str := ["values"]
theorem sc_padded : FnScope N_padded P_padded (defScope s_padded) := ⟨rfl, rfl, rfl, by decide +kernel, rfl, by decide +kernel, by decide +kernel⟩

section
variable {P : Program} {w : World} {K : PySem.W.Frag} {mg : Str → Option Value} {base : Heap}
theorem ok_exceeds (T : Txt K mg) : FnOk P w K mg base (L2N.CX P w) 7 T.dexceeds.f T.dexceeds.fd P_exceeds (spD K 2 m_exceeds) := by
  have G_compare : FnOk P w K mg base (L2N.CX P w) 6 T.dcompare.f T.dcompare.fd P_compare (spD K 2 m_cmp2) := ok_compare T
  have G_subtract : FnOk P w K mg base (L2N.CX P w) 6 T.dsubtract.f T.dsubtract.fd P_subtract (spD K 2 (m_r2 fun p q => p - q)) := ok_subtract T
  have G_add : FnOk P w K mg base (L2N.CX P w) 6 T.dadd.f T.dadd.fd P_add (spD K 2 (m_r2 fun p q => p + q)) := ok_add T
  have G_multiply : FnOk P w K mg base (L2N.CX P w) 6 T.dmultiply.f T.dmultiply.fd P_multiply (spD K 2 (m_r2 fun p q => p * q)) := ok_multiply T
  have G_sign : FnOk P w K mg base (L2N.CX P w) 5 T.dsign.f T.dsign.fd P_sign (spD K 1 m_sign1) := ok_sign T
  have G_root_sign : FnOk P w K mg base (L2N.CX P w) 5 T.droot_sign.f T.droot_sign.fd P_root_sign (spD K 3 m_root_sign) := ok_root_sign T
  refine T.dexceeds.okD sc_exceeds fun cdv A outer s H E so A0 hr tk hp => ⟨_, (pds_cons (pds_asg (pd_var (pv 1)) (pdg_tupL (n := 3) rfl (pdgs_cons (pdg_name (pg_name (i := 2) sc_exceeds.nd rfl (by first | exact .inl rfl | exact .inr rfl))) (pdgs_cons (pdg_name (pg_name (i := 3) sc_exceeds.nd rfl (by first | exact .inl rfl | exact .inr rfl))) (pdgs_cons (pdg_name (pg_name (i := 4) sc_exceeds.nd rfl (by first | exact .inl rfl | exact .inr rfl))) pdgs_nil)))))
      (pds_cons (pds_if (pdt_cmp op_le ol_le (pd_call G_compare (hr.mono (by omega)) (by rfl) T.dcompare.g T.dcompare.F.kp T.dcompare.b (fun σ => L2N.passAt tk σ) (pda_cons (pd_var (pv 0)) (pda_cons (pd_var (pv 2)) pda_nil))) pd_int (nomark _))
        (pds_one (pds_ret pd_bl))
        pds_nil)
      (pds_cons (pds_set (i := 5) sc_exceeds.nd rfl (by first | exact .inl rfl | exact .inr rfl) (pd_call G_subtract (hr.mono (by omega)) (by rfl) T.dsubtract.g T.dsubtract.F.kp T.dsubtract.b (fun σ => L2N.passAt tk σ) (pda_cons (pd_call G_add (hr.mono (by omega)) (by rfl) T.dadd.g T.dadd.F.kp T.dadd.b (fun σ => L2N.passAt tk σ) (pda_cons (pd_var (pv 0)) (pda_cons (pd_var (pv 2)) pda_nil))) (pda_cons (pd_call G_add (hr.mono (by omega)) (by rfl) T.dadd.g T.dadd.F.kp T.dadd.b (fun σ => L2N.passAt tk σ) (pda_cons (pd_var (pv 3)) (pda_cons (pd_var (pv 4)) pda_nil))) pda_nil))))
      (pds_cons (pds_if (pdt_cmp op_le ol_le (pd_call G_sign (hr.mono (by omega)) (by rfl) T.dsign.g T.dsign.F.kp T.dsign.b (fun σ => L2N.passAt tk σ) (pda_cons (pd_var (pv 5)) pda_nil)) pd_int (nomark _))
        (pds_one (pds_ret pd_bl))
        pds_nil)
      (pds_cons (pds_set (i := 6) sc_exceeds.nd rfl (by first | exact .inl rfl | exact .inr rfl) (pd_call G_multiply (hr.mono (by omega)) (by rfl) T.dmultiply.g T.dmultiply.F.kp T.dmultiply.b (fun σ => L2N.passAt tk σ) (pda_cons (pd_call G_multiply (hr.mono (by omega)) (by rfl) T.dmultiply.g T.dmultiply.F.kp T.dmultiply.b (fun σ => L2N.passAt tk σ) (pda_cons (pd_var (pv 0)) (pda_cons (pd_var (pv 2)) pda_nil))) (pda_cons (pd_call G_multiply (hr.mono (by omega)) (by rfl) T.dmultiply.g T.dmultiply.F.kp T.dmultiply.b (fun σ => L2N.passAt tk σ) (pda_cons (pd_var (pv 3)) (pda_cons (pd_var (pv 4)) pda_nil))) pda_nil))))
      (pds_cons (pds_set (i := 7) sc_exceeds.nd rfl (by first | exact .inl rfl | exact .inr rfl) (pd_call G_multiply (hr.mono (by omega)) (by rfl) T.dmultiply.g T.dmultiply.F.kp T.dmultiply.b (fun σ => L2N.passAt tk σ) (pda_cons (pd_tup (pda_cons pd_int (pda_cons pd_int pda_nil))) (pda_cons (pd_call G_add (hr.mono (by omega)) (by rfl) T.dadd.g T.dadd.F.kp T.dadd.b (fun σ => L2N.passAt tk σ) (pda_cons (pd_call G_multiply (hr.mono (by omega)) (by rfl) T.dmultiply.g T.dmultiply.F.kp T.dmultiply.b (fun σ => L2N.passAt tk σ) (pda_cons (pd_var (pv 0)) (pda_cons (pd_var (pv 2)) pda_nil))) (pda_cons (pd_call G_multiply (hr.mono (by omega)) (by rfl) T.dmultiply.g T.dmultiply.F.kp T.dmultiply.b (fun σ => L2N.passAt tk σ) (pda_cons (pd_var (pv 3)) (pda_cons (pd_var (pv 4)) pda_nil))) pda_nil))) pda_nil))))
      (pds_one (pds_ret (pd_cmp op_gt ol_gt (pd_call G_root_sign (hr.mono (by omega)) (by rfl) T.droot_sign.g T.droot_sign.F.kp T.droot_sign.b (fun σ => L2N.passAt tk σ) (pda_cons (pd_call G_subtract (hr.mono (by omega)) (by rfl) T.dsubtract.g T.dsubtract.F.kp T.dsubtract.b (fun σ => L2N.passAt tk σ) (pda_cons (pd_call G_multiply (hr.mono (by omega)) (by rfl) T.dmultiply.g T.dmultiply.F.kp T.dmultiply.b (fun σ => L2N.passAt tk σ) (pda_cons (pd_var (pv 5)) (pda_cons (pd_var (pv 5)) pda_nil))) (pda_cons (pd_var (pv 7)) pda_nil))) (pda_cons (pd_tup (pda_cons (pd_neg pd_int) (pda_cons pd_int pda_nil))) (pda_cons (pd_var (pv 6)) pda_nil)))) pd_int (nomark _)))))))))), fun ds Q E hl h => ?_⟩
  obtain ⟨L, a, b, c, rfl, hs, h⟩ := h
  walk_at "wk"
  simp only [gdLst]
  walk_at "wk"
  refine ⟨L, a, rfl, hs.hL.ok hs.ha (by decide), ?_⟩
  simp only [sg_le]
  unfold exc at h
  by_cases c1 : 0 < L - a
  · rw [decide_eq_true c1] at h
    rw [if_neg (by rw [decide_eq_true_iff]; exact not_not_intro c1)]
    have la := hs.hL.add hs.ha
    have bc := hs.hb.add hs.hc
    refine ⟨L, a, rfl, hs.hL.ok hs.ha (by decide), b, c, rfl, hs.hb.ok hs.hc (by decide), _, _, rfl, la.ok bc (by decide), _, rfl, ?_⟩
    dsimp only
    simp only [sg_le]
    by_cases c2 : 0 < L + a - (b + c)
    · rw [decide_eq_true c2] at h
      rw [if_neg (by rw [decide_eq_true_iff]; exact not_not_intro c2)]
      have lm := hs.hL.mul hs.ha
      have bm := hs.hb.mul hs.hc
      refine ⟨L, a, rfl, hs.hL.ok hs.ha (by decide), b, c, rfl, hs.hb.ok hs.hc (by decide), _, _, rfl, lm.ok bm (by decide), L, a, rfl, hs.hL.ok hs.ha (by decide), b, c, rfl, hs.hb.ok hs.hc (by decide), _, _, rfl, lm.ok bm (by decide), 4, _, rfl, sz4.ok hs.mix (by decide), _, _, rfl, hs.rest.ok hs.rest (by decide), _, _, rfl, (hs.rest.mul hs.rest).ok (sz4.mul hs.mix) (by decide), leftQ L a b c, -8, prodQ L a b c, rfl, hs.p0, ⟨hs.left.sm (by decide), sz8.sm (by decide), hs.prod.sm (by decide)⟩, ?_⟩
      exact h
    · rw [decide_eq_false c2] at h
      rw [if_pos (by rw [decide_eq_true_iff]; exact c2)]
      exact h
  · rw [decide_eq_false c1] at h
    rw [if_pos (by rw [decide_eq_true_iff]; exact c1)]
    exact h
theorem ok_padded (T : Txt K mg) : FnOk P w K mg base (L2N.CX P w) 1 T.dpadded.f T.dpadded.fd P_padded (spD K 1 m_padded) := by
  refine T.dpadded.okD sc_padded fun cdv A outer s H E so A0 hr tk hp => ⟨_, (pds_one (pds_ret (pd_op oo_add ol_add (pd_new (pdn_list (by rfl) T.m_list (pda_cons (pd_var (pv 0)) pda_nil))) (pd_op op_rep ol_rep (pd_new (pdn_lst (pda_cons (pd_c (v := .ref T.aZERO_RATIO) (pe_glob rfl T.kZERO_RATIO rfl) T.vZERO_RATIO) pda_nil))) (pd_op op_sub ol_sub (pd_c (v := .int 3) (d := .int 3) (pe_glob rfl T.kMOST_CHAIN ⟨_, rfl⟩) (fun _ _ => rfl)) (pd_callB oo_len cl_len (by rfl) T.m_len bt_len (pda_cons (pd_var (pv 0)) pda_nil))))))), fun ds Q E hl h => ?_⟩
  obtain ⟨l, rfl, hl3, h⟩ := h
  walk_at "wk"
  simp only [ddRep]
  have e0 : D.tup [.int 0, .int 1] = rq 0 := rfl
  rw [List.length_map]
  have e1 : (3 - (l.length : Int)).toNat = 3 - l.length := by omega
  have e2 : (List.replicate (3 - l.length) [rq 0]).flatten = List.replicate (3 - l.length) (rq 0) := List.flatten_replicate_singleton
  refine ⟨by omega, by omega, by rw [e1, sizeLine_eq]; simp; omega, ?_⟩
  rw [e0, e1, e2]
  have e3 : l.map rq ++ List.replicate (3 - l.length) (rq 0) = (pad3 l).map rq := by
    unfold pad3
    rw [List.map_append, List.map_replicate]
  refine ⟨by rw [List.length_replicate, sizeLine_eq]; omega, ?_⟩
  rw [e3]
  exact h
end
end My
set_option exponentiation.threshold 100000
namespace My
open PySem PySem.Spec PyProof.Rows L2
local macro_rules | `(tactic| walk_at "dl") => `(tactic| simp only [startD, List.map_cons, List.map_nil, List.length_cons, List.length_nil, List.cons_append, List.nil_append, List.replicate_succ, List.replicate_zero, List.getElem?_cons_zero, List.getElem?_cons_succ, List.set_cons_zero, List.set_cons_succ,
  dVar, rdS, dC, dNew, dOp, onB, qB, dChain, qAnd, qOr, qNot, qTru, truD, dIf, dAnd, dOr, dNot, dUn, ddNeg, lNil, lCons, dTup, nLst, ddI, ddI0, ddAdd, isNonD, isBlD, ddIsN, ddIsB, ddIx_t0, ddIx_t1, ddIx_t2, ddIx_t3, ddIx_l0, ddIx_l1, ddIx_l2, dCB, ddLen, ddInt1, ddAbs, ddMM, ddTuple, nCB, nnList, ddIsi, dCall,
  sSkip, sSeq, sBreak, sCont, sExpr, sRet, sRetN, sIf, sNever, gdName, gdNil, gdCons, gdTup, sAsg, sSetN, sPar, sRaise, sFrz, owS, sApp, sIns, dLenO, dIxO, sTry, sFor, iL, iT, onL, onT, iR1, iR2, nComp, qYes,
  ddEq_ii, ddEq_ss, ddEq_bb, Bool.false_bne, Bool.true_bne, List.append_nil, true_and, and_true, if_true, if_false, Bool.not_true, Bool.not_false, Bool.true_eq_false, Bool.false_eq_true, ite_true, ite_false, id_eq])

local macro_rules | `(tactic| walk_at "is") => `(tactic| simp only [plain_non, isIn_non_int, isIn_non_str, isIn_non_bool, isIn_non_list, isIn_non_tuple, isIn_non_dict, plain_bl, isIn_bl_int, isIn_bl_str, isIn_bl_bool, isIn_bl_list, isIn_bl_tuple, isIn_bl_dict, plain_int, isIn_int_int, isIn_int_str, isIn_int_bool, isIn_int_list, isIn_int_tuple, isIn_int_dict, plain_str, isIn_str_int, isIn_str_str, isIn_str_bool, isIn_str_list, isIn_str_tuple, isIn_str_dict, plain_tup, isIn_tup_int, isIn_tup_str, isIn_tup_bool, isIn_tup_list, isIn_tup_tuple, isIn_tup_dict, plain_lst, isIn_lst_int, isIn_lst_str, isIn_lst_bool, isIn_lst_list, isIn_lst_tuple, isIn_lst_dict, sl0, sl1, sl2, sl3, sl4, decide_true, decide_false, ddIsi, ddIsi2, true_and, if_true, if_false, Bool.false_eq_true, Bool.not_true, Bool.not_false, Bool.or_true, Bool.or_false, Bool.true_or, and_true])
local macro_rules | `(tactic| walk_at "wk") => `(tactic| ((try walk_at "dl"); (try walk_at "is"); (try walk_at "dl")))

/-! ### chain_reach -/
def othersL (l : List Rat) (k : Nat) (g : Rat) : List Rat := l.take k ++ l.drop (k + 1) ++ [g]
def nearAt (l : List Rat) (g : Rat) : Option Nat := (List.range l.length).find? fun k => excL (getR l k) (othersL l k g)
def reachW (l : List Rat) (g : Rat) : D := if excL g l = true then .tup [.str "far"] else match nearAt l g with
  | some k => .tup [.str "near", .int (k : Nat)]
  | none => .tup [.str "reached"]
/-- what is known of the bars and the gap -/
structure ChSz (l : List Rat) (g : Rat) : Prop where
  n : 1 ≤ l.length ∧ l.length ≤ 3
  s : ∀ x ∈ l, Sz 60 60 x ∧ 0 < x
  g : Sz 60 60 g ∧ 0 ≤ g
theorem getR_in {l : List Rat} {P : Rat → Prop} (h : ∀ x ∈ l, P x) (h0 : P 0) (i : Nat) : P (getR l i) := by
  unfold getR
  rw [List.getD_eq_getElem?_getD]
  cases e : l[i]? with
  | none => exact h0
  | some x => exact h x (List.mem_of_getElem? e)
theorem sz0 : Sz 60 60 (0 : Rat) := ⟨by decide, by decide⟩
theorem ChSz.far {l : List Rat} {g : Rat} (h : ChSz l g) : S4 g (getR l 0) (getR l 1) (getR l 2) := by
  have k := getR_in (P := fun x => Sz 60 60 x ∧ 0 ≤ x) (fun x hx => ⟨(h.s x hx).1, Rat.le_of_lt (h.s x hx).2⟩) ⟨sz0, Rat.le_refl⟩
  exact ⟨⟨h.g.2, (k 0).2, (k 1).2, (k 2).2⟩, h.g.1, (k 0).1, (k 1).1, (k 2).1⟩
theorem others_in {l : List Rat} {k : Nat} {g : Rat} {x : Rat} (h : x ∈ othersL l k g) : x ∈ l ∨ x = g := by
  unfold othersL at h
  rcases List.mem_append.mp h with h | h
  · rcases List.mem_append.mp h with h | h
    · exact .inl (List.mem_of_mem_take h)
    · exact .inl (List.mem_of_mem_drop h)
  · exact .inr (List.mem_singleton.mp h)
theorem ChSz.near {l : List Rat} {g : Rat} (h : ChSz l g) {k : Nat} (hk : k < l.length) : S4 (getR l k) (getR (othersL l k g) 0) (getR (othersL l k g) 1) (getR (othersL l k g) 2) := by
  have o := getR_in (P := fun x => Sz 60 60 x ∧ 0 ≤ x) (l := othersL l k g) (fun x hx => by
    rcases others_in hx with z | rfl
    · exact ⟨(h.s x z).1, Rat.le_of_lt (h.s x z).2⟩
    · exact h.g) ⟨sz0, Rat.le_refl⟩
  have a := h.s l[k] (List.getElem_mem hk)
  have e : getR l k = l[k] := by
    unfold getR
    rw [List.getD_eq_getElem?_getD, List.getElem?_eq_getElem hk]
    rfl
  rw [e]
  exact ⟨⟨Rat.le_of_lt a.2, (o 0).2, (o 1).2, (o 2).2⟩, a.1, (o 0).1, (o 1).1, (o 2).1⟩
theorem others_len {l : List Rat} {k : Nat} {g : Rat} (hk : k < l.length) : (othersL l k g).length = l.length := by
  unfold othersL
  rw [List.length_append, List.length_append, List.length_take, List.length_drop, List.length_singleton]
  omega
theorem find_first {p : Nat → Bool} {n k : Nat} (hk : k < n) (h : p k = true) (h0 : ∀ j, j < k → p j = false) : (List.range n).find? p = some k := by
  rw [List.find?_range_eq_some]
  exact ⟨h, by simpa using hk, fun j hj => by simp [h0 j hj]⟩
theorem find_none {p : Nat → Bool} {n : Nat} (h0 : ∀ j, j < n → p j = false) : (List.range n).find? p = none := by
  rw [List.find?_eq_none]
  intro j hj
  rw [h0 j (List.mem_range.mp hj)]
  decide
theorem reach_near {l : List Rat} {g : Rat} {k : Nat} (hf : excL g l = false) (hk : k < l.length) (h : excL (getR l k) (othersL l k g) = true) (h0 : ∀ j, j < k → excL (getR l j) (othersL l j g) = false) : reachW l g = .tup [.str "near", .int (k : Nat)] := by
  unfold reachW nearAt
  rw [hf, find_first hk h h0]
  rfl
theorem reach_none {l : List Rat} {g : Rat} (hf : excL g l = false) (h0 : ∀ j, j < l.length → excL (getR l j) (othersL l j g) = false) : reachW l g = .tup [.str "reached"] := by
  unfold reachW nearAt
  rw [hf, find_none h0]
  rfl
def okB : D → Bool
  | .lst l => l.all isPos
  | _ => false
def okG (d : D) : Bool := isRat d && match d with
  | .tup (.int a :: _) => decide (0 ≤ a)
  | _ => false
def PlL (d : D) : Prop := plainD d = true ∧ ∀ l, d = .lst l → l.length ≤ 1000 ∧ ∀ e ∈ l, Pl e
section
variable {K : PySem.W.Frag} {mg : Str → Option Value} (T : Txt K mg)
def obX (x : Str) : XD := ⟨T.cOutOfBounds.C, ["argument"], [.str x]⟩
def m_chain : DF := fun ds Q E => match ds with
  | [sq, di] => PlL sq ∧ (okB sq = false → E (wkX T "squares")) ∧ (okB sq = true → Pl di ∧ (okG di = false → E (wkX T "distance")) ∧ (okG di = true →
      ∀ l g, sq = .lst (l.map rq) → di = rq g → (l.length = 0 ∨ 3 < l.length → E (obX T "squares")) ∧ (1 ≤ l.length ∧ l.length ≤ 3 → ChSz l g ∧ Q (reachW l g))))
  | _ => False
end
theorem bars_of : ∀ {l : List D}, l.all isPos = true → ∃ r : List Rat, l = r.map rq
  | [], _ => ⟨[], rfl⟩
  | d :: l, h => by
    rw [List.all_cons, Bool.and_eq_true] at h
    obtain ⟨r, e⟩ := bars_of h.2
    have k := h.1
    unfold isPos at k
    rw [Bool.and_eq_true] at k
    obtain ⟨q, e2⟩ := rq_of k.1
    exact ⟨q :: r, by rw [e, e2]; rfl⟩
theorem enum_at {l : List D} {i : Nat} {d : D} (h : (enumD 0 l)[i]? = some d) : ∃ x, l[i]? = some x ∧ d = .tup [.int (i : Nat), x] := by
  rw [enumD_get] at h
  cases e : l[i]? with
  | none =>
    rw [e] at h
    cases h
  | some x =>
    rw [e] at h
    cases h
    rw [Nat.zero_add]
    exact ⟨x, rfl, rfl⟩
theorem others_map (l : List Rat) (k : Nat) (g : Rat) : (l.map rq).take k ++ (l.map rq).drop (k + 1) ++ [rq g] = (othersL l k g).map rq := by
  unfold othersL
  rw [List.map_append, List.map_append, List.map_take, List.map_drop]
  rfl
abbrev s_OutOfBounds_init : Stmt := inClass (topS 3) 0
abbrev N_OutOfBounds_init : List Str := ["self", "argument"]
abbrev P_OutOfBounds_init : List Str := ["self", "argument"]
theorem sc_OutOfBounds_init : FnScope N_OutOfBounds_init P_OutOfBounds_init (defScope s_OutOfBounds_init) := ⟨rfl, rfl, rfl, by decide +kernel, rfl, by decide +kernel, by decide +kernel⟩

abbrev s_chain_reach : Stmt := topS 48
abbrev N_chain_reach : List Str := ["squares", "distance", "at", "longest", "others", "item"]
abbrev P_chain_reach : List Str := ["squares", "distance"]
theorem sc_chain_reach : FnScope N_chain_reach P_chain_reach (defScope s_chain_reach) := ⟨rfl, rfl, rfl, by decide +kernel, rfl, by decide +kernel, by decide +kernel⟩

section
variable {P : Program} {w : World} {K : PySem.W.Frag} {mg : Str → Option Value} {base : Heap}
theorem ok_iOutOfBounds (T : Txt K mg) : FnOk P w K mg base CX0 1 T.iOutOfBounds.f T.iOutOfBounds.fd P_OutOfBounds_init (spIni K T.cOutOfBounds.C ["argument"] 1 (mk1 "argument")) :=
  T.iOutOfBounds.ok1 sc_OutOfBounds_init fun cdv A outer s H E => pss_one (ps_ost (pv 0) (pv 1))
theorem ok_chain_reach (T : Txt K mg) : FnOk P w K mg base (L2N.CX P w) 8 T.dchain_reach.f T.dchain_reach.fd P_chain_reach (spD K 2 (m_chain T)) := by
  have I_WrongKind := ok_iWrongKind (P := P) (w := w) (base := base) T
  have I_OutOfBounds := ok_iOutOfBounds (P := P) (w := w) (base := base) T
  have G_is_positive : FnOk P w K mg base (L2N.CX P w) 3 T.dis_positive.f T.dis_positive.fd P_is_positive (spD K 1 m_is_positive) := ok_is_positive T
  have G_is_ratio : FnOk P w K mg base (L2N.CX P w) 2 T.dis_ratio.f T.dis_ratio.fd P_is_ratio (spD K 1 m_is_ratio) := ok_is_ratio T
  have G_exceeds : FnOk P w K mg base (L2N.CX P w) 7 T.dexceeds.f T.dexceeds.fd P_exceeds (spD K 2 m_exceeds) := ok_exceeds T
  have G_padded : FnOk P w K mg base (L2N.CX P w) 1 T.dpadded.f T.dpadded.fd P_padded (spD K 1 m_padded) := ok_padded T
  refine T.dchain_reach.okD sc_chain_reach fun cdv A outer s H E so A0 hr tk hp => ⟨_, (pds_cons (pds_if (PDW.t (pdw_or (pdt_not (pdt_tru (pd_isi (by rfl) T.m_isinstance (pd_var (pv 0)) (pe_bltn (v := .ty "list") (by rfl) T.m_list bt_list rfl) tq_list))) (pdw_or1 (pdt_not (pdt_tru (pd_callB (cr_all rfl) cl_all (by rfl) T.m_all bt_all (pda_cons (pd_new (pdn_lc (own := [("item", 5)]) rfl sc_chain_reach.nd (pdi_list (pd_var (pv 0))) (blkOk_by (own := [("item", 5)]) (N := N_chain_reach) (sc := defScope s_chain_reach) (by decide +kernel)) (fun _ _ _ _ _ => (pdgw_name (pg_name (i := 5) sc_chain_reach.nd rfl (by first | exact .inl rfl | exact .inr rfl)) (by simp))) (fun _ _ _ _ _ => pdts_nil) (fun _ _ _ _ _ => (pd_call G_is_positive (hr.mono (by omega)) (by rfl) T.dis_positive.g T.dis_positive.F.kp T.dis_positive.b (fun σ => passN0 σ) (pda_cons (pd_var (pv 5)) pda_nil))))) pda_nil)))))))
        (pds_one (pds_raise T.zWrongKind rfl tk T.iWrongKind.i T.iWrongKind.t I_WrongKind (hr.mono (by omega)) T.iWrongKind.b .nil (dd := []) (fun _ _ => rfl) rfl T.cWrongKind.g (pda_cons pd_str pda_nil)))
        pds_nil)
      (pds_cons (pds_if (PDW.t (pdw_or (pdt_not (pdt_tru (pd_call G_is_ratio (hr.mono (by omega)) (by rfl) T.dis_ratio.g T.dis_ratio.F.kp T.dis_ratio.b (fun σ => L2N.passAt tk σ) (pda_cons (pd_var (pv 1)) pda_nil)))) (pdw_or1 (pdt_cmp op_lt ol_lt (pd_ix ix_seq ol_ix (pd_var (pv 1)) pd_int (fun _ _ => rfl)) pd_int (nomark _)))))
        (pds_one (pds_raise T.zWrongKind rfl tk T.iWrongKind.i T.iWrongKind.t I_WrongKind (hr.mono (by omega)) T.iWrongKind.b .nil (dd := []) (fun _ _ => rfl) rfl T.cWrongKind.g (pda_cons pd_str pda_nil)))
        pds_nil)
      (pds_cons (pds_if (PDW.t (pdw_or (pdt_cmp (oo_eq hr.units) ol_eq (pd_callB oo_len cl_len (by rfl) T.m_len bt_len (pda_cons (pd_var (pv 0)) pda_nil)) pd_int (nomark _)) (pdw_or1 (pdt_cmp op_gt ol_gt (pd_callB oo_len cl_len (by rfl) T.m_len bt_len (pda_cons (pd_var (pv 0)) pda_nil)) (pd_c (v := .int 3) (d := .int 3) (pe_glob rfl T.kMOST_CHAIN ⟨_, rfl⟩) (fun _ _ => rfl)) (nomark _)))))
        (pds_one (pds_raise T.zOutOfBounds rfl tk T.iOutOfBounds.i T.iOutOfBounds.t I_OutOfBounds (hr.mono (by omega)) T.iOutOfBounds.b .nil (dd := []) (fun _ _ => rfl) rfl T.cOutOfBounds.g (pda_cons pd_str pda_nil)))
        pds_nil)
      (pds_cons (pds_if (pdt_tru (pd_call G_exceeds (hr.mono (by omega)) (by rfl) T.dexceeds.g T.dexceeds.F.kp T.dexceeds.b (fun σ => L2N.passAt tk σ) (pda_cons (pd_var (pv 1)) (pda_cons (pd_call G_padded (hr.mono (by omega)) (by rfl) T.dpadded.g T.dpadded.F.kp T.dpadded.b (fun σ => L2N.passAt tk σ) (pda_cons (pd_var (pv 0)) pda_nil)) pda_nil))))
        (pds_one (pds_ret (pd_tup (pda_cons pd_str pda_nil))))
        pds_nil)
      (pds_cons (pds_for hp rfl (pdi_enum (by rfl) T.m_enumerate (pda_cons (pd_var (pv 0)) pda_nil)) (pdg_tup (n := 2) rfl (pdgs_cons (pdg_name (pg_name (i := 2) sc_chain_reach.nd rfl (by first | exact .inl rfl | exact .inr rfl))) (pdgs_cons (pdg_name (pg_name (i := 3) sc_chain_reach.nd rfl (by first | exact .inl rfl | exact .inr rfl))) pdgs_nil)))
        (pds_cons (pds_set (i := 4) sc_chain_reach.nd rfl (by first | exact .inl rfl | exact .inr rfl) (pd_op oo_add ol_add (pd_op oo_add ol_add (pd_new (pdn_headE (pd_var (pv 0)) (pd_var (pv 2)))) (pd_new (pdn_tailE (pd_var (pv 0)) (pd_op oo_add ol_add (pd_var (pv 2)) pd_int)))) (pd_new (pdn_lst (pda_cons (pd_var (pv 1)) pda_nil)))))
        (pds_one (pds_if (pdt_tru (pd_call G_exceeds (hr.mono (by omega)) (by rfl) T.dexceeds.g T.dexceeds.F.kp T.dexceeds.b (fun σ => L2N.passAt tk σ) (pda_cons (pd_var (pv 3)) (pda_cons (pd_call G_padded (hr.mono (by omega)) (by rfl) T.dpadded.g T.dpadded.F.kp T.dpadded.b (fun σ => L2N.passAt tk σ) (pda_cons (pd_var (pv 4)) pda_nil)) pda_nil))))
          (pds_one (pds_ret (pd_tup (pda_cons pd_str (pda_cons (pd_var (pv 2)) pda_nil)))))
          pds_nil))))
      (pds_one (pds_ret (pd_tup (pda_cons pd_str pda_nil))))))))), fun ds Q E hl h => ?_⟩
  match ds, hl with
  | [sq, di], _ =>
    obtain ⟨pl, h0, h1⟩ := h
    show sSeq _ _ _ [.fr sq, .fr di, .no, .no, .no, .no]
    refine seq_mid (P := fun ρ => okB sq = true ∧ ρ = [.fr sq, .fr di, .no, .no, .no, .no]) (fun R hR => ?_) ?_
    · walk_at "wk"
      refine ⟨pl.1, ?_⟩
      have no : okB sq = false → 0 + 1 ≤ 1000 ∧ E ⟨T.cWrongKind.C, ["argument"], [.str "squares"]⟩ := fun e => ⟨by decide, h0 e⟩
      by_cases hi : isIn sq "list" = true
      · rw [if_neg (by rw [hi]; decide)]
        obtain ⟨l, rfl⟩ : ∃ l, sq = .lst l := by
          cases sq <;> first
            | exact ⟨_, rfl⟩
            | (exfalso; revert hi; decide +kernel)
            | (exfalso; rename_i a; revert hi; show ¬ _; first | (rw [isIn_bl_list]; decide) | (rw [isIn_int_list]; decide) | (rw [isIn_str_list]; decide) | (rw [isIn_tup_list]; decide))
            | (exfalso; revert hi; show ¬ (("list" == "dict") = true); decide +kernel)
        have hl := pl.2 l rfl
        dsimp only
        refine compL_map (fun d => .bl (isPos d)) _ _ (fun d hd R2 k => ?_) (by rw [sizeLine_eq]; simp; omega) ?_
        · simp only [wipeD]
          walk_at "wk"
          exact ⟨hl.2 d hd, k⟩
        · refine ⟨l.map isPos, by rw [List.map_map]; rfl, ?_⟩
          have ea : (l.map isPos).all id = okB (.lst l) := by
            rw [List.all_map]
            rfl
          rw [ea]
          dsimp only
          cases c : okB (.lst l) with
          | true => exact hR _ ⟨c, rfl⟩
          | false => exact no c
      · have e : okB sq = false := by
          cases sq <;> first | rfl | (exfalso; apply hi; show ("list" == "list") = true; decide +kernel)
        rw [if_pos (by simpa using hi)]
        exact no e
    rintro _ ⟨hb, rfl⟩
    obtain ⟨p2, k0, k1⟩ := h1 hb
    refine seq_mid (P := fun ρ => okG di = true ∧ ρ = [.fr sq, .fr di, .no, .no, .no, .no]) (fun R hR => ?_) ?_
    · walk_at "wk"
      refine ⟨p2, ?_⟩
      unfold okG at k0 hR
      cases w1 : isRat di with
      | false =>
        rw [w1] at k0
        walk_at "wk"
        exact ⟨by decide, k0 rfl⟩
      | true =>
        rw [w1] at k0 hR
        obtain ⟨a, b, rfl, _⟩ := rat_shape w1
        simp only [ratD] at k0 hR ⊢
        walk_at "wk"
        by_cases c : a < 0
        · rw [if_pos (decide_eq_true c)]
          exact ⟨by decide, k0 (by rw [decide_eq_false (by omega)]; rfl)⟩
        · rw [if_neg (by rw [decide_eq_true_iff]; exact c)]
          exact hR _ ⟨by rw [decide_eq_true (by omega)]; rfl, rfl⟩
    rintro _ ⟨hg, rfl⟩
    obtain ⟨l, rfl⟩ : ∃ l : List Rat, sq = .lst (l.map rq) := by
      cases sq with
      | lst l =>
        obtain ⟨r, rfl⟩ := bars_of hb
        exact ⟨r, rfl⟩
      | _ => cases hb
    obtain ⟨g, rfl⟩ := rq_of (show isRat di = true from by unfold okG at hg; rw [Bool.and_eq_true] at hg; exact hg.1)
    obtain ⟨n0, n1⟩ := k1 hg l g rfl rfl
    refine seq_mid (P := fun ρ => (1 ≤ l.length ∧ l.length ≤ 3) ∧ ρ = [.fr (.lst (l.map rq)), .fr (rq g), .no, .no, .no, .no]) (fun R hR => ?_) ?_
    · walk_at "wk"
      rw [List.length_map]
      by_cases c : l.length = 0
      · rw [if_pos (decide_eq_true (by omega))]
        exact ⟨by decide, n0 (.inl c)⟩
      · rw [if_neg (by rw [decide_eq_true_iff]; omega)]
        by_cases c3 : 3 < l.length
        · rw [if_pos (decide_eq_true (by omega))]
          exact ⟨by decide, n0 (.inr c3)⟩
        · rw [if_neg (by rw [decide_eq_true_iff]; omega)]
          exact hR _ ⟨⟨by omega, by omega⟩, rfl⟩
    rintro _ ⟨hn, rfl⟩
    obtain ⟨cs, q⟩ := n1 hn
    refine seq_mid (P := fun ρ => excL g l = false ∧ ρ = [.fr (.lst (l.map rq)), .fr (rq g), .no, .no, .no, .no]) (fun R hR => ?_) ?_
    · walk_at "wk"
      refine ⟨l, rfl, hn.2, ?_⟩
      rw [pad_get hn.2]
      refine ⟨g, _, _, _, rfl, cs.far, ?_⟩
      cases c : exc g (getR l 0) (getR l 1) (getR l 2) with
      | true =>
        walk_at "wk"
        unfold reachW excL at q
        rw [c, if_pos rfl] at q
        exact q
      | false =>
        walk_at "wk"
        exact hR _ ⟨c, rfl⟩
    rintro _ ⟨hf, rfl⟩
    refine seq_mid (P := fun ρ => (∀ j, j < l.length → excL (getR l j) (othersL l j g) = false) ∧ ∃ x y z, ρ = [.fr (.lst (l.map rq)), .fr (rq g), x, y, z, .no]) (fun R hR => ?_) ?_
    · walk_at "wk"
      simp only [iEn]
      walk_at "wk"
      refine forL_inv (P := fun i ρ => (∀ j, j < i → excL (getR l j) (othersL l j g) = false) ∧ ∃ x y z, ρ = [.fr (.lst (l.map rq)), .fr (rq g), x, y, z, .no]) _ _ 0 ?_ ?_ ⟨fun j hj => absurd hj (by omega), _, _, _, rfl⟩
      · rintro i d ρ R' hi ⟨hpre, x, y, z, rfl⟩ hR'
        obtain ⟨e, he, rfl⟩ := enum_at hi
        rw [List.getElem?_map] at he
        have hi' : i < l.length := by
          rcases Nat.lt_or_ge i l.length with k | k
          · exact k
          · rw [List.getElem?_eq_none k] at he
            cases he
        rw [List.getElem?_eq_getElem hi'] at he
        cases he
        have ek : getR l i = l[i] := by
          unfold getR
          rw [List.getD_eq_getElem?_getD, List.getElem?_eq_getElem hi']
          rfl
        rw [Nat.zero_add] at hpre hR'
        walk_at "wk"
        simp only [nHeadE, nTailE]
        walk_at "wk"
        have e1 : ((i : Nat) : Int).toNat = i := by omega
        have e2 : (((i : Nat) : Int) + 1).toNat = i + 1 := by omega
        rw [e1, e2, others_map, ← ek]
        have sl : ∀ n, n ≤ 100 → n ≤ sizeLine := fun n h => by rw [sizeLine_eq]; omega
        refine ⟨by omega, by omega, sl _ (by simp; omega), sl _ (by simp; omega), _, rfl, by rw [others_len hi']; exact hn.2, ?_⟩
        rw [pad_get (by rw [others_len hi']; exact hn.2)]
        refine ⟨_, _, _, _, rfl, cs.near hi', ?_⟩
        cases c : exc (getR l i) (getR (othersL l i g) 0) (getR (othersL l i g) 1) (getR (othersL l i g) 2) with
        | true =>
          dsimp only
          rw [if_pos rfl]
          rw [reach_near hf hi' c hpre] at q
          exact q
        | false =>
          dsimp only
          rw [if_neg (by decide)]
          refine hR' _ ⟨fun j hj => ?_, _, _, _, rfl⟩
          rcases Nat.lt_or_ge j i with k | k
          · exact hpre j k
          · have : j = i := by omega
            subst this
            exact c
      · rintro ρ ⟨hpre, x, y, z, rfl⟩
        exact hR _ ⟨fun j hj => hpre j (by rw [enumD_len, List.length_map]; omega), _, _, _, rfl⟩
    rintro _ ⟨hall, x, y, z, rfl⟩
    walk_at "wk"
    rw [reach_none hf hall] at q
    exact q
end
end My
set_option exponentiation.threshold 100000
namespace My
open PySem PySem.Spec PyProof.Rows L2
local macro_rules | `(tactic| walk_at "dl") => `(tactic| simp only [startD, List.map_cons, List.map_nil, List.length_cons, List.length_nil, List.cons_append, List.nil_append, List.replicate_succ, List.replicate_zero, List.getElem?_cons_zero, List.getElem?_cons_succ, List.set_cons_zero, List.set_cons_succ,
  dVar, rdS, dC, dNew, dOp, onB, qB, dChain, qAnd, qOr, qNot, qTru, truD, dIf, dAnd, dOr, dNot, dUn, ddNeg, lNil, lCons, dTup, nLst, ddI, ddI0, ddAdd, isNonD, isBlD, ddIsN, ddIsB, ddIx_t0, ddIx_t1, ddIx_t2, ddIx_t3, ddIx_l0, ddIx_l1, ddIx_l2, dCB, ddLen, ddInt1, ddAbs, ddMM, ddTuple, nCB, nnList, ddIsi, dCall,
  sSkip, sSeq, sBreak, sCont, sExpr, sRet, sRetN, sIf, sNever, gdName, gdNil, gdCons, gdTup, sAsg, sSetN, sPar, sRaise, sFrz, owS, sApp, sIns, dLenO, dIxO, sTry, sFor, iL, iT, onL, onT, iR1, iR2, nComp, qYes,
  ddEq_ii, ddEq_ss, ddEq_bb, Bool.false_bne, Bool.true_bne, List.append_nil, true_and, and_true, if_true, if_false, Bool.not_true, Bool.not_false, Bool.true_eq_false, Bool.false_eq_true, ite_true, ite_false, id_eq])

local macro_rules | `(tactic| walk_at "is") => `(tactic| simp only [plain_non, isIn_non_int, isIn_non_str, isIn_non_bool, isIn_non_list, isIn_non_tuple, isIn_non_dict, plain_bl, isIn_bl_int, isIn_bl_str, isIn_bl_bool, isIn_bl_list, isIn_bl_tuple, isIn_bl_dict, plain_int, isIn_int_int, isIn_int_str, isIn_int_bool, isIn_int_list, isIn_int_tuple, isIn_int_dict, plain_str, isIn_str_int, isIn_str_str, isIn_str_bool, isIn_str_list, isIn_str_tuple, isIn_str_dict, plain_tup, isIn_tup_int, isIn_tup_str, isIn_tup_bool, isIn_tup_list, isIn_tup_tuple, isIn_tup_dict, plain_lst, isIn_lst_int, isIn_lst_str, isIn_lst_bool, isIn_lst_list, isIn_lst_tuple, isIn_lst_dict, sl0, sl1, sl2, sl3, sl4, decide_true, decide_false, ddIsi, ddIsi2, true_and, if_true, if_false, Bool.false_eq_true, Bool.not_true, Bool.not_false, Bool.or_true, Bool.or_false, Bool.true_or, and_true])
local macro_rules | `(tactic| walk_at "wk") => `(tactic| ((try walk_at "dl"); (try walk_at "is"); (try walk_at "dl")))

/-! ### the plain law of chains -/
theorem rs8 {p u : Rat} (h : 0 ≤ u) : (0 < rsQ p (-8) u) = (0 < p ∧ 0 < p * p - 64 * u) := by
  have e : (-8 : Rat) * -8 = 64 := by grind
  unfold rsQ
  rw [e]
  rcases sg_cases p with ⟨hp, ep⟩ | ⟨hp, ep⟩ | ⟨hp, ep⟩
  · rw [ep, if_neg (by decide)]
    by_cases hu : u = 0
    · subst hu
      rw [Rat.mul_zero, Rat.mul_zero]
      rw [if_pos (.inl rfl)]
      refine propext ⟨fun _ => ⟨hp, ?_⟩, fun _ => by decide⟩
      have := Rat.mul_pos hp hp
      grind
    · have up : 0 < u := by grind
      have n : sg (-8 * u) = -1 := sg_neg (by grind)
      rw [n, if_neg (by decide), Int.one_mul, sg_gt]
      exact propext ⟨fun k => ⟨hp, k⟩, fun k => k.2⟩
  · have z : ¬ (0 < p) := Rat.not_lt.mpr (Rat.le_of_lt hp)
    rw [ep, if_neg (by decide)]
    refine propext ⟨fun k => ?_, fun k => absurd k.1 z⟩
    exfalso
    revert k
    by_cases hu : u = 0
    · subst hu
      rw [Rat.mul_zero, Rat.mul_zero]
      rw [if_pos (.inl rfl)]
      decide
    · have n : sg (-8 * u) = -1 := sg_neg (by grind)
      rw [n, if_pos (.inr rfl)]
      decide
  · subst hp
    rw [ep, if_pos rfl]
    refine propext ⟨fun k => ?_, fun k => absurd k.1 Rat.lt_irrefl⟩
    exfalso
    rcases sg_cases (-8 * u) with ⟨a, b⟩ | ⟨a, b⟩ | ⟨a, b⟩
    · grind
    · rw [b] at k
      revert k
      decide
    · rw [b] at k
      revert k
      decide
theorem mul_le {a b c d : Rat} (h1 : 0 ≤ a) (h2 : a ≤ b) (h3 : 0 ≤ c) (h4 : c ≤ d) : a * c ≤ b * d := by
  have x := Rat.mul_nonneg (a := b - a) (b := c) (by grind) h3
  have y := Rat.mul_nonneg (a := b) (b := d - c) (by grind) (by grind)
  grind
theorem exc_iff {L a b c : Rat} (hL : 0 ≤ L) (ha : 0 ≤ a) (hb : 0 ≤ b) (hc : 0 ≤ c) : exc L a b c = true ↔ (0 < leftQ L a b c ∧ 0 < leftQ L a b c * leftQ L a b c - 64 * prodQ L a b c) ∧ a < L ∧ b < L ∧ c < L := by
  have p0 : 0 ≤ prodQ L a b c := Rat.mul_nonneg (Rat.mul_nonneg hL ha) (Rat.mul_nonneg hb hc)
  unfold exc
  rw [Bool.and_eq_true, Bool.and_eq_true, decide_eq_true_iff, decide_eq_true_iff, decide_eq_true_iff, rs8 p0]
  have la := Rat.mul_nonneg hL ha
  have bc := Rat.mul_nonneg hb hc
  constructor
  · rintro ⟨h1, h2, h3, h4⟩
    have key : ∀ x y : Rat, 0 ≤ x → 0 ≤ y → x + y = b + c → x < L := fun x y hx hy e => by
      refine Rat.not_le.mp fun z => ?_
      have d0 : 0 ≤ L + a - (b + c) := Rat.le_of_lt h2
      have d1 : L + a - (b + c) ≤ a := by grind
      have q1 := mul_le d0 d1 d0 d1
      have q2 := mul_le ha (show a ≤ L by grind) ha (Rat.le_refl (a := a))
      unfold leftQ at h3
      grind
    exact ⟨⟨h3, h4⟩, by grind, key b c hb hc rfl, key c b hc hb (Rat.add_comm c b)⟩
  · rintro ⟨⟨h3, h4⟩, h5, h6, h7⟩
    refine ⟨by grind, ?_, h3, h4⟩
    refine Rat.not_le.mp fun z => ?_
    have e0 : 0 ≤ b + c - L - a := by grind
    have q := mul_le e0 (show b + c - L - a ≤ b by grind) e0 (show b + c - L - a ≤ c by grind)
    unfold leftQ at h3
    grind
/-! ### symmetric sums -/
def smL : List Rat → Rat
  | [] => 0
  | x :: l => x + smL l
def sqL : List Rat → Rat
  | [] => 0
  | x :: l => x * x + sqL l
def prL : List Rat → Rat
  | [] => 1
  | x :: l => x * prL l
theorem smL_perm {l l' : List Rat} (p : l.Perm l') : smL l = smL l' := by
  induction p with
  | nil => rfl
  | cons x p ih => show x + _ = x + _; rw [ih]
  | swap x y l => show y + (x + smL l) = x + (y + smL l); grind
  | trans p q ih1 ih2 => exact ih1.trans ih2
theorem sqL_perm {l l' : List Rat} (p : l.Perm l') : sqL l = sqL l' := by
  induction p with
  | nil => rfl
  | cons x p ih => show x * x + _ = x * x + _; rw [ih]
  | swap x y l => show y * y + (x * x + sqL l) = x * x + (y * y + sqL l); grind
  | trans p q ih1 ih2 => exact ih1.trans ih2
theorem prL_perm {l l' : List Rat} (p : l.Perm l') : prL l = prL l' := by
  induction p with
  | nil => rfl
  | cons x p ih => show x * _ = x * _; rw [ih]
  | swap x y l => show y * (x * prL l) = x * (y * prL l); grind
  | trans p q ih1 ih2 => exact ih1.trans ih2
def lfQ (l : List Rat) : Rat := 2 * sqL l - smL l * smL l
def pfQ (l : List Rat) : Rat := if l.length = 4 then prL l else 0
/-- one root of the list is greater than the sum of the others -/
def Fq (l : List Rat) : Prop := 0 < lfQ l ∧ 0 < lfQ l * lfQ l - 64 * pfQ l
theorem Fq.perm {l l' : List Rat} (p : l.Perm l') : Fq l = Fq l' := by
  unfold Fq lfQ pfQ
  rw [smL_perm p, sqL_perm p, prL_perm p, p.length_eq]
theorem excL_iff {L : Rat} {l : List Rat} (hL : 0 ≤ L) (hl : ∀ x ∈ l, 0 ≤ x) (hn : 1 ≤ l.length ∧ l.length ≤ 3) : excL L l = true ↔ Fq (L :: l) ∧ ∀ x ∈ l, x < L := by
  unfold excL
  match l, hn with
  | [a], _ =>
    have ha := hl a (by simp)
    have e := exc_iff hL ha Rat.le_refl (Rat.le_refl (a := 0))
    show exc L a 0 0 = true ↔ _
    rw [e]
    have e1 : leftQ L a 0 0 = lfQ [L, a] := by simp only [leftQ, lfQ, smL, sqL]; grind
    have e2 : prodQ L a 0 0 = pfQ [L, a] := by simp only [prodQ, pfQ]; simp
    rw [e1, e2]
    constructor
    · rintro ⟨f, h, _, _⟩
      exact ⟨f, fun x hx => by rw [List.mem_singleton.mp hx]; exact h⟩
    · rintro ⟨f, h⟩
      have := h a (by simp)
      exact ⟨f, this, by grind, by grind⟩
  | [a, b], _ =>
    have ha := hl a (by simp)
    have hb := hl b (by simp)
    have e := exc_iff hL ha hb (Rat.le_refl (a := 0))
    show exc L a b 0 = true ↔ _
    rw [e]
    have e1 : leftQ L a b 0 = lfQ [L, a, b] := by simp only [leftQ, lfQ, smL, sqL]; grind
    have e2 : prodQ L a b 0 = pfQ [L, a, b] := by simp only [prodQ, pfQ]; simp
    rw [e1, e2]
    constructor
    · rintro ⟨f, h, h2, _⟩
      refine ⟨f, fun x hx => ?_⟩
      simp only [List.mem_cons, List.not_mem_nil, or_false] at hx
      rcases hx with rfl | rfl
      · exact h
      · exact h2
    · rintro ⟨f, h⟩
      have k1 := h a (by simp)
      have k2 := h b (by simp)
      exact ⟨f, k1, k2, by grind⟩
  | [a, b, c], _ =>
    have ha := hl a (by simp)
    have hb := hl b (by simp)
    have hc := hl c (by simp)
    have e := exc_iff hL ha hb hc
    show exc L a b c = true ↔ _
    rw [e]
    have e1 : leftQ L a b c = lfQ [L, a, b, c] := by simp only [leftQ, lfQ, smL, sqL]; grind
    have e2 : prodQ L a b c = pfQ [L, a, b, c] := by simp only [prodQ, pfQ, prL]; simp; grind
    rw [e1, e2]
    constructor
    · rintro ⟨f, h, h2, h3⟩
      refine ⟨f, fun x hx => ?_⟩
      simp only [List.mem_cons, List.not_mem_nil, or_false] at hx
      rcases hx with rfl | rfl | rfl
      · exact h
      · exact h2
      · exact h3
    · rintro ⟨f, h⟩
      exact ⟨f, h a (by simp), h b (by simp), h c (by simp)⟩
  | [], h => exact absurd h.1 (by decide)
  | _ :: _ :: _ :: _ :: _, h => exact absurd h.2 (by simp)
end My
set_option exponentiation.threshold 100000
namespace My
open PySem PySem.Spec PyProof.Rows L2
local macro_rules | `(tactic| walk_at "dl") => `(tactic| simp only [startD, List.map_cons, List.map_nil, List.length_cons, List.length_nil, List.cons_append, List.nil_append, List.replicate_succ, List.replicate_zero, List.getElem?_cons_zero, List.getElem?_cons_succ, List.set_cons_zero, List.set_cons_succ,
  dVar, rdS, dC, dNew, dOp, onB, qB, dChain, qAnd, qOr, qNot, qTru, truD, dIf, dAnd, dOr, dNot, dUn, ddNeg, lNil, lCons, dTup, nLst, ddI, ddI0, ddAdd, isNonD, isBlD, ddIsN, ddIsB, ddIx_t0, ddIx_t1, ddIx_t2, ddIx_t3, ddIx_l0, ddIx_l1, ddIx_l2, dCB, ddLen, ddInt1, ddAbs, ddMM, ddTuple, nCB, nnList, ddIsi, dCall,
  sSkip, sSeq, sBreak, sCont, sExpr, sRet, sRetN, sIf, sNever, gdName, gdNil, gdCons, gdTup, sAsg, sSetN, sPar, sRaise, sFrz, owS, sApp, sIns, dLenO, dIxO, sTry, sFor, iL, iT, onL, onT, iR1, iR2, nComp, qYes,
  ddEq_ii, ddEq_ss, ddEq_bb, Bool.false_bne, Bool.true_bne, List.append_nil, true_and, and_true, if_true, if_false, Bool.not_true, Bool.not_false, Bool.true_eq_false, Bool.false_eq_true, ite_true, ite_false, id_eq])

local macro_rules | `(tactic| walk_at "is") => `(tactic| simp only [plain_non, isIn_non_int, isIn_non_str, isIn_non_bool, isIn_non_list, isIn_non_tuple, isIn_non_dict, plain_bl, isIn_bl_int, isIn_bl_str, isIn_bl_bool, isIn_bl_list, isIn_bl_tuple, isIn_bl_dict, plain_int, isIn_int_int, isIn_int_str, isIn_int_bool, isIn_int_list, isIn_int_tuple, isIn_int_dict, plain_str, isIn_str_int, isIn_str_str, isIn_str_bool, isIn_str_list, isIn_str_tuple, isIn_str_dict, plain_tup, isIn_tup_int, isIn_tup_str, isIn_tup_bool, isIn_tup_list, isIn_tup_tuple, isIn_tup_dict, plain_lst, isIn_lst_int, isIn_lst_str, isIn_lst_bool, isIn_lst_list, isIn_lst_tuple, isIn_lst_dict, sl0, sl1, sl2, sl3, sl4, decide_true, decide_false, ddIsi, ddIsi2, true_and, if_true, if_false, Bool.false_eq_true, Bool.not_true, Bool.not_false, Bool.or_true, Bool.or_false, Bool.true_or, and_true])
local macro_rules | `(tactic| walk_at "wk") => `(tactic| ((try walk_at "dl"); (try walk_at "is"); (try walk_at "dl")))

def m_like (n : Nat) : DF := fun ds Q _ => ∃ d, ds = [d, d] ∧ TreeD n d ∧ Q (.bl true)
abbrev s_like : Stmt := topS 75
abbrev N_like : List Str := ["got", "due", "k"]
abbrev P_like : List Str := ["got", "due"]
theorem sc_like : FnScope N_like P_like (defScope s_like) := ⟨rfl, rfl, rfl, by decide +kernel, rfl, by decide +kernel, by decide +kernel⟩

section
variable {P : Program} {w : World} {K : PySem.W.Frag} {mg : Str → Option Value} {base : Heap}
theorem ok_like (T : Txt K mg) (n : Nat) : FnOk P w K mg base (L2N.CX P w) n T.dlike.f T.dlike.fd P_like (spD K 2 (m_like n)) := by
  induction n with
  | zero =>
    refine ⟨fun _ _ _ _ h => ?_, fun _ _ _ _ _ _ _ _ _ _ _ _ _ h => ?_⟩ <;>
    · obtain ⟨_, _, _, _, _, _, _, _, ⟨d, _, h, _⟩, _⟩ := h
      unfold TreeD at h
      exact h.elim
  | succ n G_like =>
    refine T.dlike.okD sc_like fun cdv A outer s H E so A0 hr tk hp => ⟨_, (pds_cons (pds_if (pdt_tru (pd_isiT (by rfl) T.m_isinstance (pd_var (pv 1)) (pe_bltn (v := .ty "list") (by rfl) T.m_list bt_list rfl) (pe_bltn (v := .ty "tuple") (by rfl) T.m_tuple bt_tuple rfl) tq_list tq_tuple))
        (pds_cons (pds_if (PDW.t (pdw_or (pdt_not (pdt_tru (pd_isiT (by rfl) T.m_isinstance (pd_var (pv 0)) (pe_bltn (v := .ty "list") (by rfl) T.m_list bt_list rfl) (pe_bltn (v := .ty "tuple") (by rfl) T.m_tuple bt_tuple rfl) tq_list tq_tuple))) (pdw_or (pdt_cmp (oo_ne hr.units) ol_ne (pd_isi (by rfl) T.m_isinstance (pd_var (pv 0)) (pe_bltn (v := .ty "list") (by rfl) T.m_list bt_list rfl) tq_list) (pd_isi (by rfl) T.m_isinstance (pd_var (pv 1)) (pe_bltn (v := .ty "list") (by rfl) T.m_list bt_list rfl) tq_list) (nomark _)) (pdw_or1 (pdt_cmp (oo_ne hr.units) ol_ne (pd_callB oo_len cl_len (by rfl) T.m_len bt_len (pda_cons (pd_var (pv 0)) pda_nil)) (pd_callB oo_len cl_len (by rfl) T.m_len bt_len (pda_cons (pd_var (pv 1)) pda_nil)) (nomark _))))))
          (pds_one (pds_ret pd_bl))
          pds_nil)
        (pds_one (pds_ret (pd_callB (cr_all rfl) cl_all (by rfl) T.m_all bt_all (pda_cons (pd_new (pdn_lc (own := [("k", 2)]) rfl sc_like.nd (pdi_range1 (by rfl) T.m_range (pda_cons (pd_callB oo_len cl_len (by rfl) T.m_len bt_len (pda_cons (pd_var (pv 1)) pda_nil)) pda_nil)) (blkOk_by (own := [("k", 2)]) (N := N_like) (sc := defScope s_like) (by decide +kernel)) (fun _ _ _ _ _ => (pdgw_name (pg_name (i := 2) sc_like.nd rfl (by first | exact .inl rfl | exact .inr rfl)) (by simp))) (fun _ _ _ _ _ => pdts_nil) (fun _ _ _ _ _ => (pd_call G_like (hr.mono (by omega)) (by rfl) T.dlike.g T.dlike.F.kp T.dlike.b (fun σ => passN0 σ) (pda_cons (pd_ix ix_seq ol_ix (pd_var (pv 0)) (pd_var (pv 2)) (fun _ _ => rfl)) (pda_cons (pd_ix ix_seq ol_ix (pd_var (pv 1)) (pd_var (pv 2)) (fun _ _ => rfl)) pda_nil)))))) pda_nil)))))
        pds_nil)
      (pds_cons (pds_if (PDW.t (pdw_or (pdt_cmp o_isN ol_isN (pd_var (pv 1)) pd_non (nomark _)) (pdw_or1 (pdt_tru (pd_isi (by rfl) T.m_isinstance (pd_var (pv 1)) (pe_bltn (v := .ty "bool") (by rfl) T.m_bool bt_bool rfl) tq_bool)))))
        (pds_one (pds_ret (pd_or (pd_and (pd_cmp o_isN ol_isN (pd_var (pv 0)) pd_non (nomark _)) (pd_one (pd_cmp o_isN ol_isN (pd_var (pv 1)) pd_non (nomark _)))) (pd_or (pd_and (pd_cmp o_isB ol_isB (pd_var (pv 0)) pd_bl (nomark _)) (pd_one (pd_cmp o_isB ol_isB (pd_var (pv 1)) pd_bl (nomark _)))) (pd_one (pd_and (pd_cmp o_isB ol_isB (pd_var (pv 0)) pd_bl (nomark _)) (pd_one (pd_cmp o_isB ol_isB (pd_var (pv 1)) pd_bl (nomark _)))))))))
        pds_nil)
      (pds_cons (pds_if (pdt_tru (pd_isi (by rfl) T.m_isinstance (pd_var (pv 1)) (pe_bltn (v := .ty "str") (by rfl) T.m_str bt_str rfl) tq_str))
        (pds_one (pds_ret (pd_and (pd_isi (by rfl) T.m_isinstance (pd_var (pv 0)) (pe_bltn (v := .ty "str") (by rfl) T.m_str bt_str rfl) tq_str) (pd_one (pd_cmp (oo_eq hr.units) ol_eq (pd_var (pv 0)) (pd_var (pv 1)) (nomark _))))))
        pds_nil)
      (pds_one (pds_ret (pd_and (pd_isi (by rfl) T.m_isinstance (pd_var (pv 0)) (pe_bltn (v := .ty "int") (by rfl) T.m_int bt_int rfl) tq_int) (pd_and (pd_not (pd_isi (by rfl) T.m_isinstance (pd_var (pv 0)) (pe_bltn (v := .ty "bool") (by rfl) T.m_bool bt_bool rfl) tq_bool)) (pd_one (pd_cmp (oo_eq hr.units) ol_eq (pd_var (pv 0)) (pd_var (pv 1)) (nomark _)))))))))), fun ds Q E hl h => ?_⟩
    obtain ⟨d, rfl, t1, q⟩ := h
    have p1 := t1.plain
    cases d with
    | tup l =>
      unfold TreeD at t1
      walk_at "wk"
      have t23 := t1.1
      refine ⟨by omega, by omega, ?_⟩
      refine compL_map (fun _ => .bl true) _ _ (fun d hd R k => ?_) (by rw [rangeD_len]; rw [sizeLine_eq]; simp; omega) ?_
      · obtain ⟨i, hi⟩ := List.getElem?_of_mem hd
        obtain ⟨hj, rfl⟩ := rangeD_at hi
        have hi : i < l.length := by omega
        simp only [wipeD]
        walk_at "wk"
        refine ddIx_tup (List.getElem?_eq_getElem hi) ?_
        refine ddIx_tup (List.getElem?_eq_getElem hi) ?_
        exact ⟨_, rfl, t1.2 _ (List.getElem_mem hi), k⟩
      · refine ⟨(rangeD 0 (l.length : Int).toNat).map fun _ => true, by rw [List.map_map]; rfl, ?_⟩
        have e : ((rangeD 0 (l.length : Int).toNat).map fun _ => true).all id = true := by simp
        rw [e]
        exact q
    | lst l =>
      unfold TreeD at t1
      walk_at "wk"
      have t23 := t1.1
      refine ⟨by omega, by omega, ?_⟩
      refine compL_map (fun _ => .bl true) _ _ (fun d hd R k => ?_) (by rw [rangeD_len]; rw [sizeLine_eq]; simp; omega) ?_
      · obtain ⟨i, hi⟩ := List.getElem?_of_mem hd
        obtain ⟨hj, rfl⟩ := rangeD_at hi
        have hi : i < l.length := by omega
        simp only [wipeD]
        walk_at "wk"
        refine ddIx_lst (List.getElem?_eq_getElem hi) ?_
        refine ddIx_lst (List.getElem?_eq_getElem hi) ?_
        exact ⟨_, rfl, t1.2 _ (List.getElem_mem hi), k⟩
      · refine ⟨(rangeD 0 (l.length : Int).toNat).map fun _ => true, by rw [List.map_map]; rfl, ?_⟩
        have e : ((rangeD 0 (l.length : Int).toNat).map fun _ => true).all id = true := by simp
        rw [e]
        exact q
    | non =>
      walk_at "wk"
      exact q
    | bl b =>
      cases b
      · walk_at "wk"
        exact q
      · walk_at "wk"
        exact q
    | int i =>
      walk_at "wk"
      exact q
    | str z =>
      walk_at "wk"
      exact q
    | _ => unfold TreeD at t1; exact t1.elim
end
end My
set_option exponentiation.threshold 100000
namespace My
open PySem PySem.Spec PyProof.Rows L2
local macro_rules | `(tactic| walk_at "dl") => `(tactic| simp only [startD, List.map_cons, List.map_nil, List.length_cons, List.length_nil, List.cons_append, List.nil_append, List.replicate_succ, List.replicate_zero, List.getElem?_cons_zero, List.getElem?_cons_succ, List.set_cons_zero, List.set_cons_succ,
  dVar, rdS, dC, dNew, dOp, onB, qB, dChain, qAnd, qOr, qNot, qTru, truD, dIf, dAnd, dOr, dNot, dUn, ddNeg, lNil, lCons, dTup, nLst, ddI, ddI0, ddAdd, isNonD, isBlD, ddIsN, ddIsB, ddIx_t0, ddIx_t1, ddIx_t2, ddIx_t3, ddIx_l0, ddIx_l1, ddIx_l2, dCB, ddLen, ddInt1, ddAbs, ddMM, ddTuple, nCB, nnList, ddIsi, dCall,
  sSkip, sSeq, sBreak, sCont, sExpr, sRet, sRetN, sIf, sNever, gdName, gdNil, gdCons, gdTup, sAsg, sSetN, sPar, sRaise, sFrz, owS, sApp, sIns, dLenO, dIxO, sTry, sFor, iL, iT, onL, onT, iR1, iR2, nComp, qYes,
  ddEq_ii, ddEq_ss, ddEq_bb, Bool.false_bne, Bool.true_bne, List.append_nil, true_and, and_true, if_true, if_false, Bool.not_true, Bool.not_false, Bool.true_eq_false, Bool.false_eq_true, ite_true, ite_false, id_eq])

local macro_rules | `(tactic| walk_at "is") => `(tactic| simp only [plain_non, isIn_non_int, isIn_non_str, isIn_non_bool, isIn_non_list, isIn_non_tuple, isIn_non_dict, plain_bl, isIn_bl_int, isIn_bl_str, isIn_bl_bool, isIn_bl_list, isIn_bl_tuple, isIn_bl_dict, plain_int, isIn_int_int, isIn_int_str, isIn_int_bool, isIn_int_list, isIn_int_tuple, isIn_int_dict, plain_str, isIn_str_int, isIn_str_str, isIn_str_bool, isIn_str_list, isIn_str_tuple, isIn_str_dict, plain_tup, isIn_tup_int, isIn_tup_str, isIn_tup_bool, isIn_tup_list, isIn_tup_tuple, isIn_tup_dict, plain_lst, isIn_lst_int, isIn_lst_str, isIn_lst_bool, isIn_lst_list, isIn_lst_tuple, isIn_lst_dict, sl0, sl1, sl2, sl3, sl4, decide_true, decide_false, ddIsi, ddIsi2, true_and, if_true, if_false, Bool.false_eq_true, Bool.not_true, Bool.not_false, Bool.or_true, Bool.or_false, Bool.true_or, and_true])
local macro_rules | `(tactic| walk_at "wk") => `(tactic| ((try walk_at "dl"); (try walk_at "is"); (try walk_at "dl")))

/-! ### the law's small defs -/
def m_pick : DF := fun ds Q _ => match ds with
  | [.sto, .lst l] => l ≠ [] ∧ l.length ≤ 1000 ∧ ∀ d ∈ l, Q d
  | _ => False
def m_sum : DF := fun ds Q _ => ∃ l : List Rat, ds = [.lst (l.map rq)] ∧ (∀ x ∈ l, Cd 6 36 x ∧ 0 < x) ∧ l.length ≤ 3 ∧ ∀ q, Cd 6 108 q → 0 ≤ q → Q (rq q)
def m_cost : DF := fun ds Q _ => match ds with
  | [.sto] => ∀ q, Cd 6 36 q → 0 ≤ q → Q (rq q)
  | _ => False
def m_long : DF := fun ds Q _ => match ds with
  | [.sto] => ∀ q, Sz 12 12 q → 0 < q → Q (rq q)
  | _ => False
def m_longer : DF := fun ds Q _ => ∃ L l, ds = [rq L, .lst (l.map rq)] ∧ (1 ≤ l.length ∧ l.length ≤ 3) ∧ S4 L (getR l 0) (getR l 1) (getR l 2) ∧ Q (.bl (excL L l))
def m_due : DF := fun ds Q _ => ∃ l g, ds = [.lst (l.map rq), rq g] ∧ ChSz l g ∧ Q (reachW l g)
theorem num_le (q : Rat) : (q.num ≤ 0) = ¬ (0 < q) := by
  rw [← sg_le]
  show _ = (sgn q.num ≤ 0)
  unfold sgn
  split
  · exact propext ⟨fun h => by omega, fun h => absurd h (by decide)⟩
  · split
    · exact propext ⟨fun h => by decide, fun h => by omega⟩
    · exact propext ⟨fun h => by decide, fun h => by omega⟩
theorem num_gt (q : Rat) : (0 < q.num) = (0 < q) := by
  have := num_le q
  refine propext ⟨fun h => Rat.not_le.mp fun z => ?_, fun h => ?_⟩
  · have k : ¬ (0 < q) := Rat.not_lt.mpr z
    rw [← this] at k
    omega
  · refine Int.not_le.mp fun z => ?_
    rw [this] at z
    exact z h
theorem num_zero (q : Rat) : (q.num = 0) = (q = 0) := propext Rat.num_eq_zero
theorem ix0 (q : Rat) (R : D → Prop) : ddIx (rq q) (.int 0) R = R (.int q.num) := ddIx_t0 _ _ _
theorem cd_sz {q : Rat} (h : Cd 6 24 q) : Sz 2 1 q := h.sz (by decide)
theorem cp_sz {q : Rat} (h : Cd 6 36 q) : Sz 2 1 q := h.sz (by decide)
theorem two_more {l : List Rat} (h : 1 ≤ l.length ∧ l.length ≤ 3) : ∃ t, l.map rq ++ [rq 0, rq 0] = rq (getR l 0) :: rq (getR l 1) :: rq (getR l 2) :: t := by
  match l, h with
  | [a], _ => exact ⟨_, rfl⟩
  | [a, b], _ => exact ⟨_, rfl⟩
  | [a, b, c], _ => exact ⟨_, rfl⟩
  | [], h => exact absurd h.1 (by decide)
  | _ :: _ :: _ :: _ :: _, h => exact absurd h.2 (by simp)
abbrev s_pick : Stmt := topS 54
abbrev N_pick : List Str := ["store", "items"]
abbrev P_pick : List Str := ["store", "items"]
theorem sc_pick : FnScope N_pick P_pick (defScope s_pick) := ⟨rfl, rfl, rfl, by decide +kernel, rfl, by decide +kernel, by decide +kernel⟩

abbrev s_sum : Stmt := topS 62
abbrev N_sum : List Str := ["items", "got", "one"]
abbrev P_sum : List Str := ["items"]
theorem sc_sum : FnScope N_sum P_sum (defScope s_sum) := ⟨rfl, rfl, rfl, by decide +kernel, rfl, by decide +kernel, by decide +kernel⟩

abbrev s_cost : Stmt := topS 70
abbrev N_cost : List Str := ["store"]
abbrev P_cost : List Str := ["store"]
theorem sc_cost : FnScope N_cost P_cost (defScope s_cost) := ⟨rfl, rfl, rfl, by decide +kernel, rfl, by decide +kernel, by decide +kernel⟩

abbrev s_long : Stmt := topS 76
abbrev N_long : List Str := ["store"]
abbrev P_long : List Str := ["store"]
theorem sc_long : FnScope N_long P_long (defScope s_long) := ⟨rfl, rfl, rfl, by decide +kernel, rfl, by decide +kernel, by decide +kernel⟩

abbrev s_longer : Stmt := topS 78
abbrev N_longer : List Str := ["most", "some", "rest", "plain", "mixed", "left", "product"]
abbrev P_longer : List Str := ["most", "some"]
theorem sc_longer : FnScope N_longer P_longer (defScope s_longer) := ⟨rfl, rfl, rfl, by decide +kernel, rfl, by decide +kernel, by decide +kernel⟩

abbrev s_due : Stmt := topS 79
abbrev N_due : List Str := ["bars", "gap", "k"]
abbrev P_due : List Str := ["bars", "gap"]
theorem sc_due : FnScope N_due P_due (defScope s_due) := ⟨rfl, rfl, rfl, by decide +kernel, rfl, by decide +kernel, by decide +kernel⟩

section
variable {P : Program} {w : World} {K : PySem.W.Frag} {mg : Str → Option Value} {base : Heap}
theorem ok_pick (T : Txt K mg) : FnOk P w K mg base (L2N.CX P w) 173 T.dpick.f T.dpick.fd P_pick (spD K 2 m_pick) := by
  have G_edge : FnOk P w K mg base (L2N.CX P w) 172 T.dedge.f T.dedge.fd P_edge (spD K 2 m_take) := ok_edgeD T
  refine T.dpick.okD sc_pick fun cdv A outer s H E so A0 hr tk hp => ⟨_, (pds_cons (pds_if (pdt_cmp (oo_eq hr.units) ol_eq (pd_callB oo_len cl_len (by rfl) T.m_len bt_len (pda_cons (pd_var (pv 1)) pda_nil)) pd_int (nomark _))
        (pds_one (pds_ret pd_non))
        pds_nil)
      (pds_one (pds_ret (pd_ix ix_seq ol_ix (pd_var (pv 1)) (pd_call G_edge (hr.mono (by omega)) (by rfl) T.dedge.g T.dedge.F.kp T.dedge.b (fun σ => L2N.passAt tk σ) (pda_cons (pd_var (pv 0)) (pda_cons (pd_callB oo_len cl_len (by rfl) T.m_len bt_len (pda_cons (pd_var (pv 1)) pda_nil)) pda_nil))) (fun _ _ => rfl))))), fun ds Q E hl h => ?_⟩
  unfold m_pick at h
  split at h
  · rename_i l
    obtain ⟨h0, h1, h⟩ := h
    have hz : 0 < l.length := by
      cases l with
      | nil => exact absurd rfl h0
      | cons _ _ => simp
    walk_at "wk"
    rw [if_neg (by rw [decide_eq_true_iff]; omega)]
    refine ⟨by show (l.length : Int) < BIG; have : BIG = 2305843009213693951 ∨ True := .inr trivial; unfold BIG; omega, fun r r0 r1 => ddIx_any r0 (by omega) h⟩
  · exact h.elim
theorem ok_sum (T : Txt K mg) : FnOk P w K mg base (L2N.CX P w) 3 T.dsum.f T.dsum.fd P_sum (spD K 1 m_sum) := by
  have G_plus : FnOk P w K mg base (L2N.CX P w) 2 T.dplus.f T.dplus.fd P_plus (spD K 2 (m_r2 fun p q => p + q)) := ok_plus T
  refine T.dsum.okD sc_sum fun cdv A outer s H E so A0 hr tk hp => ⟨_, (pds_cons (pds_set (i := 1) sc_sum.nd rfl (by first | exact .inl rfl | exact .inr rfl) (pd_tup (pda_cons pd_int (pda_cons pd_int pda_nil))))
      (pds_cons (pds_for hp rfl (pdi_list (pd_var (pv 0))) (pdg_name (pg_name (i := 2) sc_sum.nd rfl (by first | exact .inl rfl | exact .inr rfl)))
        (pds_one (pds_set (i := 1) sc_sum.nd rfl (by first | exact .inl rfl | exact .inr rfl) (pd_call G_plus (hr.mono (by omega)) (by rfl) T.dplus.g T.dplus.F.kp T.dplus.b (fun σ => L2N.passAt tk σ) (pda_cons (pd_var (pv 1)) (pda_cons (pd_var (pv 2)) pda_nil))))))
      (pds_one (pds_ret (pd_var (pv 1)))))), fun ds Q E hl h => ?_⟩
  obtain ⟨l, rfl, hc, hn, h⟩ := h
  walk_at "wk"
  refine forL_inv (P := fun i ρ => ∃ q x, (Cd 6 (36 * i) q ∧ 0 ≤ q) ∧ ρ = [.fr (.lst (l.map rq)), .fr (rq q), x]) _ _ 0 ?_ ?_ ⟨0, _, ⟨⟨0, by grind, by decide⟩, Rat.le_refl⟩, rfl⟩
  · rintro i d ρ R' hi ⟨q, x, ⟨cq, q0⟩, rfl⟩ hR'
    rw [List.getElem?_map] at hi
    cases e : l[i]? with
    | none =>
      rw [e] at hi
      cases hi
    | some y =>
      rw [e] at hi
      cases hi
      obtain ⟨cy, y0⟩ := hc y (List.mem_of_getElem? e)
      have il : i < l.length := (List.getElem?_eq_some_iff.mp e).1
      walk_at "wk"
      have sq : Sz 3 1 q := cq.sz (by
        refine ⟨by decide, ?_, by decide⟩
        show 36 * (0 + i) < 1000
        omega)
      exact ⟨q, y, rfl, sq.ok (cp_sz cy) (by decide), hR' _ ⟨_, _, ⟨(cq.add cy).le (by omega), by show 0 ≤ q + y; grind⟩, rfl⟩⟩
  · rintro ρ ⟨q, x, ⟨cq, q0⟩, rfl⟩
    walk_at "wk"
    exact h q (cq.le (by rw [List.length_map]; omega)) q0
theorem ok_cost (T : Txt K mg) : FnOk P w K mg base (L2N.CX P w) 173 T.dcost.f T.dcost.fd P_cost (spD K 1 m_cost) := by
  have G_edge : FnOk P w K mg base (L2N.CX P w) 172 T.dedge.f T.dedge.fd P_edge (spD K 2 m_take) := ok_edgeD T
  have G_take : FnOk P w K mg base (L2N.CX P w) 171 T.dtake.f T.dtake.fd P_take (spD K 2 m_take) := ok_takeD T
  have G_low : FnOk P w K mg base (L2N.CX P w) 1 T.dlow.f T.dlow.fd P_low (spD K 2 m_low) := ok_low T
  refine T.dcost.okD sc_cost fun cdv A outer s H E so A0 hr tk hp => ⟨_, (pds_one (pds_ret (pd_call G_low (hr.mono (by omega)) (by rfl) T.dlow.g T.dlow.F.kp T.dlow.b (fun σ => L2N.passAt tk σ) (pda_cons (pd_ix ix_seq ol_ix (pd_new (pdn_lst (pda_cons pd_int (pda_cons pd_int (pda_cons pd_int (pda_cons pd_int (pda_cons pd_int (pda_cons pd_int (pda_cons pd_int pda_nil))))))))) (pd_call G_edge (hr.mono (by omega)) (by rfl) T.dedge.g T.dedge.F.kp T.dedge.b (fun σ => L2N.passAt tk σ) (pda_cons (pd_var (pv 0)) (pda_cons pd_int pda_nil))) (fun _ _ => rfl)) (pda_cons (pd_ix ix_seq ol_ix (pd_new (pdn_lst (pda_cons pd_int (pda_cons pd_int pda_nil)))) (pd_call G_take (hr.mono (by omega)) (by rfl) T.dtake.g T.dtake.F.kp T.dtake.b (fun σ => L2N.passAt tk σ) (pda_cons (pd_var (pv 0)) (pda_cons pd_int pda_nil))) (fun _ _ => rfl)) pda_nil))))), fun ds Q E hl h => ?_⟩
  unfold m_cost at h
  split at h
  · have go : ∀ (a b : Int) E', 0 ≤ a → a ≤ 6 → (b = 1 ∨ b = 2) → m_low [.int a, .int b] Q E' := fun a b E' a0 a1 hb => by
      have hb0 : b ≠ 0 := by omega
      have nn : 0 ≤ Rat.divInt a b := by
        rcases Int.lt_or_eq_of_le a0 with z | z
        · exact Rat.le_of_lt (pos_div z (by omega))
        · rw [← z, Rat.zero_divInt]
          exact Rat.le_refl
      refine low_at _ _ _ hb0 ?_ (h _ ?_ nn) _
      · rcases hb with rfl | rfl <;> decide
      · rcases hb with rfl | rfl
        · exact cd_div a 1 6 36 (by decide) (by omega)
        · exact cd_div a 2 3 36 (by decide) (by omega)
    walk_at "wk"
    refine ⟨by decide, by decide, fun i i0 i1 => ddIx_any i0 (by show i < 7; omega) fun d hd => ?_⟩
    have hd' : ∃ a : Int, d = .int a ∧ 0 ≤ a ∧ a ≤ 6 := by
      simp only [List.mem_cons, List.not_mem_nil, or_false] at hd
      rcases hd with rfl | rfl | rfl | rfl | rfl | rfl | rfl <;> exact ⟨_, rfl, by decide, by decide⟩
    obtain ⟨a, rfl, a0, a1⟩ := hd'
    walk_at "wk"
    refine ⟨by decide, fun i i0 i1 => ddIx_any i0 (by show i < 2; omega) fun d hd => ?_⟩
    simp only [List.mem_cons, List.not_mem_nil, or_false] at hd
    rcases hd with rfl | rfl
    · exact go a 1 _ a0 a1 (.inl rfl)
    · exact go a 2 _ a0 a1 (.inr rfl)
  · exact h.elim
theorem ok_long (T : Txt K mg) : FnOk P w K mg base (L2N.CX P w) 172 T.dlong.f T.dlong.fd P_long (spD K 1 m_long) := by
  have G_take : FnOk P w K mg base (L2N.CX P w) 171 T.dtake.f T.dtake.fd P_take (spD K 2 m_take) := ok_takeD T
  have G_low : FnOk P w K mg base (L2N.CX P w) 1 T.dlow.f T.dlow.fd P_low (spD K 2 m_low) := ok_low T
  refine T.dlong.okD sc_long fun cdv A outer s H E so A0 hr tk hp => ⟨_, (pds_one (pds_ret (pd_call G_low (hr.mono (by omega)) (by rfl) T.dlow.g T.dlow.F.kp T.dlow.b (fun σ => L2N.passAt tk σ) (pda_cons (pd_op oo_add ol_add pd_int (pd_call G_take (hr.mono (by omega)) (by rfl) T.dtake.g T.dtake.F.kp T.dtake.b (fun σ => L2N.passAt tk σ) (pda_cons (pd_var (pv 0)) (pda_cons (pd_op op_sub ol_sub (pd_op op_pow ol_pow pd_int pd_int) pd_int) pda_nil)))) (pda_cons (pd_op oo_add ol_add pd_int (pd_call G_take (hr.mono (by omega)) (by rfl) T.dtake.g T.dtake.F.kp T.dtake.b (fun σ => L2N.passAt tk σ) (pda_cons (pd_var (pv 0)) (pda_cons (pd_op op_sub ol_sub (pd_op op_pow ol_pow pd_int pd_int) pd_int) pda_nil)))) pda_nil))))), fun ds Q E hl h => ?_⟩
  unfold m_long at h
  split at h
  · have t12 : (10 : Int) ^ Int.toNat 12 = 1000000000000 := by decide
    walk_at "wk"
    rw [t12]
    refine ⟨⟨by decide, by decide, by decide⟩, by decide, fun r r0 r1 => ⟨⟨by decide, by decide, by decide⟩, by decide, fun v v0 v1 => ?_⟩⟩
    have hb : (1 : Int) + v ≠ 0 := by omega
    refine low_at _ _ _ hb ?_ (h _ (sz_div ?_ ?_ hb) (pos_div (by omega) (by omega))) E
    · exact Nat.lt_of_lt_of_le ((Nat.log2_lt (by omega)).mpr (show (1 + v).natAbs < 2 ^ 50 by omega)) (by decide)
    · show _ < 1000000000000
      omega
    · show _ < 1000000000000
      omega
  · exact h.elim
theorem ok_longer (T : Txt K mg) : FnOk P w K mg base (L2N.CX P w) 3 T.dlonger.f T.dlonger.fd P_longer (spD K 2 m_longer) := by
  have G_plus : FnOk P w K mg base (L2N.CX P w) 2 T.dplus.f T.dplus.fd P_plus (spD K 2 (m_r2 fun p q => p + q)) := ok_plus T
  have G_minus : FnOk P w K mg base (L2N.CX P w) 2 T.dminus.f T.dminus.fd P_minus (spD K 2 (m_r2 fun p q => p - q)) := ok_minus T
  have G_times : FnOk P w K mg base (L2N.CX P w) 2 T.dtimes.f T.dtimes.fd P_times (spD K 2 (m_r2 fun p q => p * q)) := ok_times T
  have G_cmp : FnOk P w K mg base (L2N.CX P w) 2 T.dcmp.f T.dcmp.fd P_cmp (spD K 2 m_cmp2) := ok_cmp T
  refine T.dlonger.okD sc_longer fun cdv A outer s H E so A0 hr tk hp => ⟨_, (pds_cons (pds_set (i := 2) sc_longer.nd rfl (by first | exact .inl rfl | exact .inr rfl) (pd_op oo_add ol_add (pd_var (pv 1)) (pd_new (pdn_lst (pda_cons (pd_tup (pda_cons pd_int (pda_cons pd_int pda_nil))) (pda_cons (pd_tup (pda_cons pd_int (pda_cons pd_int pda_nil))) pda_nil))))))
      (pds_cons (pds_set (i := 3) sc_longer.nd rfl (by first | exact .inl rfl | exact .inr rfl) (pd_call G_minus (hr.mono (by omega)) (by rfl) T.dminus.g T.dminus.F.kp T.dminus.b (fun σ => L2N.passAt tk σ) (pda_cons (pd_call G_plus (hr.mono (by omega)) (by rfl) T.dplus.g T.dplus.F.kp T.dplus.b (fun σ => L2N.passAt tk σ) (pda_cons (pd_var (pv 0)) (pda_cons (pd_ix ix_seq ol_ix (pd_var (pv 2)) pd_int (fun _ _ => rfl)) pda_nil))) (pda_cons (pd_call G_plus (hr.mono (by omega)) (by rfl) T.dplus.g T.dplus.F.kp T.dplus.b (fun σ => L2N.passAt tk σ) (pda_cons (pd_ix ix_seq ol_ix (pd_var (pv 2)) pd_int (fun _ _ => rfl)) (pda_cons (pd_ix ix_seq ol_ix (pd_var (pv 2)) pd_int (fun _ _ => rfl)) pda_nil))) pda_nil))))
      (pds_cons (pds_set (i := 4) sc_longer.nd rfl (by first | exact .inl rfl | exact .inr rfl) (pd_call G_plus (hr.mono (by omega)) (by rfl) T.dplus.g T.dplus.F.kp T.dplus.b (fun σ => L2N.passAt tk σ) (pda_cons (pd_call G_times (hr.mono (by omega)) (by rfl) T.dtimes.g T.dtimes.F.kp T.dtimes.b (fun σ => L2N.passAt tk σ) (pda_cons (pd_var (pv 0)) (pda_cons (pd_ix ix_seq ol_ix (pd_var (pv 2)) pd_int (fun _ _ => rfl)) pda_nil))) (pda_cons (pd_call G_times (hr.mono (by omega)) (by rfl) T.dtimes.g T.dtimes.F.kp T.dtimes.b (fun σ => L2N.passAt tk σ) (pda_cons (pd_ix ix_seq ol_ix (pd_var (pv 2)) pd_int (fun _ _ => rfl)) (pda_cons (pd_ix ix_seq ol_ix (pd_var (pv 2)) pd_int (fun _ _ => rfl)) pda_nil))) pda_nil))))
      (pds_cons (pds_set (i := 5) sc_longer.nd rfl (by first | exact .inl rfl | exact .inr rfl) (pd_call G_minus (hr.mono (by omega)) (by rfl) T.dminus.g T.dminus.F.kp T.dminus.b (fun σ => L2N.passAt tk σ) (pda_cons (pd_call G_times (hr.mono (by omega)) (by rfl) T.dtimes.g T.dtimes.F.kp T.dtimes.b (fun σ => L2N.passAt tk σ) (pda_cons (pd_var (pv 3)) (pda_cons (pd_var (pv 3)) pda_nil))) (pda_cons (pd_call G_times (hr.mono (by omega)) (by rfl) T.dtimes.g T.dtimes.F.kp T.dtimes.b (fun σ => L2N.passAt tk σ) (pda_cons (pd_tup (pda_cons pd_int (pda_cons pd_int pda_nil))) (pda_cons (pd_var (pv 4)) pda_nil))) pda_nil))))
      (pds_cons (pds_if (PDW.t (pdw_or (pdt_cmp op_le ol_le (pd_call G_cmp (hr.mono (by omega)) (by rfl) T.dcmp.g T.dcmp.F.kp T.dcmp.b (fun σ => L2N.passAt tk σ) (pda_cons (pd_var (pv 0)) (pda_cons (pd_ix ix_seq ol_ix (pd_var (pv 2)) pd_int (fun _ _ => rfl)) pda_nil))) pd_int (nomark _)) (pdw_or (pdt_cmp op_le ol_le (pd_ix ix_seq ol_ix (pd_var (pv 3)) pd_int (fun _ _ => rfl)) pd_int (nomark _)) (pdw_or1 (pdt_cmp op_le ol_le (pd_ix ix_seq ol_ix (pd_var (pv 5)) pd_int (fun _ _ => rfl)) pd_int (nomark _))))))
        (pds_one (pds_ret pd_bl))
        pds_nil)
      (pds_cons (pds_set (i := 6) sc_longer.nd rfl (by first | exact .inl rfl | exact .inr rfl) (pd_call G_times (hr.mono (by omega)) (by rfl) T.dtimes.g T.dtimes.F.kp T.dtimes.b (fun σ => L2N.passAt tk σ) (pda_cons (pd_call G_times (hr.mono (by omega)) (by rfl) T.dtimes.g T.dtimes.F.kp T.dtimes.b (fun σ => L2N.passAt tk σ) (pda_cons (pd_var (pv 0)) (pda_cons (pd_ix ix_seq ol_ix (pd_var (pv 2)) pd_int (fun _ _ => rfl)) pda_nil))) (pda_cons (pd_call G_times (hr.mono (by omega)) (by rfl) T.dtimes.g T.dtimes.F.kp T.dtimes.b (fun σ => L2N.passAt tk σ) (pda_cons (pd_ix ix_seq ol_ix (pd_var (pv 2)) pd_int (fun _ _ => rfl)) (pda_cons (pd_ix ix_seq ol_ix (pd_var (pv 2)) pd_int (fun _ _ => rfl)) pda_nil))) pda_nil))))
      (pds_one (pds_ret (pd_cmp op_gt ol_gt (pd_call G_cmp (hr.mono (by omega)) (by rfl) T.dcmp.g T.dcmp.F.kp T.dcmp.b (fun σ => L2N.passAt tk σ) (pda_cons (pd_call G_times (hr.mono (by omega)) (by rfl) T.dtimes.g T.dtimes.F.kp T.dtimes.b (fun σ => L2N.passAt tk σ) (pda_cons (pd_var (pv 5)) (pda_cons (pd_var (pv 5)) pda_nil))) (pda_cons (pd_call G_times (hr.mono (by omega)) (by rfl) T.dtimes.g T.dtimes.F.kp T.dtimes.b (fun σ => L2N.passAt tk σ) (pda_cons (pd_tup (pda_cons pd_int (pda_cons pd_int pda_nil))) (pda_cons (pd_var (pv 6)) pda_nil))) pda_nil))) pd_int (nomark _)))))))))), fun ds Q E hl h => ?_⟩
  obtain ⟨L, l, rfl, hn, hs, h⟩ := h
  obtain ⟨t, et⟩ := two_more hn
  unfold excL at h
  generalize getR l 0 = a at *
  generalize getR l 1 = b at *
  generalize getR l 2 = c at *
  show sSeq _ _ _ [.fr (rq L), .fr (.lst (l.map rq)), .no, .no, .no, .no, .no]
  refine seq_mid (P := fun ρ => ρ = [.fr (rq L), .fr (.lst (l.map rq)), .fr (.lst (rq a :: rq b :: rq c :: t)), .no, .no, .no, .no]) (fun R hR => ?_) ?_
  · walk_at "wk"
    have e0 : D.tup [.int 0, .int 1] = rq 0 := rfl
    rw [e0, et]
    exact ⟨by rw [List.length_map, sizeLine_eq]; omega, hR _ rfl⟩
  rintro _ rfl
  have la := hs.hL.add hs.ha
  have bc := hs.hb.add hs.hc
  have lm := hs.hL.mul hs.ha
  have bm := hs.hb.mul hs.hc
  refine seq_mid (P := fun ρ => ρ = [.fr (rq L), .fr (.lst (l.map rq)), .fr (.lst (rq a :: rq b :: rq c :: t)), .fr (rq (L + a - (b + c))), .no, .no, .no]) (fun R hR => ?_) ?_
  · walk_at "wk"
    exact ⟨L, a, rfl, hs.hL.ok hs.ha (by decide), b, c, rfl, hs.hb.ok hs.hc (by decide), _, _, rfl, la.ok bc (by decide), hR _ rfl⟩
  rintro _ rfl
  refine seq_mid (P := fun ρ => ρ = [.fr (rq L), .fr (.lst (l.map rq)), .fr (.lst (rq a :: rq b :: rq c :: t)), .fr (rq (L + a - (b + c))), .fr (rq (L * a + b * c)), .no, .no]) (fun R hR => ?_) ?_
  · walk_at "wk"
    exact ⟨L, a, rfl, hs.hL.ok hs.ha (by decide), b, c, rfl, hs.hb.ok hs.hc (by decide), _, _, rfl, lm.ok bm (by decide), hR _ rfl⟩
  rintro _ rfl
  refine seq_mid (P := fun ρ => ρ = [.fr (rq L), .fr (.lst (l.map rq)), .fr (.lst (rq a :: rq b :: rq c :: t)), .fr (rq (L + a - (b + c))), .fr (rq (L * a + b * c)), .fr (rq (leftQ L a b c)), .no]) (fun R hR => ?_) ?_
  · walk_at "wk"
    exact ⟨_, _, rfl, hs.rest.ok hs.rest (by decide), 4, _, rfl, sz4.ok hs.mix (by decide), _, _, rfl, (hs.rest.mul hs.rest).ok (sz4.mul hs.mix) (by decide), hR _ rfl⟩
  rintro _ rfl
  have eq : exc L a b c = (decide (0 < L - a) && (decide (0 < L + a - (b + c)) && decide (0 < leftQ L a b c ∧ 0 < leftQ L a b c * leftQ L a b c - 64 * prodQ L a b c))) := by
    unfold exc
    simp only [rs8 hs.p0]
  rw [eq] at h
  by_cases c1 : 0 < L - a
  · by_cases c2 : 0 < L + a - (b + c)
    · by_cases c3 : 0 < leftQ L a b c
      · refine seq_mid (P := fun ρ => ρ = [.fr (rq L), .fr (.lst (l.map rq)), .fr (.lst (rq a :: rq b :: rq c :: t)), .fr (rq (L + a - (b + c))), .fr (rq (L * a + b * c)), .fr (rq (leftQ L a b c)), .no]) (fun R hR => ?_) ?_
        · walk_at "wk"
          refine ⟨L, a, rfl, hs.hL.ok hs.ha (by decide), ?_⟩
          dsimp only
          simp only [sg_le, ix0]
          rw [if_neg (by rw [decide_eq_true_iff]; exact not_not_intro c1)]
          walk_at "wk"
          simp only [num_le]
          rw [if_neg (by rw [decide_eq_true_iff]; exact not_not_intro c2), if_neg (by rw [decide_eq_true_iff]; exact not_not_intro c3)]
          exact hR _ rfl
        rintro _ rfl
        refine seq_mid (P := fun ρ => ρ = [.fr (rq L), .fr (.lst (l.map rq)), .fr (.lst (rq a :: rq b :: rq c :: t)), .fr (rq (L + a - (b + c))), .fr (rq (L * a + b * c)), .fr (rq (leftQ L a b c)), .fr (rq (prodQ L a b c))]) (fun R hR => ?_) ?_
        · walk_at "wk"
          exact ⟨L, a, rfl, hs.hL.ok hs.ha (by decide), b, c, rfl, hs.hb.ok hs.hc (by decide), _, _, rfl, lm.ok bm (by decide), hR _ rfl⟩
        rintro _ rfl
        walk_at "wk"
        have ll := hs.left.mul hs.left
        have pp := sz64.mul hs.prod
        refine ⟨_, _, rfl, hs.left.ok hs.left (by decide), 64, _, rfl, sz64.ok hs.prod (by decide), _, _, rfl, ll.ok pp (by decide), ?_⟩
        dsimp only
        simp only [sg_gt]
        rw [decide_eq_true c1, decide_eq_true c2] at h
        have e : decide (0 < leftQ L a b c ∧ 0 < leftQ L a b c * leftQ L a b c - 64 * prodQ L a b c) = decide (0 < leftQ L a b c * leftQ L a b c - 64 * prodQ L a b c) := decide_eq_decide.mpr ⟨fun k => k.2, fun k => ⟨c3, k⟩⟩
        rw [e] at h
        exact h
      · refine seq_mid (P := fun ρ => False) (fun R hR => ?_) (fun _ h => h.elim)
        have e : decide (0 < leftQ L a b c ∧ 0 < leftQ L a b c * leftQ L a b c - 64 * prodQ L a b c) = false := decide_eq_false fun k => c3 k.1
        rw [e, Bool.and_false, Bool.and_false] at h
        walk_at "wk"
        refine ⟨L, a, rfl, hs.hL.ok hs.ha (by decide), ?_⟩
        dsimp only
        simp only [sg_le, ix0]
        rw [if_neg (by rw [decide_eq_true_iff]; exact not_not_intro c1)]
        walk_at "wk"
        simp only [num_le]
        rw [if_neg (by rw [decide_eq_true_iff]; exact not_not_intro c2), if_pos (by rw [decide_eq_true_iff]; exact c3)]
        exact h
    · refine seq_mid (P := fun ρ => False) (fun R hR => ?_) (fun _ h => h.elim)
      rw [decide_eq_false c2, Bool.false_and, Bool.and_false] at h
      walk_at "wk"
      refine ⟨L, a, rfl, hs.hL.ok hs.ha (by decide), ?_⟩
      dsimp only
      simp only [sg_le, ix0]
      rw [if_neg (by rw [decide_eq_true_iff]; exact not_not_intro c1)]
      walk_at "wk"
      simp only [num_le]
      rw [if_pos (by rw [decide_eq_true_iff]; exact c2)]
      exact h
  · refine seq_mid (P := fun ρ => False) (fun R hR => ?_) (fun _ h => h.elim)
    rw [decide_eq_false c1, Bool.false_and] at h
    walk_at "wk"
    refine ⟨L, a, rfl, hs.hL.ok hs.ha (by decide), ?_⟩
    dsimp only
    simp only [sg_le]
    rw [if_pos (by rw [decide_eq_true_iff]; exact c1)]
    exact h
theorem ok_due (T : Txt K mg) : FnOk P w K mg base (L2N.CX P w) 4 T.ddue.f T.ddue.fd P_due (spD K 2 m_due) := by
  have G_longer : FnOk P w K mg base (L2N.CX P w) 3 T.dlonger.f T.dlonger.fd P_longer (spD K 2 m_longer) := ok_longer T
  refine T.ddue.okD sc_due fun cdv A outer s H E so A0 hr tk hp => ⟨_, (pds_cons (pds_if (pdt_tru (pd_call G_longer (hr.mono (by omega)) (by rfl) T.dlonger.g T.dlonger.F.kp T.dlonger.b (fun σ => L2N.passAt tk σ) (pda_cons (pd_var (pv 1)) (pda_cons (pd_var (pv 0)) pda_nil))))
        (pds_one (pds_ret (pd_tup (pda_cons pd_str pda_nil))))
        pds_nil)
      (pds_cons (pds_for hp rfl (pdi_range1 (by rfl) T.m_range (pda_cons (pd_callB oo_len cl_len (by rfl) T.m_len bt_len (pda_cons (pd_var (pv 0)) pda_nil)) pda_nil)) (pdg_name (pg_name (i := 2) sc_due.nd rfl (by first | exact .inl rfl | exact .inr rfl)))
        (pds_one (pds_if (pdt_tru (pd_call G_longer (hr.mono (by omega)) (by rfl) T.dlonger.g T.dlonger.F.kp T.dlonger.b (fun σ => L2N.passAt tk σ) (pda_cons (pd_ix ix_seq ol_ix (pd_var (pv 0)) (pd_var (pv 2)) (fun _ _ => rfl)) (pda_cons (pd_op oo_add ol_add (pd_op oo_add ol_add (pd_new (pdn_headE (pd_var (pv 0)) (pd_var (pv 2)))) (pd_new (pdn_tailE (pd_var (pv 0)) (pd_op oo_add ol_add (pd_var (pv 2)) pd_int)))) (pd_new (pdn_lst (pda_cons (pd_var (pv 1)) pda_nil)))) pda_nil))))
          (pds_one (pds_ret (pd_tup (pda_cons pd_str (pda_cons (pd_var (pv 2)) pda_nil)))))
          pds_nil)))
      (pds_one (pds_ret (pd_tup (pda_cons pd_str pda_nil)))))), fun ds Q E hl h => ?_⟩
  obtain ⟨l, g, rfl, cs, q⟩ := h
  have hn := cs.n
  show sSeq _ _ _ [.fr (.lst (l.map rq)), .fr (rq g), .no]
  refine seq_mid (P := fun ρ => excL g l = false ∧ ρ = [.fr (.lst (l.map rq)), .fr (rq g), .no]) (fun R hR => ?_) ?_
  · walk_at "wk"
    refine ⟨g, l, rfl, hn, cs.far, ?_⟩
    cases c : excL g l with
    | true =>
      walk_at "wk"
      unfold reachW at q
      rw [c, if_pos rfl] at q
      exact q
    | false =>
      walk_at "wk"
      exact hR _ ⟨c, rfl⟩
  rintro _ ⟨hf, rfl⟩
  refine seq_mid (P := fun ρ => (∀ j, j < l.length → excL (getR l j) (othersL l j g) = false) ∧ ∃ x, ρ = [.fr (.lst (l.map rq)), .fr (rq g), x]) (fun R hR => ?_) ?_
  · walk_at "wk"
    rw [List.length_map]
    refine ⟨by omega, by omega, ?_⟩
    refine forL_inv (P := fun i ρ => (∀ j, j < i → excL (getR l j) (othersL l j g) = false) ∧ ∃ x, ρ = [.fr (.lst (l.map rq)), .fr (rq g), x]) _ _ 0 ?_ ?_ ⟨fun j hj => absurd hj (by omega), _, rfl⟩
    · rintro i d ρ R' hi ⟨hpre, x, rfl⟩ hR'
      obtain ⟨hj, rfl⟩ := rangeD_at hi
      have hi' : i < l.length := by omega
      have ek : getR l i = l[i] := by
        unfold getR
        rw [List.getD_eq_getElem?_getD, List.getElem?_eq_getElem hi']
        rfl
      have e0 : (0 : Int) + (i : Nat) = (i : Nat) := by omega
      rw [Nat.zero_add] at hpre hR'
      walk_at "wk"
      refine ddIx_lst (d := rq l[i]) (by rw [List.getElem?_map, List.getElem?_eq_getElem hi']; rfl) ?_
      simp only [nHeadE, nTailE]
      rw [e0]
      walk_at "wk"
      have e1 : ((i : Nat) : Int).toNat = i := by omega
      have e2 : (((i : Nat) : Int) + 1).toNat = i + 1 := by omega
      rw [e1, e2, others_map, ← ek]
      have sl : ∀ n, n ≤ 100 → n ≤ sizeLine := fun n h => by rw [sizeLine_eq]; omega
      refine ⟨by omega, by omega, sl _ (by simp; omega), sl _ (by simp; omega), _, _, rfl, by rw [others_len hi']; exact hn, cs.near hi', ?_⟩
      cases c : excL (getR l i) (othersL l i g) with
      | true =>
        dsimp only
        rw [if_pos rfl]
        rw [reach_near hf hi' c hpre] at q
        exact q
      | false =>
        dsimp only
        rw [if_neg (by decide)]
        refine hR' _ ⟨fun j hj => ?_, _, rfl⟩
        rcases Nat.lt_or_ge j i with k | k
        · exact hpre j k
        · have : j = i := by omega
          subst this
          exact c
    · rintro ρ ⟨hpre, x, rfl⟩
      exact hR _ ⟨fun j hj => hpre j (by rw [rangeD_len]; omega), _, rfl⟩
  rintro _ ⟨hall, x, rfl⟩
  walk_at "wk"
  rw [reach_none hf hall] at q
  exact q
end
end My
set_option exponentiation.threshold 100000
namespace My
open PySem PySem.Spec PyProof.Rows L2
local macro_rules | `(tactic| walk_at "dl") => `(tactic| simp only [startD, List.map_cons, List.map_nil, List.length_cons, List.length_nil, List.cons_append, List.nil_append, List.replicate_succ, List.replicate_zero, List.getElem?_cons_zero, List.getElem?_cons_succ, List.set_cons_zero, List.set_cons_succ,
  dVar, rdS, dC, dNew, dOp, onB, qB, dChain, qAnd, qOr, qNot, qTru, truD, dIf, dAnd, dOr, dNot, dUn, ddNeg, lNil, lCons, dTup, nLst, ddI, ddI0, ddAdd, isNonD, isBlD, ddIsN, ddIsB, ddIx_t0, ddIx_t1, ddIx_t2, ddIx_t3, ddIx_l0, ddIx_l1, ddIx_l2, dCB, ddLen, ddInt1, ddAbs, ddMM, ddTuple, nCB, nnList, ddIsi, dCall,
  sSkip, sSeq, sBreak, sCont, sExpr, sRet, sRetN, sIf, sNever, gdName, gdNil, gdCons, gdTup, sAsg, sSetN, sPar, sRaise, sFrz, owS, sApp, sIns, dLenO, dIxO, sTry, sFor, iL, iT, onL, onT, iR1, iR2, nComp, qYes,
  ddEq_ii, ddEq_ss, ddEq_bb, Bool.false_bne, Bool.true_bne, List.append_nil, true_and, and_true, if_true, if_false, Bool.not_true, Bool.not_false, Bool.true_eq_false, Bool.false_eq_true, ite_true, ite_false, id_eq])

local macro_rules | `(tactic| walk_at "is") => `(tactic| simp only [plain_non, isIn_non_int, isIn_non_str, isIn_non_bool, isIn_non_list, isIn_non_tuple, isIn_non_dict, plain_bl, isIn_bl_int, isIn_bl_str, isIn_bl_bool, isIn_bl_list, isIn_bl_tuple, isIn_bl_dict, plain_int, isIn_int_int, isIn_int_str, isIn_int_bool, isIn_int_list, isIn_int_tuple, isIn_int_dict, plain_str, isIn_str_int, isIn_str_str, isIn_str_bool, isIn_str_list, isIn_str_tuple, isIn_str_dict, plain_tup, isIn_tup_int, isIn_tup_str, isIn_tup_bool, isIn_tup_list, isIn_tup_tuple, isIn_tup_dict, plain_lst, isIn_lst_int, isIn_lst_str, isIn_lst_bool, isIn_lst_list, isIn_lst_tuple, isIn_lst_dict, sl0, sl1, sl2, sl3, sl4, decide_true, decide_false, ddIsi, ddIsi2, true_and, if_true, if_false, Bool.false_eq_true, Bool.not_true, Bool.not_false, Bool.or_true, Bool.or_false, Bool.true_or, and_true])
local macro_rules | `(tactic| walk_at "wk") => `(tactic| ((try walk_at "dl"); (try walk_at "is"); (try walk_at "dl")))

/-! ### chains that are drawn -/
structure Ch0 (l : List Rat) (g : Rat) : Prop where
  n : 1 ≤ l.length ∧ l.length ≤ 3
  s : ∀ x ∈ l, Sz 60 60 x ∧ 0 < x
  g : Sz 12 12 g ∧ 0 ≤ g
def m_lchain : DF := fun ds Q _ => match ds with
  | [.sto] => ∀ l g d, Ch0 l g → Q (.lst [.lst (l.map rq), rq g, d])
  | _ => False
def m_ldrawn : DF := fun ds Q _ => match ds with
  | [.sto] => ∀ l g, ChSz l g → Q (.lst [.lst (l.map rq), rq g])
  | _ => False
theorem rq_lit {a b : Int} (h : isRat (ratD a b) = true) : ratD a b = rq (Rat.divInt a b) := by
  obtain ⟨q, e⟩ := rq_of h
  have e1 : ratD a b = ratD q.num q.den := e
  unfold ratD at e1
  injection e1 with e1
  injection e1 with e1 e2
  injection e2 with e2 _
  injection e1 with e1
  injection e2 with e2
  rw [e, e1, e2, Rat.num_divInt_den]
theorem rats_of {P : Rat → Prop} : ∀ {l : List D}, (∀ d ∈ l, ∃ q, d = rq q ∧ P q) → ∃ r : List Rat, l = r.map rq ∧ r.length = l.length ∧ ∀ x ∈ r, P x
  | [], _ => ⟨[], rfl, rfl, fun x h => by cases h⟩
  | d :: l, h => by
    obtain ⟨r, e, hl, hr⟩ := rats_of fun x hx => h x (List.mem_cons_of_mem _ hx)
    obtain ⟨q, e2, hq⟩ := h d (List.mem_cons_self ..)
    refine ⟨q :: r, by rw [e, e2]; rfl, by rw [List.length_cons, List.length_cons, hl], fun x hx => ?_⟩
    rcases List.mem_cons.mp hx with rfl | hx
    · exact hq
    · exact hr x hx
theorem sg_ge (q : Rat) : (0 ≤ sg q) = (0 ≤ q) := by
  rcases sg_cases q with ⟨h, e⟩ | ⟨h, e⟩ | ⟨h, e⟩
  · rw [e]
    exact propext ⟨fun _ => Rat.le_of_lt h, fun _ => by decide⟩
  · rw [e]
    exact propext ⟨fun z => absurd z (by decide), fun z => absurd h (Rat.not_lt.mpr z)⟩
  · rw [e, h]
    exact propext ⟨fun _ => Rat.le_refl, fun _ => by decide⟩
abbrev s_chain : Stmt := topS 74
abbrev N_chain : List Str := ["store", "under", "lengths", "whole", "most", "one", "rest", "gap", "way", "due", "k", "others", "squares_of"]
abbrev P_chain : List Str := ["store"]
theorem sc_chain : FnScope N_chain P_chain (defScope s_chain) := ⟨rfl, rfl, rfl, by decide +kernel, rfl, by decide +kernel, by decide +kernel⟩

abbrev rC (u l w m o r g y d k t s : Sl) : DEnv := [.fr .sto, u, l, w, m, o, r, g, y, d, k, t, s]
section
variable {P : Program} {w : World} {K : PySem.W.Frag} {mg : Str → Option Value} {base : Heap}
theorem ok_lchain (T : Txt K mg) : FnOk P w K mg base (L2N.CX P w) 176 T.dchain.f T.dchain.fd P_chain (spD K 1 m_lchain) := by
  have G_take : FnOk P w K mg base (L2N.CX P w) 171 T.dtake.f T.dtake.fd P_take (spD K 2 m_take) := ok_takeD T
  have G_between : FnOk P w K mg base (L2N.CX P w) 173 T.dbetween.f T.dbetween.fd P_between (spD K 3 m_between) := ok_betweenD T
  have G_positive : FnOk P w K mg base (L2N.CX P w) 174 T.dpositive.f T.dpositive.fd P_positive (spD K 1 m_positive) := ok_positive T
  have G_cost : FnOk P w K mg base (L2N.CX P w) 173 T.dcost.f T.dcost.fd P_cost (spD K 1 m_cost) := ok_cost T
  have G_sum : FnOk P w K mg base (L2N.CX P w) 3 T.dsum.f T.dsum.fd P_sum (spD K 1 m_sum) := ok_sum T
  have G_plus : FnOk P w K mg base (L2N.CX P w) 2 T.dplus.f T.dplus.fd P_plus (spD K 2 (m_r2 fun p q => p + q)) := ok_plus T
  have G_minus : FnOk P w K mg base (L2N.CX P w) 2 T.dminus.f T.dminus.fd P_minus (spD K 2 (m_r2 fun p q => p - q)) := ok_minus T
  have G_times : FnOk P w K mg base (L2N.CX P w) 2 T.dtimes.f T.dtimes.fd P_times (spD K 2 (m_r2 fun p q => p * q)) := ok_times T
  have G_cmp : FnOk P w K mg base (L2N.CX P w) 2 T.dcmp.f T.dcmp.fd P_cmp (spD K 2 m_cmp2) := ok_cmp T
  refine T.dchain.okD sc_chain fun cdv A outer s H E so A0 hr tk hp => ⟨_, (pds_cons (pds_set (i := 1) sc_chain.nd rfl (by first | exact .inl rfl | exact .inr rfl) (pd_ix ix_seq ol_ix (pd_new (pdn_lst (pda_cons (pd_tup (pda_cons pd_int (pda_cons pd_int pda_nil))) (pda_cons (pd_tup (pda_cons pd_int (pda_cons pd_int pda_nil))) (pda_cons (pd_tup (pda_cons pd_int (pda_cons pd_int pda_nil))) (pda_cons (pd_tup (pda_cons pd_int (pda_cons pd_int pda_nil))) pda_nil)))))) (pd_call G_take (hr.mono (by omega)) (by rfl) T.dtake.g T.dtake.F.kp T.dtake.b (fun σ => L2N.passAt tk σ) (pda_cons (pd_var (pv 0)) (pda_cons pd_int pda_nil))) (fun _ _ => rfl)))
      (pds_cons (pds_setLc (i := 2) (own := [("k", 10)]) rfl sc_chain.nd rfl rfl (sw_true rfl rfl rfl (by decide +kernel)) (pdi_range1 (by rfl) T.m_range (pda_cons (pd_call G_between (hr.mono (by omega)) (by rfl) T.dbetween.g T.dbetween.F.kp T.dbetween.b (fun σ => L2N.passAt tk σ) (pda_cons (pd_var (pv 0)) (pda_cons pd_int (pda_cons pd_int pda_nil)))) pda_nil)) (blkOk_by (own := [("k", 10)]) (N := N_chain) (sc := defScope s_chain) (by decide +kernel)) (fun _ _ _ _ _ => (pdgw_name (pg_name (i := 10) sc_chain.nd rfl (by first | exact .inl rfl | exact .inr rfl)) (by simp))) (fun _ _ _ _ _ => pdts_nil) (fun _ _ _ _ _ => (pd_call G_positive (hr.mono (by omega)) (by rfl) T.dpositive.g T.dpositive.F.kp T.dpositive.b (fun σ => passN0 σ) (pda_cons (pd_var (pv 0)) pda_nil))))
      (pds_frz 2 (pds_cons (pds_set (i := 3) sc_chain.nd rfl (by first | exact .inl rfl | exact .inr rfl) (pd_call G_sum (hr.mono (by omega)) (by rfl) T.dsum.g T.dsum.F.kp T.dsum.b (fun σ => L2N.passAt tk σ) (pda_cons (pd_var (pv 2)) pda_nil)))
      (pds_cons (pds_set (i := 4) sc_chain.nd rfl (by first | exact .inl rfl | exact .inr rfl) (pd_ix ix_seq ol_ix (pd_var (pv 2)) pd_int (fun _ _ => rfl)))
      (pds_cons (pds_for hp rfl (pdi_list (pd_var (pv 2))) (pdg_name (pg_name (i := 5) sc_chain.nd rfl (by first | exact .inl rfl | exact .inr rfl)))
        (pds_one (pds_if (pdt_cmp op_gt ol_gt (pd_call G_cmp (hr.mono (by omega)) (by rfl) T.dcmp.g T.dcmp.F.kp T.dcmp.b (fun σ => L2N.passAt tk σ) (pda_cons (pd_var (pv 5)) (pda_cons (pd_var (pv 4)) pda_nil))) pd_int (nomark _))
          (pds_one (pds_set (i := 4) sc_chain.nd rfl (by first | exact .inl rfl | exact .inr rfl) (pd_var (pv 5))))
          pds_nil)))
      (pds_cons (pds_set (i := 6) sc_chain.nd rfl (by first | exact .inl rfl | exact .inr rfl) (pd_call G_minus (hr.mono (by omega)) (by rfl) T.dminus.g T.dminus.F.kp T.dminus.b (fun σ => L2N.passAt tk σ) (pda_cons (pd_var (pv 3)) (pda_cons (pd_var (pv 4)) pda_nil))))
      (pds_cons (pds_set (i := 7) sc_chain.nd rfl (by first | exact .inl rfl | exact .inr rfl) (pd_call G_cost (hr.mono (by omega)) (by rfl) T.dcost.g T.dcost.F.kp T.dcost.b (fun σ => L2N.passAt tk σ) (pda_cons (pd_var (pv 0)) pda_nil)))
      (pds_cons (pds_set (i := 8) sc_chain.nd rfl (by first | exact .inl rfl | exact .inr rfl) (pd_call G_take (hr.mono (by omega)) (by rfl) T.dtake.g T.dtake.F.kp T.dtake.b (fun σ => L2N.passAt tk σ) (pda_cons (pd_var (pv 0)) (pda_cons pd_int pda_nil))))
      (pds_cons (pds_if (pdt_cmp (oo_eq hr.units) ol_eq (pd_var (pv 8)) pd_int (nomark _))
        (pds_one (pds_set (i := 7) sc_chain.nd rfl (by first | exact .inl rfl | exact .inr rfl) (pd_var (pv 3))))
        pds_nil)
      (pds_cons (pds_if (PDW.t (pdw_and (pdt_cmp (oo_eq hr.units) ol_eq (pd_var (pv 8)) pd_int (nomark _)) (pdw_and1 (pdt_cmp op_ge ol_ge (pd_call G_cmp (hr.mono (by omega)) (by rfl) T.dcmp.g T.dcmp.F.kp T.dcmp.b (fun σ => L2N.passAt tk σ) (pda_cons (pd_var (pv 4)) (pda_cons (pd_var (pv 6)) pda_nil))) pd_int (nomark _)))))
        (pds_one (pds_set (i := 7) sc_chain.nd rfl (by first | exact .inl rfl | exact .inr rfl) (pd_call G_minus (hr.mono (by omega)) (by rfl) T.dminus.g T.dminus.F.kp T.dminus.b (fun σ => L2N.passAt tk σ) (pda_cons (pd_var (pv 4)) (pda_cons (pd_var (pv 6)) pda_nil)))))
        pds_nil)
      (pds_cons (pds_if (pdt_cmp (oo_eq hr.units) ol_eq (pd_var (pv 8)) pd_int (nomark _))
        (pds_one (pds_set (i := 7) sc_chain.nd rfl (by first | exact .inl rfl | exact .inr rfl) (pd_call G_plus (hr.mono (by omega)) (by rfl) T.dplus.g T.dplus.F.kp T.dplus.b (fun σ => L2N.passAt tk σ) (pda_cons (pd_var (pv 3)) (pda_cons (pd_tup (pda_cons pd_int (pda_cons pd_int pda_nil))) pda_nil)))))
        pds_nil)
      (pds_cons (pds_set (i := 9) sc_chain.nd rfl (by first | exact .inl rfl | exact .inr rfl) (pd_tup (pda_cons pd_str pda_nil)))
      (pds_cons (pds_if (pdt_cmp op_gt ol_gt (pd_call G_cmp (hr.mono (by omega)) (by rfl) T.dcmp.g T.dcmp.F.kp T.dcmp.b (fun σ => L2N.passAt tk σ) (pda_cons (pd_var (pv 7)) (pda_cons (pd_var (pv 3)) pda_nil))) pd_int (nomark _))
        (pds_one (pds_set (i := 9) sc_chain.nd rfl (by first | exact .inl rfl | exact .inr rfl) (pd_tup (pda_cons pd_str pda_nil))))
        pds_nil)
      (pds_cons (pds_for hp rfl (pdi_range1 (by rfl) T.m_range (pda_cons (pd_callB oo_len cl_len (by rfl) T.m_len bt_len (pda_cons (pd_var (pv 2)) pda_nil)) pda_nil)) (pdg_name (pg_name (i := 10) sc_chain.nd rfl (by first | exact .inl rfl | exact .inr rfl)))
        (pds_cons (pds_set (i := 11) sc_chain.nd rfl (by first | exact .inl rfl | exact .inr rfl) (pd_call G_plus (hr.mono (by omega)) (by rfl) T.dplus.g T.dplus.F.kp T.dplus.b (fun σ => L2N.passAt tk σ) (pda_cons (pd_call G_minus (hr.mono (by omega)) (by rfl) T.dminus.g T.dminus.F.kp T.dminus.b (fun σ => L2N.passAt tk σ) (pda_cons (pd_var (pv 3)) (pda_cons (pd_ix ix_seq ol_ix (pd_var (pv 2)) (pd_var (pv 10)) (fun _ _ => rfl)) pda_nil))) (pda_cons (pd_var (pv 7)) pda_nil))))
        (pds_one (pds_if (pdt_cmp op_gt ol_gt (pd_call G_cmp (hr.mono (by omega)) (by rfl) T.dcmp.g T.dcmp.F.kp T.dcmp.b (fun σ => L2N.passAt tk σ) (pda_cons (pd_ix ix_seq ol_ix (pd_var (pv 2)) (pd_var (pv 10)) (fun _ _ => rfl)) (pda_cons (pd_var (pv 11)) pda_nil))) pd_int (nomark _))
          (pds_one (pds_set (i := 9) sc_chain.nd rfl (by first | exact .inl rfl | exact .inr rfl) (pd_tup (pda_cons pd_str (pda_cons (pd_var (pv 10)) pda_nil)))))
          pds_nil))))
      (pds_cons (pds_setLc (i := 12) (own := [("one", 5)]) rfl sc_chain.nd rfl rfl (sw_true rfl rfl rfl (by decide +kernel)) (pdi_list (pd_var (pv 2))) (blkOk_by (own := [("one", 5)]) (N := N_chain) (sc := defScope s_chain) (by decide +kernel)) (fun _ _ _ _ _ => (pdgw_name (pg_name (i := 5) sc_chain.nd rfl (by first | exact .inl rfl | exact .inr rfl)) (by simp))) (fun _ _ _ _ _ => pdts_nil) (fun _ _ _ _ _ => (pd_call G_times (hr.mono (by omega)) (by rfl) T.dtimes.g T.dtimes.F.kp T.dtimes.b (fun σ => passN0 σ) (pda_cons (pd_call G_times (hr.mono (by omega)) (by rfl) T.dtimes.g T.dtimes.F.kp T.dtimes.b (fun σ => passN0 σ) (pda_cons (pd_var (pv 5)) (pda_cons (pd_var (pv 5)) pda_nil))) (pda_cons (pd_var (pv 1)) pda_nil)))))
      (pds_frz 12 (pds_one (pds_ret (pd_new (pdn_lst (pda_cons (pd_var (pv 12)) (pda_cons (pd_call G_times (hr.mono (by omega)) (by rfl) T.dtimes.g T.dtimes.F.kp T.dtimes.b (fun σ => L2N.passAt tk σ) (pda_cons (pd_call G_times (hr.mono (by omega)) (by rfl) T.dtimes.g T.dtimes.F.kp T.dtimes.b (fun σ => L2N.passAt tk σ) (pda_cons (pd_var (pv 7)) (pda_cons (pd_var (pv 7)) pda_nil))) (pda_cons (pd_var (pv 1)) pda_nil))) (pda_cons (pd_var (pv 9)) pda_nil)))))))))))))))))))))))), fun ds Q E hl h => ?_⟩
  have sl : ∀ n, n ≤ 12 → n ≤ sizeLine := fun n h => by rw [sizeLine_eq]; omega
  unfold m_lchain at h
  split at h
  · show sSeq _ _ _ (rC .no .no .no .no .no .no .no .no .no .no .no .no)
    refine seq_mid (P := fun ρ => ∃ u, (Cd 18 36 u ∧ 0 < u) ∧ ρ = rC (.fr (rq u)) .no .no .no .no .no .no .no .no .no .no .no) (fun R hR => ?_) ?_
    · refine ⟨sl 2 (by decide), sl 2 (by decide), sl 2 (by decide), sl 2 (by decide), sl 4 (by decide), rfl, by decide, fun i i0 i1 => ddIx_any i0 (by show i < 4; have : i = 0 ∨ i < 4 := i1; omega) fun d hd => ?_⟩
      simp only [List.mem_cons, List.not_mem_nil, or_false] at hd
      rcases hd with rfl | rfl | rfl | rfl
      · exact hR _ ⟨_, ⟨cd_div 1 1 18 36 (by decide) (by decide), pos_div (by decide) (by decide)⟩, by rw [show (D.tup [.int 1, .int 1]) = rq (Rat.divInt 1 ((1 : Nat) : Int)) from rq_lit (by decide +kernel)]; rfl⟩
      · exact hR _ ⟨_, ⟨cd_div 2 1 18 36 (by decide) (by decide), pos_div (by decide) (by decide)⟩, by rw [show (D.tup [.int 2, .int 1]) = rq (Rat.divInt 2 ((1 : Nat) : Int)) from rq_lit (by decide +kernel)]; rfl⟩
      · exact hR _ ⟨_, ⟨cd_div 3 2 9 36 (by decide) (by decide), pos_div (by decide) (by decide)⟩, by rw [show (D.tup [.int 3, .int 2]) = rq (Rat.divInt 3 ((2 : Nat) : Int)) from rq_lit (by decide +kernel)]; rfl⟩
      · exact hR _ ⟨_, ⟨cd_div 5 9 2 36 (by decide) (by decide), pos_div (by decide) (by decide)⟩, by rw [show (D.tup [.int 5, .int 9]) = rq (Rat.divInt 5 ((9 : Nat) : Int)) from rq_lit (by decide +kernel)]; rfl⟩
    rintro _ ⟨u, ⟨cu, u0⟩, rfl⟩
    have su : Sz 2 2 u := cu.sz (by decide)
    refine seq_mid (P := fun ρ => ∃ (l : List Rat) (k : Sl), ((1 ≤ l.length ∧ l.length ≤ 3) ∧ ∀ x ∈ l, Cd 6 36 x ∧ 0 < x) ∧ ρ = rC (.fr (rq u)) (.ow (l.map rq)) .no .no .no .no .no .no .no k .no .no) (fun R hR => ?_) ?_
    · walk_at "wk"
      refine ⟨by decide, by decide, fun n n1 n2 => ⟨by omega, by omega, ?_⟩⟩
      refine compL_any (fun d => ∃ q, d = rq q ∧ (Cd 6 36 q ∧ 0 < q)) _ _ (fun d hd R2 k => ?_) (by rw [rangeD_len, sizeLine_eq]; simp; omega) (fun l hl pl => ?_)
      · simp only [wipeD]
        walk_at "wk"
        exact fun q hq q0 => k _ ⟨q, rfl, hq, q0⟩
      · obtain ⟨r, rfl, er, pr⟩ := rats_of pl
        rw [hl, rangeD_len] at er
        exact hR _ ⟨r, _, ⟨by omega, pr⟩, rfl⟩
    rintro _ ⟨l, kk, ⟨hn, hc⟩, rfl⟩
    refine frz_at (l := l.map rq) rfl ?_
    have h36 : ∀ {x : Rat}, Cd 6 36 x → Sz 2 1 x := fun h => h.sz (by decide)
    refine seq_mid (P := fun ρ => ∃ w, (Cd 6 108 w ∧ 0 ≤ w) ∧ ρ = rC (.fr (rq u)) (.fr (.lst (l.map rq))) (.fr (rq w)) .no .no .no .no .no .no kk .no .no) (fun R hR => ?_) ?_
    · exact ⟨rfl, l, rfl, hc, hn.2, fun q hq q0 => hR _ ⟨q, ⟨hq, q0⟩, rfl⟩⟩
    rintro _ ⟨wh, ⟨cw, w0⟩, rfl⟩
    have sw : Sz 3 1 wh := cw.sz (by decide)
    refine seq_mid (P := fun ρ => ∃ m, Cd 6 36 m ∧ ρ = rC (.fr (rq u)) (.fr (.lst (l.map rq))) (.fr (rq wh)) (.fr (rq m)) .no .no .no .no .no kk .no .no) (fun R hR => ?_) ?_
    · have h0 : 0 < l.length := hn.1
      exact ⟨rq l[0], atI_nat (j := 0) (by rw [List.getElem?_map, List.getElem?_eq_getElem h0]; rfl), hR _ ⟨l[0], (hc _ (List.getElem_mem h0)).1, rfl⟩⟩
    rintro _ ⟨m, cm, rfl⟩
    refine seq_mid (P := fun ρ => ∃ m o, Cd 6 36 m ∧ ρ = rC (.fr (rq u)) (.fr (.lst (l.map rq))) (.fr (rq wh)) (.fr (rq m)) o .no .no .no .no kk .no .no) (fun R hR => ?_) ?_
    · simp only [rC] at hR ⊢
      walk_at "wk"
      refine forL_inv (P := fun i ρ => ∃ m o, Cd 6 36 m ∧ ρ = rC (.fr (rq u)) (.fr (.lst (l.map rq))) (.fr (rq wh)) (.fr (rq m)) o .no .no .no .no kk .no .no) _ _ 0 ?_ ?_ ⟨m, _, cm, rfl⟩
      · rintro i d ρ R' hi ⟨m, o, cm, rfl⟩ hR'
        rw [List.getElem?_map] at hi
        cases e : l[i]? with
        | none =>
          rw [e] at hi
          cases hi
        | some y =>
          rw [e] at hi
          cases hi
          have cy := (hc y (List.mem_of_getElem? e)).1
          simp only [rC] at hR' ⊢
          walk_at "wk"
          refine ⟨y, m, rfl, (h36 cy).ok (h36 cm) (by decide), ?_⟩
          walk_at "wk"
          split
          · exact hR' _ ⟨y, _, cy, rfl⟩
          · exact hR' _ ⟨m, _, cm, rfl⟩
      · rintro ρ ⟨m, o, cm, rfl⟩
        exact hR _ ⟨m, o, cm, rfl⟩
    clear cm m
    rintro _ ⟨m, o, cm, rfl⟩
    have cr := cw.sub cm
    have sr : Sz 3 1 (wh - m) := cr.sz (by decide)
    refine seq_mid (P := fun ρ => ρ = rC (.fr (rq u)) (.fr (.lst (l.map rq))) (.fr (rq wh)) (.fr (rq m)) o (.fr (rq (wh - m))) .no .no .no kk .no .no) (fun R hR => ?_) ?_
    · exact ⟨rfl, wh, m, rfl, sw.ok (h36 cm) (by decide), hR _ rfl⟩
    rintro _ rfl
    have c42 : ∀ {x : Rat} {n : Nat}, Cd 6 n x → n ≤ 180 → Cd 42 1260 x := fun h e => h.up 7 1260 (by omega)
    refine seq_mid (P := fun ρ => ∃ g, (Cd 42 1260 g ∧ 0 ≤ g) ∧ ρ = rC (.fr (rq u)) (.fr (.lst (l.map rq))) (.fr (rq wh)) (.fr (rq m)) o (.fr (rq (wh - m))) (.fr (rq g)) .no .no kk .no .no) (fun R hR => ?_) ?_
    · exact ⟨rfl, fun q hq q0 => hR _ ⟨q, ⟨c42 hq (by decide), q0⟩, rfl⟩⟩
    rintro _ ⟨g, cg, rfl⟩
    refine seq_mid (P := fun ρ => ∃ r : Int, ρ = rC (.fr (rq u)) (.fr (.lst (l.map rq))) (.fr (rq wh)) (.fr (rq m)) o (.fr (rq (wh - m))) (.fr (rq g)) (.fr (.int r)) .no kk .no .no) (fun R hR => ?_) ?_
    · exact ⟨rfl, by decide, fun r r0 r1 => hR _ ⟨r, rfl⟩⟩
    rintro _ ⟨r, rfl⟩
    refine seq_mid (P := fun ρ => ∃ g, (Cd 42 1260 g ∧ 0 ≤ g) ∧ ρ = rC (.fr (rq u)) (.fr (.lst (l.map rq))) (.fr (rq wh)) (.fr (rq m)) o (.fr (rq (wh - m))) (.fr (rq g)) (.fr (.int r)) .no kk .no .no) (fun R hR => ?_) ?_
    · simp only [rC] at hR ⊢
      walk_at "wk"
      split
      · exact hR _ ⟨wh, ⟨c42 cw (by decide), w0⟩, rfl⟩
      · exact hR _ ⟨g, cg, rfl⟩
    clear cg g
    rintro _ ⟨g, cg, rfl⟩
    refine seq_mid (P := fun ρ => ∃ g, (Cd 42 1260 g ∧ 0 ≤ g) ∧ ρ = rC (.fr (rq u)) (.fr (.lst (l.map rq))) (.fr (rq wh)) (.fr (rq m)) o (.fr (rq (wh - m))) (.fr (rq g)) (.fr (.int r)) .no kk .no .no) (fun R hR => ?_) ?_
    · simp only [rC] at hR ⊢
      walk_at "wk"
      by_cases c1 : r = 1
      · rw [decide_eq_true c1]
        walk_at "wk"
        refine ⟨m, wh - m, rfl, (h36 cm).ok sr (by decide), ?_⟩
        dsimp only
        simp only [sg_ge]
        split
        · rename_i c2
          rw [decide_eq_true_iff] at c2
          exact ⟨m, wh - m, rfl, (h36 cm).ok sr (by decide), hR _ ⟨_, ⟨c42 (cm.sub cr) (by decide), c2⟩, rfl⟩⟩
        · exact hR _ ⟨g, cg, rfl⟩
      · rw [decide_eq_false c1]
        walk_at "wk"
        exact hR _ ⟨g, cg, rfl⟩
    clear cg g
    rintro _ ⟨g, cg, rfl⟩
    refine seq_mid (P := fun ρ => ∃ g, (Cd 42 1260 g ∧ 0 ≤ g) ∧ ρ = rC (.fr (rq u)) (.fr (.lst (l.map rq))) (.fr (rq wh)) (.fr (rq m)) o (.fr (rq (wh - m))) (.fr (rq g)) (.fr (.int r)) .no kk .no .no) (fun R hR => ?_) ?_
    · simp only [rC] at hR ⊢
      walk_at "wk"
      split
      · have e7 : D.tup [.int 1, .int 7] = rq (Rat.divInt 1 ((7 : Nat) : Int)) := rq_lit (a := 1) (b := 7) (by decide +kernel)
        have c7 : Cd 42 6 (Rat.divInt 1 ((7 : Nat) : Int)) := cd_div 1 7 6 6 (by decide) (by decide)
        have p7 : 0 < Rat.divInt 1 ((7 : Nat) : Int) := pos_div (by decide) (by decide)
        rw [e7]
        have s7 : Sz 1 2 (Rat.divInt 1 ((7 : Nat) : Int)) := c7.sz (by decide)
        generalize Rat.divInt 1 ((7 : Nat) : Int) = z at *
        refine ⟨wh, z, rfl, sw.ok s7 (by decide), hR _ ⟨_, ⟨?_, ?_⟩, rfl⟩⟩
        · exact ((cw.up 7 756 (by decide)).add c7).le (by decide)
        · show 0 ≤ wh + z
          grind
      · exact hR _ ⟨g, cg, rfl⟩
    clear cg g
    rintro _ ⟨g, ⟨cg, g0⟩, rfl⟩
    have sg : Sz 4 2 g := cg.sz (by decide)
    refine seq_mid (P := fun ρ => ρ = rC (.fr (rq u)) (.fr (.lst (l.map rq))) (.fr (rq wh)) (.fr (rq m)) o (.fr (rq (wh - m))) (.fr (rq g)) (.fr (.int r)) (.fr (.tup [.str "reached"])) kk .no .no) (fun R hR => ?_) ?_
    · exact ⟨sl 1 (by decide), hR _ rfl⟩
    rintro _ rfl
    refine seq_mid (P := fun ρ => ∃ d, ρ = rC (.fr (rq u)) (.fr (.lst (l.map rq))) (.fr (rq wh)) (.fr (rq m)) o (.fr (rq (wh - m))) (.fr (rq g)) (.fr (.int r)) (.fr d) kk .no .no) (fun R hR => ?_) ?_
    · simp only [rC] at hR ⊢
      walk_at "wk"
      refine ⟨g, wh, rfl, sg.ok sw (by decide), ?_⟩
      walk_at "wk"
      split
      · exact hR _ ⟨_, rfl⟩
      · exact hR _ ⟨_, rfl⟩
    rintro _ ⟨d, rfl⟩
    refine seq_mid (P := fun ρ => ∃ d kk t, ρ = rC (.fr (rq u)) (.fr (.lst (l.map rq))) (.fr (rq wh)) (.fr (rq m)) o (.fr (rq (wh - m))) (.fr (rq g)) (.fr (.int r)) (.fr d) kk t .no) (fun R hR => ?_) ?_
    · simp only [rC] at hR ⊢
      walk_at "wk"
      rw [List.length_map]
      refine ⟨by omega, by omega, ?_⟩
      refine forL_inv (P := fun i ρ => ∃ d kk t, ρ = rC (.fr (rq u)) (.fr (.lst (l.map rq))) (.fr (rq wh)) (.fr (rq m)) o (.fr (rq (wh - m))) (.fr (rq g)) (.fr (.int r)) (.fr d) kk t .no) _ _ 0 ?_ ?_ ⟨d, _, _, rfl⟩
      · rintro i e ρ R' hi ⟨d, kk, t, rfl⟩ hR'
        obtain ⟨hj, rfl⟩ := rangeD_at hi
        have hi' : i < l.length := by omega
        have cy := (hc _ (List.getElem_mem hi')).1
        simp only [rC] at hR' ⊢
        walk_at "wk"
        refine ddIx_lst (d := rq l[i]) (by rw [List.getElem?_map, List.getElem?_eq_getElem hi']; rfl) ?_
        have c1 := cw.sub cy
        have s1 : Sz 3 1 (wh - l[i]) := c1.sz (by decide)
        refine ⟨wh, l[i], rfl, sw.ok (h36 cy) (by decide), _, g, rfl, s1.ok sg (by decide), ?_⟩
        walk_at "wk"
        refine ddIx_lst (d := rq l[i]) (by rw [List.getElem?_map, List.getElem?_eq_getElem hi']; rfl) ?_
        refine ⟨l[i], _, rfl, (h36 cy).ok (s1.add sg) (by decide), ?_⟩
        walk_at "wk"
        split
        · exact hR' _ ⟨_, _, _, rfl⟩
        · exact hR' _ ⟨_, _, _, rfl⟩
      · rintro ρ ⟨d, kk, t, rfl⟩
        exact hR _ ⟨d, kk, t, rfl⟩
    clear d
    rintro _ ⟨d, kk, t, rfl⟩
    refine seq_mid (P := fun ρ => ∃ (r2 : List Rat) (o : Sl), (r2.length = l.length ∧ ∀ x ∈ r2, Sz 60 60 x ∧ 0 < x) ∧ ρ = rC (.fr (rq u)) (.fr (.lst (l.map rq))) (.fr (rq wh)) (.fr (rq m)) o (.fr (rq (wh - m))) (.fr (rq g)) (.fr (.int r)) (.fr d) kk t (.ow (r2.map rq))) (fun R hR => ?_) ?_
    · simp only [rC] at hR ⊢
      walk_at "wk"
      refine compL_any (fun d => ∃ q, d = rq q ∧ (Sz 60 60 q ∧ 0 < q)) _ _ (fun d hd R2 k => ?_) (by rw [List.length_map, sizeLine_eq]; simp; omega) (fun l2 hl2 pl => ?_)
      · obtain ⟨y, hy, rfl⟩ := List.mem_map.mp hd
        obtain ⟨cy, y0⟩ := hc y hy
        have yy := cy.mul cy
        have sy : Sz 4 2 (y * y) := yy.sz (by decide)
        simp only [wipeD]
        walk_at "wk"
        exact ⟨y, y, rfl, (h36 cy).ok (h36 cy) (by decide), _, u, rfl, sy.ok su (by decide), k _ ⟨_, rfl, (sy.mul su).up (by decide) (by decide), Rat.mul_pos (Rat.mul_pos y0 y0) u0⟩⟩
      · obtain ⟨r2, rfl, er, pr⟩ := rats_of pl
        rw [hl2, List.length_map] at er
        exact hR _ ⟨r2, _, ⟨er, pr⟩, rfl⟩
    clear o
    rintro _ ⟨r2, o, ⟨hl2, h2⟩, rfl⟩
    refine frz_at (l := r2.map rq) rfl ?_
    simp only [rC]
    walk_at "wk"
    have gg := cg.mul cg
    have s2 : Sz 7 4 (g * g) := gg.sz (by decide)
    refine ⟨g, g, rfl, sg.ok sg (by decide), _, u, rfl, s2.ok su (by decide), ?_⟩
    exact h r2 _ d ⟨by rw [hl2]; exact hn, h2, (s2.mul su).up (by decide) (by decide), Rat.mul_nonneg (Rat.mul_nonneg g0 g0) (Rat.le_of_lt u0)⟩
  · exact h.elim
end
end My
set_option exponentiation.threshold 100000
namespace My
open PySem PySem.Spec PyProof.Rows L2
local macro_rules | `(tactic| walk_at "dl") => `(tactic| simp only [startD, List.map_cons, List.map_nil, List.length_cons, List.length_nil, List.cons_append, List.nil_append, List.replicate_succ, List.replicate_zero, List.getElem?_cons_zero, List.getElem?_cons_succ, List.set_cons_zero, List.set_cons_succ,
  dVar, rdS, dC, dNew, dOp, onB, qB, dChain, qAnd, qOr, qNot, qTru, truD, dIf, dAnd, dOr, dNot, dUn, ddNeg, lNil, lCons, dTup, nLst, ddI, ddI0, ddAdd, isNonD, isBlD, ddIsN, ddIsB, ddIx_t0, ddIx_t1, ddIx_t2, ddIx_t3, ddIx_l0, ddIx_l1, ddIx_l2, dCB, ddLen, ddInt1, ddAbs, ddMM, ddTuple, nCB, nnList, ddIsi, dCall,
  sSkip, sSeq, sBreak, sCont, sExpr, sRet, sRetN, sIf, sNever, gdName, gdNil, gdCons, gdTup, sAsg, sSetN, sPar, sRaise, sFrz, owS, sApp, sIns, dLenO, dIxO, sTry, sFor, iL, iT, onL, onT, iR1, iR2, nComp, qYes,
  ddEq_ii, ddEq_ss, ddEq_bb, Bool.false_bne, Bool.true_bne, List.append_nil, true_and, and_true, if_true, if_false, Bool.not_true, Bool.not_false, Bool.true_eq_false, Bool.false_eq_true, ite_true, ite_false, id_eq])

local macro_rules | `(tactic| walk_at "is") => `(tactic| simp only [plain_non, isIn_non_int, isIn_non_str, isIn_non_bool, isIn_non_list, isIn_non_tuple, isIn_non_dict, plain_bl, isIn_bl_int, isIn_bl_str, isIn_bl_bool, isIn_bl_list, isIn_bl_tuple, isIn_bl_dict, plain_int, isIn_int_int, isIn_int_str, isIn_int_bool, isIn_int_list, isIn_int_tuple, isIn_int_dict, plain_str, isIn_str_int, isIn_str_str, isIn_str_bool, isIn_str_list, isIn_str_tuple, isIn_str_dict, plain_tup, isIn_tup_int, isIn_tup_str, isIn_tup_bool, isIn_tup_list, isIn_tup_tuple, isIn_tup_dict, plain_lst, isIn_lst_int, isIn_lst_str, isIn_lst_bool, isIn_lst_list, isIn_lst_tuple, isIn_lst_dict, sl0, sl1, sl2, sl3, sl4, decide_true, decide_false, ddIsi, ddIsi2, true_and, if_true, if_false, Bool.false_eq_true, Bool.not_true, Bool.not_false, Bool.or_true, Bool.or_false, Bool.true_or, and_true])
local macro_rules | `(tactic| walk_at "wk") => `(tactic| ((try walk_at "dl"); (try walk_at "is"); (try walk_at "dl")))

theorem rq_sz {a b : Int} {n m : Nat} (h : isRat (ratD a b) = true) (l : a.natAbs < 10 ^ n ∧ b.natAbs < 10 ^ m) : ∃ q : Rat, ratD a b = rq q ∧ Sz n m q ∧ q.num = a := by
  obtain ⟨q, e⟩ := rq_of h
  have e1 : ratD a b = ratD q.num q.den := e
  unfold ratD at e1
  injection e1 with e1
  injection e1 with e1 e2
  injection e2 with e2 _
  injection e1 with e1
  injection e2 with e2
  refine ⟨q, e, ⟨by rw [← e1]; exact l.1, ?_⟩, e1.symm⟩
  have : q.den = b.natAbs := by omega
  rw [this]
  exact l.2
theorem num_ge (q : Rat) : (0 ≤ q.num) = (0 ≤ q) := propext Rat.num_nonneg
abbrev s_drawn : Stmt := topS 77
abbrev N_drawn : List Str := ["store", "got", "way", "many", "moved", "k"]
abbrev P_drawn : List Str := ["store"]
theorem sc_drawn : FnScope N_drawn P_drawn (defScope s_drawn) := ⟨rfl, rfl, rfl, by decide +kernel, rfl, by decide +kernel, by decide +kernel⟩

section
variable {P : Program} {w : World} {K : PySem.W.Frag} {mg : Str → Option Value} {base : Heap}
theorem ok_ldrawn (T : Txt K mg) : FnOk P w K mg base (L2N.CX P w) 177 T.ddrawn.f T.ddrawn.fd P_drawn (spD K 1 m_ldrawn) := by
  have G_chain : FnOk P w K mg base (L2N.CX P w) 176 T.dchain.f T.dchain.fd P_chain (spD K 1 m_lchain) := ok_lchain T
  have G_take : FnOk P w K mg base (L2N.CX P w) 171 T.dtake.f T.dtake.fd P_take (spD K 2 m_take) := ok_takeD T
  have G_between : FnOk P w K mg base (L2N.CX P w) 173 T.dbetween.f T.dbetween.fd P_between (spD K 3 m_between) := ok_betweenD T
  have G_positive : FnOk P w K mg base (L2N.CX P w) 174 T.dpositive.f T.dpositive.fd P_positive (spD K 1 m_positive) := ok_positive T
  have G_cost : FnOk P w K mg base (L2N.CX P w) 173 T.dcost.f T.dcost.fd P_cost (spD K 1 m_cost) := ok_cost T
  have G_long : FnOk P w K mg base (L2N.CX P w) 172 T.dlong.f T.dlong.fd P_long (spD K 1 m_long) := ok_long T
  have G_plus : FnOk P w K mg base (L2N.CX P w) 2 T.dplus.f T.dplus.fd P_plus (spD K 2 (m_r2 fun p q => p + q)) := ok_plus T
  refine T.ddrawn.okD sc_drawn fun cdv A outer s H E so A0 hr tk hp => ⟨_, (pds_cons (pds_setN (i := 1) sc_drawn.nd rfl (by first | exact .inl rfl | exact .inr rfl) (pdn_headE (pd_call G_chain (hr.mono (by omega)) (by rfl) T.dchain.g T.dchain.F.kp T.dchain.b (fun σ => L2N.passAt tk σ) (pda_cons (pd_var (pv 0)) pda_nil)) pd_int))
      (pds_cons (pds_set (i := 2) sc_drawn.nd rfl (by first | exact .inl rfl | exact .inr rfl) (pd_call G_take (hr.mono (by omega)) (by rfl) T.dtake.g T.dtake.F.kp T.dtake.b (fun σ => L2N.passAt tk σ) (pda_cons (pd_var (pv 0)) (pda_cons pd_int pda_nil))))
      (pds_cons (pds_set (i := 3) sc_drawn.nd rfl (by first | exact .inl rfl | exact .inr rfl) (pd_call G_between (hr.mono (by omega)) (by rfl) T.dbetween.g T.dbetween.F.kp T.dbetween.b (fun σ => L2N.passAt tk σ) (pda_cons (pd_var (pv 0)) (pda_cons pd_int (pda_cons pd_int pda_nil)))))
      (pds_cons (pds_if (pdt_cmp (oo_eq hr.units) ol_eq (pd_var (pv 2)) pd_int (nomark _))
        (pds_one (pds_setN (i := 1) sc_drawn.nd rfl (by first | exact .inl rfl | exact .inr rfl) (pdn_lst (pda_cons (pd_new (pdn_lc (own := [("k", 5)]) rfl sc_drawn.nd (pdi_range1 (by rfl) T.m_range (pda_cons (pd_var (pv 3)) pda_nil)) (blkOk_by (own := [("k", 5)]) (N := N_drawn) (sc := defScope s_drawn) (by decide +kernel)) (fun _ _ _ _ _ => (pdgw_name (pg_name (i := 5) sc_drawn.nd rfl (by first | exact .inl rfl | exact .inr rfl)) (by simp))) (fun _ _ _ _ _ => pdts_nil) (fun _ _ _ _ _ => (pd_call G_positive (hr.mono (by omega)) (by rfl) T.dpositive.g T.dpositive.F.kp T.dpositive.b (fun σ => passN0 σ) (pda_cons (pd_var (pv 0)) pda_nil))))) (pda_cons (pd_call G_cost (hr.mono (by omega)) (by rfl) T.dcost.g T.dcost.F.kp T.dcost.b (fun σ => L2N.passAt tk σ) (pda_cons (pd_var (pv 0)) pda_nil)) pda_nil)))))
        pds_nil)
      (pds_cons (pds_if (pdt_cmp (oo_eq hr.units) ol_eq (pd_var (pv 2)) pd_int (nomark _))
        (pds_one (pds_setN (i := 1) sc_drawn.nd rfl (by first | exact .inl rfl | exact .inr rfl) (pdn_lst (pda_cons (pd_new (pdn_lc (own := [("k", 5)]) rfl sc_drawn.nd (pdi_range1 (by rfl) T.m_range (pda_cons (pd_var (pv 3)) pda_nil)) (blkOk_by (own := [("k", 5)]) (N := N_drawn) (sc := defScope s_drawn) (by decide +kernel)) (fun _ _ _ _ _ => (pdgw_name (pg_name (i := 5) sc_drawn.nd rfl (by first | exact .inl rfl | exact .inr rfl)) (by simp))) (fun _ _ _ _ _ => pdts_nil) (fun _ _ _ _ _ => (pd_call G_long (hr.mono (by omega)) (by rfl) T.dlong.g T.dlong.F.kp T.dlong.b (fun σ => passN0 σ) (pda_cons (pd_var (pv 0)) pda_nil))))) (pda_cons (pd_call G_long (hr.mono (by omega)) (by rfl) T.dlong.g T.dlong.F.kp T.dlong.b (fun σ => L2N.passAt tk σ) (pda_cons (pd_var (pv 0)) pda_nil)) pda_nil)))))
        pds_nil)
      (pds_cons (pds_if (pdt_cmp (oo_eq hr.units) ol_eq (pd_call G_take (hr.mono (by omega)) (by rfl) T.dtake.g T.dtake.F.kp T.dtake.b (fun σ => L2N.passAt tk σ) (pda_cons (pd_var (pv 0)) (pda_cons pd_int pda_nil))) pd_int (nomark _))
        (pds_cons (pds_set (i := 4) sc_drawn.nd rfl (by first | exact .inl rfl | exact .inr rfl) (pd_call G_plus (hr.mono (by omega)) (by rfl) T.dplus.g T.dplus.F.kp T.dplus.b (fun σ => L2N.passAt tk σ) (pda_cons (pd_ixO (pv 1) pd_int (fun _ _ => rfl)) (pda_cons (pd_ix ix_seq ol_ix (pd_new (pdn_lst (pda_cons (pd_tup (pda_cons pd_int (pda_cons (pd_op op_pow ol_pow pd_int pd_int) pda_nil))) (pda_cons (pd_tup (pda_cons (pd_neg pd_int) (pda_cons (pd_op op_pow ol_pow pd_int pd_int) pda_nil))) (pda_cons (pd_tup (pda_cons pd_int (pda_cons (pd_op op_pow ol_pow pd_int pd_int) pda_nil))) (pda_cons (pd_tup (pda_cons (pd_neg pd_int) (pda_cons (pd_op op_pow ol_pow pd_int pd_int) pda_nil))) pda_nil)))))) (pd_call G_take (hr.mono (by omega)) (by rfl) T.dtake.g T.dtake.F.kp T.dtake.b (fun σ => L2N.passAt tk σ) (pda_cons (pd_var (pv 0)) (pda_cons pd_int pda_nil))) (fun _ _ => rfl)) pda_nil))))
        (pds_one (pds_if (pdt_cmp op_ge ol_ge (pd_ix ix_seq ol_ix (pd_var (pv 4)) pd_int (fun _ _ => rfl)) pd_int (nomark _))
          (pds_one (pds_setI (pv 1) (pd_var (pv 4)) pd_int))
          pds_nil)))
        pds_nil)
      (pds_frz 1 (pds_one (pds_ret (pd_var (pv 1))))))))))), fun ds Q E hl h => ?_⟩
  have sl : ∀ n, n ≤ 12 → n ≤ sizeLine := fun n h => by rw [sizeLine_eq]; omega
  unfold m_ldrawn at h
  split at h
  · show sSeq _ _ _ [.fr .sto, .no, .no, .no, .no, .no]
    refine seq_mid (P := fun ρ => ∃ l g, Ch0 l g ∧ ρ = [.fr .sto, .ow [.lst (l.map rq), rq g], .no, .no, .no, .no]) (fun R hR => ?_) ?_
    · exact ⟨rfl, fun l g d hc => ⟨by decide, hR _ ⟨l, g, hc, rfl⟩⟩⟩
    rintro _ ⟨l, g, hc, rfl⟩
    refine seq_mid (P := fun ρ => ∃ r : Int, ρ = [.fr .sto, .ow [.lst (l.map rq), rq g], .fr (.int r), .no, .no, .no]) (fun R hR => ?_) ?_
    · exact ⟨rfl, by decide, fun r r0 r1 => hR _ ⟨r, rfl⟩⟩
    rintro _ ⟨r, rfl⟩
    refine seq_mid (P := fun ρ => ∃ n : Int, (1 ≤ n ∧ n ≤ 3) ∧ ρ = [.fr .sto, .ow [.lst (l.map rq), rq g], .fr (.int r), .fr (.int n), .no, .no]) (fun R hR => ?_) ?_
    · exact ⟨rfl, by decide, by decide, fun r r0 r1 => hR _ ⟨r, ⟨r0, r1⟩, rfl⟩⟩
    rintro _ ⟨n, ⟨n1, n2⟩, rfl⟩
    refine seq_mid (P := fun ρ => ∃ l g k, Ch0 l g ∧ ρ = [.fr .sto, .ow [.lst (l.map rq), rq g], .fr (.int r), .fr (.int n), .no, k]) (fun R hR => ?_) ?_
    · walk_at "wk"
      split
      · refine ⟨by omega, by omega, ?_⟩
        refine compL_any (fun d => ∃ q, d = rq q ∧ (Sz 60 60 q ∧ 0 < q)) _ _ (fun d hd R2 k => ?_) (by rw [rangeD_len, sizeLine_eq]; simp; omega) (fun l2 hl2 pl => ?_)
        · simp only [wipeD]
          walk_at "wk"
          exact fun q hq q0 => k _ ⟨q, rfl, (hq.sz (a := 2) (b := 1) (by decide)).up (by decide) (by decide), q0⟩
        · obtain ⟨r2, rfl, er, pr⟩ := rats_of pl
          rw [hl2, rangeD_len] at er
          exact fun q hq q0 => hR _ ⟨r2, q, _, ⟨⟨by omega, by omega⟩, pr, (hq.sz (a := 2) (b := 1) (by decide)).up (by decide) (by decide), q0⟩, rfl⟩
      · exact hR _ ⟨l, g, _, hc, rfl⟩
    clear hc l g
    rintro _ ⟨l, g, k, hc, rfl⟩
    refine seq_mid (P := fun ρ => ∃ l g k, Ch0 l g ∧ ρ = [.fr .sto, .ow [.lst (l.map rq), rq g], .fr (.int r), .fr (.int n), .no, k]) (fun R hR => ?_) ?_
    · walk_at "wk"
      split
      · refine ⟨by omega, by omega, ?_⟩
        refine compL_any (fun d => ∃ q, d = rq q ∧ (Sz 60 60 q ∧ 0 < q)) _ _ (fun d hd R2 k => ?_) (by rw [rangeD_len, sizeLine_eq]; simp; omega) (fun l2 hl2 pl => ?_)
        · simp only [wipeD]
          walk_at "wk"
          exact fun q hq q0 => k _ ⟨q, rfl, hq.up (by decide) (by decide), q0⟩
        · obtain ⟨r2, rfl, er, pr⟩ := rats_of pl
          rw [hl2, rangeD_len] at er
          exact fun q hq q0 => hR _ ⟨r2, q, _, ⟨⟨by omega, by omega⟩, pr, hq, Rat.le_of_lt q0⟩, rfl⟩
      · exact hR _ ⟨l, g, _, hc, rfl⟩
    clear hc l g k
    rintro _ ⟨l, g, k, hc, rfl⟩
    refine seq_mid (P := fun ρ => ∃ g k m, ChSz l g ∧ ρ = [.fr .sto, .ow [.lst (l.map rq), rq g], .fr (.int r), .fr (.int n), m, k]) (fun R hR => ?_) ?_
    · have cz : ChSz l g := ⟨hc.n, hc.s, hc.g.1.up (by decide) (by decide), hc.g.2⟩
      walk_at "wk"
      refine ⟨by decide, fun u u0 u1 => ?_⟩
      walk_at "wk"
      split
      · have t9 : (10 : Int) ^ Int.toNat 9 = 1000000000 := by decide
        have t40 : (10 : Int) ^ Int.toNat 40 = 10000000000000000000000000000000000000000 := by decide
        rw [t9, t40]
        refine ⟨_, rfl, ⟨by decide, by decide, by decide⟩, ⟨by decide, by decide, by decide⟩, ⟨by decide, by decide, by decide⟩, ⟨by decide, by decide, by decide⟩, by decide, fun i i0 i1 => ddIx_any i0 (by show i < 4; omega) fun d hd => ?_⟩
        have hm : ∃ q, d = rq q ∧ Sz 1 41 q := by
          simp only [List.mem_cons, List.not_mem_nil, or_false] at hd
          rcases hd with rfl | rfl | rfl | rfl
          · obtain ⟨q, e, s, _⟩ := rq_sz (a := 1) (b := 1000000000) (n := 1) (m := 41) (by decide +kernel) (by decide)
            exact ⟨q, e, s⟩
          · obtain ⟨q, e, s, _⟩ := rq_sz (a := -1) (b := 1000000000) (n := 1) (m := 41) (by decide +kernel) (by decide)
            exact ⟨q, e, s⟩
          · obtain ⟨q, e, s, _⟩ := rq_sz (a := 1) (b := 10000000000000000000000000000000000000000) (n := 1) (m := 41) (by decide +kernel) (by decide)
            exact ⟨q, e, s⟩
          · obtain ⟨q, e, s, _⟩ := rq_sz (a := -1) (b := 10000000000000000000000000000000000000000) (n := 1) (m := 41) (by decide +kernel) (by decide)
            exact ⟨q, e, s⟩
        obtain ⟨q, rfl, sq⟩ := hm
        refine ⟨g, q, rfl, hc.g.1.ok sq (by decide), ?_⟩
        dsimp only
        simp only [ix0]
        walk_at "wk"
        simp only [num_ge]
        split
        · rename_i c
          rw [decide_eq_true_iff] at c
          exact ⟨1, rfl, hR _ ⟨_, _, _, ⟨hc.n, hc.s, (hc.g.1.add sq).up (by decide) (by decide), c⟩, rfl⟩⟩
        · exact hR _ ⟨g, _, _, cz, rfl⟩
      · exact hR _ ⟨g, _, _, cz, rfl⟩
    rintro _ ⟨g, k, m, cz, rfl⟩
    walk_at "wk"
    exact h l g cz
  · exact h.elim
end
end My
set_option exponentiation.threshold 100000
namespace My
open PySem PySem.Spec PyProof.Rows L2
local macro_rules | `(tactic| walk_at "dl") => `(tactic| simp only [startD, List.map_cons, List.map_nil, List.length_cons, List.length_nil, List.cons_append, List.nil_append, List.replicate_succ, List.replicate_zero, List.getElem?_cons_zero, List.getElem?_cons_succ, List.set_cons_zero, List.set_cons_succ,
  dVar, rdS, dC, dNew, dOp, onB, qB, dChain, qAnd, qOr, qNot, qTru, truD, dIf, dAnd, dOr, dNot, dUn, ddNeg, lNil, lCons, dTup, nLst, ddI, ddI0, ddAdd, isNonD, isBlD, ddIsN, ddIsB, ddIx_t0, ddIx_t1, ddIx_t2, ddIx_t3, ddIx_l0, ddIx_l1, ddIx_l2, dCB, ddLen, ddInt1, ddAbs, ddMM, ddTuple, nCB, nnList, ddIsi, dCall,
  sSkip, sSeq, sBreak, sCont, sExpr, sRet, sRetN, sIf, sNever, gdName, gdNil, gdCons, gdTup, sAsg, sSetN, sPar, sRaise, sFrz, owS, sApp, sIns, dLenO, dIxO, sTry, sFor, iL, iT, onL, onT, iR1, iR2, nComp, qYes,
  ddEq_ii, ddEq_ss, ddEq_bb, Bool.false_bne, Bool.true_bne, List.append_nil, true_and, and_true, if_true, if_false, Bool.not_true, Bool.not_false, Bool.true_eq_false, Bool.false_eq_true, ite_true, ite_false, id_eq])

local macro_rules | `(tactic| walk_at "is") => `(tactic| simp only [plain_non, isIn_non_int, isIn_non_str, isIn_non_bool, isIn_non_list, isIn_non_tuple, isIn_non_dict, plain_bl, isIn_bl_int, isIn_bl_str, isIn_bl_bool, isIn_bl_list, isIn_bl_tuple, isIn_bl_dict, plain_int, isIn_int_int, isIn_int_str, isIn_int_bool, isIn_int_list, isIn_int_tuple, isIn_int_dict, plain_str, isIn_str_int, isIn_str_str, isIn_str_bool, isIn_str_list, isIn_str_tuple, isIn_str_dict, plain_tup, isIn_tup_int, isIn_tup_str, isIn_tup_bool, isIn_tup_list, isIn_tup_tuple, isIn_tup_dict, plain_lst, isIn_lst_int, isIn_lst_str, isIn_lst_bool, isIn_lst_list, isIn_lst_tuple, isIn_lst_dict, sl0, sl1, sl2, sl3, sl4, decide_true, decide_false, ddIsi, ddIsi2, true_and, if_true, if_false, Bool.false_eq_true, Bool.not_true, Bool.not_false, Bool.or_true, Bool.or_false, Bool.true_or, and_true])
local macro_rules | `(tactic| walk_at "wk") => `(tactic| ((try walk_at "dl"); (try walk_at "is"); (try walk_at "dl")))

/-! ### chains: orders -/
theorem rat_lt_trans {a b c : Rat} (h : a < b) (k : b < c) : a < c := by grind
theorem getR_of {l : List Rat} {k : Nat} (h : k < l.length) : getR l k = l[k] := by
  unfold getR
  rw [List.getD_eq_getElem?_getD, List.getElem?_eq_getElem h]
  rfl
theorem others_perm {l : List Rat} {k : Nat} {g : Rat} (h : k < l.length) : (getR l k :: othersL l k g).Perm (g :: l) := by
  have e : othersL l k g = l.eraseIdx k ++ [g] := by
    unfold othersL
    rw [List.eraseIdx_eq_take_drop_succ]
  rw [e, getR_of h]
  have p := erase_perm l k h
  have p2 : (l[k] :: (l.eraseIdx k ++ [g])).Perm (g :: (l[k] :: l.eraseIdx k)) := by
    rw [← List.cons_append]
    exact List.perm_append_comm (l₁ := l[k] :: l.eraseIdx k) (l₂ := [g])
  exact p2.trans (List.Perm.cons g p)
theorem others_mem {l : List Rat} {k : Nat} {g : Rat} {P : Rat → Prop} (h : k < l.length) : (∀ x ∈ othersL l k g, P x) ↔ P g ∧ ∀ j, j < l.length → j ≠ k → P (getR l j) := by
  unfold othersL
  constructor
  · intro q
    refine ⟨q g (by simp), fun j hj n => q _ ?_⟩
    rw [getR_of hj]
    rcases Nat.lt_or_gt_of_ne n with z | z
    · refine List.mem_append_left _ (List.mem_append_left _ ?_)
      exact List.mem_take_iff_getElem.mpr ⟨j, by omega, rfl⟩
    · refine List.mem_append_left _ (List.mem_append_right _ ?_)
      exact List.mem_drop_iff_getElem.mpr ⟨j - (k + 1), by omega, by congr 1; omega⟩
  · rintro ⟨q1, q2⟩ x hx
    rcases List.mem_append.mp hx with hx | hx
    · rcases List.mem_append.mp hx with hx | hx
      · obtain ⟨j, hj, rfl⟩ := List.mem_take_iff_getElem.mp hx
        have := q2 j (by omega) (by omega)
        rw [getR_of (by omega)] at this
        exact this
      · obtain ⟨j, hj, rfl⟩ := List.mem_drop_iff_getElem.mp hx
        have := q2 (k + 1 + j) (by omega) (by omega)
        rw [getR_of (by omega)] at this
        exact this
    · rw [List.mem_singleton.mp hx]
      exact q1
theorem far_iff {l : List Rat} {g : Rat} (h : ChSz l g) : excL g l = true ↔ Fq (g :: l) ∧ ∀ x ∈ l, x < g := excL_iff h.g.2 (fun x hx => Rat.le_of_lt (h.s x hx).2) h.n
theorem near_iff {l : List Rat} {g : Rat} (h : ChSz l g) {k : Nat} (hk : k < l.length) : excL (getR l k) (othersL l k g) = true ↔ Fq (g :: l) ∧ g < getR l k ∧ ∀ j, j < l.length → j ≠ k → getR l j < getR l k := by
  have a := h.s l[k] (List.getElem_mem hk)
  rw [excL_iff (by rw [getR_of hk]; exact Rat.le_of_lt a.2) (fun x hx => by
    rcases others_in hx with z | rfl
    · exact Rat.le_of_lt (h.s x z).2
    · exact h.g.2) (by rw [others_len hk]; exact h.n), others_mem hk, Fq.perm (others_perm hk)]
/-- what a chain is: far, near with an index, or reached -/
inductive Rch (l : List Rat) (g : Rat) : D → Prop where
  | far : Fq (g :: l) → (∀ j, j < l.length → getR l j < g) → Rch l g (.tup [.str "far"])
  | near (k : Nat) : k < l.length → Fq (g :: l) → g < getR l k → (∀ j, j < l.length → j ≠ k → getR l j < getR l k) → Rch l g (.tup [.str "near", .int (k : Nat)])
  | no : ¬ (Fq (g :: l) ∧ ∀ j, j < l.length → getR l j < g) → (∀ k, k < l.length → ¬ (Fq (g :: l) ∧ g < getR l k ∧ ∀ j, j < l.length → j ≠ k → getR l j < getR l k)) → Rch l g (.tup [.str "reached"])
theorem all_get {l : List Rat} {P : Rat → Prop} : (∀ x ∈ l, P x) ↔ ∀ j, j < l.length → P (getR l j) := by
  constructor
  · intro h j hj
    rw [getR_of hj]
    exact h _ (List.getElem_mem hj)
  · intro h x hx
    obtain ⟨j, hj, rfl⟩ := List.getElem_of_mem hx
    have := h j hj
    rw [getR_of hj] at this
    exact this
theorem rch_of {l : List Rat} {g : Rat} (h : ChSz l g) : Rch l g (reachW l g) := by
  have fi := far_iff h
  by_cases c : excL g l = true
  · have e : reachW l g = .tup [.str "far"] := by unfold reachW; rw [if_pos c]
    rw [e]
    obtain ⟨f, k⟩ := fi.mp c
    exact .far f (all_get.mp k)
  · have cf : excL g l = false := by simpa using c
    by_cases d : ∃ k, k < l.length ∧ excL (getR l k) (othersL l k g) = true
    · obtain ⟨k, hk, ek⟩ := d
      obtain ⟨f, k1, k2⟩ := (near_iff h hk).mp ek
      rw [reach_near cf hk ek fun j hj => ?_]
      · exact .near k hk f k1 k2
      · cases z : excL (getR l j) (othersL l j g) with
        | false => rfl
        | true =>
          obtain ⟨_, _, z2⟩ := (near_iff h (by omega)).mp z
          have a := z2 k hk (by omega)
          have b := k2 j (by omega) (by omega)
          exact absurd (rat_lt_trans a b) Rat.lt_irrefl
    · rw [reach_none cf fun j hj => ?_]
      · refine .no (fun z => c (fi.mpr ⟨z.1, all_get.mpr z.2⟩)) fun k hk z => d ⟨k, hk, (near_iff h hk).mpr z⟩
      · cases z : excL (getR l j) (othersL l j g) with
        | false => rfl
        | true => exact absurd ⟨j, hj, z⟩ d
/-- there is but one answer -/
theorem Rch.one {l : List Rat} {g : Rat} {d e : D} (hn : 1 ≤ l.length) (a : Rch l g d) (b : Rch l g e) : d = e := by
  cases a with
  | far f1 h1 =>
    cases b with
    | far _ _ => rfl
    | near k hk f2 h2 h3 => exact absurd (rat_lt_trans h2 (h1 k hk)) Rat.lt_irrefl
    | no n1 n2 => exact absurd ⟨f1, h1⟩ n1
  | near k hk f2 h2 h3 =>
    cases b with
    | far f1 h1 => exact absurd (rat_lt_trans h2 (h1 k hk)) Rat.lt_irrefl
    | near k' hk' f2' h2' h3' =>
      by_cases c : k = k'
      · rw [c]
      · exact absurd (rat_lt_trans (h3 k' hk' (by omega)) (h3' k hk c)) Rat.lt_irrefl
    | no n1 n2 => exact absurd ⟨f2, h2, h3⟩ (n2 k hk)
  | no n1 n2 =>
    cases b with
    | far f1 h1 => exact absurd ⟨f1, h1⟩ n1
    | near k hk f2 h2 h3 => exact absurd ⟨f2, h2, h3⟩ (n2 k hk)
    | no _ _ => rfl
theorem reach_is {l : List Rat} {g : Rat} {d : D} (h : ChSz l g) (a : Rch l g d) : reachW l g = d := Rch.one h.n.1 (rch_of h) a
/-- the bars in another order -/
theorem turned_is {l l' : List Rat} {g : Rat} {π σ : Nat → Nat} (h : ChSz l g) (p : l'.Perm l) (h1 : ∀ j, j < l.length → π j < l.length ∧ getR l' j = getR l (π j) ∧ σ (π j) = j) (h2 : ∀ k, k < l.length → σ k < l.length ∧ π (σ k) = k) :
    ChSz l' g ∧ ((reachW l g = .tup [.str "far"] ∧ reachW l' g = .tup [.str "far"]) ∨ (∃ k, k < l.length ∧ reachW l g = .tup [.str "near", .int (k : Nat)] ∧ reachW l' g = .tup [.str "near", .int (σ k : Nat)]) ∨ (reachW l g = .tup [.str "reached"] ∧ reachW l' g = .tup [.str "reached"])) := by
  have ll : l'.length = l.length := p.length_eq
  have cs : ChSz l' g := ⟨by rw [ll]; exact h.n, fun x hx => h.s x (p.mem_iff.mp hx), h.g⟩
  have fq : Fq (g :: l') = Fq (g :: l) := Fq.perm (p.cons g)
  refine ⟨cs, ?_⟩
  have r := rch_of h
  generalize reachW l g = d at r
  cases r with
  | far f1 k1 => exact .inl ⟨rfl, reach_is cs (.far (by rw [fq]; exact f1) fun j hj => by rw [ll] at hj; obtain ⟨a, b, _⟩ := h1 j hj; rw [b]; exact k1 _ a)⟩
  | near k hk f2 k2 k3 =>
    obtain ⟨s1, s2⟩ := h2 k hk
    obtain ⟨a, b, c⟩ := h1 (σ k) s1
    rw [s2] at a b c
    refine .inr (.inl ⟨k, hk, rfl, reach_is cs (.near (σ k) (by rw [ll]; exact s1) (by rw [fq]; exact f2) (by rw [b]; exact k2) fun j hj n => ?_)⟩)
    rw [ll] at hj
    obtain ⟨a', b', c'⟩ := h1 j hj
    rw [b, b']
    exact k3 _ a' fun z => n (by rw [← c', z])
  | no n1 n2 =>
    refine .inr (.inr ⟨rfl, reach_is cs (.no (fun z => n1 ⟨by rw [← fq]; exact z.1, fun k hk => ?_⟩) fun j hj z => ?_)⟩)
    · obtain ⟨s1, s2⟩ := h2 k hk
      obtain ⟨a, b, c⟩ := h1 (σ k) s1
      have := z.2 (σ k) (by rw [ll]; exact s1)
      rw [b, s2] at this
      exact this
    · rw [ll] at hj
      obtain ⟨a, b, c⟩ := h1 j hj
      refine n2 (π j) a ⟨by rw [← fq]; exact z.1, by rw [← b]; exact z.2.1, fun k hk n => ?_⟩
      obtain ⟨s1, s2⟩ := h2 k hk
      obtain ⟨a', b', c'⟩ := h1 (σ k) s1
      have := z.2.2 (σ k) (by rw [ll]; exact s1) (fun w => n (by rw [← s2, w]))
      rw [b, b', s2] at this
      exact this
theorem set_perm : ∀ (l : List Rat) (a : Nat) (g : Rat) (h : a < l.length), (l[a] :: l.set a g).Perm (g :: l)
  | x :: l, 0, g, _ => List.Perm.swap g x l
  | x :: l, a + 1, g, h => by
    have hi : a < l.length := by simpa using h
    have ih := set_perm l a g hi
    show (l[a] :: x :: l.set a g).Perm (g :: x :: l)
    exact (List.Perm.swap x l[a] _).trans ((ih.cons x).trans (List.Perm.swap g x l))
theorem getR_set {l : List Rat} {a j : Nat} {g : Rat} (hj : j < l.length) : getR (l.set a g) j = if j = a then g else getR l j := by
  rw [getR_of (by rw [List.length_set]; exact hj), getR_of hj, List.getElem_set]
  by_cases c : a = j
  · rw [if_pos c, if_pos c.symm]
  · rw [if_neg c, if_neg (fun z => c z.symm)]
/-- the gap and a bar change places -/
theorem swapped_is {l : List Rat} {g : Rat} {a : Nat} (h : ChSz l g) (ha : a < l.length) (g0 : 0 < g) :
    ChSz (l.set a g) (getR l a) ∧ ((reachW l g = .tup [.str "far"] ∧ reachW (l.set a g) (getR l a) = .tup [.str "near", .int (a : Nat)]) ∨ (reachW l g = .tup [.str "near", .int (a : Nat)] ∧ reachW (l.set a g) (getR l a) = .tup [.str "far"]) ∨
      (∃ k, k ≠ a ∧ reachW l g = .tup [.str "near", .int (k : Nat)] ∧ reachW (l.set a g) (getR l a) = .tup [.str "near", .int (k : Nat)]) ∨ (reachW l g = .tup [.str "reached"] ∧ reachW (l.set a g) (getR l a) = .tup [.str "reached"])) := by
  have ll : (l.set a g).length = l.length := List.length_set ..
  have sa := h.s _ (List.getElem_mem ha)
  have cs : ChSz (l.set a g) (getR l a) := ⟨by rw [ll]; exact h.n, fun x hx => by
    rcases List.mem_or_eq_of_mem_set hx with z | rfl
    · exact h.s x z
    · exact ⟨h.g.1, g0⟩, by rw [getR_of ha]; exact ⟨sa.1, Rat.le_of_lt sa.2⟩⟩
  have fq : Fq (getR l a :: l.set a g) = Fq (g :: l) := by
    rw [getR_of ha]
    exact Fq.perm (set_perm l a g ha)
  have e : ∀ j, j < l.length → getR (l.set a g) j = if j = a then g else getR l j := fun j hj => getR_set hj
  refine ⟨cs, ?_⟩
  have r := rch_of h
  generalize reachW l g = d at r
  cases r with
  | far f1 k1 =>
    refine .inl ⟨rfl, reach_is cs (.near a (by rw [ll]; exact ha) (by rw [fq]; exact f1) (by rw [e a ha, if_pos rfl]; exact k1 a ha) fun j hj n => ?_)⟩
    rw [ll] at hj
    rw [e j hj, e a ha, if_neg n, if_pos rfl]
    exact k1 j hj
  | near k hk f2 k2 k3 =>
    by_cases c : k = a
    · subst c
      refine .inr (.inl ⟨rfl, reach_is cs (.far (by rw [fq]; exact f2) fun j hj => ?_)⟩)
      rw [ll] at hj
      rw [e j hj]
      split
      · exact k2
      · rename_i n
        exact k3 j hj n
    · refine .inr (.inr (.inl ⟨k, c, rfl, reach_is cs (.near k (by rw [ll]; exact hk) (by rw [fq]; exact f2) (by rw [e k hk, if_neg c]; exact k3 a ha (fun z => c z.symm)) fun j hj n => ?_)⟩))
      rw [ll] at hj
      rw [e j hj, e k hk, if_neg c]
      split
      · exact k2
      · exact k3 j hj n
  | no n1 n2 =>
    refine .inr (.inr (.inr ⟨rfl, reach_is cs (.no (fun z => n2 a ha ⟨by rw [← fq]; exact z.1, ?_, fun j hj n => ?_⟩) fun k hk z => ?_)⟩))
    · have := z.2 a (by rw [ll]; exact ha)
      rw [e a ha, if_pos rfl] at this
      exact this
    · have := z.2 j (by rw [ll]; exact hj)
      rw [e j hj, if_neg n] at this
      exact this
    · rw [ll] at hk
      have f := z.1
      rw [fq] at f
      by_cases c : k = a
      · subst c
        refine n1 ⟨f, fun j hj => ?_⟩
        by_cases c2 : j = k
        · subst c2
          have := z.2.1
          rw [e j hj, if_pos rfl] at this
          exact this
        · have := z.2.2 j (by rw [ll]; exact hj) c2
          rw [e j hj, e k hk, if_neg c2, if_pos rfl] at this
          exact this
      · have w1 := z.2.1
        rw [e k hk, if_neg c] at w1
        refine n2 k hk ⟨f, ?_, fun j hj n => ?_⟩
        · have := z.2.2 a (by rw [ll]; exact ha) (fun w => c w.symm)
          rw [e a ha, e k hk, if_pos rfl, if_neg c] at this
          exact this
        · by_cases c2 : j = a
          · subst c2
            exact w1
          · have := z.2.2 j (by rw [ll]; exact hj) n
            rw [e j hj, e k hk, if_neg c2, if_neg c] at this
            exact this
end My
set_option exponentiation.threshold 100000
namespace My
open PySem PySem.Spec PyProof.Rows L2
local macro_rules | `(tactic| walk_at "dl") => `(tactic| simp only [startD, List.map_cons, List.map_nil, List.length_cons, List.length_nil, List.cons_append, List.nil_append, List.replicate_succ, List.replicate_zero, List.getElem?_cons_zero, List.getElem?_cons_succ, List.set_cons_zero, List.set_cons_succ,
  dVar, rdS, dC, dNew, dOp, onB, qB, dChain, qAnd, qOr, qNot, qTru, truD, dIf, dAnd, dOr, dNot, dUn, ddNeg, lNil, lCons, dTup, nLst, ddI, ddI0, ddAdd, isNonD, isBlD, ddIsN, ddIsB, ddIx_t0, ddIx_t1, ddIx_t2, ddIx_t3, ddIx_l0, ddIx_l1, ddIx_l2, dCB, ddLen, ddInt1, ddAbs, ddMM, ddTuple, nCB, nnList, ddIsi, dCall,
  sSkip, sSeq, sBreak, sCont, sExpr, sRet, sRetN, sIf, sNever, gdName, gdNil, gdCons, gdTup, sAsg, sSetN, sPar, sRaise, sFrz, owS, sApp, sIns, dLenO, dIxO, sTry, sFor, iL, iT, onL, onT, iR1, iR2, nComp, qYes,
  ddEq_ii, ddEq_ss, ddEq_bb, Bool.false_bne, Bool.true_bne, List.append_nil, true_and, and_true, if_true, if_false, Bool.not_true, Bool.not_false, Bool.true_eq_false, Bool.false_eq_true, ite_true, ite_false, id_eq])

local macro_rules | `(tactic| walk_at "is") => `(tactic| simp only [plain_non, isIn_non_int, isIn_non_str, isIn_non_bool, isIn_non_list, isIn_non_tuple, isIn_non_dict, plain_bl, isIn_bl_int, isIn_bl_str, isIn_bl_bool, isIn_bl_list, isIn_bl_tuple, isIn_bl_dict, plain_int, isIn_int_int, isIn_int_str, isIn_int_bool, isIn_int_list, isIn_int_tuple, isIn_int_dict, plain_str, isIn_str_int, isIn_str_str, isIn_str_bool, isIn_str_list, isIn_str_tuple, isIn_str_dict, plain_tup, isIn_tup_int, isIn_tup_str, isIn_tup_bool, isIn_tup_list, isIn_tup_tuple, isIn_tup_dict, plain_lst, isIn_lst_int, isIn_lst_str, isIn_lst_bool, isIn_lst_list, isIn_lst_tuple, isIn_lst_dict, sl0, sl1, sl2, sl3, sl4, decide_true, decide_false, ddIsi, ddIsi2, true_and, if_true, if_false, Bool.false_eq_true, Bool.not_true, Bool.not_false, Bool.or_true, Bool.or_false, Bool.true_or, and_true])
local macro_rules | `(tactic| walk_at "wk") => `(tactic| ((try walk_at "dl"); (try walk_at "is"); (try walk_at "dl")))

/-! ### orders -/
inductive Wd : D → Prop where
  | one (w : Str) : Wd (.tup [.str w])
  | two (w : Str) (k : Int) : Wd (.tup [.str w, .int k])
def m_likeA : DF := fun ds Q _ => ∃ d e, ds = [d, e] ∧ ((∃ a b, d = .str a ∧ e = .str b) ∨ ∃ i j, d = .int i ∧ e = .int j) ∧ ∀ b : Bool, (b = true ↔ d = e) → Q (.bl b)
def m_likeW : DF := fun ds Q _ => ∃ d e, ds = [d, e] ∧ (Wd d ∧ Wd e) ∧ ∀ b : Bool, (b = true ↔ d = e) → Q (.bl b)
theorem pos_rq {v : Rat} (h : 0 < v) : isPos (rq v) = true := by
  have e : isPos (rq v) = (isRat (rq v) && decide (0 < v.num)) := rfl
  rw [e, rq_rat, decide_eq_true (by rw [num_gt]; exact h)]
  rfl
theorem no_is {b : Bool} {P : Prop} (h : b = true) : b = false → P := fun e => by rw [h] at e; cases e
theorem yes_is {b : Bool} {P : Prop} (h : b = false) : b = true → P := fun e => by rw [h] at e; cases e
theorem pl_rq (q : Rat) : Pl (rq q) := rat_pl (rq_rat q)
theorem ok_bars {l : List Rat} (h : ∀ x ∈ l, 0 < x) : okB (.lst (l.map rq)) = true := by
  show (l.map rq).all isPos = true
  rw [List.all_map, List.all_eq_true]
  exact fun x hx => pos_rq (h x hx)
theorem ok_gap {g : Rat} (h : 0 ≤ g) : okG (rq g) = true := by
  have e : okG (rq g) = (isRat (rq g) && decide (0 ≤ g.num)) := rfl
  rw [e, rq_rat, decide_eq_true (Rat.num_nonneg.mpr h)]
  rfl
theorem map_rq_inj : ∀ {l l' : List Rat}, l.map rq = l'.map rq → l = l'
  | [], [], _ => rfl
  | [], _ :: _, h => by cases h
  | _ :: _, [], h => by cases h
  | x :: l, y :: l', h => by
    rw [List.map_cons, List.map_cons] at h
    injection h with h1 h2
    rw [rq_inj h1, map_rq_inj h2]
section
variable {K : PySem.W.Frag} {mg : Str → Option Value} (T : Txt K mg)
theorem tell_chain {l : List Rat} {g : Rat} {Q : D → Prop} {E : XD → Prop} (h : ChSz l g) (k : Q (reachW l g)) : m_chain T [.lst (l.map rq), rq g] Q E := by
  refine ⟨⟨rfl, fun l' e => ?_⟩, no_is (ok_bars fun x hx => (h.s x hx).2), fun _ => ⟨pl_rq g, no_is (ok_gap h.g.2), fun _ l2 g2 e1 e2 => ?_⟩⟩
  · injection e with e
    subst e
    refine ⟨by rw [List.length_map]; have := h.n; omega, fun e he => ?_⟩
    obtain ⟨x, _, rfl⟩ := List.mem_map.mp he
    exact pl_rq x
  · injection e1 with e1
    have := map_rq_inj e1
    subst this
    have := rq_inj e2
    subst this
    exact ⟨fun z => absurd h.n (by omega), fun _ => ⟨h, k⟩⟩
end
theorem wd_reach {l : List Rat} {g : Rat} (h : ChSz l g) : Wd (reachW l g) := by
  have r := rch_of h
  generalize reachW l g = d at r
  cases r
  · exact .one _
  · exact .two _ _
  · exact .one _
theorem Wd.tree {d : D} (h : Wd d) : TreeD 3 d := by cases h <;> simp [TreeD]
theorem tree_bars (l : List Rat) (h : l.length ≤ 3) : TreeD 3 (.lst (l.map rq)) := by
  unfold TreeD
  refine ⟨by rw [List.length_map]; omega, fun d hd => ?_⟩
  obtain ⟨x, _, rfl⟩ := List.mem_map.mp hd
  simp [TreeD, rq, ratD]
def m_right : DF := fun ds Q _ => ∃ l g, ds = [.lst (l.map rq), rq g] ∧ ChSz l g ∧ Q (.bl true)
abbrev s_right : Stmt := topS 80
abbrev N_right : List Str := ["bars", "gap", "handed"]
abbrev P_right : List Str := ["bars", "gap"]
theorem sc_right : FnScope N_right P_right (defScope s_right) := ⟨rfl, rfl, rfl, by decide +kernel, rfl, by decide +kernel, by decide +kernel⟩

section
variable {P : Program} {w : World} {K : PySem.W.Frag} {mg : Str → Option Value} {base : Heap}
theorem ok_likeA (T : Txt K mg) : FnOk P w K mg base (L2N.CX P w) 1 T.dlike.f T.dlike.fd P_like (spD K 2 m_likeA) := by
  have G_like : FnOk P w K mg base (L2N.CX P w) 0 T.dlike.f T.dlike.fd P_like (spD K 2 (m_like 0)) := ok_like T 0
  refine T.dlike.okD sc_like fun cdv A outer s H E so A0 hr tk hp => ⟨_, (pds_cons (pds_if (pdt_tru (pd_isiT (by rfl) T.m_isinstance (pd_var (pv 1)) (pe_bltn (v := .ty "list") (by rfl) T.m_list bt_list rfl) (pe_bltn (v := .ty "tuple") (by rfl) T.m_tuple bt_tuple rfl) tq_list tq_tuple))
        (pds_cons (pds_if (PDW.t (pdw_or (pdt_not (pdt_tru (pd_isiT (by rfl) T.m_isinstance (pd_var (pv 0)) (pe_bltn (v := .ty "list") (by rfl) T.m_list bt_list rfl) (pe_bltn (v := .ty "tuple") (by rfl) T.m_tuple bt_tuple rfl) tq_list tq_tuple))) (pdw_or (pdt_cmp (oo_ne hr.units) ol_ne (pd_isi (by rfl) T.m_isinstance (pd_var (pv 0)) (pe_bltn (v := .ty "list") (by rfl) T.m_list bt_list rfl) tq_list) (pd_isi (by rfl) T.m_isinstance (pd_var (pv 1)) (pe_bltn (v := .ty "list") (by rfl) T.m_list bt_list rfl) tq_list) (nomark _)) (pdw_or1 (pdt_cmp (oo_ne hr.units) ol_ne (pd_callB oo_len cl_len (by rfl) T.m_len bt_len (pda_cons (pd_var (pv 0)) pda_nil)) (pd_callB oo_len cl_len (by rfl) T.m_len bt_len (pda_cons (pd_var (pv 1)) pda_nil)) (nomark _))))))
          (pds_one (pds_ret pd_bl))
          pds_nil)
        (pds_one (pds_ret (pd_callB (cr_all rfl) cl_all (by rfl) T.m_all bt_all (pda_cons (pd_new (pdn_lc (own := [("k", 2)]) rfl sc_like.nd (pdi_range1 (by rfl) T.m_range (pda_cons (pd_callB oo_len cl_len (by rfl) T.m_len bt_len (pda_cons (pd_var (pv 1)) pda_nil)) pda_nil)) (blkOk_by (own := [("k", 2)]) (N := N_like) (sc := defScope s_like) (by decide +kernel)) (fun _ _ _ _ _ => (pdgw_name (pg_name (i := 2) sc_like.nd rfl (by first | exact .inl rfl | exact .inr rfl)) (by simp))) (fun _ _ _ _ _ => pdts_nil) (fun _ _ _ _ _ => (pd_call G_like (hr.mono (by omega)) (by rfl) T.dlike.g T.dlike.F.kp T.dlike.b (fun σ => passN0 σ) (pda_cons (pd_ix ix_seq ol_ix (pd_var (pv 0)) (pd_var (pv 2)) (fun _ _ => rfl)) (pda_cons (pd_ix ix_seq ol_ix (pd_var (pv 1)) (pd_var (pv 2)) (fun _ _ => rfl)) pda_nil)))))) pda_nil)))))
        pds_nil)
      (pds_cons (pds_if (PDW.t (pdw_or (pdt_cmp o_isN ol_isN (pd_var (pv 1)) pd_non (nomark _)) (pdw_or1 (pdt_tru (pd_isi (by rfl) T.m_isinstance (pd_var (pv 1)) (pe_bltn (v := .ty "bool") (by rfl) T.m_bool bt_bool rfl) tq_bool)))))
        (pds_one (pds_ret (pd_or (pd_and (pd_cmp o_isN ol_isN (pd_var (pv 0)) pd_non (nomark _)) (pd_one (pd_cmp o_isN ol_isN (pd_var (pv 1)) pd_non (nomark _)))) (pd_or (pd_and (pd_cmp o_isB ol_isB (pd_var (pv 0)) pd_bl (nomark _)) (pd_one (pd_cmp o_isB ol_isB (pd_var (pv 1)) pd_bl (nomark _)))) (pd_one (pd_and (pd_cmp o_isB ol_isB (pd_var (pv 0)) pd_bl (nomark _)) (pd_one (pd_cmp o_isB ol_isB (pd_var (pv 1)) pd_bl (nomark _)))))))))
        pds_nil)
      (pds_cons (pds_if (pdt_tru (pd_isi (by rfl) T.m_isinstance (pd_var (pv 1)) (pe_bltn (v := .ty "str") (by rfl) T.m_str bt_str rfl) tq_str))
        (pds_one (pds_ret (pd_and (pd_isi (by rfl) T.m_isinstance (pd_var (pv 0)) (pe_bltn (v := .ty "str") (by rfl) T.m_str bt_str rfl) tq_str) (pd_one (pd_cmp (oo_eq hr.units) ol_eq (pd_var (pv 0)) (pd_var (pv 1)) (nomark _))))))
        pds_nil)
      (pds_one (pds_ret (pd_and (pd_isi (by rfl) T.m_isinstance (pd_var (pv 0)) (pe_bltn (v := .ty "int") (by rfl) T.m_int bt_int rfl) tq_int) (pd_and (pd_not (pd_isi (by rfl) T.m_isinstance (pd_var (pv 0)) (pe_bltn (v := .ty "bool") (by rfl) T.m_bool bt_bool rfl) tq_bool)) (pd_one (pd_cmp (oo_eq hr.units) ol_eq (pd_var (pv 0)) (pd_var (pv 1)) (nomark _)))))))))), fun ds Q E hl h => ?_⟩
  obtain ⟨d, e, rfl, h, q⟩ := h
  rcases h with ⟨a, b, rfl, rfl⟩ | ⟨i, j, rfl, rfl⟩
  · walk_at "wk"
    refine q _ ?_
    rw [decide_eq_true_iff]
    exact ⟨fun z => by rw [z], fun z => by injection z⟩
  · walk_at "wk"
    refine q _ ?_
    rw [decide_eq_true_iff]
    exact ⟨fun z => by rw [z], fun z => by injection z⟩
theorem ok_likeW (T : Txt K mg) : FnOk P w K mg base (L2N.CX P w) 2 T.dlike.f T.dlike.fd P_like (spD K 2 m_likeW) := by
  have G_like : FnOk P w K mg base (L2N.CX P w) 1 T.dlike.f T.dlike.fd P_like (spD K 2 m_likeA) := ok_likeA T
  refine T.dlike.okD sc_like fun cdv A outer s H E so A0 hr tk hp => ⟨_, (pds_cons (pds_if (pdt_tru (pd_isiT (by rfl) T.m_isinstance (pd_var (pv 1)) (pe_bltn (v := .ty "list") (by rfl) T.m_list bt_list rfl) (pe_bltn (v := .ty "tuple") (by rfl) T.m_tuple bt_tuple rfl) tq_list tq_tuple))
        (pds_cons (pds_if (PDW.t (pdw_or (pdt_not (pdt_tru (pd_isiT (by rfl) T.m_isinstance (pd_var (pv 0)) (pe_bltn (v := .ty "list") (by rfl) T.m_list bt_list rfl) (pe_bltn (v := .ty "tuple") (by rfl) T.m_tuple bt_tuple rfl) tq_list tq_tuple))) (pdw_or (pdt_cmp (oo_ne hr.units) ol_ne (pd_isi (by rfl) T.m_isinstance (pd_var (pv 0)) (pe_bltn (v := .ty "list") (by rfl) T.m_list bt_list rfl) tq_list) (pd_isi (by rfl) T.m_isinstance (pd_var (pv 1)) (pe_bltn (v := .ty "list") (by rfl) T.m_list bt_list rfl) tq_list) (nomark _)) (pdw_or1 (pdt_cmp (oo_ne hr.units) ol_ne (pd_callB oo_len cl_len (by rfl) T.m_len bt_len (pda_cons (pd_var (pv 0)) pda_nil)) (pd_callB oo_len cl_len (by rfl) T.m_len bt_len (pda_cons (pd_var (pv 1)) pda_nil)) (nomark _))))))
          (pds_one (pds_ret pd_bl))
          pds_nil)
        (pds_one (pds_ret (pd_callB (cr_all rfl) cl_all (by rfl) T.m_all bt_all (pda_cons (pd_new (pdn_lc (own := [("k", 2)]) rfl sc_like.nd (pdi_range1 (by rfl) T.m_range (pda_cons (pd_callB oo_len cl_len (by rfl) T.m_len bt_len (pda_cons (pd_var (pv 1)) pda_nil)) pda_nil)) (blkOk_by (own := [("k", 2)]) (N := N_like) (sc := defScope s_like) (by decide +kernel)) (fun _ _ _ _ _ => (pdgw_name (pg_name (i := 2) sc_like.nd rfl (by first | exact .inl rfl | exact .inr rfl)) (by simp))) (fun _ _ _ _ _ => pdts_nil) (fun _ _ _ _ _ => (pd_call G_like (hr.mono (by omega)) (by rfl) T.dlike.g T.dlike.F.kp T.dlike.b (fun σ => passN0 σ) (pda_cons (pd_ix ix_seq ol_ix (pd_var (pv 0)) (pd_var (pv 2)) (fun _ _ => rfl)) (pda_cons (pd_ix ix_seq ol_ix (pd_var (pv 1)) (pd_var (pv 2)) (fun _ _ => rfl)) pda_nil)))))) pda_nil)))))
        pds_nil)
      (pds_cons (pds_if (PDW.t (pdw_or (pdt_cmp o_isN ol_isN (pd_var (pv 1)) pd_non (nomark _)) (pdw_or1 (pdt_tru (pd_isi (by rfl) T.m_isinstance (pd_var (pv 1)) (pe_bltn (v := .ty "bool") (by rfl) T.m_bool bt_bool rfl) tq_bool)))))
        (pds_one (pds_ret (pd_or (pd_and (pd_cmp o_isN ol_isN (pd_var (pv 0)) pd_non (nomark _)) (pd_one (pd_cmp o_isN ol_isN (pd_var (pv 1)) pd_non (nomark _)))) (pd_or (pd_and (pd_cmp o_isB ol_isB (pd_var (pv 0)) pd_bl (nomark _)) (pd_one (pd_cmp o_isB ol_isB (pd_var (pv 1)) pd_bl (nomark _)))) (pd_one (pd_and (pd_cmp o_isB ol_isB (pd_var (pv 0)) pd_bl (nomark _)) (pd_one (pd_cmp o_isB ol_isB (pd_var (pv 1)) pd_bl (nomark _)))))))))
        pds_nil)
      (pds_cons (pds_if (pdt_tru (pd_isi (by rfl) T.m_isinstance (pd_var (pv 1)) (pe_bltn (v := .ty "str") (by rfl) T.m_str bt_str rfl) tq_str))
        (pds_one (pds_ret (pd_and (pd_isi (by rfl) T.m_isinstance (pd_var (pv 0)) (pe_bltn (v := .ty "str") (by rfl) T.m_str bt_str rfl) tq_str) (pd_one (pd_cmp (oo_eq hr.units) ol_eq (pd_var (pv 0)) (pd_var (pv 1)) (nomark _))))))
        pds_nil)
      (pds_one (pds_ret (pd_and (pd_isi (by rfl) T.m_isinstance (pd_var (pv 0)) (pe_bltn (v := .ty "int") (by rfl) T.m_int bt_int rfl) tq_int) (pd_and (pd_not (pd_isi (by rfl) T.m_isinstance (pd_var (pv 0)) (pe_bltn (v := .ty "bool") (by rfl) T.m_bool bt_bool rfl) tq_bool)) (pd_one (pd_cmp (oo_eq hr.units) ol_eq (pd_var (pv 0)) (pd_var (pv 1)) (nomark _)))))))))), fun ds Q E hl h => ?_⟩
  obtain ⟨d, e, rfl, ⟨w1, w2⟩, q⟩ := h
  have r1 : rangeD 0 (1 : Int).toNat = [.int 0] := rfl
  have r2 : rangeD 0 (2 : Int).toNat = [.int 0, .int 1] := rfl
  cases w1 with
  | one a =>
    cases w2 with
    | one b =>
      walk_at "wk"
      refine ⟨by decide, by decide, ?_⟩
      refine compL_map (fun _ => .bl (decide (a = b))) _ _ (fun d hd R k => ?_) (by decide) ?_
      · have hd : d = .int 0 := by
          have hd : d ∈ [D.int 0] := hd
          simpa using hd
        subst hd
        simp only [wipeD]
        walk_at "wk"
        refine ⟨_, _, rfl, .inl ⟨a, b, rfl, rfl⟩, fun c hc => ?_⟩
        have : c = decide (a = b) := by
          rw [Bool.eq_iff_iff, hc, decide_eq_true_iff]
          exact ⟨fun z => by injection z, fun z => by rw [z]⟩
        rw [this]
        exact k
      · refine ⟨[decide (a = b)], rfl, q _ ?_⟩
        simp
    | two b k =>
      walk_at "wk"
      exact q false (by simp)
  | two a i =>
    cases w2 with
    | one b =>
      walk_at "wk"
      exact q false (by simp)
    | two b j =>
      walk_at "wk"
      refine ⟨by decide, by decide, ?_⟩
      refine compL_map (fun d => match d with
        | .int 0 => .bl (decide (a = b))
        | _ => .bl (decide (i = j))) _ _ (fun d hd R k => ?_) (by decide) ?_
      · have hd : d = .int 0 ∨ d = .int 1 := by
          have hd : d ∈ [D.int 0, D.int 1] := hd
          simpa using hd
        rcases hd with rfl | rfl
        · simp only [wipeD]
          walk_at "wk"
          refine ⟨_, _, rfl, .inl ⟨a, b, rfl, rfl⟩, fun c hc => ?_⟩
          have : c = decide (a = b) := by
            rw [Bool.eq_iff_iff, hc, decide_eq_true_iff]
            exact ⟨fun z => by injection z, fun z => by rw [z]⟩
          rw [this]
          exact k
        · simp only [wipeD]
          walk_at "wk"
          refine ⟨_, _, rfl, .inr ⟨i, j, rfl, rfl⟩, fun c hc => ?_⟩
          have : c = decide (i = j) := by
            rw [Bool.eq_iff_iff, hc, decide_eq_true_iff]
            exact ⟨fun z => by injection z, fun z => by rw [z]⟩
          rw [this]
          exact k
      · refine ⟨[decide (a = b), decide (i = j)], rfl, q _ ?_⟩
        simp
theorem ok_right (T : Txt K mg) : FnOk P w K mg base (L2N.CX P w) 9 T.dright.f T.dright.fd P_right (spD K 2 m_right) := by
  have G_like : FnOk P w K mg base (L2N.CX P w) 3 T.dlike.f T.dlike.fd P_like (spD K 2 (m_like 3)) := ok_like T 3
  have G_chain_reach : FnOk P w K mg base (L2N.CX P w) 8 T.dchain_reach.f T.dchain_reach.fd P_chain_reach (spD K 2 (m_chain T)) := ok_chain_reach T
  have G_due : FnOk P w K mg base (L2N.CX P w) 4 T.ddue.f T.ddue.fd P_due (spD K 2 m_due) := ok_due T
  refine T.dright.okD sc_right fun cdv A outer s H E so A0 hr tk hp => ⟨_, (pds_cons (pds_set (i := 2) sc_right.nd rfl (by first | exact .inl rfl | exact .inr rfl) (pd_new (pdn_list (by rfl) T.m_list (pda_cons (pd_var (pv 0)) pda_nil))))
      (pds_one (pds_ret (pd_and (pd_call G_like (hr.mono (by omega)) (by rfl) T.dlike.g T.dlike.F.kp T.dlike.b (fun σ => L2N.passAt tk σ) (pda_cons (pd_call G_chain_reach (hr.mono (by omega)) (by rfl) T.dchain_reach.g T.dchain_reach.F.kp T.dchain_reach.b (fun σ => L2N.passAt tk σ) (pda_cons (pd_var (pv 2)) (pda_cons (pd_var (pv 1)) pda_nil))) (pda_cons (pd_call G_due (hr.mono (by omega)) (by rfl) T.ddue.g T.ddue.F.kp T.ddue.b (fun σ => L2N.passAt tk σ) (pda_cons (pd_var (pv 0)) (pda_cons (pd_var (pv 1)) pda_nil))) pda_nil))) (pd_one (pd_call G_like (hr.mono (by omega)) (by rfl) T.dlike.g T.dlike.F.kp T.dlike.b (fun σ => L2N.passAt tk σ) (pda_cons (pd_var (pv 2)) (pda_cons (pd_var (pv 0)) pda_nil)))))))), fun ds Q E hl h => ?_⟩
  obtain ⟨l, g, rfl, cs, q⟩ := h
  walk_at "wk"
  refine tell_chain T cs ⟨l, g, rfl, cs, ?_⟩
  refine ⟨_, rfl, (wd_reach cs).tree, ?_⟩
  walk_at "wk"
  exact ⟨_, rfl, tree_bars l cs.n.2, q⟩
end
end My
set_option exponentiation.threshold 100000
namespace My
open PySem PySem.Spec PyProof.Rows L2
local macro_rules | `(tactic| walk_at "dl") => `(tactic| simp only [startD, List.map_cons, List.map_nil, List.length_cons, List.length_nil, List.cons_append, List.nil_append, List.replicate_succ, List.replicate_zero, List.getElem?_cons_zero, List.getElem?_cons_succ, List.set_cons_zero, List.set_cons_succ,
  dVar, rdS, dC, dNew, dOp, onB, qB, dChain, qAnd, qOr, qNot, qTru, truD, dIf, dAnd, dOr, dNot, dUn, ddNeg, lNil, lCons, dTup, nLst, ddI, ddI0, ddAdd, isNonD, isBlD, ddIsN, ddIsB, ddIx_t0, ddIx_t1, ddIx_t2, ddIx_t3, ddIx_l0, ddIx_l1, ddIx_l2, dCB, ddLen, ddInt1, ddAbs, ddMM, ddTuple, nCB, nnList, ddIsi, dCall,
  sSkip, sSeq, sBreak, sCont, sExpr, sRet, sRetN, sIf, sNever, gdName, gdNil, gdCons, gdTup, sAsg, sSetN, sPar, sRaise, sFrz, owS, sApp, sIns, dLenO, dIxO, sTry, sFor, iL, iT, onL, onT, iR1, iR2, nComp, qYes,
  ddEq_ii, ddEq_ss, ddEq_bb, Bool.false_bne, Bool.true_bne, List.append_nil, true_and, and_true, if_true, if_false, Bool.not_true, Bool.not_false, Bool.true_eq_false, Bool.false_eq_true, ite_true, ite_false, id_eq])

local macro_rules | `(tactic| walk_at "is") => `(tactic| simp only [plain_non, isIn_non_int, isIn_non_str, isIn_non_bool, isIn_non_list, isIn_non_tuple, isIn_non_dict, plain_bl, isIn_bl_int, isIn_bl_str, isIn_bl_bool, isIn_bl_list, isIn_bl_tuple, isIn_bl_dict, plain_int, isIn_int_int, isIn_int_str, isIn_int_bool, isIn_int_list, isIn_int_tuple, isIn_int_dict, plain_str, isIn_str_int, isIn_str_str, isIn_str_bool, isIn_str_list, isIn_str_tuple, isIn_str_dict, plain_tup, isIn_tup_int, isIn_tup_str, isIn_tup_bool, isIn_tup_list, isIn_tup_tuple, isIn_tup_dict, plain_lst, isIn_lst_int, isIn_lst_str, isIn_lst_bool, isIn_lst_list, isIn_lst_tuple, isIn_lst_dict, sl0, sl1, sl2, sl3, sl4, decide_true, decide_false, ddIsi, ddIsi2, true_and, if_true, if_false, Bool.false_eq_true, Bool.not_true, Bool.not_false, Bool.or_true, Bool.or_false, Bool.true_or, and_true])
local macro_rules | `(tactic| walk_at "wk") => `(tactic| ((try walk_at "dl"); (try walk_at "is"); (try walk_at "dl")))

/-! ### the bars in another order, the gap and a bar exchanged -/
theorem range_ints {n : Nat} {l : List D} (h : ∀ d ∈ l, d ∈ rangeD 0 n) : ∃ ns : List Int, l = ns.map D.int ∧ ∀ k ∈ ns, 0 ≤ k ∧ k < n := by
  induction l with
  | nil => exact ⟨[], rfl, fun k hk => by cases hk⟩
  | cons d l ih =>
    obtain ⟨ns, e, hn⟩ := ih fun x hx => h x (List.mem_cons_of_mem _ hx)
    obtain ⟨i, hi⟩ := List.getElem?_of_mem (h d (List.mem_cons_self ..))
    obtain ⟨hj, rfl⟩ := rangeD_at hi
    refine ⟨(0 + (i : Int)) :: ns, by rw [e]; rfl, fun k hk => ?_⟩
    rcases List.mem_cons.mp hk with rfl | hk
    · omega
    · exact hn k hk
def unI : D → Int
  | .int i => i
  | _ => 0
theorem map_unI (ns : List Int) : (ns.map D.int).map unI = ns := by
  rw [List.map_map]
  exact List.map_id ns
/-- an order of the numbers below n -/
structure Ord (n : Nat) (ns : List Int) : Prop where
  l : ns.length = n
  b : ∀ k ∈ ns, 0 ≤ k ∧ k < n
  all : ∀ k : Nat, k < n → (k : Int) ∈ ns
  nd : ns.Nodup
  p : ns.Perm ((List.range n).map fun i => ((i : Nat) : Int))
theorem ord_of {n : Nat} {l : List D} (p : l.Perm (rangeD 0 n)) : ∃ ns, l = ns.map D.int ∧ Ord n ns := by
  obtain ⟨ns, rfl, hb⟩ := range_ints fun d hd => p.mem_iff.mp hd
  have p2 := p.map unI
  rw [map_unI] at p2
  have e : (rangeD 0 n).map unI = (List.range n).map fun i => ((i : Nat) : Int) := by
    unfold rangeD
    rw [List.map_map]
    refine List.map_congr_left fun i _ => ?_
    show (0 : Int) + (i : Nat) = i
    omega
  rw [e] at p2
  refine ⟨ns, rfl, by rw [p2.length_eq, List.length_map, List.length_range], hb, fun k hk => p2.mem_iff.mpr (List.mem_map.mpr ⟨k, List.mem_range.mpr hk, rfl⟩), ?_, p2⟩
  rw [p2.nodup_iff]
  exact List.Pairwise.map _ (fun a b n z => n (by omega)) List.nodup_range
theorem perm_bars {l : List Rat} {ns : List Int} (o : Ord l.length ns) : (ns.map fun k => getR l k.toNat).Perm l := by
  have p := o.p.map fun k => getR l k.toNat
  have e : ((List.range l.length).map fun i => ((i : Nat) : Int)).map (fun k => getR l k.toNat) = l := by
    rw [List.map_map]
    refine List.ext_getElem (by simp) fun i h1 h2 => ?_
    rw [List.getElem_map, List.getElem_range]
    show getR l (((i : Nat) : Int)).toNat = _
    rw [Int.toNat_natCast, getR_of h2]
  rw [e] at p
  exact p
theorem ord_turn {l : List Rat} {ns : List Int} (o : Ord l.length ns) :
    (∀ j, j < l.length → (ns.getD j 0).toNat < l.length ∧ getR (ns.map fun k => getR l k.toNat) j = getR l (ns.getD j 0).toNat ∧ ns.idxOf (((ns.getD j 0).toNat : Nat) : Int) = j) ∧
    (∀ k, k < l.length → ns.idxOf ((k : Nat) : Int) < l.length ∧ (ns.getD (ns.idxOf ((k : Nat) : Int)) 0).toNat = k) := by
  have gd : ∀ j (h : j < ns.length), ns.getD j 0 = ns[j] := fun j h => by
    rw [List.getD_eq_getElem?_getD, List.getElem?_eq_getElem h]
    rfl
  refine ⟨fun j hj => ?_, fun k hk => ?_⟩
  · have hj' : j < ns.length := by rw [o.l]; exact hj
    have b := o.b _ (List.getElem_mem hj')
    rw [gd j hj']
    refine ⟨by omega, ?_, ?_⟩
    · rw [getR_of (by rw [List.length_map]; exact hj'), List.getElem_map]
    · have e : ((ns[j].toNat : Nat) : Int) = ns[j] := by omega
      rw [e]
      exact o.nd.idxOf_getElem j hj'
  · have h := List.idxOf_lt_length_iff.mpr (o.all k hk)
    refine ⟨by rw [← o.l]; exact h, ?_⟩
    rw [gd _ h, List.getElem_idxOf h, Int.toNat_natCast]
theorem set_map {l : List Rat} {a : Nat} {g : Rat} (h : a < l.length) : (l.map rq).take a ++ [rq g] ++ (l.map rq).drop (a + 1) = (l.set a g).map rq := by
  rw [List.set_eq_take_append_cons_drop, if_pos h, List.map_append, List.map_cons, List.map_take, List.map_drop, List.append_assoc]
  rfl
def m_orders : DF := fun ds Q _ => ∃ l g, ds = [.sto, .lst (l.map rq), rq g] ∧ ChSz l g ∧ Q (.bl true)
abbrev s_orders : Stmt := topS 81
abbrev N_orders : List Str := ["store", "bars", "gap", "told", "order", "turned", "due", "at", "swapped", "k"]
abbrev P_orders : List Str := ["store", "bars", "gap"]
theorem sc_orders : FnScope N_orders P_orders (defScope s_orders) := ⟨rfl, rfl, rfl, by decide +kernel, rfl, by decide +kernel, by decide +kernel⟩

abbrev rO (b g t o u d a s k : Sl) : DEnv := [.fr .sto, b, g, t, o, u, d, a, s, k]
section
variable {P : Program} {w : World} {K : PySem.W.Frag} {mg : Str → Option Value} {base : Heap}
theorem ok_orders (T : Txt K mg) : FnOk P w K mg base (L2N.CX P w) 173 T.dorders.f T.dorders.fd P_orders (spD K 3 m_orders) := by
  have G_like : FnOk P w K mg base (L2N.CX P w) 2 T.dlike.f T.dlike.fd P_like (spD K 2 m_likeW) := ok_likeW T
  have G_chain_reach : FnOk P w K mg base (L2N.CX P w) 8 T.dchain_reach.f T.dchain_reach.fd P_chain_reach (spD K 2 (m_chain T)) := ok_chain_reach T
  have G_mixed : FnOk P w K mg base (L2N.CX P w) 172 T.dmixed.f T.dmixed.fd P_mixed (spD K 2 m_mixed) := ok_mixedD T
  have G_take : FnOk P w K mg base (L2N.CX P w) 171 T.dtake.f T.dtake.fd P_take (spD K 2 m_take) := ok_takeD T
  refine T.dorders.okD sc_orders fun cdv A outer s H E so A0 hr tk hp => ⟨_, (pds_cons (pds_set (i := 3) sc_orders.nd rfl (by first | exact .inl rfl | exact .inr rfl) (pd_call G_chain_reach (hr.mono (by omega)) (by rfl) T.dchain_reach.g T.dchain_reach.F.kp T.dchain_reach.b (fun σ => L2N.passAt tk σ) (pda_cons (pd_new (pdn_list (by rfl) T.m_list (pda_cons (pd_var (pv 1)) pda_nil))) (pda_cons (pd_var (pv 2)) pda_nil))))
      (pds_cons (pds_set (i := 4) sc_orders.nd rfl (by first | exact .inl rfl | exact .inr rfl) (pd_call G_mixed (hr.mono (by omega)) (by rfl) T.dmixed.g T.dmixed.F.kp T.dmixed.b (fun σ => L2N.passAt tk σ) (pda_cons (pd_var (pv 0)) (pda_cons (pd_new (pdn_listRg rfl (by rfl) T.m_list (by rfl) T.m_range (pd_callB oo_len cl_len (by rfl) T.m_len bt_len (pda_cons (pd_var (pv 1)) pda_nil)))) pda_nil))))
      (pds_cons (pds_set (i := 5) sc_orders.nd rfl (by first | exact .inl rfl | exact .inr rfl) (pd_call G_chain_reach (hr.mono (by omega)) (by rfl) T.dchain_reach.g T.dchain_reach.F.kp T.dchain_reach.b (fun σ => L2N.passAt tk σ) (pda_cons (pd_new (pdn_lc (own := [("k", 9)]) rfl sc_orders.nd (pdi_list (pd_var (pv 4))) (blkOk_by (own := [("k", 9)]) (N := N_orders) (sc := defScope s_orders) (by decide +kernel)) (fun _ _ _ _ _ => (pdgw_name (pg_name (i := 9) sc_orders.nd rfl (by first | exact .inl rfl | exact .inr rfl)) (by simp))) (fun _ _ _ _ _ => pdts_nil) (fun _ _ _ _ _ => (pd_ix ix_seq ol_ix (pd_var (pv 1)) (pd_var (pv 9)) (fun _ _ => rfl))))) (pda_cons (pd_var (pv 2)) pda_nil))))
      (pds_cons (pds_set (i := 6) sc_orders.nd rfl (by first | exact .inl rfl | exact .inr rfl) (pd_var (pv 3)))
      (pds_cons (pds_if (pdt_cmp (oo_eq hr.units) ol_eq (pd_ix ix_seq ol_ix (pd_var (pv 3)) pd_int (fun _ _ => rfl)) pd_str (nomark _))
        (pds_one (pds_set (i := 6) sc_orders.nd rfl (by first | exact .inl rfl | exact .inr rfl) (pd_tup (pda_cons pd_str (pda_cons (pd_index (pd_var (pv 4)) (pd_ix ix_seq ol_ix (pd_var (pv 3)) pd_int (fun _ _ => rfl)) rfl rfl rfl rfl rfl) pda_nil)))))
        pds_nil)
      (pds_cons (pds_if (pdt_not (pdt_tru (pd_call G_like (hr.mono (by omega)) (by rfl) T.dlike.g T.dlike.F.kp T.dlike.b (fun σ => L2N.passAt tk σ) (pda_cons (pd_var (pv 5)) (pda_cons (pd_var (pv 6)) pda_nil)))))
        (pds_one (pds_ret pd_bl))
        pds_nil)
      (pds_cons (pds_if (pdt_cmp (oo_eq hr.units) ol_eq (pd_ix ix_seq ol_ix (pd_var (pv 2)) pd_int (fun _ _ => rfl)) pd_int (nomark _))
        (pds_one (pds_ret pd_bl))
        pds_nil)
      (pds_cons (pds_set (i := 7) sc_orders.nd rfl (by first | exact .inl rfl | exact .inr rfl) (pd_call G_take (hr.mono (by omega)) (by rfl) T.dtake.g T.dtake.F.kp T.dtake.b (fun σ => L2N.passAt tk σ) (pda_cons (pd_var (pv 0)) (pda_cons (pd_callB oo_len cl_len (by rfl) T.m_len bt_len (pda_cons (pd_var (pv 1)) pda_nil)) pda_nil))))
      (pds_cons (pds_set (i := 8) sc_orders.nd rfl (by first | exact .inl rfl | exact .inr rfl) (pd_call G_chain_reach (hr.mono (by omega)) (by rfl) T.dchain_reach.g T.dchain_reach.F.kp T.dchain_reach.b (fun σ => L2N.passAt tk σ) (pda_cons (pd_op oo_add ol_add (pd_op oo_add ol_add (pd_new (pdn_headE (pd_var (pv 1)) (pd_var (pv 7)))) (pd_new (pdn_lst (pda_cons (pd_var (pv 2)) pda_nil)))) (pd_new (pdn_tailE (pd_var (pv 1)) (pd_op oo_add ol_add (pd_var (pv 7)) pd_int)))) (pda_cons (pd_ix ix_seq ol_ix (pd_var (pv 1)) (pd_var (pv 7)) (fun _ _ => rfl)) pda_nil))))
      (pds_cons (pds_set (i := 6) sc_orders.nd rfl (by first | exact .inl rfl | exact .inr rfl) (pd_var (pv 3)))
      (pds_cons (pds_if (pdt_cmp (oo_eq hr.units) ol_eq (pd_ix ix_seq ol_ix (pd_var (pv 3)) pd_int (fun _ _ => rfl)) pd_str (nomark _))
        (pds_one (pds_set (i := 6) sc_orders.nd rfl (by first | exact .inl rfl | exact .inr rfl) (pd_tup (pda_cons pd_str (pda_cons (pd_var (pv 7)) pda_nil)))))
        pds_nil)
      (pds_cons (pds_if (pdt_tru (pd_call G_like (hr.mono (by omega)) (by rfl) T.dlike.g T.dlike.F.kp T.dlike.b (fun σ => L2N.passAt tk σ) (pda_cons (pd_var (pv 3)) (pda_cons (pd_tup (pda_cons pd_str (pda_cons (pd_var (pv 7)) pda_nil))) pda_nil))))
        (pds_one (pds_set (i := 6) sc_orders.nd rfl (by first | exact .inl rfl | exact .inr rfl) (pd_tup (pda_cons pd_str pda_nil))))
        pds_nil)
      (pds_one (pds_ret (pd_call G_like (hr.mono (by omega)) (by rfl) T.dlike.g T.dlike.F.kp T.dlike.b (fun σ => L2N.passAt tk σ) (pda_cons (pd_var (pv 8)) (pda_cons (pd_var (pv 6)) pda_nil))))))))))))))))), fun ds Q E hl h => ?_⟩
  obtain ⟨l, g, rfl, cs, q⟩ := h
  have hn := cs.n
  have sl : ∀ n, n ≤ 100 → n ≤ sizeLine := fun n h => by rw [sizeLine_eq]; omega
  show sSeq _ _ _ (rO (.fr (.lst (l.map rq))) (.fr (rq g)) .no .no .no .no .no .no .no)
  refine seq_mid (P := fun ρ => ρ = rO (.fr (.lst (l.map rq))) (.fr (rq g)) (.fr (reachW l g)) .no .no .no .no .no .no) (fun R hR => ?_) ?_
  · simp only [rO] at hR ⊢
    walk_at "wk"
    exact tell_chain T cs (hR _ rfl)
  rintro _ rfl
  refine seq_mid (P := fun ρ => ∃ ns, Ord l.length ns ∧ ρ = rO (.fr (.lst (l.map rq))) (.fr (rq g)) (.fr (reachW l g)) (.fr (.lst (ns.map D.int))) .no .no .no .no .no) (fun R hR => ?_) ?_
  · simp only [rO] at hR ⊢
    walk_at "wk"
    simp only [nListRg]
    walk_at "wk"
    have el : ((List.map rq l).length : Int).toNat = l.length := by rw [List.length_map]; omega
    rw [el]
    refine ⟨by omega, by rw [List.length_map]; omega, by rw [rangeD_len]; omega, fun l' p => ?_⟩
    obtain ⟨ns, rfl, o⟩ := ord_of p
    exact hR _ ⟨ns, o, rfl⟩
  rintro _ ⟨ns, o, rfl⟩
  obtain ⟨t1, t2⟩ := ord_turn o
  obtain ⟨cs', alt⟩ := turned_is (π := fun j => (ns.getD j 0).toNat) (σ := fun k => ns.idxOf ((k : Nat) : Int)) cs (perm_bars o) t1 t2
  refine seq_mid (P := fun ρ => ρ = rO (.fr (.lst (l.map rq))) (.fr (rq g)) (.fr (reachW l g)) (.fr (.lst (ns.map D.int))) (.fr (reachW (ns.map fun k => getR l k.toNat) g)) .no .no .no .no) (fun R hR => ?_) ?_
  · simp only [rO] at hR ⊢
    walk_at "wk"
    refine compL_map (fun d => rq (getR l (unI d).toNat)) _ _ (fun d hd R2 k => ?_) (by rw [List.length_map, o.l, sizeLine_eq]; simp; omega) ?_
    · obtain ⟨z, hz, rfl⟩ := List.mem_map.mp hd
      obtain ⟨z0, z1⟩ := o.b z hz
      have hz' : z.toNat < l.length := by omega
      simp only [wipeD]
      walk_at "wk"
      refine ⟨rq (getR l z.toNat), ?_, k⟩
      have ez : z = ((z.toNat : Nat) : Int) := by omega
      conv => lhs; rw [ez]
      refine atI_nat ?_
      rw [List.getElem?_map, List.getElem?_eq_getElem hz', getR_of hz']
      rfl
    · have e : ([] : List D) ++ (ns.map D.int).map (fun d => rq (getR l (unI d).toNat)) = (ns.map fun k => getR l k.toNat).map rq := by
        rw [List.nil_append, List.map_map, List.map_map]
        rfl
      rw [e]
      exact tell_chain T cs' (hR _ rfl)
  rintro _ rfl
  refine seq_mid (P := fun ρ => ρ = rO (.fr (.lst (l.map rq))) (.fr (rq g)) (.fr (reachW l g)) (.fr (.lst (ns.map D.int))) (.fr (reachW (ns.map fun k => getR l k.toNat) g)) (.fr (reachW l g)) .no .no .no) (fun R hR => ?_) ?_
  · exact hR _ rfl
  rintro _ rfl
  refine seq_mid (P := fun ρ => ρ = rO (.fr (.lst (l.map rq))) (.fr (rq g)) (.fr (reachW l g)) (.fr (.lst (ns.map D.int))) (.fr (reachW (ns.map fun k => getR l k.toNat) g)) (.fr (reachW (ns.map fun k => getR l k.toNat) g)) .no .no .no) (fun R hR => ?_) ?_
  · simp only [rO] at hR ⊢
    rcases alt with ⟨e1, e2⟩ | ⟨k, hk, e1, e2⟩ | ⟨e1, e2⟩
    · rw [e1, e2] at hR ⊢
      walk_at "wk"
      rw [if_neg (by decide +kernel)]
      exact hR _ rfl
    · rw [e1, e2] at hR ⊢
      walk_at "wk"
      simp only [dIndex]
      walk_at "wk"
      have hi := List.idxOf_lt_length_iff.mpr (o.all k hk)
      refine ⟨ns, ns.idxOf ((k : Nat) : Int), rfl, ?_, fun m z hm hz e => ?_, hR _ rfl⟩
      · rw [List.getElem?_eq_getElem hi, List.getElem_idxOf hi]
      · subst e
        obtain ⟨hm', e⟩ := List.getElem?_eq_some_iff.mp hz
        have := o.nd.idxOf_getElem m hm'
        rw [e] at this
        omega
    · rw [e1, e2] at hR ⊢
      walk_at "wk"
      rw [if_neg (by decide +kernel)]
      exact hR _ rfl
  rintro _ rfl
  clear alt
  have wd' := wd_reach cs'
  generalize reachW (ns.map fun k => getR l k.toNat) g = tu at *
  refine seq_mid (P := fun ρ => ρ = rO (.fr (.lst (l.map rq))) (.fr (rq g)) (.fr (reachW l g)) (.fr (.lst (ns.map D.int))) (.fr tu) (.fr tu) .no .no .no) (fun R hR => ?_) ?_
  · simp only [rO] at hR ⊢
    walk_at "wk"
    refine ⟨_, _, rfl, ⟨wd', wd'⟩, fun b hb => ?_⟩
    have : b = true := hb.mpr rfl
    subst this
    walk_at "wk"
    exact hR _ rfl
  rintro _ rfl
  refine seq_mid (P := fun ρ => 0 < g ∧ ρ = rO (.fr (.lst (l.map rq))) (.fr (rq g)) (.fr (reachW l g)) (.fr (.lst (ns.map D.int))) (.fr tu) (.fr tu) .no .no .no) (fun R hR => ?_) ?_
  · simp only [rO] at hR ⊢
    walk_at "wk"
    simp only [ix0]
    walk_at "wk"
    simp only [num_zero]
    split
    · exact q
    · rename_i n
      rw [decide_eq_true_iff] at n
      have g0 := cs.g.2
      exact hR _ ⟨by grind, rfl⟩
  rintro _ ⟨g0, rfl⟩
  refine seq_mid (P := fun ρ => ∃ a : Nat, a < l.length ∧ ρ = rO (.fr (.lst (l.map rq))) (.fr (rq g)) (.fr (reachW l g)) (.fr (.lst (ns.map D.int))) (.fr tu) (.fr tu) (.fr (.int (a : Nat))) .no .no) (fun R hR => ?_) ?_
  · simp only [rO] at hR ⊢
    walk_at "wk"
    rw [List.length_map]
    refine ⟨by unfold BIG; omega, fun r r0 r1 => hR _ ⟨r.toNat, by omega, ?_⟩⟩
    have : ((r.toNat : Nat) : Int) = r := by omega
    rw [this]
  rintro _ ⟨a, ha, rfl⟩
  obtain ⟨cs2, alt⟩ := swapped_is cs ha g0
  refine seq_mid (P := fun ρ => ρ = rO (.fr (.lst (l.map rq))) (.fr (rq g)) (.fr (reachW l g)) (.fr (.lst (ns.map D.int))) (.fr tu) (.fr tu) (.fr (.int (a : Nat))) (.fr (reachW (l.set a g) (getR l a))) .no) (fun R hR => ?_) ?_
  · simp only [rO] at hR ⊢
    walk_at "wk"
    simp only [nHeadE, nTailE]
    walk_at "wk"
    have e1 : ((a : Nat) : Int).toNat = a := by omega
    have e2 : (((a : Nat) : Int) + 1).toNat = a + 1 := by omega
    rw [e1, e2, set_map ha]
    refine ⟨by omega, sl _ (by simp; omega), by omega, sl _ (by simp; omega), rq (getR l a), ?_, tell_chain T cs2 (hR _ rfl)⟩
    refine atI_nat ?_
    rw [List.getElem?_map, List.getElem?_eq_getElem ha, getR_of ha]
    rfl
  rintro _ rfl
  refine seq_mid (P := fun ρ => ρ = rO (.fr (.lst (l.map rq))) (.fr (rq g)) (.fr (reachW l g)) (.fr (.lst (ns.map D.int))) (.fr tu) (.fr (reachW l g)) (.fr (.int (a : Nat))) (.fr (reachW (l.set a g) (getR l a))) .no) (fun R hR => ?_) ?_
  · exact hR _ rfl
  rintro _ rfl
  have fin : ∀ d : D, Wd d → m_likeW [d, d] Q E := fun d w => ⟨d, d, rfl, ⟨w, w⟩, fun b hb => by
    have : b = true := hb.mpr rfl
    subst this
    exact q⟩
  simp only [rO]
  rcases alt with ⟨e1, e2⟩ | ⟨e1, e2⟩ | ⟨k, nk, e1, e2⟩ | ⟨e1, e2⟩
  · rw [e1, e2]
    walk_at "wk"
    refine ⟨_, _, rfl, ⟨.one _, .two _ _⟩, fun b hb => ?_⟩
    have : b = false := by
      cases b with
      | false => rfl
      | true => exact absurd (hb.mp rfl) (by simp)
    subst this
    walk_at "wk"
    exact fin _ (.two _ _)
  · rw [e1, e2]
    walk_at "wk"
    rw [if_neg (by decide +kernel)]
    refine ⟨_, _, rfl, ⟨.two _ _, .two _ _⟩, fun b hb => ?_⟩
    have : b = true := hb.mpr rfl
    subst this
    walk_at "wk"
    exact fin _ (.one _)
  · rw [e1, e2]
    walk_at "wk"
    rw [if_neg (by decide +kernel)]
    refine ⟨_, _, rfl, ⟨.two _ _, .two _ _⟩, fun b hb => ?_⟩
    have : b = false := by
      cases b with
      | false => rfl
      | true =>
        have z := hb.mp rfl
        injection z with z
        injection z with _ z
        injection z with z _
        injection z with z
        exact absurd (by omega) nk
    subst this
    walk_at "wk"
    exact fin _ (.two _ _)
  · rw [e1, e2]
    walk_at "wk"
    rw [if_neg (by decide +kernel)]
    refine ⟨_, _, rfl, ⟨.one _, .two _ _⟩, fun b hb => ?_⟩
    have : b = false := by
      cases b with
      | false => rfl
      | true => exact absurd (hb.mp rfl) (by simp)
    subst this
    walk_at "wk"
    exact fin _ (.one _)
end
end My
set_option exponentiation.threshold 100000
namespace My
open PySem PySem.Spec PyProof.Rows L2
local macro_rules | `(tactic| walk_at "dl") => `(tactic| simp only [startD, List.map_cons, List.map_nil, List.length_cons, List.length_nil, List.cons_append, List.nil_append, List.replicate_succ, List.replicate_zero, List.getElem?_cons_zero, List.getElem?_cons_succ, List.set_cons_zero, List.set_cons_succ,
  dVar, rdS, dC, dNew, dOp, onB, qB, dChain, qAnd, qOr, qNot, qTru, truD, dIf, dAnd, dOr, dNot, dUn, ddNeg, lNil, lCons, dTup, nLst, ddI, ddI0, ddAdd, isNonD, isBlD, ddIsN, ddIsB, ddIx_t0, ddIx_t1, ddIx_t2, ddIx_t3, ddIx_l0, ddIx_l1, ddIx_l2, dCB, ddLen, ddInt1, ddAbs, ddMM, ddTuple, nCB, nnList, ddIsi, dCall,
  sSkip, sSeq, sBreak, sCont, sExpr, sRet, sRetN, sIf, sNever, gdName, gdNil, gdCons, gdTup, sAsg, sSetN, sPar, sRaise, sFrz, owS, sApp, sIns, dLenO, dIxO, sTry, sFor, iL, iT, onL, onT, iR1, iR2, nComp, qYes,
  ddEq_ii, ddEq_ss, ddEq_bb, Bool.false_bne, Bool.true_bne, List.append_nil, true_and, and_true, if_true, if_false, Bool.not_true, Bool.not_false, Bool.true_eq_false, Bool.false_eq_true, ite_true, ite_false, id_eq])

local macro_rules | `(tactic| walk_at "is") => `(tactic| simp only [plain_non, isIn_non_int, isIn_non_str, isIn_non_bool, isIn_non_list, isIn_non_tuple, isIn_non_dict, plain_bl, isIn_bl_int, isIn_bl_str, isIn_bl_bool, isIn_bl_list, isIn_bl_tuple, isIn_bl_dict, plain_int, isIn_int_int, isIn_int_str, isIn_int_bool, isIn_int_list, isIn_int_tuple, isIn_int_dict, plain_str, isIn_str_int, isIn_str_str, isIn_str_bool, isIn_str_list, isIn_str_tuple, isIn_str_dict, plain_tup, isIn_tup_int, isIn_tup_str, isIn_tup_bool, isIn_tup_list, isIn_tup_tuple, isIn_tup_dict, plain_lst, isIn_lst_int, isIn_lst_str, isIn_lst_bool, isIn_lst_list, isIn_lst_tuple, isIn_lst_dict, sl0, sl1, sl2, sl3, sl4, decide_true, decide_false, ddIsi, ddIsi2, true_and, if_true, if_false, Bool.false_eq_true, Bool.not_true, Bool.not_false, Bool.or_true, Bool.or_false, Bool.true_or, and_true])
local macro_rules | `(tactic| walk_at "wk") => `(tactic| ((try walk_at "dl"); (try walk_at "is"); (try walk_at "dl")))

theorem alg_eq {G F S : Rat} (h : G ≠ 0) : alg G F S * (2 * G) = G + F - S := by
  unfold alg
  have := two_ne h
  grind
theorem fdg_eq {G F : Rat} (h : G ≠ 0) : F / G * G = F := by grind
theorem hei_eq {G F S : Rat} (h : G ≠ 0) : hei G F S * G = F - alg G F S * alg G F S * G := by
  have := fdg_eq (F := F) h
  unfold hei
  grind
theorem over_eq {G F S : Rat} (h : G ≠ 0) : (G - (F + S)) * (G - (F + S)) - 4 * (F * S) = -(hei G F S * (4 * (G * G))) := by
  have a := alg_eq (F := F) (S := S) h
  have b := hei_eq (F := F) (S := S) h
  generalize alg G F S = t at *
  generalize hei G F S = e at *
  grind
theorem sqq_pos {x y z w : Rat} : 0 ≤ sqq x y z w := by
  have a := sq_ge (z - x)
  have b := sq_ge (w - y)
  unfold sqq
  exact Rat.add_nonneg a b
theorem sq_pos {G : Rat} (h : G ≠ 0) : 0 < 4 * (G * G) := by
  have a := sq_ge G
  have n : G * G ≠ 0 := fun e => by
    rcases Rat.mul_eq_zero.mp e with z | z <;> exact h z
  grind
theorem cd_G {x y z w : Rat} (c1 : Cd 6 24 x) (c2 : Cd 6 24 y) (c3 : Cd 6 24 z) (c4 : Cd 6 24 w) : Cd 36 4608 (sqq x y z w) := by
  have g1 := c3.sub c1
  have g2 := c4.sub c2
  exact (g1.mul g1).add (g2.mul g2)
/-- before they are scaled -/
structure Ci0 (x y z w F S : Rat) : Prop where
  a : Cd 6 24 x ∧ Cd 6 24 y ∧ Cd 6 24 z ∧ Cd 6 24 w
  f : Cd 1296 9999999 F ∧ Cd 1296 9999999 S
  p : 0 < F ∧ 0 < S
def cirD (x y z w F S : Rat) : D := .lst [pt x y, pt z w, rq F, rq S]
def m_circles : DF := fun ds Q _ => match ds with
  | [.sto] => ∀ x y z w F S, Ci0 x y z w F S → Q (cirD x y z w F S)
  | _ => False
theorem cd_ok {p q : Rat} (h : Cd 6 24 p) (k : Cd 6 24 q) : Ok2 p q := (cd_sz h).ok (cd_sz k) (by decide)
theorem pos_or {q : Rat} (h : 0 ≤ q) : q = 0 ∨ 0 < q := by
  rcases sg_cases q with ⟨a, _⟩ | ⟨a, _⟩ | ⟨a, _⟩
  · exact .inr a
  · exact absurd a (Rat.not_lt.mpr h)
  · exact .inl a
theorem sum_ge (a b : Rat) : 0 ≤ a * a + b * b := Rat.add_nonneg (sq_ge a) (sq_ge b)
theorem ddIx_l3 (a b c d : D) (l : List D) (Q : D → Prop) : ddIx (.lst (a :: b :: c :: d :: l)) (.int 3) Q = Q d := by
  show (∃ e, atI (a :: b :: c :: d :: l) 3 = some e ∧ Q e) = Q d
  rw [atI_3]
  simp
abbrev s_circles : Stmt := topS 73
abbrev N_circles : List Str := ["store", "one", "two", "way", "common", "first", "second"]
abbrev P_circles : List Str := ["store"]
theorem sc_circles : FnScope N_circles P_circles (defScope s_circles) := ⟨rfl, rfl, rfl, by decide +kernel, rfl, by decide +kernel, by decide +kernel⟩

section
variable {P : Program} {w : World} {K : PySem.W.Frag} {mg : Str → Option Value} {base : Heap}
theorem ok_circles (T : Txt K mg) : FnOk P w K mg base (L2N.CX P w) 176 T.dcircles.f T.dcircles.fd P_circles (spD K 1 m_circles) := by
  have G_point : FnOk P w K mg base (L2N.CX P w) 175 T.dpoint.f T.dpoint.fd P_point (spD K 1 m_point) := ok_point T
  have G_take : FnOk P w K mg base (L2N.CX P w) 171 T.dtake.f T.dtake.fd P_take (spD K 2 m_take) := ok_takeD T
  have G_small : FnOk P w K mg base (L2N.CX P w) 174 T.dsmall.f T.dsmall.fd P_small (spD K 1 m_small) := ok_small T
  have G_positive : FnOk P w K mg base (L2N.CX P w) 174 T.dpositive.f T.dpositive.fd P_positive (spD K 1 m_positive) := ok_positive T
  have G_padd : FnOk P w K mg base (L2N.CX P w) 3 T.dpadd.f T.dpadd.fd P_padd (spD K 2 (m_p2 fun p q => p + q)) := ok_padd T
  have G_psub : FnOk P w K mg base (L2N.CX P w) 3 T.dpsub.f T.dpsub.fd P_psub (spD K 2 (m_p2 fun p q => p - q)) := ok_psub T
  have G_pmul : FnOk P w K mg base (L2N.CX P w) 3 T.dpmul.f T.dpmul.fd P_pmul (spD K 2 m_pmul) := ok_pmul T
  have G_psq : FnOk P w K mg base (L2N.CX P w) 4 T.dpsq.f T.dpsq.fd P_psq (spD K 1 m_psq) := ok_psq T
  have G_plus : FnOk P w K mg base (L2N.CX P w) 2 T.dplus.f T.dplus.fd P_plus (spD K 2 (m_r2 fun p q => p + q)) := ok_plus T
  have G_times : FnOk P w K mg base (L2N.CX P w) 2 T.dtimes.f T.dtimes.fd P_times (spD K 2 (m_r2 fun p q => p * q)) := ok_times T
  refine T.dcircles.okD sc_circles fun cdv A outer s H E so A0 hr tk hp => ⟨_, (pds_cons (pds_set (i := 1) sc_circles.nd rfl (by first | exact .inl rfl | exact .inr rfl) (pd_call G_point (hr.mono (by omega)) (by rfl) T.dpoint.g T.dpoint.F.kp T.dpoint.b (fun σ => L2N.passAt tk σ) (pda_cons (pd_var (pv 0)) pda_nil)))
      (pds_cons (pds_set (i := 2) sc_circles.nd rfl (by first | exact .inl rfl | exact .inr rfl) (pd_call G_point (hr.mono (by omega)) (by rfl) T.dpoint.g T.dpoint.F.kp T.dpoint.b (fun σ => L2N.passAt tk σ) (pda_cons (pd_var (pv 0)) pda_nil)))
      (pds_cons (pds_set (i := 3) sc_circles.nd rfl (by first | exact .inl rfl | exact .inr rfl) (pd_call G_take (hr.mono (by omega)) (by rfl) T.dtake.g T.dtake.F.kp T.dtake.b (fun σ => L2N.passAt tk σ) (pda_cons (pd_var (pv 0)) (pda_cons pd_int pda_nil))))
      (pds_cons (pds_if (pdt_cmp (oo_eq hr.units) ol_eq (pd_var (pv 3)) pd_int (nomark _))
        (pds_one (pds_set (i := 2) sc_circles.nd rfl (by first | exact .inl rfl | exact .inr rfl) (pd_var (pv 1))))
        pds_nil)
      (pds_cons (pds_set (i := 4) sc_circles.nd rfl (by first | exact .inl rfl | exact .inr rfl) (pd_call G_point (hr.mono (by omega)) (by rfl) T.dpoint.g T.dpoint.F.kp T.dpoint.b (fun σ => L2N.passAt tk σ) (pda_cons (pd_var (pv 0)) pda_nil)))
      (pds_cons (pds_if (pdt_cmp (oo_eq hr.units) ol_eq (pd_var (pv 3)) pd_int (nomark _))
        (pds_one (pds_set (i := 4) sc_circles.nd rfl (by first | exact .inl rfl | exact .inr rfl) (pd_call G_padd (hr.mono (by omega)) (by rfl) T.dpadd.g T.dpadd.F.kp T.dpadd.b (fun σ => L2N.passAt tk σ) (pda_cons (pd_var (pv 1)) (pda_cons (pd_call G_pmul (hr.mono (by omega)) (by rfl) T.dpmul.g T.dpmul.F.kp T.dpmul.b (fun σ => L2N.passAt tk σ) (pda_cons (pd_call G_small (hr.mono (by omega)) (by rfl) T.dsmall.g T.dsmall.F.kp T.dsmall.b (fun σ => L2N.passAt tk σ) (pda_cons (pd_var (pv 0)) pda_nil)) (pda_cons (pd_call G_psub (hr.mono (by omega)) (by rfl) T.dpsub.g T.dpsub.F.kp T.dpsub.b (fun σ => L2N.passAt tk σ) (pda_cons (pd_var (pv 2)) (pda_cons (pd_var (pv 1)) pda_nil))) pda_nil))) pda_nil)))))
        pds_nil)
      (pds_cons (pds_set (i := 5) sc_circles.nd rfl (by first | exact .inl rfl | exact .inr rfl) (pd_call G_psq (hr.mono (by omega)) (by rfl) T.dpsq.g T.dpsq.F.kp T.dpsq.b (fun σ => L2N.passAt tk σ) (pda_cons (pd_call G_psub (hr.mono (by omega)) (by rfl) T.dpsub.g T.dpsub.F.kp T.dpsub.b (fun σ => L2N.passAt tk σ) (pda_cons (pd_var (pv 4)) (pda_cons (pd_var (pv 1)) pda_nil))) pda_nil)))
      (pds_cons (pds_set (i := 6) sc_circles.nd rfl (by first | exact .inl rfl | exact .inr rfl) (pd_call G_psq (hr.mono (by omega)) (by rfl) T.dpsq.g T.dpsq.F.kp T.dpsq.b (fun σ => L2N.passAt tk σ) (pda_cons (pd_call G_psub (hr.mono (by omega)) (by rfl) T.dpsub.g T.dpsub.F.kp T.dpsub.b (fun σ => L2N.passAt tk σ) (pda_cons (pd_var (pv 4)) (pda_cons (pd_var (pv 2)) pda_nil))) pda_nil)))
      (pds_cons (pds_if (PDW.t (pdw_or (pdt_cmp op_gt ol_gt (pd_var (pv 3)) pd_int (nomark _)) (pdw_or1 (pdt_cmp (oo_eq hr.units) ol_eq (pd_ix ix_seq ol_ix (pd_var (pv 5)) pd_int (fun _ _ => rfl)) pd_int (nomark _)))))
        (pds_one (pds_set (i := 5) sc_circles.nd rfl (by first | exact .inl rfl | exact .inr rfl) (pd_call G_positive (hr.mono (by omega)) (by rfl) T.dpositive.g T.dpositive.F.kp T.dpositive.b (fun σ => L2N.passAt tk σ) (pda_cons (pd_var (pv 0)) pda_nil))))
        pds_nil)
      (pds_cons (pds_if (PDW.t (pdw_or (pdt_cmp op_gt ol_gt (pd_var (pv 3)) pd_int (nomark _)) (pdw_or1 (pdt_cmp (oo_eq hr.units) ol_eq (pd_ix ix_seq ol_ix (pd_var (pv 6)) pd_int (fun _ _ => rfl)) pd_int (nomark _)))))
        (pds_one (pds_set (i := 6) sc_circles.nd rfl (by first | exact .inl rfl | exact .inr rfl) (pd_call G_positive (hr.mono (by omega)) (by rfl) T.dpositive.g T.dpositive.F.kp T.dpositive.b (fun σ => L2N.passAt tk σ) (pda_cons (pd_var (pv 0)) pda_nil))))
        pds_nil)
      (pds_cons (pds_if (pdt_cmp (oo_eq hr.units) ol_eq (pd_var (pv 3)) pd_int (nomark _))
        (pds_one (pds_set (i := 6) sc_circles.nd rfl (by first | exact .inl rfl | exact .inr rfl) (pd_call G_plus (hr.mono (by omega)) (by rfl) T.dplus.g T.dplus.F.kp T.dplus.b (fun σ => L2N.passAt tk σ) (pda_cons (pd_var (pv 6)) (pda_cons (pd_call G_times (hr.mono (by omega)) (by rfl) T.dtimes.g T.dtimes.F.kp T.dtimes.b (fun σ => L2N.passAt tk σ) (pda_cons (pd_tup (pda_cons pd_int (pda_cons pd_int pda_nil))) (pda_cons (pd_call G_plus (hr.mono (by omega)) (by rfl) T.dplus.g T.dplus.F.kp T.dplus.b (fun σ => L2N.passAt tk σ) (pda_cons (pd_var (pv 5)) (pda_cons (pd_call G_psq (hr.mono (by omega)) (by rfl) T.dpsq.g T.dpsq.F.kp T.dpsq.b (fun σ => L2N.passAt tk σ) (pda_cons (pd_call G_psub (hr.mono (by omega)) (by rfl) T.dpsub.g T.dpsub.F.kp T.dpsub.b (fun σ => L2N.passAt tk σ) (pda_cons (pd_var (pv 2)) (pda_cons (pd_var (pv 1)) pda_nil))) pda_nil)) pda_nil))) pda_nil))) pda_nil)))))
        pds_nil)
      (pds_one (pds_ret (pd_new (pdn_lst (pda_cons (pd_var (pv 1)) (pda_cons (pd_var (pv 2)) (pda_cons (pd_var (pv 5)) (pda_cons (pd_var (pv 6)) pda_nil))))))))))))))))))), fun ds Q E hl h => ?_⟩
  unfold m_circles at h
  split at h
  · show sSeq _ _ _ [.fr .sto, .no, .no, .no, .no, .no, .no]
    refine seq_mid (P := fun ρ => ∃ x y, Cd 6 24 x ∧ Cd 6 24 y ∧ ρ = [.fr .sto, .fr (pt x y), .no, .no, .no, .no, .no]) (fun R hR => ?_) ?_
    · exact ⟨rfl, fun x y hx hy => hR _ ⟨x, y, hx, hy, rfl⟩⟩
    rintro _ ⟨x, y, hx, hy, rfl⟩
    refine seq_mid (P := fun ρ => ∃ z v, Cd 6 24 z ∧ Cd 6 24 v ∧ ρ = [.fr .sto, .fr (pt x y), .fr (pt z v), .no, .no, .no, .no]) (fun R hR => ?_) ?_
    · exact ⟨rfl, fun x y hx hy => hR _ ⟨x, y, hx, hy, rfl⟩⟩
    rintro _ ⟨z, v, hz, hv, rfl⟩
    refine seq_mid (P := fun ρ => ∃ r : Int, 0 ≤ r ∧ (r = 0 ∨ r < 6) ∧ ρ = [.fr .sto, .fr (pt x y), .fr (pt z v), .fr (.int r), .no, .no, .no]) (fun R hR => ?_) ?_
    · exact ⟨rfl, by decide, fun r r0 r1 => hR _ ⟨r, r0, r1, rfl⟩⟩
    rintro _ ⟨r, r0, r1, rfl⟩
    refine seq_mid (P := fun ρ => ∃ z v, Cd 6 24 z ∧ Cd 6 24 v ∧ ρ = [.fr .sto, .fr (pt x y), .fr (pt z v), .fr (.int r), .no, .no, .no]) (fun R hR => ?_) ?_
    · walk_at "wk"
      split
      · exact hR _ ⟨x, y, hx, hy, rfl⟩
      · exact hR _ ⟨z, v, hz, hv, rfl⟩
    clear hz hv z v
    rintro _ ⟨z, v, hz, hv, rfl⟩
    refine seq_mid (P := fun ρ => ∃ a b, Cd 6 24 a ∧ Cd 6 24 b ∧ ρ = [.fr .sto, .fr (pt x y), .fr (pt z v), .fr (.int r), .fr (pt a b), .no, .no]) (fun R hR => ?_) ?_
    · exact ⟨rfl, fun x y hx hy => hR _ ⟨x, y, hx, hy, rfl⟩⟩
    rintro _ ⟨a, b, ha, hb, rfl⟩
    refine seq_mid (P := fun ρ => ∃ a b, Cd 36 1296 a ∧ Cd 36 1296 b ∧ ρ = [.fr .sto, .fr (pt x y), .fr (pt z v), .fr (.int r), .fr (pt a b), .no, .no]) (fun R hR => ?_) ?_
    · walk_at "wk"
      split
      · intro q hq
        have g1 := hz.sub hx
        have g2 := hv.sub hy
        have s1 : Sz 2 1 (z - x) := g1.sz (by decide)
        have s2 : Sz 2 1 (v - y) := g2.sz (by decide)
        have q1 := hq.mul g1
        have q2 := hq.mul g2
        have t1 : Sz 4 2 (q * (z - x)) := q1.sz (by decide)
        have t2 : Sz 4 2 (q * (v - y)) := q2.sz (by decide)
        exact ⟨_, _, _, _, rfl, cd_ok hz hx, cd_ok hv hy, _, _, _, rfl, (cd_sz hq).ok s1 (by decide), (cd_sz hq).ok s2 (by decide), _, _, _, _, rfl, (cd_sz hx).ok t1 (by decide), (cd_sz hy).ok t2 (by decide), hR _ ⟨_, _, (hx.up 6 144 (by decide)).add q1 |>.le (by decide), (hy.up 6 144 (by decide)).add q2 |>.le (by decide), rfl⟩⟩
      · exact hR _ ⟨a, b, ha.up 6 1296 (by decide), hb.up 6 1296 (by decide), rfl⟩
    clear ha hb a b
    rintro _ ⟨a, b, ha, hb, rfl⟩
    have dist : ∀ {p q : Rat}, Cd 6 24 p → Cd 6 24 q → Cd 1296 (1440 * 1440 + 1440 * 1440) ((a - p) * (a - p) + (b - q) * (b - q)) := fun hp hq => by
      have g1 := ha.sub (hp.up 6 144 (by decide))
      have g2 := hb.sub (hq.up 6 144 (by decide))
      exact (g1.mul g1).add (g2.mul g2)
    have sa : Sz 4 2 a := ha.sz (by decide)
    have sb : Sz 4 2 b := hb.sz (by decide)
    have d1 : ∀ {p : Rat}, Cd 6 24 p → Sz 4 2 (a - p) := fun hp => (ha.sub (hp.up 6 144 (by decide))).sz (by decide)
    have d2 : ∀ {p : Rat}, Cd 6 24 p → Sz 4 2 (b - p) := fun hp => (hb.sub (hp.up 6 144 (by decide))).sz (by decide)
    refine seq_mid (P := fun ρ => ∃ F, (Cd 1296 4147200 F ∧ 0 ≤ F) ∧ ρ = [.fr .sto, .fr (pt x y), .fr (pt z v), .fr (.int r), .fr (pt a b), .fr (rq F), .no]) (fun R hR => ?_) ?_
    · walk_at "wk"
      have e1 := d1 hx
      have e2 := d2 hy
      exact ⟨_, _, _, _, rfl, sa.ok (cd_sz hx) (by decide), sb.ok (cd_sz hy) (by decide), _, _, rfl, e1.ok e1 (by decide), e2.ok e2 (by decide), (e1.mul e1).ok (e2.mul e2) (by decide), hR _ ⟨_, ⟨dist hx hy, sum_ge _ _⟩, rfl⟩⟩
    rintro _ ⟨F, ⟨hF, F0⟩, rfl⟩
    refine seq_mid (P := fun ρ => ∃ S, (Cd 1296 4147200 S ∧ 0 ≤ S) ∧ ρ = [.fr .sto, .fr (pt x y), .fr (pt z v), .fr (.int r), .fr (pt a b), .fr (rq F), .fr (rq S)]) (fun R hR => ?_) ?_
    · walk_at "wk"
      have e1 := d1 hz
      have e2 := d2 hv
      exact ⟨_, _, _, _, rfl, sa.ok (cd_sz hz) (by decide), sb.ok (cd_sz hv) (by decide), _, _, rfl, e1.ok e1 (by decide), e2.ok e2 (by decide), (e1.mul e1).ok (e2.mul e2) (by decide), hR _ ⟨_, ⟨dist hz hv, sum_ge _ _⟩, rfl⟩⟩
    rintro _ ⟨S, ⟨hS, S0⟩, rfl⟩
    have up : ∀ {q : Rat}, Cd 6 36 q → Cd 1296 9999 q := fun h => h.up 216 9999 (by decide)
    refine seq_mid (P := fun ρ => ∃ F, (Cd 1296 4147200 F ∧ 0 < F ∧ (3 < r → Cd 1296 9999 F)) ∧ ρ = [.fr .sto, .fr (pt x y), .fr (pt z v), .fr (.int r), .fr (pt a b), .fr (rq F), .fr (rq S)]) (fun R hR => ?_) ?_
    · walk_at "wk"
      by_cases c : 3 < r
      · rw [if_pos (decide_eq_true c)]
        exact fun q hq q0 => hR _ ⟨q, ⟨(up hq).le (by decide), q0, fun _ => up hq⟩, rfl⟩
      · rw [if_neg (by rw [decide_eq_true_iff]; exact c)]
        simp only [ix0]
        walk_at "wk"
        split
        · exact fun q hq q0 => hR _ ⟨q, ⟨(up hq).le (by decide), q0, fun _ => up hq⟩, rfl⟩
        · rename_i n
          rw [decide_eq_true_iff, num_zero] at n
          exact hR _ ⟨F, ⟨hF, by rcases pos_or F0 with e | e; exact absurd e n; exact e, fun k => absurd k c⟩, rfl⟩
    clear hF F0 F
    rintro _ ⟨F, ⟨hF, F0, F3⟩, rfl⟩
    refine seq_mid (P := fun ρ => ∃ S, (Cd 1296 4147200 S ∧ 0 < S ∧ (3 < r → Cd 1296 9999 S)) ∧ ρ = [.fr .sto, .fr (pt x y), .fr (pt z v), .fr (.int r), .fr (pt a b), .fr (rq F), .fr (rq S)]) (fun R hR => ?_) ?_
    · walk_at "wk"
      by_cases c : 3 < r
      · rw [if_pos (decide_eq_true c)]
        exact fun q hq q0 => hR _ ⟨q, ⟨(up hq).le (by decide), q0, fun _ => up hq⟩, rfl⟩
      · rw [if_neg (by rw [decide_eq_true_iff]; exact c)]
        simp only [ix0]
        walk_at "wk"
        split
        · exact fun q hq q0 => hR _ ⟨q, ⟨(up hq).le (by decide), q0, fun _ => up hq⟩, rfl⟩
        · rename_i n
          rw [decide_eq_true_iff, num_zero] at n
          exact hR _ ⟨S, ⟨hS, by rcases pos_or S0 with e | e; exact absurd e n; exact e, fun k => absurd k c⟩, rfl⟩
    clear hS S0 S
    rintro _ ⟨S, ⟨hS, S0, S3⟩, rfl⟩
    refine seq_mid (P := fun ρ => ∃ S, (Cd 1296 9999999 S ∧ 0 < S) ∧ ρ = [.fr .sto, .fr (pt x y), .fr (pt z v), .fr (.int r), .fr (pt a b), .fr (rq F), .fr (rq S)]) (fun R hR => ?_) ?_
    · walk_at "wk"
      split
      · rename_i c
        rw [decide_eq_true_iff] at c
        have g := cd_G hx hy hz hv
        have g0 : 0 ≤ sqq x y z v := sqq_pos
        have hF := F3 (by omega)
        have hS := S3 (by omega)
        have s1 : Sz 2 1 (z - x) := (hz.sub hx).sz (by decide)
        have s2 : Sz 2 1 (v - y) := (hv.sub hy).sz (by decide)
        have gu : Cd 1296 165888 (sqq x y z v) := g.up 36 165888 (by decide)
        have sG : Sz 4 2 (sqq x y z v) := g.sz (by decide)
        have sF : Sz 4 4 F := hF.sz (by decide)
        have sS : Sz 4 4 S := hS.sz (by decide)
        have fg := hF.add gu
        have sfg : Sz 6 4 (F + sqq x y z v) := fg.sz (by decide)
        have two : Cd 1 2 (2 : Rat) := ⟨2, by grind, by decide⟩
        have tw := two.mul fg
        have stw : Sz 6 4 (2 * (F + sqq x y z v)) := tw.sz (by decide)
        refine ⟨_, _, _, _, rfl, cd_ok hz hx, cd_ok hv hy, _, _, rfl, s1.ok s1 (by decide), s2.ok s2 (by decide), (s1.mul s1).ok (s2.mul s2) (by decide), F, _, rfl, sF.ok sG (by decide), 2, _, rfl, sz2.ok sfg (by decide), S, _, rfl, sS.ok stw (by decide), hR _ ⟨_, ⟨?_, ?_⟩, rfl⟩⟩
        · exact (hS.add tw).le (by decide)
        · have a : 0 ≤ F + sqq x y z v := Rat.add_nonneg (Rat.le_of_lt F0) g0
          show 0 < S + 2 * (F + sqq x y z v)
          grind
      · exact hR _ ⟨S, ⟨hS.le (by decide), S0⟩, rfl⟩
    clear hS S0 S3 S
    rintro _ ⟨S, ⟨hS, S0⟩, rfl⟩
    walk_at "wk"
    exact h x y z v F S ⟨⟨hx, hy, hz, hv⟩, ⟨hF.le (by decide), hS⟩, F0, S0⟩
  · exact h.elim
end
end My
set_option exponentiation.threshold 100000
namespace My
open PySem PySem.Spec PyProof.Rows L2
local macro_rules | `(tactic| walk_at "dl") => `(tactic| simp only [startD, List.map_cons, List.map_nil, List.length_cons, List.length_nil, List.cons_append, List.nil_append, List.replicate_succ, List.replicate_zero, List.getElem?_cons_zero, List.getElem?_cons_succ, List.set_cons_zero, List.set_cons_succ,
  dVar, rdS, dC, dNew, dOp, onB, qB, dChain, qAnd, qOr, qNot, qTru, truD, dIf, dAnd, dOr, dNot, dUn, ddNeg, lNil, lCons, dTup, nLst, ddI, ddI0, ddAdd, isNonD, isBlD, ddIsN, ddIsB, ddIx_t0, ddIx_t1, ddIx_t2, ddIx_t3, ddIx_l0, ddIx_l1, ddIx_l2, dCB, ddLen, ddInt1, ddAbs, ddMM, ddTuple, nCB, nnList, ddIsi, dCall,
  sSkip, sSeq, sBreak, sCont, sExpr, sRet, sRetN, sIf, sNever, gdName, gdNil, gdCons, gdTup, sAsg, sSetN, sPar, sRaise, sFrz, owS, sApp, sIns, dLenO, dIxO, sTry, sFor, iL, iT, onL, onT, iR1, iR2, nComp, qYes,
  ddEq_ii, ddEq_ss, ddEq_bb, Bool.false_bne, Bool.true_bne, List.append_nil, true_and, and_true, if_true, if_false, Bool.not_true, Bool.not_false, Bool.true_eq_false, Bool.false_eq_true, ite_true, ite_false, id_eq])

local macro_rules | `(tactic| walk_at "is") => `(tactic| simp only [plain_non, isIn_non_int, isIn_non_str, isIn_non_bool, isIn_non_list, isIn_non_tuple, isIn_non_dict, plain_bl, isIn_bl_int, isIn_bl_str, isIn_bl_bool, isIn_bl_list, isIn_bl_tuple, isIn_bl_dict, plain_int, isIn_int_int, isIn_int_str, isIn_int_bool, isIn_int_list, isIn_int_tuple, isIn_int_dict, plain_str, isIn_str_int, isIn_str_str, isIn_str_bool, isIn_str_list, isIn_str_tuple, isIn_str_dict, plain_tup, isIn_tup_int, isIn_tup_str, isIn_tup_bool, isIn_tup_list, isIn_tup_tuple, isIn_tup_dict, plain_lst, isIn_lst_int, isIn_lst_str, isIn_lst_bool, isIn_lst_list, isIn_lst_tuple, isIn_lst_dict, sl0, sl1, sl2, sl3, sl4, decide_true, decide_false, ddIsi, ddIsi2, true_and, if_true, if_false, Bool.false_eq_true, Bool.not_true, Bool.not_false, Bool.or_true, Bool.or_false, Bool.true_or, and_true])
local macro_rules | `(tactic| walk_at "wk") => `(tactic| ((try walk_at "dl"); (try walk_at "is"); (try walk_at "dl")))

/-! ### what meet and chain_reach tell of two circles -/
structure Cm (x y z w F S : Rat) : Prop where
  a : Cd 6 24 x ∧ Cd 6 24 y
  b : Cd 6 60 z ∧ Cd 6 60 w
  ne : ¬ (x = z ∧ y = w)
  f : Sz 8 5 F ∧ 0 < F
  s : Sz 48 44 S ∧ 0 < S
theorem cm_G {x y z w : Rat} (a : Cd 6 24 x ∧ Cd 6 24 y) (b : Cd 6 60 z ∧ Cd 6 60 w) : Cd 36 14112 (sqq x y z w) := by
  have g1 := b.1.sub a.1
  have g2 := b.2.sub a.2
  exact (g1.mul g1).add (g2.mul g2)
theorem cm_ne {x y z w : Rat} (h : ¬ (x = z ∧ y = w)) : sqq x y z w ≠ 0 := fun e => h (by
  have a := sq_ge (z - x)
  have b := sq_ge (w - y)
  unfold sqq at e
  have z1 : (z - x) * (z - x) = 0 := by grind
  have z2 : (w - y) * (w - y) = 0 := by grind
  refine ⟨?_, ?_⟩
  · rcases Rat.mul_eq_zero.mp z1 with k | k <;> grind
  · rcases Rat.mul_eq_zero.mp z2 with k | k <;> grind)
theorem Cm.g {x y z w F S : Rat} (h : Cm x y z w F S) : Sz 5 2 (sqq x y z w) := (cm_G h.a h.b).sz (by decide)
theorem Cm.t {x y z w F S : Rat} (h : Cm x y z w F S) : Sz 59 57 (alg (sqq x y z w) F S) := (((h.g.add h.f.1).sub h.s.1).div (sz2.mul h.g) (two_ne (cm_ne h.ne))).up (by decide) (by decide)
theorem Cm.h {x y z w F S : Rat} (h : Cm x y z w F S) : Sz 160 160 (hei (sqq x y z w) F S) := ((h.f.1.div h.g (cm_ne h.ne)).sub (h.t.mul h.t)).up (by decide) (by decide)
theorem c14 {n : Nat} {q : Rat} (h : Cd 6 n q) (l : n < 1000) : Sz 14 14 q := (h.sz (a := 3) (b := 1) ⟨by decide, l, by decide⟩).up (by decide) (by decide)
theorem Cm.m {x y z w F S : Rat} (h : Cm x y z w F S) : MeetSz x y z w F S :=
  ⟨⟨c14 h.a.1 (by decide), c14 h.a.2 (by decide)⟩, ⟨c14 h.b.1 (by decide), c14 h.b.2 (by decide)⟩, h.f.1.up (by decide) (by decide), h.s.1.up (by decide) (by decide), fun _ => h.t.up (by decide) (by decide), fun _ => h.h⟩
theorem Cm.ch {x y z w F S : Rat} (h : Cm x y z w F S) : ChSz [F, S] (sqq x y z w) := ⟨⟨by show 1 ≤ 2; decide, by show 2 ≤ 3; decide⟩, fun q hq => by
  simp only [List.mem_cons, List.not_mem_nil, or_false] at hq
  rcases hq with rfl | rfl
  · exact ⟨h.f.1.up (by decide) (by decide), h.f.2⟩
  · exact ⟨h.s.1.up (by decide) (by decide), h.s.2⟩, h.g.up (by decide) (by decide), sqq_pos⟩
theorem rat_tri (a b : Rat) : a < b ∨ a = b ∨ b < a := by
  by_cases h : a < b
  · exact .inl h
  · by_cases k : b < a
    · exact .inr (.inr k)
    · exact .inr (.inl (by grind))
theorem fq_over {G F S : Rat} : Fq (G :: [F, S]) = (0 < (G - (F + S)) * (G - (F + S)) - 4 * (F * S)) := by
  have e1 : lfQ [G, F, S] = (G - (F + S)) * (G - (F + S)) - 4 * (F * S) := by simp only [lfQ, smL, sqL]; grind
  have e2 : pfQ [G, F, S] = 0 := rfl
  unfold Fq
  rw [e1, e2]
  refine propext ⟨fun h => h.1, fun h => ⟨h, ?_⟩⟩
  have := Rat.mul_pos h h
  grind
theorem hei_over {G F S : Rat} (h : G ≠ 0) : (hei G F S < 0) = (0 < (G - (F + S)) * (G - (F + S)) - 4 * (F * S)) := by
  have ov := over_eq (F := F) (S := S) h
  have G4 := sq_pos h
  rw [ov]
  refine propext ⟨fun k => ?_, fun k => Rat.not_le.mp fun z => ?_⟩
  · have := Rat.mul_pos (a := -hei G F S) (by grind) G4
    grind
  · have := Rat.mul_nonneg z (Rat.le_of_lt G4)
    grind
/-- the words that meet tells, and what chain_reach tells of them -/
theorem words_of {x y z w F S σ : Rat} (h : Cm x y z w F S) : ∃ a b l l', meetD x y z w F S σ = .tup (.str a :: l) ∧ reachW [F, S] (sqq x y z w) = .tup (.str b :: l') ∧ ((a = "far" ∧ b = "far") ∨ (a = "near" ∧ b = "near") ∨ (a = "at" ∧ b = "reached") ∨ (a = "root" ∧ b = "reached")) := by
  have hn := cm_ne h.ne
  have cs := h.ch
  have f0 := h.f.2
  have s0 := h.s.2
  have G0 : 0 ≤ sqq x y z w := sqq_pos
  have Gp : 0 < sqq x y z w := by rcases pos_or G0 with e | e; exact absurd e hn; exact e
  have hv := hei_over (F := F) (S := S) hn
  have fo := fq_over (G := sqq x y z w) (F := F) (S := S)
  have fs := Rat.mul_pos f0 s0
  unfold meetD
  rw [if_neg hn]
  generalize sqq x y z w = G at *
  by_cases c : hei G F S < 0
  · rw [if_pos c]
    rw [hv] at c
    by_cases d : 0 < G - (F + S)
    · rw [if_pos d]
      refine ⟨_, _, _, _, rfl, reach_is cs (.far (by rw [fo]; exact c) fun j hj => ?_), .inl ⟨rfl, rfl⟩⟩
      match j, hj with
      | 0, _ => show F < G; grind
      | 1, _ => show S < G; grind
    · rw [if_neg d]
      have d' : 0 ≤ F + S - G := by grind
      rcases rat_tri F S with k | k | k
      · refine ⟨_, _, _, _, rfl, reach_is cs (.near 1 (by show 1 < 2; decide) (by rw [fo]; exact c) ?_ fun j hj n => ?_), .inr (.inl ⟨rfl, rfl⟩)⟩
        · show G < S
          refine Rat.not_le.mp fun z => ?_
          have := mul_le d' (show F + S - G ≤ F by grind) d' (show F + S - G ≤ S by grind)
          grind
        · match j, hj with
          | 0, _ => exact k
          | 1, _ => exact absurd rfl n
      · exfalso
        subst k
        have e : (G - (F + F)) * (G - (F + F)) - 4 * (F * F) = G * (G - 4 * F) := by grind
        rw [e] at c
        have : 0 ≤ 4 * F - G := by grind
        have := Rat.mul_nonneg (Rat.le_of_lt Gp) this
        grind
      · refine ⟨_, _, _, _, rfl, reach_is cs (.near 0 (by show 0 < 2; decide) (by rw [fo]; exact c) ?_ fun j hj n => ?_), .inr (.inl ⟨rfl, rfl⟩)⟩
        · show G < F
          refine Rat.not_le.mp fun z => ?_
          have := mul_le d' (show F + S - G ≤ S by grind) d' (show F + S - G ≤ F by grind)
          grind
        · match j, hj with
          | 0, _ => exact absurd rfl n
          | 1, _ => exact k
  · rw [if_neg c]
    rw [hv] at c
    have nf : ¬ Fq (G :: [F, S]) := by rw [fo]; exact c
    have r := reach_is cs (.no (fun z => nf z.1) fun k hk z => nf z.1)
    unfold spotD
    split
    · exact ⟨_, _, _, _, rfl, r, .inr (.inr (.inl ⟨rfl, rfl⟩))⟩
    · exact ⟨_, _, _, _, rfl, r, .inr (.inr (.inr ⟨rfl, rfl⟩))⟩
theorem pl2_tup {l : List D} (h : ∀ e ∈ l, Pl e) : Pl2 (.tup l) := ⟨⟨rfl, fun l' e => by cases e; exact fun x hx => (h x hx).1⟩, fun l' e => by cases e; exact h⟩
theorem pl_atom {d : D} (h : plainD d = true) (n : ∀ l, d ≠ .tup l) : Pl d := ⟨h, fun l e => absurd e (n l)⟩
theorem pl2_pt (a b : Rat) : Pl2 (pt a b) := pl2_tup fun e he => by
  simp only [List.mem_cons, List.not_mem_nil, or_false] at he
  rcases he with rfl | rfl <;> exact pl_rq _
theorem pt_pt (a b : Rat) : isPt (pt a b) = true := by
  show (isRat (rq a) && isRat (rq b)) = true
  rw [rq_rat, rq_rat]
  rfl
theorem pt_inj {a b c d : Rat} (h : pt a b = pt c d) : a = c ∧ b = d := by
  unfold pt at h
  injection h with h
  injection h with h1 h2
  injection h2 with h2 _
  exact ⟨rq_inj h1, rq_inj h2⟩
theorem ddEq_pt (n : Bool) (a b c d : Rat) (Q : D → Prop) : ddEq n (pt a b) (pt c d) Q = Q (.bl (n != (decide (a = c) && decide (b = d)))) := by
  show ddEqP n (pt a b) (pt c d) Q = _
  unfold ddEqP
  have e1 : ∀ x y : Rat, pyD (pt x y) = some (.tuple [.tuple [.int x.num, .int x.den], .tuple [.int y.num, .int y.den]]) := fun _ _ => rfl
  have s1 : ∀ x y z w : Int, SeqAt.shaped (.tuple [.tuple [.int x, .int y], .tuple [.int z, .int w]]) = true := fun x y z w => by simp [SeqAt.shaped, PyData.canLay0, PyData.canLayAll0, PyData.depth, PyData.depthAll]
  have e3 : PyData.eqv (.tuple [.tuple [.int a.num, .int a.den], .tuple [.int b.num, .int b.den]]) (.tuple [.tuple [.int c.num, .int c.den], .tuple [.int d.num, .int d.den]]) = (decide (a = c) && decide (b = d)) := by
    have k : ∀ p q : Rat, (decide (p.num = q.num) && decide ((p.den : Int) = q.den)) = decide (p = q) := fun p q => by
      rw [← Bool.decide_and]
      refine decide_eq_decide.mpr ⟨fun h => Rat.ext h.1 (by omega), fun h => by rw [h]; exact ⟨rfl, rfl⟩⟩
    rw [← k a c, ← k b d]
    simp [PyData.eqv, PyData.eqvAll, Bool.beq_eq_decide_eq]
  rw [e1, e1]
  simp only [Option.some.injEq, exists_and_left, exists_eq_left', s1, e3, true_and]
def wdK : List D := [.str "far", .str "near", .str "at", .str "root"]
def wdV : List D := [.str "far", .str "near", .str "reached", .str "reached"]
theorem wd_dk : isDK wdK := ⟨by decide +kernel, fun k hk => by
  simp only [wdK, List.mem_cons, List.not_mem_nil, or_false] at hk
  rcases hk with rfl | rfl | rfl | rfl <;> exact ⟨.inr _, rfl⟩⟩
theorem wd_get {a b : Str} (h : (a = "far" ∧ b = "far") ∨ (a = "near" ∧ b = "near") ∨ (a = "at" ∧ b = "reached") ∨ (a = "root" ∧ b = "reached")) : dGetK wdK wdV (.inr a) = some (.str b) := by
  rcases h with ⟨rfl, rfl⟩ | ⟨rfl, rfl⟩ | ⟨rfl, rfl⟩ | ⟨rfl, rfl⟩ <;> rfl
section
variable {K : PySem.W.Frag} {mg : Str → Option Value} (T : Txt K mg)
theorem tell_meet {x y z w F S σ : Rat} {side : D} {Q : D → Prop} {E : XD → Prop} (h : MeetSz x y z w F S) (f0 : 0 < F) (s0 : 0 < S) (wy : Wy side σ) (k : Q (meetD x y z w F S σ)) : m_meet T [pt x y, pt z w, rq F, rq S, side] Q E := by
  have sd : isSd side = true := by rcases wy with ⟨rfl, _⟩ | ⟨rfl, _⟩ <;> rfl
  have pl : plainD side = true := by rcases wy with ⟨rfl, _⟩ | ⟨rfl, _⟩ <;> rfl
  refine ⟨pl2_pt x y, no_is (pt_pt x y), fun _ => ⟨pl2_pt z w, no_is (pt_pt z w), fun _ => ⟨pl_rq F, no_is (pos_rq f0), fun _ => ⟨pl_rq S, no_is (pos_rq s0), fun _ => ⟨pl, no_is sd, fun x' y' z' w' F' S' σ' e1 e2 e3 e4 wy' => ?_⟩⟩⟩⟩⟩
  obtain ⟨rfl, rfl⟩ := pt_inj e1
  obtain ⟨rfl, rfl⟩ := pt_inj e2
  have := rq_inj e3
  subst this
  have := rq_inj e4
  subst this
  have : σ = σ' := by
    rcases wy with ⟨a, rfl⟩ | ⟨a, rfl⟩ <;> rcases wy' with ⟨b, rfl⟩ | ⟨b, rfl⟩
    · rfl
    · rw [a] at b; cases b
    · rw [a] at b; cases b
    · rfl
  subst this
  exact ⟨h, k⟩
end
end My
set_option exponentiation.threshold 100000
namespace My
open PySem PySem.Spec PyProof.Rows L2
local macro_rules | `(tactic| walk_at "dl") => `(tactic| simp only [startD, List.map_cons, List.map_nil, List.length_cons, List.length_nil, List.cons_append, List.nil_append, List.replicate_succ, List.replicate_zero, List.getElem?_cons_zero, List.getElem?_cons_succ, List.set_cons_zero, List.set_cons_succ,
  dVar, rdS, dC, dNew, dOp, onB, qB, dChain, qAnd, qOr, qNot, qTru, truD, dIf, dAnd, dOr, dNot, dUn, ddNeg, lNil, lCons, dTup, nLst, ddI, ddI0, ddAdd, isNonD, isBlD, ddIsN, ddIsB, ddIx_t0, ddIx_t1, ddIx_t2, ddIx_t3, ddIx_l0, ddIx_l1, ddIx_l2, dCB, ddLen, ddInt1, ddAbs, ddMM, ddTuple, nCB, nnList, ddIsi, dCall,
  sSkip, sSeq, sBreak, sCont, sExpr, sRet, sRetN, sIf, sNever, gdName, gdNil, gdCons, gdTup, sAsg, sSetN, sPar, sRaise, sFrz, owS, sApp, sIns, dLenO, dIxO, sTry, sFor, iL, iT, onL, onT, iR1, iR2, nComp, qYes,
  ddEq_ii, ddEq_ss, ddEq_bb, Bool.false_bne, Bool.true_bne, List.append_nil, true_and, and_true, if_true, if_false, Bool.not_true, Bool.not_false, Bool.true_eq_false, Bool.false_eq_true, ite_true, ite_false, id_eq])

local macro_rules | `(tactic| walk_at "is") => `(tactic| simp only [plain_non, isIn_non_int, isIn_non_str, isIn_non_bool, isIn_non_list, isIn_non_tuple, isIn_non_dict, plain_bl, isIn_bl_int, isIn_bl_str, isIn_bl_bool, isIn_bl_list, isIn_bl_tuple, isIn_bl_dict, plain_int, isIn_int_int, isIn_int_str, isIn_int_bool, isIn_int_list, isIn_int_tuple, isIn_int_dict, plain_str, isIn_str_int, isIn_str_str, isIn_str_bool, isIn_str_list, isIn_str_tuple, isIn_str_dict, plain_tup, isIn_tup_int, isIn_tup_str, isIn_tup_bool, isIn_tup_list, isIn_tup_tuple, isIn_tup_dict, plain_lst, isIn_lst_int, isIn_lst_str, isIn_lst_bool, isIn_lst_list, isIn_lst_tuple, isIn_lst_dict, sl0, sl1, sl2, sl3, sl4, decide_true, decide_false, ddIsi, ddIsi2, true_and, if_true, if_false, Bool.false_eq_true, Bool.not_true, Bool.not_false, Bool.or_true, Bool.or_false, Bool.true_or, and_true])
local macro_rules | `(tactic| walk_at "wk") => `(tactic| ((try walk_at "dl"); (try walk_at "is"); (try walk_at "dl")))

theorem ixo0 (a : D) (l : List D) (Q : D → Prop) : (∃ d, atI (a :: l) 0 = some d ∧ Q d) = Q a := by
  rw [atI_0]
  simp
theorem ixo1 (a b : D) (l : List D) (Q : D → Prop) : (∃ d, atI (a :: b :: l) 1 = some d ∧ Q d) = Q b := by
  rw [show atI (a :: b :: l) 1 = some b from atI_nat (j := 1) rfl]
  simp
theorem ixo2 (a b c : D) (l : List D) (Q : D → Prop) : (∃ d, atI (a :: b :: c :: l) 2 = some d ∧ Q d) = Q c := by
  rw [show atI (a :: b :: c :: l) 2 = some c from atI_nat (j := 2) rfl]
  simp
theorem ixo3 (a b c d : D) (l : List D) (Q : D → Prop) : (∃ e, atI (a :: b :: c :: d :: l) 3 = some e ∧ Q e) = Q d := by
  rw [show atI (a :: b :: c :: d :: l) 3 = some d from atI_nat (j := 3) rfl]
  simp
theorem ptx0 (a b : Rat) (Q : D → Prop) : ddIx (pt a b) (.int 0) Q = Q (rq a) := ddIx_t0 _ _ _
theorem ptx1 (a b : Rat) (Q : D → Prop) : ddIx (pt a b) (.int 1) Q = Q (rq b) := ddIx_t1 _ _ _ _
theorem rqn {q : Rat} {a b : Int} (h1 : q.num = a) (h2 : (q.den : Int) = b) : D.tup [.int a, .int b] = rq q := by rw [← h1, ← h2]; rfl
theorem one_rq : D.tup [.int 1, .int 1] = rq 1 := rqn (by decide +kernel) (by decide +kernel)
theorem cent_rq : D.tup [.int 1, .int 100] = rq (1 / 100) := rqn (by decide +kernel) (by decide +kernel)
theorem one_sz : Sz 1 1 (1 : Rat) := ⟨by decide +kernel, by decide +kernel⟩
theorem cent_sz : Sz 6 3 (1 / 100 : Rat) := ⟨by decide +kernel, by decide +kernel⟩
theorem cent_pos : 0 < (1 / 100 : Rat) := by decide +kernel
theorem setI_3 (a b c d e : D) : ([a, b, c, d] : List D).set 3 e = [a, b, c, e] := rfl
abbrev m4 (x y z v F S : Rat) : List D := [pt x y, pt z v, rq F, rq S]
theorem ne_pt {x y z v : Rat} : (decide (x = z) && decide (y = v)) = true ↔ x = z ∧ y = v := by
  rw [Bool.and_eq_true, decide_eq_true_iff, decide_eq_true_iff]
/-- the parts by which a span is cut -/
def byL : List D := [.tup [.int 1, .int 1], .tup [.int 1, .int 2], .tup [.int 2, .int 1], .tup [.int (-1), .int 1], .tup [.int 3, .int 2]]
theorem by_of {d : D} (h : d ∈ byL) : ∃ q, Cd 2 4 q ∧ q ≠ 0 ∧ d = rq q := by
  simp only [byL, List.mem_cons, List.not_mem_nil, or_false] at h
  rcases h with rfl | rfl | rfl | rfl | rfl
  · exact ⟨1, ⟨2, by decide +kernel, by decide⟩, by decide +kernel, rqn (by decide +kernel) (by decide +kernel)⟩
  · exact ⟨1 / 2, ⟨1, by decide +kernel, by decide⟩, by decide +kernel, rqn (by decide +kernel) (by decide +kernel)⟩
  · exact ⟨2, ⟨4, by decide +kernel, by decide⟩, by decide +kernel, rqn (by decide +kernel) (by decide +kernel)⟩
  · exact ⟨-1, ⟨-2, by decide +kernel, by decide⟩, by decide +kernel, rqn (by decide +kernel) (by decide +kernel)⟩
  · exact ⟨3 / 2, ⟨3, by decide +kernel, by decide⟩, by decide +kernel, rqn (by decide +kernel) (by decide +kernel)⟩
def mvL : List D := [.tup [.int 0, .int 1], .tup [.int 1, .int (10 ^ 9)], .tup [.int (-1), .int (10 ^ 9)], .tup [.int 1, .int (10 ^ 40)], .tup [.int (-1), .int (10 ^ 40)]]
theorem mv_of {d : D} (h : d ∈ mvL) : ∃ q, Sz 1 41 q ∧ d = rq q := by
  simp only [mvL, List.mem_cons, List.not_mem_nil, or_false] at h
  rcases h with rfl | rfl | rfl | rfl | rfl
  · exact ⟨0, ⟨by decide +kernel, by decide +kernel⟩, rqn (by decide +kernel) (by decide +kernel)⟩
  · exact ⟨1 / 10 ^ 9, ⟨by decide +kernel, by decide +kernel⟩, rqn (by decide +kernel) (by decide +kernel)⟩
  · exact ⟨-1 / 10 ^ 9, ⟨by decide +kernel, by decide +kernel⟩, rqn (by decide +kernel) (by decide +kernel)⟩
  · exact ⟨1 / 10 ^ 40, ⟨by decide +kernel, by decide +kernel⟩, rqn (by decide +kernel) (by decide +kernel)⟩
  · exact ⟨-1 / 10 ^ 40, ⟨by decide +kernel, by decide +kernel⟩, rqn (by decide +kernel) (by decide +kernel)⟩
def m_meets : DF := fun ds Q _ => match ds with
  | [.sto] => Q (.bl true)
  | _ => False
abbrev rM (g b sp mv md wy t rr wd : Sl) : DEnv := [.fr .sto, g, b, sp, mv, md, wy, t, rr, wd]
abbrev s_meets : Stmt := topS 82
abbrev N_meets : List Str := ["store", "got", "by", "span", "moves", "moved", "way", "told", "reach", "words"]
abbrev P_meets : List Str := ["store"]
theorem sc_meets : FnScope N_meets P_meets (defScope s_meets) := ⟨rfl, rfl, rfl, by decide +kernel, rfl, by decide +kernel, by decide +kernel⟩

section
variable {P : Program} {w : World} {K : PySem.W.Frag} {mg : Str → Option Value} {base : Heap}
theorem ok_meets (T : Txt K mg) : FnOk P w K mg base (L2N.CX P w) 177 T.dmeets.f T.dmeets.fd P_meets (spD K 1 m_meets) := by
  have G_circles : FnOk P w K mg base (L2N.CX P w) 176 T.dcircles.f T.dcircles.fd P_circles (spD K 1 m_circles) := ok_circles T
  have G_take : FnOk P w K mg base (L2N.CX P w) 171 T.dtake.f T.dtake.fd P_take (spD K 2 m_take) := ok_takeD T
  have G_pick : FnOk P w K mg base (L2N.CX P w) 173 T.dpick.f T.dpick.fd P_pick (spD K 2 m_pick) := ok_pick T
  have G_positive : FnOk P w K mg base (L2N.CX P w) 174 T.dpositive.f T.dpositive.fd P_positive (spD K 1 m_positive) := ok_positive T
  have G_psub : FnOk P w K mg base (L2N.CX P w) 3 T.dpsub.f T.dpsub.fd P_psub (spD K 2 (m_p2 fun p q => p - q)) := ok_psub T
  have G_pmul : FnOk P w K mg base (L2N.CX P w) 3 T.dpmul.f T.dpmul.fd P_pmul (spD K 2 m_pmul) := ok_pmul T
  have G_psq : FnOk P w K mg base (L2N.CX P w) 4 T.dpsq.f T.dpsq.fd P_psq (spD K 1 m_psq) := ok_psq T
  have G_plus : FnOk P w K mg base (L2N.CX P w) 2 T.dplus.f T.dplus.fd P_plus (spD K 2 (m_r2 fun p q => p + q)) := ok_plus T
  have G_minus : FnOk P w K mg base (L2N.CX P w) 2 T.dminus.f T.dminus.fd P_minus (spD K 2 (m_r2 fun p q => p - q)) := ok_minus T
  have G_meet : FnOk P w K mg base (L2N.CX P w) 9 T.dmeet.f T.dmeet.fd P_meet (spD K 5 (m_meet T)) := ok_meet T
  have G_chain_reach : FnOk P w K mg base (L2N.CX P w) 8 T.dchain_reach.f T.dchain_reach.fd P_chain_reach (spD K 2 (m_chain T)) := ok_chain_reach T
  have G_right : FnOk P w K mg base (L2N.CX P w) 9 T.dright.f T.dright.fd P_right (spD K 2 m_right) := ok_right T
  refine T.dmeets.okD sc_meets fun cdv A outer s H E so A0 hr tk hp => ⟨_, (pds_cons (pds_setN (i := 1) sc_meets.nd rfl (by first | exact .inl rfl | exact .inr rfl) (pdn_callF G_circles (hr.mono (by omega)) (by rfl) T.dcircles.g T.dcircles.F.kp T.dcircles.b (fun σ => L2N.passAt tk σ) (pd_var (pv 0))))
      (pds_cons (pds_if (pdt_cmp (oo_eq hr.units) ol_eq (pd_ixO (pv 1) pd_int (fun _ _ => rfl)) (pd_ixO (pv 1) pd_int (fun _ _ => rfl)) (nomark _))
        (pds_one (pds_setI (pv 1) (pd_tup (pda_cons (pd_call G_plus (hr.mono (by omega)) (by rfl) T.dplus.g T.dplus.F.kp T.dplus.b (fun σ => L2N.passAt tk σ) (pda_cons (pd_ix ix_seq ol_ix (pd_ixO (pv 1) pd_int (fun _ _ => rfl)) pd_int (fun _ _ => rfl)) (pda_cons (pd_call G_positive (hr.mono (by omega)) (by rfl) T.dpositive.g T.dpositive.F.kp T.dpositive.b (fun σ => L2N.passAt tk σ) (pda_cons (pd_var (pv 0)) pda_nil)) pda_nil))) (pda_cons (pd_ix ix_seq ol_ix (pd_ixO (pv 1) pd_int (fun _ _ => rfl)) pd_int (fun _ _ => rfl)) pda_nil))) pd_int))
        pds_nil)
      (pds_cons (pds_if (pdt_cmp (oo_eq hr.units) ol_eq (pd_call G_take (hr.mono (by omega)) (by rfl) T.dtake.g T.dtake.F.kp T.dtake.b (fun σ => L2N.passAt tk σ) (pda_cons (pd_var (pv 0)) (pda_cons pd_int pda_nil))) pd_int (nomark _))
        (pds_cons (pds_set (i := 2) sc_meets.nd rfl (by first | exact .inl rfl | exact .inr rfl) (pd_call G_pick (hr.mono (by omega)) (by rfl) T.dpick.g T.dpick.F.kp T.dpick.b (fun σ => L2N.passAt tk σ) (pda_cons (pd_var (pv 0)) (pda_cons (pd_new (pdn_lst (pda_cons (pd_tup (pda_cons pd_int (pda_cons pd_int pda_nil))) (pda_cons (pd_tup (pda_cons pd_int (pda_cons pd_int pda_nil))) (pda_cons (pd_tup (pda_cons pd_int (pda_cons pd_int pda_nil))) (pda_cons (pd_tup (pda_cons (pd_neg pd_int) (pda_cons pd_int pda_nil))) (pda_cons (pd_tup (pda_cons pd_int (pda_cons pd_int pda_nil))) pda_nil))))))) pda_nil))))
        (pds_cons (pds_set (i := 3) sc_meets.nd rfl (by first | exact .inl rfl | exact .inr rfl) (pd_call G_psub (hr.mono (by omega)) (by rfl) T.dpsub.g T.dpsub.F.kp T.dpsub.b (fun σ => L2N.passAt tk σ) (pda_cons (pd_ixO (pv 1) pd_int (fun _ _ => rfl)) (pda_cons (pd_ixO (pv 1) pd_int (fun _ _ => rfl)) pda_nil))))
        (pds_cons (pds_setI (pv 1) (pd_call G_psq (hr.mono (by omega)) (by rfl) T.dpsq.g T.dpsq.F.kp T.dpsq.b (fun σ => L2N.passAt tk σ) (pda_cons (pd_call G_pmul (hr.mono (by omega)) (by rfl) T.dpmul.g T.dpmul.F.kp T.dpmul.b (fun σ => L2N.passAt tk σ) (pda_cons (pd_var (pv 2)) (pda_cons (pd_var (pv 3)) pda_nil))) pda_nil)) pd_int)
        (pds_cons (pds_setI (pv 1) (pd_call G_psq (hr.mono (by omega)) (by rfl) T.dpsq.g T.dpsq.F.kp T.dpsq.b (fun σ => L2N.passAt tk σ) (pda_cons (pd_call G_pmul (hr.mono (by omega)) (by rfl) T.dpmul.g T.dpmul.F.kp T.dpmul.b (fun σ => L2N.passAt tk σ) (pda_cons (pd_call G_minus (hr.mono (by omega)) (by rfl) T.dminus.g T.dminus.F.kp T.dminus.b (fun σ => L2N.passAt tk σ) (pda_cons (pd_var (pv 2)) (pda_cons (pd_tup (pda_cons pd_int (pda_cons pd_int pda_nil))) pda_nil))) (pda_cons (pd_var (pv 3)) pda_nil))) pda_nil)) pd_int)
        (pds_cons (pds_if (pdt_cmp (oo_eq hr.units) ol_eq (pd_ix ix_seq ol_ix (pd_ixO (pv 1) pd_int (fun _ _ => rfl)) pd_int (fun _ _ => rfl)) pd_int (nomark _))
          (pds_one (pds_setI (pv 1) (pd_tup (pda_cons pd_int (pda_cons pd_int pda_nil))) pd_int))
          pds_nil)
        (pds_cons (pds_set (i := 4) sc_meets.nd rfl (by first | exact .inl rfl | exact .inr rfl) (pd_new (pdn_lst (pda_cons (pd_tup (pda_cons pd_int (pda_cons pd_int pda_nil))) (pda_cons (pd_tup (pda_cons pd_int (pda_cons (pd_op op_pow ol_pow pd_int pd_int) pda_nil))) (pda_cons (pd_tup (pda_cons (pd_neg pd_int) (pda_cons (pd_op op_pow ol_pow pd_int pd_int) pda_nil))) (pda_cons (pd_tup (pda_cons pd_int (pda_cons (pd_op op_pow ol_pow pd_int pd_int) pda_nil))) (pda_cons (pd_tup (pda_cons (pd_neg pd_int) (pda_cons (pd_op op_pow ol_pow pd_int pd_int) pda_nil))) pda_nil))))))))
        (pds_cons (pds_set (i := 5) sc_meets.nd rfl (by first | exact .inl rfl | exact .inr rfl) (pd_call G_plus (hr.mono (by omega)) (by rfl) T.dplus.g T.dplus.F.kp T.dplus.b (fun σ => L2N.passAt tk σ) (pda_cons (pd_ixO (pv 1) pd_int (fun _ _ => rfl)) (pda_cons (pd_ix ix_seq ol_ix (pd_var (pv 4)) (pd_call G_take (hr.mono (by omega)) (by rfl) T.dtake.g T.dtake.F.kp T.dtake.b (fun σ => L2N.passAt tk σ) (pda_cons (pd_var (pv 0)) (pda_cons pd_int pda_nil))) (fun _ _ => rfl)) pda_nil))))
        (pds_one (pds_if (pdt_cmp op_gt ol_gt (pd_ix ix_seq ol_ix (pd_var (pv 5)) pd_int (fun _ _ => rfl)) pd_int (nomark _))
          (pds_one (pds_setI (pv 1) (pd_var (pv 5)) pd_int))
          pds_nil)))))))))
        pds_nil)
      (pds_cons (pds_set (i := 6) sc_meets.nd rfl (by first | exact .inl rfl | exact .inr rfl) (pd_op op_sub ol_sub pd_int (pd_op op_mulW ol_mul pd_int (pd_call G_take (hr.mono (by omega)) (by rfl) T.dtake.g T.dtake.F.kp T.dtake.b (fun σ => L2N.passAt tk σ) (pda_cons (pd_var (pv 0)) (pda_cons pd_int pda_nil))))))
      (pds_cons (pds_set (i := 7) sc_meets.nd rfl (by first | exact .inl rfl | exact .inr rfl) (pd_ix ix_seq ol_ix (pd_callK G_meet (hr.mono (by omega)) (by rfl) T.dmeet.g T.dmeet.F.kp T.dmeet.kb (fun σ => L2N.passAt tk σ) (pda_cons (pd_ixO (pv 1) pd_int (fun _ _ => rfl)) (pda_cons (pd_ixO (pv 1) pd_int (fun _ _ => rfl)) (pda_cons (pd_ixO (pv 1) pd_int (fun _ _ => rfl)) (pda_cons (pd_ixO (pv 1) pd_int (fun _ _ => rfl)) pda_nil)))) (pd_var (pv 6))) pd_int (fun _ _ => rfl)))
      (pds_cons (pds_set (i := 8) sc_meets.nd rfl (by first | exact .inl rfl | exact .inr rfl) (pd_call G_chain_reach (hr.mono (by omega)) (by rfl) T.dchain_reach.g T.dchain_reach.F.kp T.dchain_reach.b (fun σ => L2N.passAt tk σ) (pda_cons (pd_new (pdn_lst (pda_cons (pd_ixO (pv 1) pd_int (fun _ _ => rfl)) (pda_cons (pd_ixO (pv 1) pd_int (fun _ _ => rfl)) pda_nil)))) (pda_cons (pd_call G_psq (hr.mono (by omega)) (by rfl) T.dpsq.g T.dpsq.F.kp T.dpsq.b (fun σ => L2N.passAt tk σ) (pda_cons (pd_call G_psub (hr.mono (by omega)) (by rfl) T.dpsub.g T.dpsub.F.kp T.dpsub.b (fun σ => L2N.passAt tk σ) (pda_cons (pd_ixO (pv 1) pd_int (fun _ _ => rfl)) (pda_cons (pd_ixO (pv 1) pd_int (fun _ _ => rfl)) pda_nil))) pda_nil)) pda_nil))))
      (pds_cons (pds_set (i := 9) sc_meets.nd rfl (by first | exact .inl rfl | exact .inr rfl) (pd_dispS [("far", "far"), ("near", "near"), ("at", "reached"), ("root", "reached")] (pps_cons pe_str pe_str (pps_cons pe_str pe_str (pps_cons pe_str pe_str (pps_cons pe_str pe_str pps_nil)))) rfl rfl (by simp) (by decide) (by decide)))
      (pds_cons (pds_if (PDW.t (pdw_or (pdt_notinS hr.units (pd_var (pv 7)) (pd_var (pv 9)) rfl) (pdw_or1 (pdt_cmp (oo_ne hr.units) ol_ne (pd_ix ix_seq ol_ix (pd_var (pv 8)) pd_int (fun _ _ => rfl)) (pd_getS hr.units (pd_var (pv 9)) (pd_var (pv 7)) (fun _ _ => rfl)) (nomark _)))))
        (pds_one (pds_ret pd_bl))
        pds_nil)
      (pds_one (pds_ret (pd_call G_right (hr.mono (by omega)) (by rfl) T.dright.g T.dright.F.kp T.dright.b (fun σ => L2N.passAt tk σ) (pda_cons (pd_new (pdn_lst (pda_cons (pd_ixO (pv 1) pd_int (fun _ _ => rfl)) (pda_cons (pd_ixO (pv 1) pd_int (fun _ _ => rfl)) pda_nil)))) (pda_cons (pd_call G_psq (hr.mono (by omega)) (by rfl) T.dpsq.g T.dpsq.F.kp T.dpsq.b (fun σ => L2N.passAt tk σ) (pda_cons (pd_call G_psub (hr.mono (by omega)) (by rfl) T.dpsub.g T.dpsub.F.kp T.dpsub.b (fun σ => L2N.passAt tk σ) (pda_cons (pd_ixO (pv 1) pd_int (fun _ _ => rfl)) (pda_cons (pd_ixO (pv 1) pd_int (fun _ _ => rfl)) pda_nil))) pda_nil)) pda_nil))))))))))))), fun ds Q E hl h => ?_⟩
  unfold m_meets at h
  have sl : ∀ n, n ≤ 100 → n ≤ sizeLine := fun n h => by rw [sizeLine_eq]; omega
  have gp : ∀ {x y z v F S : Rat} {Q' : D → Prop}, Cm x y z v F S → Q' (rq (sqq x y z v)) → m_p2 (fun p q => p - q) [pt z v, pt x y] (fun d => m_psq [d] Q' E) E := fun {x y z v F S Q'} c q => by
    have e1 : Sz 2 1 (z - x) := (c.b.1.sub c.a.1).sz (by decide)
    have e2 : Sz 2 1 (v - y) := (c.b.2.sub c.a.2).sz (by decide)
    exact ⟨_, _, _, _, rfl, (c.b.1.sz (a := 2) (b := 1) (by decide)).ok (cd_sz c.a.1) (by decide), (c.b.2.sz (a := 2) (b := 1) (by decide)).ok (cd_sz c.a.2) (by decide), _, _, rfl, e1.ok e1 (by decide), e2.ok e2 (by decide), (e1.mul e1).ok (e2.mul e2) (by decide), q⟩
  split at h
  · show sSeq _ _ _ (rM .no .no .no .no .no .no .no .no .no)
    refine seq_mid (P := fun ρ => ∃ x y z v F S, Ci0 x y z v F S ∧ ρ = rM (.ow (m4 x y z v F S)) .no .no .no .no .no .no .no .no) (fun R hR => ?_) ?_
    · exact ⟨rfl, fun x y z v F S c => ⟨_, rfl, rfl, rfl, hR _ ⟨x, y, z, v, F, S, c, rfl⟩⟩⟩
    rintro _ ⟨x, y, z, v, F, S, c, rfl⟩
    refine seq_mid (P := fun ρ => ∃ z v, (Cd 6 60 z ∧ Cd 6 60 v) ∧ ¬ (x = z ∧ y = v) ∧ ρ = rM (.ow (m4 x y z v F S)) .no .no .no .no .no .no .no .no) (fun R hR => ?_) ?_
    · simp only [rM, m4] at hR ⊢
      walk_at "wk"
      simp only [ixo0, ixo1]
      rw [ddEq_pt, Bool.false_bne]
      walk_at "wk"
      by_cases e : x = z ∧ y = v
      · rw [if_pos (ne_pt.mpr e)]
        simp only [sSetI]
        walk_at "wk"
        simp only [ixo0, ixo1]
        simp only [ptx0, ptx1]
        intro q hq q0
        refine ⟨_, _, rfl, (cd_sz c.a.1).ok (cp_sz hq) (by decide), 1, rfl, ?_⟩
        refine hR _ ⟨x + q, y, ⟨(c.a.1.add hq).le (by decide), c.a.2.1.le (by decide)⟩, fun z => ?_, rfl⟩
        have := z.1
        grind
      · rw [if_neg (fun z => e (ne_pt.mp z))]
        exact hR _ ⟨z, v, ⟨c.a.2.2.1.le (by decide), c.a.2.2.2.le (by decide)⟩, e, rfl⟩
    have ca := c.a
    have cf := c.f
    have cp := c.p
    clear c
    rintro _ ⟨z, v, cz, ne, rfl⟩
    refine seq_mid (P := fun ρ => ∃ F S b sp mv md, (Sz 8 5 F ∧ 0 < F) ∧ (Sz 48 44 S ∧ 0 < S) ∧ ρ = rM (.ow (m4 x y z v F S)) b sp mv md .no .no .no .no) (fun R hR => ?_) ?_
    · have hR : ∀ {F S} b sp mv md, (Sz 8 5 F ∧ 0 < F) → (Sz 48 44 S ∧ 0 < S) → R (rM (.ow (m4 x y z v F S)) b sp mv md .no .no .no .no) := fun {F S} b sp mv md hF hS => hR _ ⟨F, S, b, sp, mv, md, hF, hS, rfl⟩
      simp only [rM, m4] at hR ⊢
      walk_at "wk"
      refine ⟨by decide, fun r r0 r1 => ?_⟩
      walk_at "wk"
      split
      · refine ⟨sl 5 (by decide), by simp, by simp, fun d hd => ?_⟩
        obtain ⟨q, cq, q0, rfl⟩ := by_of hd
        clear hd
        walk_at "wk"
        simp only [ixo0, ixo1]
        have ez := cz.1.sub ca.1
        have ev := cz.2.sub ca.2.1
        have g1 : Sz 2 1 (z - x) := ez.sz (by decide)
        have g2 : Sz 2 1 (v - y) := ev.sz (by decide)
        have sq' : Sz 1 1 q := cq.sz (by decide)
        refine ⟨_, _, _, _, rfl, (cz.1.sz (a := 2) (b := 1) (by decide)).ok (cd_sz ca.1) (by decide), (cz.2.sz (a := 2) (b := 1) (by decide)).ok (cd_sz ca.2.1) (by decide), ?_⟩
        simp only [sSetI]
        walk_at "wk"
        have m1 := cq.mul ez
        have m2 := cq.mul ev
        have k1 : Sz 3 2 (q * (z - x)) := m1.sz (by decide)
        have k2 : Sz 3 2 (q * (v - y)) := m2.sz (by decide)
        refine ⟨_, _, _, rfl, sq'.ok g1 (by decide), sq'.ok g2 (by decide), _, _, rfl, k1.ok k1 (by decide), k2.ok k2 (by decide), (k1.mul k1).ok (k2.mul k2) (by decide), 2, rfl, ?_⟩
        simp only [sSetI]
        walk_at "wk"
        rw [one_rq]
        have cq1 : Cd 2 6 (q - 1) := cq.sub (show Cd 2 2 1 from ⟨2, by decide +kernel, by decide⟩)
        have sq1 : Sz 1 1 (q - 1) := cq1.sz (by decide)
        have n1 := cq1.mul ez
        have n2 := cq1.mul ev
        have j1 : Sz 3 2 ((q - 1) * (z - x)) := n1.sz (by decide)
        have j2 : Sz 3 2 ((q - 1) * (v - y)) := n2.sz (by decide)
        refine ⟨_, _, rfl, sq'.ok one_sz (by decide), _, _, _, rfl, sq1.ok g1 (by decide), sq1.ok g2 (by decide), _, _, rfl, j1.ok j1 (by decide), j2.ok j2 (by decide), (j1.mul j1).ok (j2.mul j2) (by decide), 3, rfl, ?_⟩
        have cF := (m1.mul m1).add (m2.mul m2)
        have cS := (n1.mul n1).add (n2.mul n2)
        have F0 : 0 < q * (z - x) * (q * (z - x)) + q * (v - y) * (q * (v - y)) := by
          have a := sq_ge (q * (z - x))
          have b := sq_ge (q * (v - y))
          rcases pos_or (sum_ge (q * (z - x)) (q * (v - y))) with e | e
          · refine absurd ?_ ne
            have e1 : q * (z - x) = 0 := by
              have e1 : q * (z - x) * (q * (z - x)) = 0 := by grind
              rcases Rat.mul_eq_zero.mp e1 with k | k <;> exact k
            have e2 : q * (v - y) = 0 := by
              have e1 : q * (v - y) * (q * (v - y)) = 0 := by grind
              rcases Rat.mul_eq_zero.mp e1 with k | k <;> exact k
            refine ⟨?_, ?_⟩
            · rcases Rat.mul_eq_zero.mp e1 with k | k
              · exact absurd k q0
              · grind
            · rcases Rat.mul_eq_zero.mp e2 with k | k
              · exact absurd k q0
              · grind
          · exact e
        have S0 := sum_ge ((q - 1) * (z - x)) ((q - 1) * (v - y))
        have sF : Sz 8 5 (q * (z - x) * (q * (z - x)) + q * (v - y) * (q * (v - y))) := cF.sz (by decide)
        have sS : Sz 6 3 ((q - 1) * (z - x) * ((q - 1) * (z - x)) + (q - 1) * (v - y) * ((q - 1) * (v - y))) := cS.sz (by decide)
        clear cF cS n1 n2 m1 m2 j1 j2 k1 k2 cq1 sq1 sq'
        generalize q * (z - x) * (q * (z - x)) + q * (v - y) * (q * (v - y)) = F1 at *
        generalize (q - 1) * (z - x) * ((q - 1) * (z - x)) + (q - 1) * (v - y) * ((q - 1) * (v - y)) = S1 at *
        generalize pt (z - x) (v - y) = spn at *
        simp only [setI_3]
        simp only [ixo3, ix0]
        walk_at "wk"
        simp only [num_zero]
        split
        · simp only [sSetI]
          walk_at "wk"
          rw [cent_rq]
          refine ⟨3, rfl, ?_⟩
          simp only [setI_3]
          have sS := cent_sz
          have S0 := cent_pos
          generalize (1 / 100 : Rat) = S1 at *
          refine ⟨by unfold CPow; decide +kernel, by unfold CPow; decide +kernel, by unfold CPow; decide +kernel, by unfold CPow; decide +kernel, sl 5 (by decide), ?_⟩
          simp only [ixo3]
          refine ⟨by decide, fun i i0 i1 => ddIx_any (l := mvL) i0 (by show i < 5; omega) fun d hd => ?_⟩
          obtain ⟨m, sm, rfl⟩ := mv_of hd
          clear hd
          refine ⟨_, _, rfl, sS.ok sm (by decide), ?_⟩
          have sT : Sz 48 44 (S1 + m) := (sS.add sm).up (by decide) (by decide)
          simp only [ix0]
          walk_at "wk"
          simp only [num_gt]
          split
          · rename_i pz
            rw [decide_eq_true_iff] at pz
            simp only [sSetI]
            walk_at "wk"
            refine ⟨3, rfl, ?_⟩
            simp only [setI_3]
            exact hR _ _ _ _ ⟨sF, F0⟩ ⟨sT, pz⟩
          · exact hR _ _ _ _ ⟨sF, F0⟩ ⟨sS.up (by decide) (by decide), S0⟩
        · rename_i nz
          rw [decide_eq_true_iff] at nz
          have S0 : 0 < S1 := by
            rcases pos_or S0 with e | e
            · exact absurd e nz
            · exact e
          refine ⟨by unfold CPow; decide +kernel, by unfold CPow; decide +kernel, by unfold CPow; decide +kernel, by unfold CPow; decide +kernel, sl 5 (by decide), ?_⟩
          refine ⟨by decide, fun i i0 i1 => ddIx_any (l := mvL) i0 (by show i < 5; omega) fun d hd => ?_⟩
          obtain ⟨m, sm, rfl⟩ := mv_of hd
          clear hd
          refine ⟨_, _, rfl, sS.ok sm (by decide), ?_⟩
          have sT : Sz 48 44 (S1 + m) := (sS.add sm).up (by decide) (by decide)
          simp only [ix0]
          walk_at "wk"
          simp only [num_gt]
          split
          · rename_i pz
            rw [decide_eq_true_iff] at pz
            simp only [sSetI]
            walk_at "wk"
            refine ⟨3, rfl, ?_⟩
            simp only [setI_3]
            exact hR _ _ _ _ ⟨sF, F0⟩ ⟨sT, pz⟩
          · exact hR _ _ _ _ ⟨sF, F0⟩ ⟨sS.up (by decide) (by decide), S0⟩
      · exact hR _ _ _ _ ⟨cf.1.sz (by decide), cp.1⟩ ⟨(cf.2.sz (a := 7) (b := 4) (by decide)).up (by decide) (by decide), cp.2⟩
    rintro _ ⟨F, S, b, sp, mv, md, hF, hS, rfl⟩
    have cm : Cm x y z v F S := ⟨⟨ca.1, ca.2.1⟩, cz, ne, hF, hS⟩
    refine seq_mid (P := fun ρ => ∃ s σ, Wy s σ ∧ ρ = rM (.ow (m4 x y z v F S)) b sp mv md (.fr s) .no .no .no) (fun R hR => ?_) ?_
    · simp only [rM, m4] at hR ⊢
      walk_at "wk"
      refine ⟨by decide, fun r r0 r1 => ?_⟩
      walk_at "wk"
      rcases (by omega : r = 0 ∨ r = 1) with rfl | rfl
      · exact ⟨Sm.mul (by unfold Sm; decide +kernel) (by unfold Sm; decide +kernel), hR _ ⟨.int 1, 1, .inl ⟨rfl, rfl⟩, rfl⟩⟩
      · exact ⟨Sm.mul (by unfold Sm; decide +kernel) (by unfold Sm; decide +kernel), hR _ ⟨.int (-1), -1, .inr ⟨rfl, rfl⟩, rfl⟩⟩
    rintro _ ⟨s, σ, wy, rfl⟩
    obtain ⟨t, u, l, l', e1, e2, wd⟩ := words_of (σ := σ) cm
    refine seq_mid (P := fun ρ => ρ = rM (.ow (m4 x y z v F S)) b sp mv md (.fr s) (.fr (.str t)) .no .no) (fun R hR => ?_) ?_
    · simp only [rM, m4] at hR ⊢
      walk_at "wk"
      simp only [dCallK]
      walk_at "wk"
      simp only [ixo0, ixo1, ixo2, ixo3]
      refine tell_meet T cm.m hF.2 hS.2 wy ?_
      rw [e1]
      walk_at "wk"
      exact hR _ rfl
    rintro _ rfl
    refine seq_mid (P := fun ρ => ρ = rM (.ow (m4 x y z v F S)) b sp mv md (.fr s) (.fr (.str t)) (.fr (.tup (.str u :: l'))) .no) (fun R hR => ?_) ?_
    · simp only [rM, m4] at hR ⊢
      walk_at "wk"
      simp only [ixo0, ixo1, ixo2, ixo3]
      refine gp cm ?_
      refine tell_chain T (l := [F, S]) cm.ch ?_
      rw [e2]
      exact hR _ rfl
    rintro _ rfl
    refine seq_mid (P := fun ρ => ρ = rM (.ow (m4 x y z v F S)) b sp mv md (.fr s) (.fr (.str t)) (.fr (.tup (.str u :: l'))) (.fr (.dct wdK wdV))) (fun R hR => ?_) ?_
    · simp only [rM, m4] at hR ⊢
      exact hR _ rfl
    rintro _ rfl
    refine seq_mid (P := fun ρ => ρ = rM (.ow (m4 x y z v F S)) b sp mv md (.fr s) (.fr (.str t)) (.fr (.tup (.str u :: l'))) (.fr (.dct wdK wdV))) (fun R hR => ?_) ?_
    · simp only [rM, m4] at hR ⊢
      walk_at "wk"
      simp only [qNotInS, dGetS]
      walk_at "wk"
      have g := wd_get wd
      refine ⟨wd_dk, ?_⟩
      show (if (!(dGetK wdK wdV (.inr t)).isSome) = true then _ else _)
      rw [g]
      refine ⟨wd_dk, _, g, ?_⟩
      walk_at "wk"
      exact hR _ rfl
    rintro _ rfl
    simp only [rM, m4]
    walk_at "wk"
    simp only [ixo0, ixo1, ixo2, ixo3]
    exact gp cm ⟨[F, S], _, rfl, cm.ch, h⟩
  · exact h.elim
end
end My
set_option exponentiation.threshold 100000
namespace My
open PySem PySem.Spec PyProof.Rows L2
local macro_rules | `(tactic| walk_at "dl") => `(tactic| simp only [startD, List.map_cons, List.map_nil, List.length_cons, List.length_nil, List.cons_append, List.nil_append, List.replicate_succ, List.replicate_zero, List.getElem?_cons_zero, List.getElem?_cons_succ, List.set_cons_zero, List.set_cons_succ,
  dVar, rdS, dC, dNew, dOp, onB, qB, dChain, qAnd, qOr, qNot, qTru, truD, dIf, dAnd, dOr, dNot, dUn, ddNeg, lNil, lCons, dTup, nLst, ddI, ddI0, ddAdd, isNonD, isBlD, ddIsN, ddIsB, ddIx_t0, ddIx_t1, ddIx_t2, ddIx_t3, ddIx_l0, ddIx_l1, ddIx_l2, dCB, ddLen, ddInt1, ddAbs, ddMM, ddTuple, nCB, nnList, ddIsi, dCall,
  sSkip, sSeq, sBreak, sCont, sExpr, sRet, sRetN, sIf, sNever, gdName, gdNil, gdCons, gdTup, sAsg, sSetN, sPar, sRaise, sFrz, owS, sApp, sIns, dLenO, dIxO, sTry, sFor, iL, iT, onL, onT, iR1, iR2, nComp, qYes,
  ddEq_ii, ddEq_ss, ddEq_bb, Bool.false_bne, Bool.true_bne, List.append_nil, true_and, and_true, if_true, if_false, Bool.not_true, Bool.not_false, Bool.true_eq_false, Bool.false_eq_true, ite_true, ite_false, id_eq])

local macro_rules | `(tactic| walk_at "is") => `(tactic| simp only [plain_non, isIn_non_int, isIn_non_str, isIn_non_bool, isIn_non_list, isIn_non_tuple, isIn_non_dict, plain_bl, isIn_bl_int, isIn_bl_str, isIn_bl_bool, isIn_bl_list, isIn_bl_tuple, isIn_bl_dict, plain_int, isIn_int_int, isIn_int_str, isIn_int_bool, isIn_int_list, isIn_int_tuple, isIn_int_dict, plain_str, isIn_str_int, isIn_str_str, isIn_str_bool, isIn_str_list, isIn_str_tuple, isIn_str_dict, plain_tup, isIn_tup_int, isIn_tup_str, isIn_tup_bool, isIn_tup_list, isIn_tup_tuple, isIn_tup_dict, plain_lst, isIn_lst_int, isIn_lst_str, isIn_lst_bool, isIn_lst_list, isIn_lst_tuple, isIn_lst_dict, sl0, sl1, sl2, sl3, sl4, decide_true, decide_false, ddIsi, ddIsi2, true_and, if_true, if_false, Bool.false_eq_true, Bool.not_true, Bool.not_false, Bool.or_true, Bool.or_false, Bool.true_or, and_true])
local macro_rules | `(tactic| walk_at "wk") => `(tactic| ((try walk_at "dl"); (try walk_at "is"); (try walk_at "dl")))

abbrev s_failed : Stmt := topS 83
abbrev N_failed : List Str := ["e"]
abbrev P_failed : List Str := ["e"]
theorem sc_failed : FnScope N_failed P_failed (defScope s_failed) := ⟨rfl, rfl, rfl, by decide +kernel, rfl, by decide +kernel, by decide +kernel⟩

theorem _root_.L2H.RoomH.units {k : Nat} {A : Around} (r : L2H.RoomH k A) : A.units + 64 < cLine := by have := r.un; omega
theorem dIsP_var {K : PySem.W.Frag} {x : XD} {a : Addr} {cv : Value} {b : Bool} {l : DEnv} {Q : D → Prop} {E : XD → Prop} (hx : XC K x.C) (hk : PySem.W.kitOne K (.ref x.C) cv = some b) : dIsP K x a cv (dVar 0) (.fr (.exc a) :: l) Q E = Q (.bl b) := by
  show ((.exc a : D) = .exc a ∧ XC K x.C ∧ ∃ c, PySem.W.kitOne K (.ref x.C) cv = some c ∧ Q (.bl c)) = _
  rw [hk]
  simp [hx]
theorem dXg_var {K : PySem.W.Frag} {x : XD} {a : Addr} {n : Str} {l : DEnv} {Q : D → Prop} {E : XD → Prop} {d : D} (hx : XC K x.C) (hk : PySem.W.findIn K (.ref x.C) n = some none) (hl : (x.fs.zip x.vs).lookup n = some d) : dXg K x a n (dVar 0) (.fr (.exc a) :: l) Q E = Q d := by
  show ((.exc a : D) = .exc a ∧ XC K x.C ∧ PySem.W.findIn K (.ref x.C) n = some none ∧ ∃ c, (x.fs.zip x.vs).lookup n = some c ∧ Q c) = _
  rw [hk, hl]
  simp [hx]
def wkD (s : Str) : D := .tup [.str "WrongKind", .str s]
def obD (s : Str) : D := .tup [.str "OutOfBounds", .str s]
def tld (d : D) : D := .tup [.str "told", d]
section
variable {K : PySem.W.Frag} {mg : Str → Option Value} (T : Txt K mg)
def m_failed : XD → (D → Prop) → Prop := fun x Q => ∃ s, (x = wkX T s ∧ Q (wkD s)) ∨ (x = obX T s ∧ Q (obD s))
def Wk (Q : D → Prop) : XD → Prop := fun x => PySem.W.exmOne K (.ref x.C) (.ref T.cFrameError.C) = some true ∧ m_failed T x Q
theorem wk_ok {Q : D → Prop} {s : Str} (q : Q (wkD s)) : Wk T Q (wkX T s) := ⟨T.xWrongKind, s, .inl ⟨rfl, q⟩⟩
theorem ob_ok {Q : D → Prop} {s : Str} (q : Q (obD s)) : Wk T Q (obX T s) := ⟨T.xOutOfBounds, s, .inr ⟨rfl, q⟩⟩
def m_lcall : DF := fun ds Q _ => match ds with
  | [a, b] => m_chain T [a, b] (fun d => Q (tld d)) (Wk T Q)
  | _ => False
end
abbrev s_call : Stmt := topS 84
abbrev N_call : List Str := ["bars", "gap", "e"]
abbrev P_call : List Str := ["bars", "gap"]
theorem sc_call : FnScope N_call P_call (defScope s_call) := ⟨rfl, rfl, rfl, by decide +kernel, rfl, by decide +kernel, by decide +kernel⟩

section
variable {P : Program} {w : World} {K : PySem.W.Frag} {mg : Str → Option Value} {base : Heap}
theorem ok_failed (T : Txt K mg) : FnE P w K mg base 1 T.dfailed.f T.dfailed.fd P_failed (fun q => spXD K (m_failed T) q.1 q.2.cls q.2.dict) := by
  refine T.dfailed.okED sc_failed fun q cdv A outer s H E so A0 x dx us hr kx => ⟨_, (pds_cons (pds_if (PDW.t (pdw_or (pdt_not (pdt_tru (pd_isP kx (by rfl) T.m_isinstance (pd_var (pv 0)) (pe_bltn (v := .ty "ValueError") (by rfl) T.m_ValueError bt_ValueError rfl) (.ty _)))) (pdw_or (pdt_tru (pd_isP kx (by rfl) T.m_isinstance (pd_var (pv 0)) (pe_glob (v := .ref T.cRepeatedName.C) (by rfl) T.cRepeatedName.g rfl) (.own _))) (pdw_or1 (pdt_tru (pd_isP kx (by rfl) T.m_isinstance (pd_var (pv 0)) (pe_glob (v := .ref T.cUnknownName.C) (by rfl) T.cUnknownName.g rfl) (.own _)))))))
        (pds_one (pds_ret (pd_tup (pda_cons pd_str (pda_cons pd_non pda_nil)))))
        pds_nil)
      (pds_cons (pds_if (PDW.t (pdw_or (pdt_tru (pd_isP kx (by rfl) T.m_isinstance (pd_var (pv 0)) (pe_glob (v := .ref T.cUnfitError.C) (by rfl) T.cUnfitError.g rfl) (.own _))) (pdw_or (pdt_tru (pd_isP kx (by rfl) T.m_isinstance (pd_var (pv 0)) (pe_glob (v := .ref T.cUnsafe.C) (by rfl) T.cUnsafe.g rfl) (.own _))) (pdw_or1 (pdt_tru (pd_isP kx (by rfl) T.m_isinstance (pd_var (pv 0)) (pe_glob (v := .ref T.cBadText.C) (by rfl) T.cBadText.g rfl) (.own _)))))))
        (pds_one (pds_ret (pd_tup (pda_cons pd_str (pda_cons pd_non pda_nil)))))
        pds_nil)
      (pds_cons (pds_if (PDW.t (pdw_and (pdt_tru (pd_isP kx (by rfl) T.m_isinstance (pd_var (pv 0)) (pe_glob (v := .ref T.cWrongKind.C) (by rfl) T.cWrongKind.g rfl) (.own _))) (pdw_and1 (pdt_not (pdt_tru (pd_isP kx (by rfl) T.m_isinstance (pd_var (pv 0)) (pe_glob (v := .ref T.cOutOfBounds.C) (by rfl) T.cOutOfBounds.g rfl) (.own _)))))))
        (pds_one (pds_ret (pd_tup (pda_cons pd_str (pda_cons (pd_xg kx (pd_var (pv 0))) pda_nil)))))
        pds_nil)
      (pds_cons (pds_if (PDW.t (pdw_and (pdt_tru (pd_isP kx (by rfl) T.m_isinstance (pd_var (pv 0)) (pe_glob (v := .ref T.cOutOfBounds.C) (by rfl) T.cOutOfBounds.g rfl) (.own _))) (pdw_and1 (pdt_not (pdt_tru (pd_isP kx (by rfl) T.m_isinstance (pd_var (pv 0)) (pe_glob (v := .ref T.cWrongKind.C) (by rfl) T.cWrongKind.g rfl) (.own _)))))))
        (pds_one (pds_ret (pd_tup (pda_cons pd_str (pda_cons (pd_xg kx (pd_var (pv 0))) pda_nil)))))
        pds_nil)
      (pds_one (pds_ret (pd_tup (pda_cons pd_str (pda_cons pd_non pda_nil))))))))), fun Q h => ?_⟩
  obtain ⟨s, ⟨rfl, h⟩ | ⟨rfl, h⟩⟩ := h
  · dsimp only [L2H.cxH, cxOf, Cx.nox]
    simp only [↓dIsP_var (x := wkX T s) T.cWrongKind.x T.kWrongKind_WrongKind, ↓dIsP_var (x := wkX T s) T.cWrongKind.x T.kWrongKind_ValueError, ↓dIsP_var (x := wkX T s) T.cWrongKind.x T.kWrongKind_OutOfBounds, ↓dIsP_var (x := wkX T s) T.cWrongKind.x T.kWrongKind_RepeatedName, ↓dIsP_var (x := wkX T s) T.cWrongKind.x T.kWrongKind_UnknownName, ↓dIsP_var (x := wkX T s) T.cWrongKind.x T.kWrongKind_UnfitError, ↓dIsP_var (x := wkX T s) T.cWrongKind.x T.kWrongKind_Unsafe, ↓dIsP_var (x := wkX T s) T.cWrongKind.x T.kWrongKind_BadText, ↓reduceIte, ↓startD, ↓List.map_cons, ↓List.map_nil, ↓List.length_cons, ↓List.length_nil, ↓List.cons_append, ↓List.nil_append, ↓List.replicate_succ, ↓List.replicate_zero, ↓List.getElem?_cons_zero, ↓List.getElem?_cons_succ, ↓List.set_cons_zero, ↓List.set_cons_succ, ↓dVar, ↓rdS, ↓dC, ↓dNew, ↓dOp, ↓onB, ↓qB, ↓dChain, ↓qAnd, ↓qOr, ↓qNot, ↓qTru, ↓truD, ↓dIf, ↓dAnd, ↓dOr, ↓dNot, ↓dUn, ↓ddNeg, ↓lNil, ↓lCons, ↓dTup, ↓nLst, ↓ddI, ↓ddI0, ↓ddAdd, ↓isNonD, ↓isBlD, ↓ddIsN, ↓ddIsB, ↓ddIx_t0, ↓ddIx_t1, ↓ddIx_t2, ↓ddIx_t3, ↓ddIx_l0, ↓ddIx_l1, ↓ddIx_l2, ↓dCB, ↓ddLen, ↓ddInt1, ↓ddAbs, ↓ddMM, ↓ddTuple, ↓nCB, ↓nnList, ↓ddIsi, ↓dCall, ↓sSkip, ↓sSeq, ↓sBreak, ↓sCont, ↓sExpr, ↓sRet, ↓sRetN, ↓sIf, ↓sNever, ↓gdName, ↓gdNil, ↓gdCons, ↓gdTup, ↓sAsg, ↓sSetN, ↓sPar, ↓sRaise, ↓sFrz, ↓owS, ↓sApp, ↓sIns, ↓dLenO, ↓dIxO, ↓sTry, ↓sFor, ↓iL, ↓iT, ↓onL, ↓onT, ↓iR1, ↓iR2, ↓nComp, ↓qYes, ↓ddEq_ii, ↓ddEq_ss, ↓ddEq_bb, ↓Bool.false_bne, ↓Bool.true_bne, ↓List.append_nil, ↓true_and, ↓and_true, ↓if_true, ↓if_false, ↓Bool.not_true, ↓Bool.not_false, ↓Bool.true_eq_false, ↓Bool.false_eq_true, ↓ite_true, ↓ite_false, ↓id_eq, ↓plain_non, ↓isIn_non_int, ↓isIn_non_str, ↓isIn_non_bool, ↓isIn_non_list, ↓isIn_non_tuple, ↓isIn_non_dict, ↓plain_bl, ↓isIn_bl_int, ↓isIn_bl_str, ↓isIn_bl_bool, ↓isIn_bl_list, ↓isIn_bl_tuple, ↓isIn_bl_dict, ↓plain_int, ↓isIn_int_int, ↓isIn_int_str, ↓isIn_int_bool, ↓isIn_int_list, ↓isIn_int_tuple, ↓isIn_int_dict, ↓plain_str, ↓isIn_str_int, ↓isIn_str_str, ↓isIn_str_bool, ↓isIn_str_list, ↓isIn_str_tuple, ↓isIn_str_dict, ↓plain_tup, ↓isIn_tup_int, ↓isIn_tup_str, ↓isIn_tup_bool, ↓isIn_tup_list, ↓isIn_tup_tuple, ↓isIn_tup_dict, ↓plain_lst, ↓isIn_lst_int, ↓isIn_lst_str, ↓isIn_lst_bool, ↓isIn_lst_list, ↓isIn_lst_tuple, ↓isIn_lst_dict, ↓sl0, ↓sl1, ↓sl2, ↓sl3, ↓sl4, ↓decide_true, ↓decide_false, ↓ddIsi2, ↓Bool.or_true, ↓Bool.or_false, ↓Bool.true_or]
    rw [dXg_var T.cWrongKind.x (T.zWrongKind.nf _ (by simp)) (d := .str s) (by simp [wkX])]
    exact h
  · dsimp only [L2H.cxH, cxOf, Cx.nox]
    simp only [↓dIsP_var (x := obX T s) T.cOutOfBounds.x T.kOutOfBounds_WrongKind, ↓dIsP_var (x := obX T s) T.cOutOfBounds.x T.kOutOfBounds_ValueError, ↓dIsP_var (x := obX T s) T.cOutOfBounds.x T.kOutOfBounds_OutOfBounds, ↓dIsP_var (x := obX T s) T.cOutOfBounds.x T.kOutOfBounds_RepeatedName, ↓dIsP_var (x := obX T s) T.cOutOfBounds.x T.kOutOfBounds_UnknownName, ↓dIsP_var (x := obX T s) T.cOutOfBounds.x T.kOutOfBounds_UnfitError, ↓dIsP_var (x := obX T s) T.cOutOfBounds.x T.kOutOfBounds_Unsafe, ↓dIsP_var (x := obX T s) T.cOutOfBounds.x T.kOutOfBounds_BadText, ↓reduceIte, ↓startD, ↓List.map_cons, ↓List.map_nil, ↓List.length_cons, ↓List.length_nil, ↓List.cons_append, ↓List.nil_append, ↓List.replicate_succ, ↓List.replicate_zero, ↓List.getElem?_cons_zero, ↓List.getElem?_cons_succ, ↓List.set_cons_zero, ↓List.set_cons_succ, ↓dVar, ↓rdS, ↓dC, ↓dNew, ↓dOp, ↓onB, ↓qB, ↓dChain, ↓qAnd, ↓qOr, ↓qNot, ↓qTru, ↓truD, ↓dIf, ↓dAnd, ↓dOr, ↓dNot, ↓dUn, ↓ddNeg, ↓lNil, ↓lCons, ↓dTup, ↓nLst, ↓ddI, ↓ddI0, ↓ddAdd, ↓isNonD, ↓isBlD, ↓ddIsN, ↓ddIsB, ↓ddIx_t0, ↓ddIx_t1, ↓ddIx_t2, ↓ddIx_t3, ↓ddIx_l0, ↓ddIx_l1, ↓ddIx_l2, ↓dCB, ↓ddLen, ↓ddInt1, ↓ddAbs, ↓ddMM, ↓ddTuple, ↓nCB, ↓nnList, ↓ddIsi, ↓dCall, ↓sSkip, ↓sSeq, ↓sBreak, ↓sCont, ↓sExpr, ↓sRet, ↓sRetN, ↓sIf, ↓sNever, ↓gdName, ↓gdNil, ↓gdCons, ↓gdTup, ↓sAsg, ↓sSetN, ↓sPar, ↓sRaise, ↓sFrz, ↓owS, ↓sApp, ↓sIns, ↓dLenO, ↓dIxO, ↓sTry, ↓sFor, ↓iL, ↓iT, ↓onL, ↓onT, ↓iR1, ↓iR2, ↓nComp, ↓qYes, ↓ddEq_ii, ↓ddEq_ss, ↓ddEq_bb, ↓Bool.false_bne, ↓Bool.true_bne, ↓List.append_nil, ↓true_and, ↓and_true, ↓if_true, ↓if_false, ↓Bool.not_true, ↓Bool.not_false, ↓Bool.true_eq_false, ↓Bool.false_eq_true, ↓ite_true, ↓ite_false, ↓id_eq, ↓plain_non, ↓isIn_non_int, ↓isIn_non_str, ↓isIn_non_bool, ↓isIn_non_list, ↓isIn_non_tuple, ↓isIn_non_dict, ↓plain_bl, ↓isIn_bl_int, ↓isIn_bl_str, ↓isIn_bl_bool, ↓isIn_bl_list, ↓isIn_bl_tuple, ↓isIn_bl_dict, ↓plain_int, ↓isIn_int_int, ↓isIn_int_str, ↓isIn_int_bool, ↓isIn_int_list, ↓isIn_int_tuple, ↓isIn_int_dict, ↓plain_str, ↓isIn_str_int, ↓isIn_str_str, ↓isIn_str_bool, ↓isIn_str_list, ↓isIn_str_tuple, ↓isIn_str_dict, ↓plain_tup, ↓isIn_tup_int, ↓isIn_tup_str, ↓isIn_tup_bool, ↓isIn_tup_list, ↓isIn_tup_tuple, ↓isIn_tup_dict, ↓plain_lst, ↓isIn_lst_int, ↓isIn_lst_str, ↓isIn_lst_bool, ↓isIn_lst_list, ↓isIn_lst_tuple, ↓isIn_lst_dict, ↓sl0, ↓sl1, ↓sl2, ↓sl3, ↓sl4, ↓decide_true, ↓decide_false, ↓ddIsi2, ↓Bool.or_true, ↓Bool.or_false, ↓Bool.true_or]
    rw [dXg_var T.cOutOfBounds.x (T.zOutOfBounds.nf _ (by simp)) (d := .str s) (by simp [obX])]
    exact h
theorem ok_lcall (T : Txt K mg) : FnOk P w K mg base (L2N.CX P w) 9 T.dcall.f T.dcall.fd P_call (spD K 2 (m_lcall T)) := by
  have G_failed : FnE P w K mg base 1 T.dfailed.f T.dfailed.fd P_failed (fun q => spXD K (m_failed T) q.1 q.2.cls q.2.dict) := ok_failed T
  have G_chain_reach : FnOk P w K mg base (L2N.CX P w) 8 T.dchain_reach.f T.dchain_reach.fd P_chain_reach (spD K 2 (m_chain T)) := ok_chain_reach T
  refine T.dcall.okD sc_call fun cdv A outer s H E so A0 hr tk hp => ⟨_, (pds_one (pds_tryE (i := 2) rfl rfl sc_call.nd rfl rfl ⟨rfl, by decide, .inl T.cFrameError.g⟩ (fun W pn xe tk hp =>
        (pds_one (pds_ret (pd_tup (pda_cons pd_str (pda_cons (pd_call G_chain_reach (hr.mono (by omega)) (by rfl) T.dchain_reach.g T.dchain_reach.F.kp T.dchain_reach.b (fun σ => L2N.passAt tk σ) (pda_cons (pd_var (pv 0)) (pda_cons (pd_var (pv 1)) pda_nil))) pda_nil))))))
        G_failed (hr.mono (by omega)) rfl T.dfailed.g T.dfailed.F.kp T.dfailed.b (fun _ _ => pv 2))), fun ds Q E hl h => ?_⟩
  unfold m_lcall at h
  split at h
  · walk_at "wk"
    exact ⟨by decide, h⟩
  · exact h.elim
end
/-! ### what a call tells of good and of bad bars -/
theorem ok_bad {l : List D} {d : D} (h : d ∈ l) (k : isPos d = false) : okB (.lst l) = false := by
  show l.all isPos = false
  rw [List.all_eq_false]
  exact ⟨d, h, by rw [k]; decide⟩
section
variable {K : PySem.W.Frag} {mg : Str → Option Value} (T : Txt K mg)
theorem call_good {l : List Rat} {g : Rat} {Q : D → Prop} {E : XD → Prop} (h : ChSz l g) (k : Q (tld (reachW l g))) : m_lcall T [.lst (l.map rq), rq g] Q E := tell_chain T (Q := fun d => Q (tld d)) (E := Wk T Q) h k
theorem call_many {l : List Rat} {g : Rat} {Q : D → Prop} {E : XD → Prop} (h : ∀ x ∈ l, 0 < x) (n : l.length ≤ 1000) (m : l.length = 0 ∨ 3 < l.length) (g0 : 0 ≤ g) (k : Q (obD "squares")) : m_lcall T [.lst (l.map rq), rq g] Q E := by
  refine ⟨⟨rfl, fun l' e => ?_⟩, no_is (ok_bars h), fun _ => ⟨pl_rq g, no_is (ok_gap g0), fun _ l2 g2 e1 e2 => ?_⟩⟩
  · injection e with e
    subst e
    refine ⟨by rw [List.length_map]; exact n, fun e he => ?_⟩
    obtain ⟨x, _, rfl⟩ := List.mem_map.mp he
    exact pl_rq x
  · injection e1 with e1
    have := map_rq_inj e1
    subst this
    exact ⟨fun _ => ob_ok T k, fun z => absurd m (by omega)⟩
theorem call_far {l : List Rat} {d : D} {Q : D → Prop} {E : XD → Prop} (h : ∀ x ∈ l, 0 < x) (n : l.length ≤ 1000) (p : Pl d) (b : okG d = false) (k : Q (wkD "distance")) : m_lcall T [.lst (l.map rq), d] Q E := by
  refine ⟨⟨rfl, fun l' e => ?_⟩, no_is (ok_bars h), fun _ => ⟨p, fun _ => wk_ok T k, yes_is b⟩⟩
  injection e with e
  subst e
  refine ⟨by rw [List.length_map]; exact n, fun e he => ?_⟩
  obtain ⟨x, _, rfl⟩ := List.mem_map.mp he
  exact pl_rq x
theorem call_bent {s d : D} {Q : D → Prop} {E : XD → Prop} (p : PlL s) (b : okB s = false) (k : Q (wkD "squares")) : m_lcall T [s, d] Q E := ⟨p, fun _ => wk_ok T k, yes_is b⟩
end
end My
set_option exponentiation.threshold 100000
namespace My
open PySem PySem.Spec PyProof.Rows L2
local macro_rules | `(tactic| walk_at "dl") => `(tactic| simp only [startD, List.map_cons, List.map_nil, List.length_cons, List.length_nil, List.cons_append, List.nil_append, List.replicate_succ, List.replicate_zero, List.getElem?_cons_zero, List.getElem?_cons_succ, List.set_cons_zero, List.set_cons_succ,
  dVar, rdS, dC, dNew, dOp, onB, qB, dChain, qAnd, qOr, qNot, qTru, truD, dIf, dAnd, dOr, dNot, dUn, ddNeg, lNil, lCons, dTup, nLst, ddI, ddI0, ddAdd, isNonD, isBlD, ddIsN, ddIsB, ddIx_t0, ddIx_t1, ddIx_t2, ddIx_t3, ddIx_l0, ddIx_l1, ddIx_l2, dCB, ddLen, ddInt1, ddAbs, ddMM, ddTuple, nCB, nnList, ddIsi, dCall,
  sSkip, sSeq, sBreak, sCont, sExpr, sRet, sRetN, sIf, sNever, gdName, gdNil, gdCons, gdTup, sAsg, sSetN, sPar, sRaise, sFrz, owS, sApp, sIns, dLenO, dIxO, sTry, sFor, iL, iT, onL, onT, iR1, iR2, nComp, qYes,
  ddEq_ii, ddEq_ss, ddEq_bb, Bool.false_bne, Bool.true_bne, List.append_nil, true_and, and_true, if_true, if_false, Bool.not_true, Bool.not_false, Bool.true_eq_false, Bool.false_eq_true, ite_true, ite_false, id_eq])

local macro_rules | `(tactic| walk_at "is") => `(tactic| simp only [plain_non, isIn_non_int, isIn_non_str, isIn_non_bool, isIn_non_list, isIn_non_tuple, isIn_non_dict, plain_bl, isIn_bl_int, isIn_bl_str, isIn_bl_bool, isIn_bl_list, isIn_bl_tuple, isIn_bl_dict, plain_int, isIn_int_int, isIn_int_str, isIn_int_bool, isIn_int_list, isIn_int_tuple, isIn_int_dict, plain_str, isIn_str_int, isIn_str_str, isIn_str_bool, isIn_str_list, isIn_str_tuple, isIn_str_dict, plain_tup, isIn_tup_int, isIn_tup_str, isIn_tup_bool, isIn_tup_list, isIn_tup_tuple, isIn_tup_dict, plain_lst, isIn_lst_int, isIn_lst_str, isIn_lst_bool, isIn_lst_list, isIn_lst_tuple, isIn_lst_dict, sl0, sl1, sl2, sl3, sl4, decide_true, decide_false, ddIsi, ddIsi2, true_and, if_true, if_false, Bool.false_eq_true, Bool.not_true, Bool.not_false, Bool.or_true, Bool.or_false, Bool.true_or, and_true])
local macro_rules | `(tactic| walk_at "wk") => `(tactic| ((try walk_at "dl"); (try walk_at "is"); (try walk_at "dl")))

def m_refusals : DF := fun ds Q _ => ∃ l g, ds = [.sto, .lst (l.map rq), rq g] ∧ ChSz l g ∧ Q (.bl true)
theorem notr_pos {d : D} (h : NotR d) : isPos d = false := by
  unfold isPos
  rw [h.2, Bool.false_and]
theorem notr_gap {d : D} (h : NotR d) : okG d = false := by
  unfold okG
  rw [h.2, Bool.false_and]
def BadB (d : D) : Prop := Pl d ∧ isPos d = false
def BadG (d : D) : Prop := Pl d ∧ okG d = false
theorem pl_of2 {d : D} (h : plB d = true) : Pl d := pl_of h
theorem notL_pl {d : D} (h : plainD d = true) (n : ∀ l, d ≠ .lst l) : PlL d := ⟨h, fun l e => absurd e (n l)⟩
theorem wd_told {d : D} (h : Wd d) : TreeD 4 (tld d) := by cases h <;> simp [TreeD, tld]
abbrev s_refusals : Stmt := topS 85
abbrev N_refusals : List Str := ["store", "bars", "gap", "bad", "low", "many", "listed", "due", "bent", "strange", "one", "far", "k"]
abbrev P_refusals : List Str := ["store", "bars", "gap"]
theorem sc_refusals : FnScope N_refusals P_refusals (defScope s_refusals) := ⟨rfl, rfl, rfl, by decide +kernel, rfl, by decide +kernel, by decide +kernel⟩

abbrev rF (l : List Rat) (g : Rat) (bad low many listed due bent st one far k : Sl) : DEnv := [.fr .sto, .fr (.lst (l.map rq)), .fr (rq g), bad, low, many, listed, due, bent, st, one, far, k]
section
variable {P : Program} {w : World} {K : PySem.W.Frag} {mg : Str → Option Value} {base : Heap}
theorem ok_refusals (T : Txt K mg) : FnOk P w K mg base (L2N.CX P w) 178 T.drefusals.f T.drefusals.fd P_refusals (spD K 3 m_refusals) := by
  have G_take : FnOk P w K mg base (L2N.CX P w) 171 T.dtake.f T.dtake.fd P_take (spD K 2 m_take) := ok_takeD T
  have G_edge : FnOk P w K mg base (L2N.CX P w) 172 T.dedge.f T.dedge.fd P_edge (spD K 2 m_take) := ok_edgeD T
  have G_pick : FnOk P w K mg base (L2N.CX P w) 173 T.dpick.f T.dpick.fd P_pick (spD K 2 m_pick) := ok_pick T
  have G_not_ratio : FnOk P w K mg base (L2N.CX P w) 174 T.dnot_ratio.f T.dnot_ratio.fd P_not_ratio (spD K 2 m_not_ratio) := ok_not_ratio T
  have G_positive : FnOk P w K mg base (L2N.CX P w) 174 T.dpositive.f T.dpositive.fd P_positive (spD K 1 m_positive) := ok_positive T
  have G_due : FnOk P w K mg base (L2N.CX P w) 4 T.ddue.f T.ddue.fd P_due (spD K 2 m_due) := ok_due T
  have G_like : FnOk P w K mg base (L2N.CX P w) 4 T.dlike.f T.dlike.fd P_like (spD K 2 (m_like 4)) := ok_like T 4
  have G_call : FnOk P w K mg base (L2N.CX P w) 9 T.dcall.f T.dcall.fd P_call (spD K 2 (m_lcall T)) := ok_lcall T
  refine T.drefusals.okD sc_refusals fun cdv A outer s H E so A0 hr tk hp => ⟨_, (pds_cons (pds_set (i := 3) sc_refusals.nd rfl (by first | exact .inl rfl | exact .inr rfl) (pd_ix ix_seq ol_ix (pd_new (pdn_lst (pda_cons (pd_tup (pda_cons pd_int (pda_cons pd_int pda_nil))) (pda_cons (pd_tup (pda_cons (pd_neg pd_int) (pda_cons pd_int pda_nil))) (pda_cons (pd_tup (pda_cons (pd_neg pd_int) (pda_cons pd_int pda_nil))) (pda_cons (pd_call G_not_ratio (hr.mono (by omega)) (by rfl) T.dnot_ratio.g T.dnot_ratio.F.kp T.dnot_ratio.b (fun σ => L2N.passAt tk σ) (pda_cons (pd_var (pv 0)) (pda_cons pd_bl pda_nil))) pda_nil)))))) (pd_call G_take (hr.mono (by omega)) (by rfl) T.dtake.g T.dtake.F.kp T.dtake.b (fun σ => L2N.passAt tk σ) (pda_cons (pd_var (pv 0)) (pda_cons pd_int pda_nil))) (fun _ _ => rfl)))
      (pds_cons (pds_set (i := 4) sc_refusals.nd rfl (by first | exact .inl rfl | exact .inr rfl) (pd_ix ix_seq ol_ix (pd_new (pdn_lst (pda_cons (pd_tup (pda_cons (pd_neg pd_int) (pda_cons pd_int pda_nil))) (pda_cons (pd_tup (pda_cons (pd_neg pd_int) (pda_cons pd_int pda_nil))) (pda_cons (pd_call G_not_ratio (hr.mono (by omega)) (by rfl) T.dnot_ratio.g T.dnot_ratio.F.kp T.dnot_ratio.b (fun σ => L2N.passAt tk σ) (pda_cons (pd_var (pv 0)) (pda_cons pd_bl pda_nil))) pda_nil))))) (pd_call G_take (hr.mono (by omega)) (by rfl) T.dtake.g T.dtake.F.kp T.dtake.b (fun σ => L2N.passAt tk σ) (pda_cons (pd_var (pv 0)) (pda_cons pd_int pda_nil))) (fun _ _ => rfl)))
      (pds_cons (pds_set (i := 5) sc_refusals.nd rfl (by first | exact .inl rfl | exact .inr rfl) (pd_ix ix_seq ol_ix (pd_new (pdn_lst (pda_cons pd_int (pda_cons pd_int (pda_cons pd_int (pda_cons pd_int (pda_cons (pd_callB oo_len cl_len (by rfl) T.m_len bt_len (pda_cons (pd_var (pv 1)) pda_nil)) pda_nil))))))) (pd_call G_take (hr.mono (by omega)) (by rfl) T.dtake.g T.dtake.F.kp T.dtake.b (fun σ => L2N.passAt tk σ) (pda_cons (pd_var (pv 0)) (pda_cons pd_int pda_nil))) (fun _ _ => rfl)))
      (pds_cons (pds_setLc (i := 6) (own := [("k", 12)]) rfl sc_refusals.nd rfl rfl (sw_true rfl rfl rfl (by decide +kernel)) (pdi_range1 (by rfl) T.m_range (pda_cons (pd_var (pv 5)) pda_nil)) (blkOk_by (own := [("k", 12)]) (N := N_refusals) (sc := defScope s_refusals) (by decide +kernel)) (fun _ _ _ _ _ => (pdgw_name (pg_name (i := 12) sc_refusals.nd rfl (by first | exact .inl rfl | exact .inr rfl)) (by simp))) (fun _ _ _ _ _ => pdts_nil) (fun _ _ _ _ _ => (pd_call G_positive (hr.mono (by omega)) (by rfl) T.dpositive.g T.dpositive.F.kp T.dpositive.b (fun σ => passN0 σ) (pda_cons (pd_var (pv 0)) pda_nil))))
      (pds_frz 6 (pds_cons (pds_set (i := 7) sc_refusals.nd rfl (by first | exact .inl rfl | exact .inr rfl) (pd_tup (pda_cons pd_str (pda_cons pd_str pda_nil))))
      (pds_cons (pds_if (pdt_cmp (oo_eq hr.units) ol_eq (pd_var (pv 5)) (pd_callB oo_len cl_len (by rfl) T.m_len bt_len (pda_cons (pd_var (pv 1)) pda_nil)) (nomark _))
        (pds_one (pds_set (i := 7) sc_refusals.nd rfl (by first | exact .inl rfl | exact .inr rfl) (pd_tup (pda_cons pd_str (pda_cons (pd_call G_due (hr.mono (by omega)) (by rfl) T.ddue.g T.ddue.F.kp T.ddue.b (fun σ => L2N.passAt tk σ) (pda_cons (pd_var (pv 6)) (pda_cons (pd_var (pv 2)) pda_nil))) pda_nil)))))
        pds_nil)
      (pds_cons (pds_if (pdt_not (pdt_tru (pd_call G_like (hr.mono (by omega)) (by rfl) T.dlike.g T.dlike.F.kp T.dlike.b (fun σ => L2N.passAt tk σ) (pda_cons (pd_call G_call (hr.mono (by omega)) (by rfl) T.dcall.g T.dcall.F.kp T.dcall.b (fun σ => L2N.passAt tk σ) (pda_cons (pd_var (pv 6)) (pda_cons (pd_var (pv 2)) pda_nil))) (pda_cons (pd_var (pv 7)) pda_nil)))))
        (pds_one (pds_ret pd_bl))
        pds_nil)
      (pds_cons (pds_if (pdt_not (pdt_tru (pd_call G_like (hr.mono (by omega)) (by rfl) T.dlike.g T.dlike.F.kp T.dlike.b (fun σ => L2N.passAt tk σ) (pda_cons (pd_call G_call (hr.mono (by omega)) (by rfl) T.dcall.g T.dcall.F.kp T.dcall.b (fun σ => L2N.passAt tk σ) (pda_cons (pd_var (pv 6)) (pda_cons (pd_var (pv 4)) pda_nil))) (pda_cons (pd_tup (pda_cons pd_str (pda_cons pd_str pda_nil))) pda_nil)))))
        (pds_one (pds_ret pd_bl))
        pds_nil)
      (pds_cons (pds_setN (i := 8) sc_refusals.nd rfl (by first | exact .inl rfl | exact .inr rfl) (pdn_list (by rfl) T.m_list (pda_cons (pd_var (pv 6)) pda_nil)))
      (pds_cons (pds_ins (pv 8) (pda_cons (pd_call G_edge (hr.mono (by omega)) (by rfl) T.dedge.g T.dedge.F.kp T.dedge.b (fun σ => L2N.passAt tk σ) (pda_cons (pd_var (pv 0)) (pda_cons (pd_op oo_add ol_add (pd_lenO (by rfl) T.m_len (pv 8)) pd_int) pda_nil))) (pda_cons (pd_var (pv 3)) pda_nil)) rfl rfl rfl rfl rfl rfl)
      (pds_cons (pds_set (i := 9) sc_refusals.nd rfl (by first | exact .inl rfl | exact .inr rfl) (pd_call G_pick (hr.mono (by omega)) (by rfl) T.dpick.g T.dpick.F.kp T.dpick.b (fun σ => L2N.passAt tk σ) (pda_cons (pd_var (pv 0)) (pda_cons (pd_new (pdn_lst (pda_cons (pd_callTy oo_tuple cl_tuple (by rfl) T.m_tuple bt_tuple (pda_cons (pd_var (pv 1)) pda_nil)) (pda_cons pd_non (pda_cons (pd_ix ix_seq ol_ix (pd_var (pv 1)) pd_int (fun _ _ => rfl)) (pda_cons pd_dnew (pda_cons pd_str (pda_cons pd_bl (pda_cons pd_int pda_nil))))))))) pda_nil))))
      (pds_frz 8 (pds_cons (pds_for hp rfl (pdi_list (pd_new (pdn_lst (pda_cons (pd_var (pv 8)) (pda_cons (pd_var (pv 9)) pda_nil))))) (pdg_name (pg_name (i := 10) sc_refusals.nd rfl (by first | exact .inl rfl | exact .inr rfl)))
        (pds_one (pds_for hp rfl (pdi_list (pd_new (pdn_lst (pda_cons (pd_var (pv 2)) (pda_cons (pd_var (pv 4)) pda_nil))))) (pdg_name (pg_name (i := 11) sc_refusals.nd rfl (by first | exact .inl rfl | exact .inr rfl)))
          (pds_one (pds_if (pdt_not (pdt_tru (pd_call G_like (hr.mono (by omega)) (by rfl) T.dlike.g T.dlike.F.kp T.dlike.b (fun σ => L2N.passAt tk σ) (pda_cons (pd_call G_call (hr.mono (by omega)) (by rfl) T.dcall.g T.dcall.F.kp T.dcall.b (fun σ => L2N.passAt tk σ) (pda_cons (pd_var (pv 10)) (pda_cons (pd_var (pv 11)) pda_nil))) (pda_cons (pd_tup (pda_cons pd_str (pda_cons pd_str pda_nil))) pda_nil)))))
            (pds_one (pds_ret pd_bl))
            pds_nil)))))
      (pds_one (pds_ret pd_bl)))))))))))))))), fun ds Q E hl h => ?_⟩
  obtain ⟨l, g, rfl, cs, h⟩ := h
  have sl : ∀ n, n ≤ 12 → n ≤ sizeLine := fun n h => by rw [sizeLine_eq]; omega
  have hn := cs.n
  show sSeq _ _ _ (rF l g .no .no .no .no .no .no .no .no .no .no)
  refine seq_mid (P := fun ρ => ∃ bad, BadB bad ∧ ρ = rF l g (.fr bad) .no .no .no .no .no .no .no .no .no) (fun R hR => ?_) ?_
  · simp only [rF] at hR ⊢
    walk_at "wk"
    intro d hd
    refine ⟨by decide, fun i i0 i1 => ddIx_any i0 (by show i < 4; omega) fun x hx => hR _ ⟨x, ?_, rfl⟩⟩
    simp only [List.mem_cons, List.not_mem_nil, or_false] at hx
    rcases hx with rfl | rfl | rfl | rfl
    · exact ⟨pl_of (by decide +kernel), by decide +kernel⟩
    · exact ⟨pl_of (by decide +kernel), by decide +kernel⟩
    · exact ⟨pl_of (by decide +kernel), by decide +kernel⟩
    · exact ⟨hd.pl, notr_pos hd⟩
  rintro _ ⟨bad, hb, rfl⟩
  refine seq_mid (P := fun ρ => ∃ low, BadG low ∧ ρ = rF l g (.fr bad) (.fr low) .no .no .no .no .no .no .no .no) (fun R hR => ?_) ?_
  · simp only [rF] at hR ⊢
    walk_at "wk"
    intro d hd
    refine ⟨by decide, fun i i0 i1 => ddIx_any i0 (by show i < 3; omega) fun x hx => hR _ ⟨x, ?_, rfl⟩⟩
    simp only [List.mem_cons, List.not_mem_nil, or_false] at hx
    rcases hx with rfl | rfl | rfl
    · exact ⟨pl_of (by decide +kernel), by decide +kernel⟩
    · exact ⟨pl_of (by decide +kernel), by decide +kernel⟩
    · exact ⟨hd.pl, notr_gap hd⟩
  rintro _ ⟨low, hw, rfl⟩
  refine seq_mid (P := fun ρ => ∃ m : Nat, (m = 0 ∨ m = 4 ∨ m = 5 ∨ m = l.length) ∧ ρ = rF l g (.fr bad) (.fr low) (.fr (.int (m : Nat))) .no .no .no .no .no .no .no) (fun R hR => ?_) ?_
  · simp only [rF] at hR ⊢
    walk_at "wk"
    refine ⟨sl 5 (by decide), by decide, fun i i0 i1 => ddIx_any i0 (by show i < 5; omega) fun x hx => ?_⟩
    simp only [List.mem_cons, List.not_mem_nil, or_false, List.length_map] at hx
    rcases hx with rfl | rfl | rfl | rfl | rfl
    · exact hR _ ⟨0, .inl rfl, rfl⟩
    · exact hR _ ⟨4, .inr (.inl rfl), rfl⟩
    · exact hR _ ⟨4, .inr (.inl rfl), rfl⟩
    · exact hR _ ⟨5, .inr (.inr (.inl rfl)), rfl⟩
    · exact hR _ ⟨l.length, .inr (.inr (.inr rfl)), rfl⟩
  rintro _ ⟨m, hm, rfl⟩
  refine seq_mid (P := fun ρ => ∃ r : List Rat, (r.length = m ∧ ∀ x ∈ r, Sz 60 60 x ∧ 0 < x) ∧ ρ = rF l g (.fr bad) (.fr low) (.fr (.int (m : Nat))) (.ow (r.map rq)) .no .no .no .no .no .no) (fun R hR => ?_) ?_
  · simp only [rF] at hR ⊢
    walk_at "wk"
    refine ⟨by omega, by omega, ?_⟩
    refine compL_any (fun d => ∃ q, d = rq q ∧ (Sz 60 60 q ∧ 0 < q)) _ _ (fun d hd R2 k => ?_) (by rw [rangeD_len, sizeLine_eq]; simp; omega) (fun l2 hl2 pl => ?_)
    · simp only [wipeD]
      walk_at "wk"
      exact fun q hq q0 => k _ ⟨q, rfl, (hq.sz (a := 2) (b := 1) (by decide)).up (by decide) (by decide), q0⟩
    · obtain ⟨r2, rfl, er, pr⟩ := rats_of pl
      rw [hl2, rangeD_len] at er
      exact hR _ ⟨r2, ⟨by omega, pr⟩, rfl⟩
  rintro _ ⟨r, ⟨rl, rp⟩, rfl⟩
  refine frz_at (l := r.map rq) rfl ?_
  show sSeq _ _ _ (rF l g (.fr bad) (.fr low) (.fr (.int (m : Nat))) (.fr (.lst (r.map rq))) .no .no .no .no .no .no)
  refine seq_mid (P := fun ρ => ρ = rF l g (.fr bad) (.fr low) (.fr (.int (m : Nat))) (.fr (.lst (r.map rq))) (.fr (obD "squares")) .no .no .no .no .no) (fun R hR => ?_) ?_
  · simp only [rF, obD] at hR ⊢
    walk_at "wk"
    exact hR _ rfl
  rintro _ rfl
  refine seq_mid (P := fun ρ => ∃ due, (TreeD 4 due ∧ ∀ Q' : D → Prop, Q' due → m_lcall T [.lst (r.map rq), rq g] Q' E) ∧ ρ = rF l g (.fr bad) (.fr low) (.fr (.int (m : Nat))) (.fr (.lst (r.map rq))) (.fr due) .no .no .no .no .no) (fun R hR => ?_) ?_
  · simp only [rF] at hR ⊢
    walk_at "wk"
    rw [List.length_map]
    split
    · rename_i c
      rw [decide_eq_true_iff] at c
      have cr : ChSz r g := ⟨by omega, rp, cs.g⟩
      exact ⟨r, g, rfl, cr, hR _ ⟨_, ⟨wd_told (wd_reach cr), fun Q' q => call_good T cr q⟩, rfl⟩⟩
    · rename_i c
      rw [decide_eq_true_iff] at c
      exact hR _ ⟨_, ⟨by simp [TreeD, obD], fun Q' q => call_many T (fun x hx => (rp x hx).2) (by omega) (by omega) cs.g.2 q⟩, rfl⟩
  rintro _ ⟨due, ⟨td, hd⟩, rfl⟩
  refine seq_mid (P := fun ρ => ρ = rF l g (.fr bad) (.fr low) (.fr (.int (m : Nat))) (.fr (.lst (r.map rq))) (.fr due) .no .no .no .no .no) (fun R hR => ?_) ?_
  · simp only [rF] at hR ⊢
    walk_at "wk"
    refine hd _ ⟨_, rfl, td, ?_⟩
    walk_at "wk"
    exact hR _ rfl
  rintro _ rfl
  refine seq_mid (P := fun ρ => ρ = rF l g (.fr bad) (.fr low) (.fr (.int (m : Nat))) (.fr (.lst (r.map rq))) (.fr due) .no .no .no .no .no) (fun R hR => ?_) ?_
  · simp only [rF] at hR ⊢
    walk_at "wk"
    refine call_far T (fun x hx => (rp x hx).2) (by omega) hw.1 hw.2 ⟨_, rfl, by simp [TreeD, wkD], ?_⟩
    walk_at "wk"
    exact hR _ rfl
  rintro _ rfl
  refine seq_mid (P := fun ρ => ρ = rF l g (.fr bad) (.fr low) (.fr (.int (m : Nat))) (.fr (.lst (r.map rq))) (.fr due) (.ow (r.map rq)) .no .no .no .no) (fun R hR => ?_) ?_
  · simp only [rF] at hR ⊢
    walk_at "wk"
    exact hR _ rfl
  rintro _ rfl
  refine seq_mid (P := fun ρ => ∃ b : List D, (b.length ≤ 6 ∧ (∀ x ∈ b, Pl x) ∧ bad ∈ b) ∧ ρ = rF l g (.fr bad) (.fr low) (.fr (.int (m : Nat))) (.fr (.lst (r.map rq))) (.fr due) (.ow b) .no .no .no .no) (fun R hR => ?_) ?_
  · simp only [rF] at hR ⊢
    walk_at "wk"
    rw [List.length_map]
    refine ⟨by unfold BIG; omega, fun j j0 j1 => ?_⟩
    show 0 ≤ j ∧ j < 2 ^ 63 ∧ _
    refine ⟨j0, by omega, by rw [sizeLine_eq]; omega, hR _ ⟨_, ⟨?_, fun x hx => ?_, ?_⟩, rfl⟩⟩
    · rw [List.length_append, List.length_append, List.length_take, List.length_drop, List.length_map, List.length_singleton]
      omega
    · rw [List.mem_append, List.mem_append, List.mem_singleton] at hx
      rcases hx with (hx | rfl) | hx
      · obtain ⟨q, _, rfl⟩ := List.mem_map.mp (List.mem_of_mem_take hx)
        exact pl_rq q
      · exact hb.1
      · obtain ⟨q, _, rfl⟩ := List.mem_map.mp (List.mem_of_mem_drop hx)
        exact pl_rq q
    · simp
  rintro _ ⟨b, ⟨b1, b2, b3⟩, rfl⟩
  refine seq_mid (P := fun ρ => ∃ st, (PlL st ∧ okB st = false) ∧ ρ = rF l g (.fr bad) (.fr low) (.fr (.int (m : Nat))) (.fr (.lst (r.map rq))) (.fr due) (.ow b) (.fr st) .no .no .no) (fun R hR => ?_) ?_
  · simp only [rF] at hR ⊢
    walk_at "wk"
    obtain ⟨q0, lt, rfl⟩ : ∃ q0 lt, l = q0 :: lt := by
      cases l with
      | nil => exact absurd hn.1 (by decide)
      | cons a t => exact ⟨a, t, rfl⟩
    simp only [dDNew]
    show ddIx (.lst (rq q0 :: lt.map rq)) (.int 0) _
    rw [ddIx_l0]
    refine ⟨sl 7 (by decide), by simp, by simp, fun d hd => hR _ ⟨d, ?_, rfl⟩⟩
    simp only [List.mem_cons, List.not_mem_nil, or_false] at hd
    rcases hd with rfl | rfl | rfl | rfl | rfl | rfl | rfl <;> exact ⟨notL_pl rfl (fun _ e => by cases e), rfl⟩
  rintro _ ⟨st, ⟨st1, st2⟩, rfl⟩
  refine frz_at (l := b) rfl ?_
  show sSeq _ _ _ (rF l g (.fr bad) (.fr low) (.fr (.int (m : Nat))) (.fr (.lst (r.map rq))) (.fr due) (.fr (.lst b)) (.fr st) .no .no .no)
  refine seq_mid (P := fun ρ => ∃ x y, ρ = rF l g (.fr bad) (.fr low) (.fr (.int (m : Nat))) (.fr (.lst (r.map rq))) (.fr due) (.fr (.lst b)) (.fr st) x y .no) (fun R hR => ?_) ?_
  · walk_at "wk"
    refine forL_inv (P := fun i ρ => ∃ x y, ρ = rF l g (.fr bad) (.fr low) (.fr (.int (m : Nat))) (.fr (.lst (r.map rq))) (.fr due) (.fr (.lst b)) (.fr st) x y .no) _ _ 0 ?_ ?_ ⟨_, _, rfl⟩
    · rintro i d ρ R2 hi ⟨x, y, rfl⟩ hR2
      have hd : PlL d ∧ okB d = false := by
        match i, hi with
        | 0, hi => cases hi; exact ⟨⟨rfl, fun l' e => by cases e; exact ⟨by omega, b2⟩⟩, ok_bad b3 hb.2⟩
        | 1, hi => cases hi; exact ⟨st1, st2⟩
        | i + 2, hi => cases hi
      have hR2 := fun x y => hR2 _ ⟨x, y, rfl⟩
      simp only [rF] at hR2 ⊢
      walk_at "wk"
      refine forL_inv (P := fun i ρ => ∃ y, ρ = rF l g (.fr bad) (.fr low) (.fr (.int (m : Nat))) (.fr (.lst (r.map rq))) (.fr due) (.fr (.lst b)) (.fr st) (.fr d) y .no) _ _ 0 ?_ ?_ ⟨_, rfl⟩
      · rintro i e ρ R3 hi ⟨y, rfl⟩ hR3
        simp only [rF] at hR3 ⊢
        walk_at "wk"
        refine call_bent T hd.1 hd.2 ⟨_, rfl, by simp [TreeD, wkD], ?_⟩
        walk_at "wk"
        exact hR3 _ ⟨_, rfl⟩
      · rintro ρ ⟨y, rfl⟩
        exact hR2 _ _
    · rintro ρ ⟨x, y, rfl⟩
      exact hR _ ⟨_, _, rfl⟩
  rintro _ ⟨x, y, rfl⟩
  exact h
end
end My
set_option exponentiation.threshold 100000
namespace My
open PySem PySem.Spec PyProof.Rows L2
local macro_rules | `(tactic| walk_at "dl") => `(tactic| simp only [startD, List.map_cons, List.map_nil, List.length_cons, List.length_nil, List.cons_append, List.nil_append, List.replicate_succ, List.replicate_zero, List.getElem?_cons_zero, List.getElem?_cons_succ, List.set_cons_zero, List.set_cons_succ,
  dVar, rdS, dC, dNew, dOp, onB, qB, dChain, qAnd, qOr, qNot, qTru, truD, dIf, dAnd, dOr, dNot, dUn, ddNeg, lNil, lCons, dTup, nLst, ddI, ddI0, ddAdd, isNonD, isBlD, ddIsN, ddIsB, ddIx_t0, ddIx_t1, ddIx_t2, ddIx_t3, ddIx_l0, ddIx_l1, ddIx_l2, dCB, ddLen, ddInt1, ddAbs, ddMM, ddTuple, nCB, nnList, ddIsi, dCall,
  sSkip, sSeq, sBreak, sCont, sExpr, sRet, sRetN, sIf, sNever, gdName, gdNil, gdCons, gdTup, sAsg, sSetN, sPar, sRaise, sFrz, owS, sApp, sIns, dLenO, dIxO, sTry, sFor, iL, iT, onL, onT, iR1, iR2, nComp, qYes,
  ddEq_ii, ddEq_ss, ddEq_bb, Bool.false_bne, Bool.true_bne, List.append_nil, true_and, and_true, if_true, if_false, Bool.not_true, Bool.not_false, Bool.true_eq_false, Bool.false_eq_true, ite_true, ite_false, id_eq])

local macro_rules | `(tactic| walk_at "is") => `(tactic| simp only [plain_non, isIn_non_int, isIn_non_str, isIn_non_bool, isIn_non_list, isIn_non_tuple, isIn_non_dict, plain_bl, isIn_bl_int, isIn_bl_str, isIn_bl_bool, isIn_bl_list, isIn_bl_tuple, isIn_bl_dict, plain_int, isIn_int_int, isIn_int_str, isIn_int_bool, isIn_int_list, isIn_int_tuple, isIn_int_dict, plain_str, isIn_str_int, isIn_str_str, isIn_str_bool, isIn_str_list, isIn_str_tuple, isIn_str_dict, plain_tup, isIn_tup_int, isIn_tup_str, isIn_tup_bool, isIn_tup_list, isIn_tup_tuple, isIn_tup_dict, plain_lst, isIn_lst_int, isIn_lst_str, isIn_lst_bool, isIn_lst_list, isIn_lst_tuple, isIn_lst_dict, sl0, sl1, sl2, sl3, sl4, decide_true, decide_false, ddIsi, ddIsi2, true_and, if_true, if_false, Bool.false_eq_true, Bool.not_true, Bool.not_false, Bool.or_true, Bool.or_false, Bool.true_or, and_true])
local macro_rules | `(tactic| walk_at "wk") => `(tactic| ((try walk_at "dl"); (try walk_at "is"); (try walk_at "dl")))

theorem wd_lf {d : D} (h : Wd d) : lfD d = true := by cases h <;> rfl
abbrev s_law : Stmt := topS 86
abbrev N_law : List Str := ["script", "store", "turn", "drawn", "bars", "gap", "handed"]
abbrev P_law : List Str := ["script"]
theorem sc_law : FnScope N_law P_law (defScope s_law) := ⟨rfl, rfl, rfl, by decide +kernel, rfl, by decide +kernel, by decide +kernel⟩

abbrev lZ (i d b g h : Sl) : DEnv := [.no, .fr .sto, i, d, b, g, h]
section
variable {P : Program} {w : World} {K : PySem.W.Frag} {mg : Str → Option Value} {base : Heap}
theorem ok_law (T : Txt K mg) : FnOk P w K mg base (L2N.CX P w) 179 T.dlaw.f T.dlaw.fd P_law (spLaw K) := by
  have G_store : FnOk P w K mg base CX0 1 T.dstore.f T.dstore.fd P_store (spStoreL K) := ok_storeL T
  have G_drawn : FnOk P w K mg base (L2N.CX P w) 177 T.ddrawn.f T.ddrawn.fd P_drawn (spD K 1 m_ldrawn) := ok_ldrawn T
  have G_take : FnOk P w K mg base (L2N.CX P w) 171 T.dtake.f T.dtake.fd P_take (spD K 2 m_take) := ok_takeD T
  have G_positive : FnOk P w K mg base (L2N.CX P w) 174 T.dpositive.f T.dpositive.fd P_positive (spD K 1 m_positive) := ok_positive T
  have G_right : FnOk P w K mg base (L2N.CX P w) 9 T.dright.f T.dright.fd P_right (spD K 2 m_right) := ok_right T
  have G_orders : FnOk P w K mg base (L2N.CX P w) 173 T.dorders.f T.dorders.fd P_orders (spD K 3 m_orders) := ok_orders T
  have G_meets : FnOk P w K mg base (L2N.CX P w) 177 T.dmeets.f T.dmeets.fd P_meets (spD K 1 m_meets) := ok_meets T
  have G_chain_reach : FnOk P w K mg base (L2N.CX P w) 8 T.dchain_reach.f T.dchain_reach.fd P_chain_reach (spD K 2 (m_chain T)) := ok_chain_reach T
  have G_due : FnOk P w K mg base (L2N.CX P w) 4 T.ddue.f T.ddue.fd P_due (spD K 2 m_due) := ok_due T
  have G_like : FnOk P w K mg base (L2N.CX P w) 3 T.dlike.f T.dlike.fd P_like (spD K 2 (m_like 3)) := ok_like T 3
  have G_refusals : FnOk P w K mg base (L2N.CX P w) 178 T.drefusals.f T.drefusals.fd P_refusals (spD K 3 m_refusals) := ok_refusals T
  refine T.dlaw.okLaw sc_law fun cdv A outer s H E g hr tk hp => ⟨_, (pds_storeL (i := 1) G_store (hr.mono (by omega)) (by rfl) T.dstore.g T.dstore.F.kp T.dstore.b (pv 0) sc_law.nd rfl (by first | exact .inl rfl | exact .inr rfl) (hs1 := rfl) (hsw := rfl) (hf := by first | exact .inl rfl | exact .inr rfl) (h := fun _ => (pds_cons (pds_for hp rfl (pdi_range1 (by rfl) T.m_range (pda_cons pd_int pda_nil)) (pdg_name (pg_name (i := 2) sc_law.nd rfl (by first | exact .inl rfl | exact .inr rfl)))
        (pds_cons (pds_set (i := 3) sc_law.nd rfl (by first | exact .inl rfl | exact .inr rfl) (pd_call G_drawn (hr.mono (by omega)) (by rfl) T.ddrawn.g T.ddrawn.F.kp T.ddrawn.b (fun σ => L2N.passAt tk σ) (pda_cons (pd_var (pv 1)) pda_nil)))
        (pds_cons (pds_set (i := 4) sc_law.nd rfl (by first | exact .inl rfl | exact .inr rfl) (pd_ix ix_seq ol_ix (pd_var (pv 3)) pd_int (fun _ _ => rfl)))
        (pds_cons (pds_set (i := 5) sc_law.nd rfl (by first | exact .inl rfl | exact .inr rfl) (pd_ix ix_seq ol_ix (pd_var (pv 3)) pd_int (fun _ _ => rfl)))
        (pds_cons (pds_if (PDW.t (pdw_or (pdt_not (pdt_tru (pd_call G_right (hr.mono (by omega)) (by rfl) T.dright.g T.dright.F.kp T.dright.b (fun σ => L2N.passAt tk σ) (pda_cons (pd_var (pv 4)) (pda_cons (pd_var (pv 5)) pda_nil))))) (pdw_or (pdt_not (pdt_tru (pd_call G_orders (hr.mono (by omega)) (by rfl) T.dorders.g T.dorders.F.kp T.dorders.b (fun σ => L2N.passAt tk σ) (pda_cons (pd_var (pv 1)) (pda_cons (pd_var (pv 4)) (pda_cons (pd_var (pv 5)) pda_nil)))))) (pdw_or1 (pdt_not (pdt_tru (pd_call G_meets (hr.mono (by omega)) (by rfl) T.dmeets.g T.dmeets.F.kp T.dmeets.b (fun σ => L2N.passAt tk σ) (pda_cons (pd_var (pv 1)) pda_nil))))))))
          (pds_one (pds_ret pd_bl))
          pds_nil)
        (pds_cons (pds_setN (i := 6) sc_law.nd rfl (by first | exact .inl rfl | exact .inr rfl) (pdn_list (by rfl) T.m_list (pda_cons (pd_var (pv 4)) pda_nil)))
        (pds_cons (pds_expr (pd_callO G_chain_reach (hr.mono (by omega)) (by rfl) T.dchain_reach.g T.dchain_reach.F.kp T.dchain_reach.b (fun σ => L2N.passAt tk σ) (pv 6) (pda_cons (pd_var (pv 5)) pda_nil)))
        (pds_cons (pds_setI (pv 6) (pd_call G_positive (hr.mono (by omega)) (by rfl) T.dpositive.g T.dpositive.F.kp T.dpositive.b (fun σ => L2N.passAt tk σ) (pda_cons (pd_var (pv 1)) pda_nil)) (pd_call G_take (hr.mono (by omega)) (by rfl) T.dtake.g T.dtake.F.kp T.dtake.b (fun σ => L2N.passAt tk σ) (pda_cons (pd_var (pv 1)) (pda_cons (pd_lenO (by rfl) T.m_len (pv 6)) pda_nil))))
        (pds_frz 6 (pds_one (pds_if (PDW.t (pdw_or (pdt_not (pdt_tru (pd_call G_like (hr.mono (by omega)) (by rfl) T.dlike.g T.dlike.F.kp T.dlike.b (fun σ => L2N.passAt tk σ) (pda_cons (pd_call G_chain_reach (hr.mono (by omega)) (by rfl) T.dchain_reach.g T.dchain_reach.F.kp T.dchain_reach.b (fun σ => L2N.passAt tk σ) (pda_cons (pd_var (pv 6)) (pda_cons (pd_var (pv 5)) pda_nil))) (pda_cons (pd_call G_due (hr.mono (by omega)) (by rfl) T.ddue.g T.ddue.F.kp T.ddue.b (fun σ => L2N.passAt tk σ) (pda_cons (pd_var (pv 6)) (pda_cons (pd_var (pv 5)) pda_nil))) pda_nil))))) (pdw_or1 (pdt_not (pdt_tru (pd_call G_right (hr.mono (by omega)) (by rfl) T.dright.g T.dright.F.kp T.dright.b (fun σ => L2N.passAt tk σ) (pda_cons (pd_var (pv 4)) (pda_cons (pd_var (pv 5)) pda_nil))))))))
          (pds_one (pds_ret pd_bl))
          pds_nil)))))))))))
      (pds_one (pds_ret (pd_call G_refusals (hr.mono (by omega)) (by rfl) T.drefusals.g T.drefusals.F.kp T.drefusals.b (fun σ => L2N.passAt tk σ) (pda_cons (pd_var (pv 1)) (pda_cons (pd_var (pv 4)) (pda_cons (pd_var (pv 5)) pda_nil))))))))), fun ns hns => ?_⟩
  refine ⟨trivial, (by show 1 < 7; decide), ns, rfl, hns, ?_⟩
  show sSeq _ _ lawEnds (lZ .no .no .no .no .no)
  refine seq_mid (P := fun ρ => ∃ l g x1 x2 x3, ChSz l g ∧ ρ = lZ x1 x2 (.fr (.lst (l.map rq))) (.fr (rq g)) x3) (fun R hR => ?_) ?_
  · simp only [lZ] at hR ⊢
    walk_at "wk"
    refine ⟨by decide, by decide, ?_⟩
    refine forL_inv (P := fun i ρ => (i = 0 ∧ ρ = lZ .no .no .no .no .no) ∨ (0 < i ∧ ∃ l g x1 x2 x3, ChSz l g ∧ ρ = lZ x1 x2 (.fr (.lst (l.map rq))) (.fr (rq g)) x3)) _ _ 0 ?_ ?_ (.inl ⟨rfl, rfl⟩)
    · rintro i d ρ R2 hi hρ hR2
      obtain ⟨x1, x2, x3, x4, x5, rfl⟩ : ∃ x1 x2 x3 x4 x5, ρ = lZ x1 x2 x3 x4 x5 := by
        rcases hρ with ⟨_, rfl⟩ | ⟨_, _, _, _, _, _, _, rfl⟩ <;> exact ⟨_, _, _, _, _, rfl⟩
      clear hρ
      have hR2 : ∀ l g x1 x2 x3, ChSz l g → R2 (lZ x1 x2 (.fr (.lst (l.map rq))) (.fr (rq g)) x3) := fun l g x1 x2 x3 c => hR2 _ (.inr ⟨by omega, l, g, x1, x2, x3, c, rfl⟩)
      show sSeq _ _ _ (lZ (.fr d) x2 x3 x4 x5)
      refine seq_mid (P := fun ρ => ∃ l g, ChSz l g ∧ ρ = lZ (.fr d) (.fr (.lst [.lst (l.map rq), rq g])) x3 x4 x5) (fun R hR => ?_) ?_
      · exact ⟨rfl, fun l g c => hR _ ⟨l, g, c, rfl⟩⟩
      rintro _ ⟨l, g, cs, rfl⟩
      refine seq_mid (P := fun ρ => ρ = lZ (.fr d) (.fr (.lst [.lst (l.map rq), rq g])) (.fr (.lst (l.map rq))) x4 x5) (fun R hR => ?_) ?_
      · simp only [lZ] at hR ⊢
        walk_at "wk"
        exact hR _ rfl
      rintro _ rfl
      refine seq_mid (P := fun ρ => ρ = lZ (.fr d) (.fr (.lst [.lst (l.map rq), rq g])) (.fr (.lst (l.map rq))) (.fr (rq g)) x5) (fun R hR => ?_) ?_
      · simp only [lZ] at hR ⊢
        walk_at "wk"
        exact hR _ rfl
      rintro _ rfl
      generalize D.lst [.lst (l.map rq), rq g] = dr at *
      have hn := cs.n
      refine seq_mid (P := fun ρ => ρ = lZ (.fr d) (.fr dr) (.fr (.lst (l.map rq))) (.fr (rq g)) x5) (fun R hR => ?_) ?_
      · simp only [lZ] at hR ⊢
        walk_at "wk"
        refine ⟨l, g, rfl, cs, ?_⟩
        walk_at "wk"
        refine ⟨l, g, rfl, cs, ?_⟩
        walk_at "wk"
        exact hR _ rfl
      rintro _ rfl
      refine seq_mid (P := fun ρ => ρ = lZ (.fr d) (.fr dr) (.fr (.lst (l.map rq))) (.fr (rq g)) (.ow (l.map rq))) (fun R hR => ?_) ?_
      · simp only [lZ] at hR ⊢
        walk_at "wk"
        exact hR _ rfl
      rintro _ rfl
      refine seq_mid (P := fun ρ => ρ = lZ (.fr d) (.fr dr) (.fr (.lst (l.map rq))) (.fr (rq g)) (.ow (l.map rq))) (fun R hR => ?_) ?_
      · simp only [lZ] at hR ⊢
        walk_at "wk"
        simp only [dCallO]
        walk_at "wk"
        have th : tupH (l.map rq) = true := by
          cases l with
          | nil => exact absurd hn.1 (by decide)
          | cons a t => rfl
        exact ⟨th, tell_chain T cs ⟨wd_lf (wd_reach cs), hR _ rfl⟩⟩
      rintro _ rfl
      refine seq_mid (P := fun ρ => ∃ l2, ChSz l2 g ∧ ρ = lZ (.fr d) (.fr dr) (.fr (.lst (l.map rq))) (.fr (rq g)) (.ow (l2.map rq))) (fun R hR => ?_) ?_
      · simp only [lZ, sSetI] at hR ⊢
        walk_at "wk"
        intro q hq q0
        rw [List.length_map]
        refine ⟨by unfold BIG; omega, fun j j0 j1 => ⟨j.toNat, ?_, ?_⟩⟩
        · unfold ixN
          rw [if_pos j0, if_pos (by omega)]
        · refine hR _ ⟨l.set j.toNat q, ⟨by rw [List.length_set]; exact hn, fun x hx => ?_, cs.g⟩, by rw [← List.map_set]⟩
          rcases List.mem_or_eq_of_mem_set hx with z | rfl
          · exact cs.s x z
          · exact ⟨(hq.sz (a := 2) (b := 1) (by decide)).up (by decide) (by decide), q0⟩
      rintro _ ⟨l2, cs2, rfl⟩
      refine frz_at (l := l2.map rq) rfl ?_
      show sIf _ _ _ _ (lZ (.fr d) (.fr dr) (.fr (.lst (l.map rq))) (.fr (rq g)) (.fr (.lst (l2.map rq))))
      simp only [lZ] at hR2 ⊢
      walk_at "wk"
      refine tell_chain T cs2 ⟨l2, g, rfl, cs2, ?_⟩
      refine ⟨_, rfl, (wd_reach cs2).tree, ?_⟩
      walk_at "wk"
      refine ⟨l, g, rfl, cs, ?_⟩
      walk_at "wk"
      exact hR2 _ _ _ _ _ cs
    · rintro ρ hρ
      have e2 : (rangeD 0 (2 : Int).toNat).length = 2 := rfl
      rcases hρ with ⟨z, rfl⟩ | ⟨_, l, g, x1, x2, x3, c, rfl⟩
      · exact absurd z (by rw [e2]; decide)
      · exact hR _ ⟨l, g, x1, x2, x3, c, rfl⟩
  rintro _ ⟨l, g, x1, x2, x3, cs, rfl⟩
  simp only [lZ]
  walk_at "wk"
  exact ⟨l, g, rfl, cs, rfl⟩
end
end My
namespace My
open PySem PySem.Spec PyProof.Rows L2
theorem cl_of {K : PySem.W.Frag} {C N : Addr} {nm q : Str} {bs bm : List Value} {sn : List Str} {sub : List Value} {ab : Bool} {col : Option Bool} {dd : Option Addr} {m0 m1 m2 m3 m5 : Option Value}
    (h : K.lookup C = some (excClassObj nm q C N bs bm true sn sub ab col dd m0 m1 m2 m3 m5 "ValueError.__new__")) : (PySem.W.clsIn K C).isSome = true := by
  unfold PySem.W.clsIn
  rw [h]
  rfl
theorem kcls_r {K : PySem.W.Frag} {C D : Addr} {v : Bool} (h1 : PySem.W.isClsIn K D = true) (h2 : PySem.W.typeIn K (.ref D) = some (.type "type")) (h : PySem.W.subIn K (.ref C) (.ref D) = some v) : PySem.W.kitCls K (.ref C) (.ref D) = some v := by
  unfold PySem.W.kitCls
  dsimp only
  rw [h2, show (PySem.W.clsIn K D).isSome = true from h1, h]
  rfl
theorem kit_tR {K : PySem.W.Frag} {C D : Addr} (h1 : PySem.W.isClsIn K D = true) (h2 : PySem.W.typeIn K (.ref D) = some (.type "type")) (h : PySem.W.subIn K (.ref C) (.ref D) = some true) : PySem.W.kitOne K (.ref C) (.ref D) = some true := by
  unfold PySem.W.kitOne
  split
  · rfl
  · exact kcls_r h1 h2 h
theorem kit_fR {K : PySem.W.Frag} {C D : Addr} (h0 : Nat.beq C D = false) (h1 : PySem.W.isClsIn K D = true) (h2 : PySem.W.typeIn K (.ref D) = some (.type "type")) (h : PySem.W.subIn K (.ref C) (.ref D) = some false) : PySem.W.kitOne K (.ref C) (.ref D) = some false := by
  unfold PySem.W.kitOne
  split
  · rename_i e
    cases beq_iff_eq.mp e
    rw [Nat.beq_refl] at h0
    cases h0
  · exact kcls_r h1 h2 h
theorem kit_tT {K : PySem.W.Frag} {C : Addr} (h : PySem.W.subIn K (.ref C) (.type "ValueError") = some true) : PySem.W.kitOne K (.ref C) (.type "ValueError") = some true := by
  unfold PySem.W.kitOne
  split
  · rfl
  · unfold PySem.W.kitCls
    dsimp only
    rw [show PySem.W.kitMeta "ValueError" = true from by kernel_rfl]
    exact h
theorem exm_t {K : PySem.W.Frag} {C D : Addr} (h0 : PySem.W.subIn K (.ref D) (.type "BaseException") = some true) (h1 : PySem.W.isClsIn K D = true) (h2 : PySem.W.typeIn K (.ref D) = some (.type "type")) (h : PySem.W.subIn K (.ref C) (.ref D) = some true) : PySem.W.exmOne K (.ref C) (.ref D) = some true := by
  unfold PySem.W.exmOne
  rw [h0]
  exact kcls_r h1 h2 h
theorem all_mk {l : PySem.W.OpenLaw} {w : World} {K : PySem.W.Frag} {h : Heap} {mg : Str → Option Value} {fa : Addr} (X : K.In h) (G : h.Ns mainGlobals mg) (hfa : mg "law" = some (.ref fa))
    {CFrameError CWrongKind COutOfBounds CRepeatedName CUnknownName CUnfitError CZeroDivisor CNegativeRoot CUnsafe CBadText : Addr}
    {f_is_whole : Addr} {od_is_whole an_is_whole : Option Addr} {sl_is_whole : Array (Option Value)} {oc_is_whole kV_is_whole dc_is_whole pm_is_whole cd_is_whole ct_is_whole : Value}
    {f_divisor : Addr} {od_divisor an_divisor : Option Addr} {sl_divisor : Array (Option Value)} {oc_divisor kV_divisor dc_divisor pm_divisor cd_divisor ct_divisor : Value}
    {f_lowest : Addr} {od_lowest an_lowest : Option Addr} {sl_lowest : Array (Option Value)} {oc_lowest kV_lowest dc_lowest pm_lowest cd_lowest ct_lowest : Value}
    {f_sign_of : Addr} {od_sign_of an_sign_of : Option Addr} {sl_sign_of : Array (Option Value)} {oc_sign_of kV_sign_of dc_sign_of pm_sign_of cd_sign_of ct_sign_of : Value}
    {f_floor_root : Addr} {od_floor_root an_floor_root : Option Addr} {sl_floor_root : Array (Option Value)} {oc_floor_root kV_floor_root dc_floor_root pm_floor_root cd_floor_root ct_floor_root : Value}
    {f_need_ratio : Addr} {od_need_ratio an_need_ratio : Option Addr} {sl_need_ratio : Array (Option Value)} {oc_need_ratio kV_need_ratio dc_need_ratio pm_need_ratio cd_need_ratio ct_need_ratio : Value}
    {f_need_two : Addr} {od_need_two an_need_two : Option Addr} {sl_need_two : Array (Option Value)} {oc_need_two kV_need_two dc_need_two pm_need_two cd_need_two ct_need_two : Value}
    {f_is_ratio : Addr} {od_is_ratio an_is_ratio : Option Addr} {sl_is_ratio : Array (Option Value)} {oc_is_ratio kV_is_ratio dc_is_ratio pm_is_ratio cd_is_ratio ct_is_ratio : Value}
    {f_add : Addr} {od_add an_add : Option Addr} {sl_add : Array (Option Value)} {oc_add kV_add dc_add pm_add cd_add ct_add : Value}
    {f_subtract : Addr} {od_subtract an_subtract : Option Addr} {sl_subtract : Array (Option Value)} {oc_subtract kV_subtract dc_subtract pm_subtract cd_subtract ct_subtract : Value}
    {f_multiply : Addr} {od_multiply an_multiply : Option Addr} {sl_multiply : Array (Option Value)} {oc_multiply kV_multiply dc_multiply pm_multiply cd_multiply ct_multiply : Value}
    {f_divide : Addr} {od_divide an_divide : Option Addr} {sl_divide : Array (Option Value)} {oc_divide kV_divide dc_divide pm_divide cd_divide ct_divide : Value}
    {f_negate : Addr} {od_negate an_negate : Option Addr} {sl_negate : Array (Option Value)} {oc_negate kV_negate dc_negate pm_negate cd_negate ct_negate : Value}
    {f_sign : Addr} {od_sign an_sign : Option Addr} {sl_sign : Array (Option Value)} {oc_sign kV_sign dc_sign pm_sign cd_sign ct_sign : Value}
    {f_compare : Addr} {od_compare an_compare : Option Addr} {sl_compare : Array (Option Value)} {oc_compare kV_compare dc_compare pm_compare cd_compare ct_compare : Value}
    {f_root : Addr} {od_root an_root : Option Addr} {sl_root : Array (Option Value)} {oc_root kV_root dc_root pm_root cd_root ct_root : Value}
    {f_root_sign : Addr} {od_root_sign an_root_sign : Option Addr} {sl_root_sign : Array (Option Value)} {oc_root_sign kV_root_sign dc_root_sign pm_root_sign cd_root_sign ct_root_sign : Value}
    {f_is_point : Addr} {od_is_point an_is_point : Option Addr} {sl_is_point : Array (Option Value)} {oc_is_point kV_is_point dc_is_point pm_is_point cd_is_point ct_is_point : Value}
    {f_point_sum : Addr} {od_point_sum an_point_sum : Option Addr} {sl_point_sum : Array (Option Value)} {oc_point_sum kV_point_sum dc_point_sum pm_point_sum cd_point_sum ct_point_sum : Value}
    {f_point_gap : Addr} {od_point_gap an_point_gap : Option Addr} {sl_point_gap : Array (Option Value)} {oc_point_gap kV_point_gap dc_point_gap pm_point_gap cd_point_gap ct_point_gap : Value}
    {f_point_times : Addr} {od_point_times an_point_times : Option Addr} {sl_point_times : Array (Option Value)} {oc_point_times kV_point_times dc_point_times pm_point_times cd_point_times ct_point_times : Value}
    {f_point_dot : Addr} {od_point_dot an_point_dot : Option Addr} {sl_point_dot : Array (Option Value)} {oc_point_dot kV_point_dot dc_point_dot pm_point_dot cd_point_dot ct_point_dot : Value}
    {f_left_turn : Addr} {od_left_turn an_left_turn : Option Addr} {sl_left_turn : Array (Option Value)} {oc_left_turn kV_left_turn dc_left_turn pm_left_turn cd_left_turn ct_left_turn : Value}
    {f_point_square : Addr} {od_point_square an_point_square : Option Addr} {sl_point_square : Array (Option Value)} {oc_point_square kV_point_square dc_point_square pm_point_square cd_point_square ct_point_square : Value}
    {f_is_positive : Addr} {od_is_positive an_is_positive : Option Addr} {sl_is_positive : Array (Option Value)} {oc_is_positive kV_is_positive dc_is_positive pm_is_positive cd_is_positive ct_is_positive : Value}
    {f_is_side : Addr} {od_is_side an_is_side : Option Addr} {sl_is_side : Array (Option Value)} {oc_is_side kV_is_side dc_is_side pm_is_side cd_is_side ct_is_side : Value}
    {f_check_point : Addr} {od_check_point an_check_point : Option Addr} {sl_check_point : Array (Option Value)} {oc_check_point kV_check_point dc_check_point pm_check_point cd_check_point ct_check_point : Value}
    {f_check_positive : Addr} {od_check_positive an_check_positive : Option Addr} {sl_check_positive : Array (Option Value)} {oc_check_positive kV_check_positive dc_check_positive pm_check_positive cd_check_positive ct_check_positive : Value}
    {f_spot_at : Addr} {od_spot_at an_spot_at : Option Addr} {sl_spot_at : Array (Option Value)} {oc_spot_at kV_spot_at dc_spot_at pm_spot_at cd_spot_at ct_spot_at : Value}
    {f_meet : Addr} {od_meet an_meet : Option Addr} {sl_meet : Array (Option Value)} {oc_meet dc_meet pm_meet cd_meet ct_meet : Value}
    {Dkw : Addr} {tkw : Tok}
    {f_exceeds : Addr} {od_exceeds an_exceeds : Option Addr} {sl_exceeds : Array (Option Value)} {oc_exceeds kV_exceeds dc_exceeds pm_exceeds cd_exceeds ct_exceeds : Value}
    {f_padded : Addr} {od_padded an_padded : Option Addr} {sl_padded : Array (Option Value)} {oc_padded kV_padded dc_padded pm_padded cd_padded ct_padded : Value}
    {f_chain_reach : Addr} {od_chain_reach an_chain_reach : Option Addr} {sl_chain_reach : Array (Option Value)} {oc_chain_reach kV_chain_reach dc_chain_reach pm_chain_reach cd_chain_reach ct_chain_reach : Value}
    {f_store : Addr} {od_store an_store : Option Addr} {sl_store : Array (Option Value)} {oc_store kV_store dc_store pm_store cd_store ct_store : Value}
    {f_take : Addr} {od_take an_take : Option Addr} {sl_take : Array (Option Value)} {oc_take kV_take dc_take pm_take cd_take ct_take : Value}
    {f_edge : Addr} {od_edge an_edge : Option Addr} {sl_edge : Array (Option Value)} {oc_edge kV_edge dc_edge pm_edge cd_edge ct_edge : Value}
    {f_between : Addr} {od_between an_between : Option Addr} {sl_between : Array (Option Value)} {oc_between kV_between dc_between pm_between cd_between ct_between : Value}
    {f_pick : Addr} {od_pick an_pick : Option Addr} {sl_pick : Array (Option Value)} {oc_pick kV_pick dc_pick pm_pick cd_pick ct_pick : Value}
    {f_mixed : Addr} {od_mixed an_mixed : Option Addr} {sl_mixed : Array (Option Value)} {oc_mixed kV_mixed dc_mixed pm_mixed cd_mixed ct_mixed : Value}
    {f_low : Addr} {od_low an_low : Option Addr} {sl_low : Array (Option Value)} {oc_low kV_low dc_low pm_low cd_low ct_low : Value}
    {f_plus : Addr} {od_plus an_plus : Option Addr} {sl_plus : Array (Option Value)} {oc_plus kV_plus dc_plus pm_plus cd_plus ct_plus : Value}
    {f_minus : Addr} {od_minus an_minus : Option Addr} {sl_minus : Array (Option Value)} {oc_minus kV_minus dc_minus pm_minus cd_minus ct_minus : Value}
    {f_times : Addr} {od_times an_times : Option Addr} {sl_times : Array (Option Value)} {oc_times kV_times dc_times pm_times cd_times ct_times : Value}
    {f_sgn : Addr} {od_sgn an_sgn : Option Addr} {sl_sgn : Array (Option Value)} {oc_sgn kV_sgn dc_sgn pm_sgn cd_sgn ct_sgn : Value}
    {f_cmp : Addr} {od_cmp an_cmp : Option Addr} {sl_cmp : Array (Option Value)} {oc_cmp kV_cmp dc_cmp pm_cmp cd_cmp ct_cmp : Value}
    {f_sum : Addr} {od_sum an_sum : Option Addr} {sl_sum : Array (Option Value)} {oc_sum kV_sum dc_sum pm_sum cd_sum ct_sum : Value}
    {f_padd : Addr} {od_padd an_padd : Option Addr} {sl_padd : Array (Option Value)} {oc_padd kV_padd dc_padd pm_padd cd_padd ct_padd : Value}
    {f_psub : Addr} {od_psub an_psub : Option Addr} {sl_psub : Array (Option Value)} {oc_psub kV_psub dc_psub pm_psub cd_psub ct_psub : Value}
    {f_pmul : Addr} {od_pmul an_pmul : Option Addr} {sl_pmul : Array (Option Value)} {oc_pmul kV_pmul dc_pmul pm_pmul cd_pmul ct_pmul : Value}
    {f_pdot : Addr} {od_pdot an_pdot : Option Addr} {sl_pdot : Array (Option Value)} {oc_pdot kV_pdot dc_pdot pm_pdot cd_pdot ct_pdot : Value}
    {f_psq : Addr} {od_psq an_psq : Option Addr} {sl_psq : Array (Option Value)} {oc_psq kV_psq dc_psq pm_psq cd_psq ct_psq : Value}
    {f_small : Addr} {od_small an_small : Option Addr} {sl_small : Array (Option Value)} {oc_small kV_small dc_small pm_small cd_small ct_small : Value}
    {f_positive : Addr} {od_positive an_positive : Option Addr} {sl_positive : Array (Option Value)} {oc_positive kV_positive dc_positive pm_positive cd_positive ct_positive : Value}
    {f_cost : Addr} {od_cost an_cost : Option Addr} {sl_cost : Array (Option Value)} {oc_cost kV_cost dc_cost pm_cost cd_cost ct_cost : Value}
    {f_point : Addr} {od_point an_point : Option Addr} {sl_point : Array (Option Value)} {oc_point kV_point dc_point pm_point cd_point ct_point : Value}
    {f_not_ratio : Addr} {od_not_ratio an_not_ratio : Option Addr} {sl_not_ratio : Array (Option Value)} {oc_not_ratio kV_not_ratio dc_not_ratio pm_not_ratio cd_not_ratio ct_not_ratio : Value}
    {f_circles : Addr} {od_circles an_circles : Option Addr} {sl_circles : Array (Option Value)} {oc_circles kV_circles dc_circles pm_circles cd_circles ct_circles : Value}
    {f_chain : Addr} {od_chain an_chain : Option Addr} {sl_chain : Array (Option Value)} {oc_chain kV_chain dc_chain pm_chain cd_chain ct_chain : Value}
    {f_like : Addr} {od_like an_like : Option Addr} {sl_like : Array (Option Value)} {oc_like kV_like dc_like pm_like cd_like ct_like : Value}
    {f_long : Addr} {od_long an_long : Option Addr} {sl_long : Array (Option Value)} {oc_long kV_long dc_long pm_long cd_long ct_long : Value}
    {f_drawn : Addr} {od_drawn an_drawn : Option Addr} {sl_drawn : Array (Option Value)} {oc_drawn kV_drawn dc_drawn pm_drawn cd_drawn ct_drawn : Value}
    {f_longer : Addr} {od_longer an_longer : Option Addr} {sl_longer : Array (Option Value)} {oc_longer kV_longer dc_longer pm_longer cd_longer ct_longer : Value}
    {f_due : Addr} {od_due an_due : Option Addr} {sl_due : Array (Option Value)} {oc_due kV_due dc_due pm_due cd_due ct_due : Value}
    {f_right : Addr} {od_right an_right : Option Addr} {sl_right : Array (Option Value)} {oc_right kV_right dc_right pm_right cd_right ct_right : Value}
    {f_orders : Addr} {od_orders an_orders : Option Addr} {sl_orders : Array (Option Value)} {oc_orders kV_orders dc_orders pm_orders cd_orders ct_orders : Value}
    {f_meets : Addr} {od_meets an_meets : Option Addr} {sl_meets : Array (Option Value)} {oc_meets kV_meets dc_meets pm_meets cd_meets ct_meets : Value}
    {f_failed : Addr} {od_failed an_failed : Option Addr} {sl_failed : Array (Option Value)} {oc_failed kV_failed dc_failed pm_failed cd_failed ct_failed : Value}
    {f_call : Addr} {od_call an_call : Option Addr} {sl_call : Array (Option Value)} {oc_call kV_call dc_call pm_call cd_call ct_call : Value}
    {f_refusals : Addr} {od_refusals an_refusals : Option Addr} {sl_refusals : Array (Option Value)} {oc_refusals kV_refusals dc_refusals pm_refusals cd_refusals ct_refusals : Value}
    {f_law : Addr} {od_law an_law : Option Addr} {sl_law : Array (Option Value)} {oc_law kV_law dc_law pm_law cd_law ct_law : Value}
    {nmWrongKind qnWrongKind : Str} {NWrongKind : Addr} {bsWrongKind bmWrongKind : List Value} {snWrongKind : List Str} {subWrongKind : List Value} {abWrongKind : Bool} {colWrongKind : Option Bool} {ddWrongKind : Option Addr} {m0WrongKind m1WrongKind m2WrongKind m3WrongKind m5WrongKind : Option Value}
    {fiWrongKind : Addr} {odiWrongKind aniWrongKind : Option Addr} {sliWrongKind : Array (Option Value)} {ociWrongKind kViWrongKind dciWrongKind pmiWrongKind cdiWrongKind ctiWrongKind : Value}
    {nmOutOfBounds qnOutOfBounds : Str} {NOutOfBounds : Addr} {bsOutOfBounds bmOutOfBounds : List Value} {snOutOfBounds : List Str} {subOutOfBounds : List Value} {abOutOfBounds : Bool} {colOutOfBounds : Option Bool} {ddOutOfBounds : Option Addr} {m0OutOfBounds m1OutOfBounds m2OutOfBounds m3OutOfBounds m5OutOfBounds : Option Value}
    {fiOutOfBounds : Addr} {odiOutOfBounds aniOutOfBounds : Option Addr} {sliOutOfBounds : Array (Option Value)} {ociOutOfBounds kViOutOfBounds dciOutOfBounds pmiOutOfBounds cdiOutOfBounds ctiOutOfBounds : Value}
    {tMC : Tok}
    {aZERO_RATIO : Addr} {dNZERO_RATIO : Option Addr} {nNZERO_RATIO : Nat} {sNZERO_RATIO : Array (Option Value)} {tk0ZERO_RATIO tk1ZERO_RATIO : Tok}
    (aFrameError : PySem.W.nsIn K mainGlobals "FrameError" = some (some (.ref CFrameError)))
    (aWrongKind : PySem.W.nsIn K mainGlobals "WrongKind" = some (some (.ref CWrongKind)))
    (aOutOfBounds : PySem.W.nsIn K mainGlobals "OutOfBounds" = some (some (.ref COutOfBounds)))
    (aRepeatedName : PySem.W.nsIn K mainGlobals "RepeatedName" = some (some (.ref CRepeatedName)))
    (aUnknownName : PySem.W.nsIn K mainGlobals "UnknownName" = some (some (.ref CUnknownName)))
    (aUnfitError : PySem.W.nsIn K mainGlobals "UnfitError" = some (some (.ref CUnfitError)))
    (aZeroDivisor : PySem.W.nsIn K mainGlobals "ZeroDivisor" = some (some (.ref CZeroDivisor)))
    (aNegativeRoot : PySem.W.nsIn K mainGlobals "NegativeRoot" = some (some (.ref CNegativeRoot)))
    (aUnsafe : PySem.W.nsIn K mainGlobals "Unsafe" = some (some (.ref CUnsafe)))
    (aBadText : PySem.W.nsIn K mainGlobals "BadText" = some (some (.ref CBadText)))
    (a_is_whole : PySem.W.nsIn K mainGlobals "is_whole" = some (some (.ref f_is_whole)))
    (l_is_whole : K.lookup f_is_whole = some ⟨oc_is_whole, od_is_whole, .func (PySem.W.fnOf "is_whole" "is_whole" (defArgs (topS 12)) (defBody (topS 12)) (defScope (topS 12)) .none kV_is_whole dc_is_whole pm_is_whole an_is_whole cd_is_whole ct_is_whole), sl_is_whole⟩)
    (c_is_whole : PySem.W.codeIn K cd_is_whole "is_whole" = true)
    (k_is_whole : PySem.W.keepIn K (.ref f_is_whole) = true)
    (a_divisor : PySem.W.nsIn K mainGlobals "divisor" = some (some (.ref f_divisor)))
    (l_divisor : K.lookup f_divisor = some ⟨oc_divisor, od_divisor, .func (PySem.W.fnOf "divisor" "divisor" (defArgs (topS 13)) (defBody (topS 13)) (defScope (topS 13)) .none kV_divisor dc_divisor pm_divisor an_divisor cd_divisor ct_divisor), sl_divisor⟩)
    (c_divisor : PySem.W.codeIn K cd_divisor "divisor" = true)
    (k_divisor : PySem.W.keepIn K (.ref f_divisor) = true)
    (a_lowest : PySem.W.nsIn K mainGlobals "lowest" = some (some (.ref f_lowest)))
    (l_lowest : K.lookup f_lowest = some ⟨oc_lowest, od_lowest, .func (PySem.W.fnOf "lowest" "lowest" (defArgs (topS 14)) (defBody (topS 14)) (defScope (topS 14)) .none kV_lowest dc_lowest pm_lowest an_lowest cd_lowest ct_lowest), sl_lowest⟩)
    (c_lowest : PySem.W.codeIn K cd_lowest "lowest" = true)
    (k_lowest : PySem.W.keepIn K (.ref f_lowest) = true)
    (a_sign_of : PySem.W.nsIn K mainGlobals "sign_of" = some (some (.ref f_sign_of)))
    (l_sign_of : K.lookup f_sign_of = some ⟨oc_sign_of, od_sign_of, .func (PySem.W.fnOf "sign_of" "sign_of" (defArgs (topS 15)) (defBody (topS 15)) (defScope (topS 15)) .none kV_sign_of dc_sign_of pm_sign_of an_sign_of cd_sign_of ct_sign_of), sl_sign_of⟩)
    (c_sign_of : PySem.W.codeIn K cd_sign_of "sign_of" = true)
    (k_sign_of : PySem.W.keepIn K (.ref f_sign_of) = true)
    (a_floor_root : PySem.W.nsIn K mainGlobals "floor_root" = some (some (.ref f_floor_root)))
    (l_floor_root : K.lookup f_floor_root = some ⟨oc_floor_root, od_floor_root, .func (PySem.W.fnOf "floor_root" "floor_root" (defArgs (topS 16)) (defBody (topS 16)) (defScope (topS 16)) .none kV_floor_root dc_floor_root pm_floor_root an_floor_root cd_floor_root ct_floor_root), sl_floor_root⟩)
    (c_floor_root : PySem.W.codeIn K cd_floor_root "floor_root" = true)
    (k_floor_root : PySem.W.keepIn K (.ref f_floor_root) = true)
    (a_need_ratio : PySem.W.nsIn K mainGlobals "need_ratio" = some (some (.ref f_need_ratio)))
    (l_need_ratio : K.lookup f_need_ratio = some ⟨oc_need_ratio, od_need_ratio, .func (PySem.W.fnOf "need_ratio" "need_ratio" (defArgs (topS 17)) (defBody (topS 17)) (defScope (topS 17)) .none kV_need_ratio dc_need_ratio pm_need_ratio an_need_ratio cd_need_ratio ct_need_ratio), sl_need_ratio⟩)
    (c_need_ratio : PySem.W.codeIn K cd_need_ratio "need_ratio" = true)
    (k_need_ratio : PySem.W.keepIn K (.ref f_need_ratio) = true)
    (a_need_two : PySem.W.nsIn K mainGlobals "need_two" = some (some (.ref f_need_two)))
    (l_need_two : K.lookup f_need_two = some ⟨oc_need_two, od_need_two, .func (PySem.W.fnOf "need_two" "need_two" (defArgs (topS 18)) (defBody (topS 18)) (defScope (topS 18)) .none kV_need_two dc_need_two pm_need_two an_need_two cd_need_two ct_need_two), sl_need_two⟩)
    (c_need_two : PySem.W.codeIn K cd_need_two "need_two" = true)
    (k_need_two : PySem.W.keepIn K (.ref f_need_two) = true)
    (a_is_ratio : PySem.W.nsIn K mainGlobals "is_ratio" = some (some (.ref f_is_ratio)))
    (l_is_ratio : K.lookup f_is_ratio = some ⟨oc_is_ratio, od_is_ratio, .func (PySem.W.fnOf "is_ratio" "is_ratio" (defArgs (topS 19)) (defBody (topS 19)) (defScope (topS 19)) .none kV_is_ratio dc_is_ratio pm_is_ratio an_is_ratio cd_is_ratio ct_is_ratio), sl_is_ratio⟩)
    (c_is_ratio : PySem.W.codeIn K cd_is_ratio "is_ratio" = true)
    (k_is_ratio : PySem.W.keepIn K (.ref f_is_ratio) = true)
    (a_add : PySem.W.nsIn K mainGlobals "add" = some (some (.ref f_add)))
    (l_add : K.lookup f_add = some ⟨oc_add, od_add, .func (PySem.W.fnOf "add" "add" (defArgs (topS 20)) (defBody (topS 20)) (defScope (topS 20)) .none kV_add dc_add pm_add an_add cd_add ct_add), sl_add⟩)
    (c_add : PySem.W.codeIn K cd_add "add" = true)
    (k_add : PySem.W.keepIn K (.ref f_add) = true)
    (a_subtract : PySem.W.nsIn K mainGlobals "subtract" = some (some (.ref f_subtract)))
    (l_subtract : K.lookup f_subtract = some ⟨oc_subtract, od_subtract, .func (PySem.W.fnOf "subtract" "subtract" (defArgs (topS 21)) (defBody (topS 21)) (defScope (topS 21)) .none kV_subtract dc_subtract pm_subtract an_subtract cd_subtract ct_subtract), sl_subtract⟩)
    (c_subtract : PySem.W.codeIn K cd_subtract "subtract" = true)
    (k_subtract : PySem.W.keepIn K (.ref f_subtract) = true)
    (a_multiply : PySem.W.nsIn K mainGlobals "multiply" = some (some (.ref f_multiply)))
    (l_multiply : K.lookup f_multiply = some ⟨oc_multiply, od_multiply, .func (PySem.W.fnOf "multiply" "multiply" (defArgs (topS 22)) (defBody (topS 22)) (defScope (topS 22)) .none kV_multiply dc_multiply pm_multiply an_multiply cd_multiply ct_multiply), sl_multiply⟩)
    (c_multiply : PySem.W.codeIn K cd_multiply "multiply" = true)
    (k_multiply : PySem.W.keepIn K (.ref f_multiply) = true)
    (a_divide : PySem.W.nsIn K mainGlobals "divide" = some (some (.ref f_divide)))
    (l_divide : K.lookup f_divide = some ⟨oc_divide, od_divide, .func (PySem.W.fnOf "divide" "divide" (defArgs (topS 23)) (defBody (topS 23)) (defScope (topS 23)) .none kV_divide dc_divide pm_divide an_divide cd_divide ct_divide), sl_divide⟩)
    (c_divide : PySem.W.codeIn K cd_divide "divide" = true)
    (k_divide : PySem.W.keepIn K (.ref f_divide) = true)
    (a_negate : PySem.W.nsIn K mainGlobals "negate" = some (some (.ref f_negate)))
    (l_negate : K.lookup f_negate = some ⟨oc_negate, od_negate, .func (PySem.W.fnOf "negate" "negate" (defArgs (topS 24)) (defBody (topS 24)) (defScope (topS 24)) .none kV_negate dc_negate pm_negate an_negate cd_negate ct_negate), sl_negate⟩)
    (c_negate : PySem.W.codeIn K cd_negate "negate" = true)
    (k_negate : PySem.W.keepIn K (.ref f_negate) = true)
    (a_sign : PySem.W.nsIn K mainGlobals "sign" = some (some (.ref f_sign)))
    (l_sign : K.lookup f_sign = some ⟨oc_sign, od_sign, .func (PySem.W.fnOf "sign" "sign" (defArgs (topS 25)) (defBody (topS 25)) (defScope (topS 25)) .none kV_sign dc_sign pm_sign an_sign cd_sign ct_sign), sl_sign⟩)
    (c_sign : PySem.W.codeIn K cd_sign "sign" = true)
    (k_sign : PySem.W.keepIn K (.ref f_sign) = true)
    (a_compare : PySem.W.nsIn K mainGlobals "compare" = some (some (.ref f_compare)))
    (l_compare : K.lookup f_compare = some ⟨oc_compare, od_compare, .func (PySem.W.fnOf "compare" "compare" (defArgs (topS 26)) (defBody (topS 26)) (defScope (topS 26)) .none kV_compare dc_compare pm_compare an_compare cd_compare ct_compare), sl_compare⟩)
    (c_compare : PySem.W.codeIn K cd_compare "compare" = true)
    (k_compare : PySem.W.keepIn K (.ref f_compare) = true)
    (a_root : PySem.W.nsIn K mainGlobals "root" = some (some (.ref f_root)))
    (l_root : K.lookup f_root = some ⟨oc_root, od_root, .func (PySem.W.fnOf "root" "root" (defArgs (topS 27)) (defBody (topS 27)) (defScope (topS 27)) .none kV_root dc_root pm_root an_root cd_root ct_root), sl_root⟩)
    (c_root : PySem.W.codeIn K cd_root "root" = true)
    (k_root : PySem.W.keepIn K (.ref f_root) = true)
    (a_root_sign : PySem.W.nsIn K mainGlobals "root_sign" = some (some (.ref f_root_sign)))
    (l_root_sign : K.lookup f_root_sign = some ⟨oc_root_sign, od_root_sign, .func (PySem.W.fnOf "root_sign" "root_sign" (defArgs (topS 28)) (defBody (topS 28)) (defScope (topS 28)) .none kV_root_sign dc_root_sign pm_root_sign an_root_sign cd_root_sign ct_root_sign), sl_root_sign⟩)
    (c_root_sign : PySem.W.codeIn K cd_root_sign "root_sign" = true)
    (k_root_sign : PySem.W.keepIn K (.ref f_root_sign) = true)
    (a_is_point : PySem.W.nsIn K mainGlobals "is_point" = some (some (.ref f_is_point)))
    (l_is_point : K.lookup f_is_point = some ⟨oc_is_point, od_is_point, .func (PySem.W.fnOf "is_point" "is_point" (defArgs (topS 31)) (defBody (topS 31)) (defScope (topS 31)) .none kV_is_point dc_is_point pm_is_point an_is_point cd_is_point ct_is_point), sl_is_point⟩)
    (c_is_point : PySem.W.codeIn K cd_is_point "is_point" = true)
    (k_is_point : PySem.W.keepIn K (.ref f_is_point) = true)
    (a_point_sum : PySem.W.nsIn K mainGlobals "point_sum" = some (some (.ref f_point_sum)))
    (l_point_sum : K.lookup f_point_sum = some ⟨oc_point_sum, od_point_sum, .func (PySem.W.fnOf "point_sum" "point_sum" (defArgs (topS 32)) (defBody (topS 32)) (defScope (topS 32)) .none kV_point_sum dc_point_sum pm_point_sum an_point_sum cd_point_sum ct_point_sum), sl_point_sum⟩)
    (c_point_sum : PySem.W.codeIn K cd_point_sum "point_sum" = true)
    (k_point_sum : PySem.W.keepIn K (.ref f_point_sum) = true)
    (a_point_gap : PySem.W.nsIn K mainGlobals "point_gap" = some (some (.ref f_point_gap)))
    (l_point_gap : K.lookup f_point_gap = some ⟨oc_point_gap, od_point_gap, .func (PySem.W.fnOf "point_gap" "point_gap" (defArgs (topS 33)) (defBody (topS 33)) (defScope (topS 33)) .none kV_point_gap dc_point_gap pm_point_gap an_point_gap cd_point_gap ct_point_gap), sl_point_gap⟩)
    (c_point_gap : PySem.W.codeIn K cd_point_gap "point_gap" = true)
    (k_point_gap : PySem.W.keepIn K (.ref f_point_gap) = true)
    (a_point_times : PySem.W.nsIn K mainGlobals "point_times" = some (some (.ref f_point_times)))
    (l_point_times : K.lookup f_point_times = some ⟨oc_point_times, od_point_times, .func (PySem.W.fnOf "point_times" "point_times" (defArgs (topS 34)) (defBody (topS 34)) (defScope (topS 34)) .none kV_point_times dc_point_times pm_point_times an_point_times cd_point_times ct_point_times), sl_point_times⟩)
    (c_point_times : PySem.W.codeIn K cd_point_times "point_times" = true)
    (k_point_times : PySem.W.keepIn K (.ref f_point_times) = true)
    (a_point_dot : PySem.W.nsIn K mainGlobals "point_dot" = some (some (.ref f_point_dot)))
    (l_point_dot : K.lookup f_point_dot = some ⟨oc_point_dot, od_point_dot, .func (PySem.W.fnOf "point_dot" "point_dot" (defArgs (topS 35)) (defBody (topS 35)) (defScope (topS 35)) .none kV_point_dot dc_point_dot pm_point_dot an_point_dot cd_point_dot ct_point_dot), sl_point_dot⟩)
    (c_point_dot : PySem.W.codeIn K cd_point_dot "point_dot" = true)
    (k_point_dot : PySem.W.keepIn K (.ref f_point_dot) = true)
    (a_left_turn : PySem.W.nsIn K mainGlobals "left_turn" = some (some (.ref f_left_turn)))
    (l_left_turn : K.lookup f_left_turn = some ⟨oc_left_turn, od_left_turn, .func (PySem.W.fnOf "left_turn" "left_turn" (defArgs (topS 36)) (defBody (topS 36)) (defScope (topS 36)) .none kV_left_turn dc_left_turn pm_left_turn an_left_turn cd_left_turn ct_left_turn), sl_left_turn⟩)
    (c_left_turn : PySem.W.codeIn K cd_left_turn "left_turn" = true)
    (k_left_turn : PySem.W.keepIn K (.ref f_left_turn) = true)
    (a_point_square : PySem.W.nsIn K mainGlobals "point_square" = some (some (.ref f_point_square)))
    (l_point_square : K.lookup f_point_square = some ⟨oc_point_square, od_point_square, .func (PySem.W.fnOf "point_square" "point_square" (defArgs (topS 37)) (defBody (topS 37)) (defScope (topS 37)) .none kV_point_square dc_point_square pm_point_square an_point_square cd_point_square ct_point_square), sl_point_square⟩)
    (c_point_square : PySem.W.codeIn K cd_point_square "point_square" = true)
    (k_point_square : PySem.W.keepIn K (.ref f_point_square) = true)
    (a_is_positive : PySem.W.nsIn K mainGlobals "is_positive" = some (some (.ref f_is_positive)))
    (l_is_positive : K.lookup f_is_positive = some ⟨oc_is_positive, od_is_positive, .func (PySem.W.fnOf "is_positive" "is_positive" (defArgs (topS 40)) (defBody (topS 40)) (defScope (topS 40)) .none kV_is_positive dc_is_positive pm_is_positive an_is_positive cd_is_positive ct_is_positive), sl_is_positive⟩)
    (c_is_positive : PySem.W.codeIn K cd_is_positive "is_positive" = true)
    (k_is_positive : PySem.W.keepIn K (.ref f_is_positive) = true)
    (a_is_side : PySem.W.nsIn K mainGlobals "is_side" = some (some (.ref f_is_side)))
    (l_is_side : K.lookup f_is_side = some ⟨oc_is_side, od_is_side, .func (PySem.W.fnOf "is_side" "is_side" (defArgs (topS 41)) (defBody (topS 41)) (defScope (topS 41)) .none kV_is_side dc_is_side pm_is_side an_is_side cd_is_side ct_is_side), sl_is_side⟩)
    (c_is_side : PySem.W.codeIn K cd_is_side "is_side" = true)
    (k_is_side : PySem.W.keepIn K (.ref f_is_side) = true)
    (a_check_point : PySem.W.nsIn K mainGlobals "check_point" = some (some (.ref f_check_point)))
    (l_check_point : K.lookup f_check_point = some ⟨oc_check_point, od_check_point, .func (PySem.W.fnOf "check_point" "check_point" (defArgs (topS 42)) (defBody (topS 42)) (defScope (topS 42)) .none kV_check_point dc_check_point pm_check_point an_check_point cd_check_point ct_check_point), sl_check_point⟩)
    (c_check_point : PySem.W.codeIn K cd_check_point "check_point" = true)
    (k_check_point : PySem.W.keepIn K (.ref f_check_point) = true)
    (a_check_positive : PySem.W.nsIn K mainGlobals "check_positive" = some (some (.ref f_check_positive)))
    (l_check_positive : K.lookup f_check_positive = some ⟨oc_check_positive, od_check_positive, .func (PySem.W.fnOf "check_positive" "check_positive" (defArgs (topS 43)) (defBody (topS 43)) (defScope (topS 43)) .none kV_check_positive dc_check_positive pm_check_positive an_check_positive cd_check_positive ct_check_positive), sl_check_positive⟩)
    (c_check_positive : PySem.W.codeIn K cd_check_positive "check_positive" = true)
    (k_check_positive : PySem.W.keepIn K (.ref f_check_positive) = true)
    (a_spot_at : PySem.W.nsIn K mainGlobals "spot_at" = some (some (.ref f_spot_at)))
    (l_spot_at : K.lookup f_spot_at = some ⟨oc_spot_at, od_spot_at, .func (PySem.W.fnOf "spot_at" "spot_at" (defArgs (topS 44)) (defBody (topS 44)) (defScope (topS 44)) .none kV_spot_at dc_spot_at pm_spot_at an_spot_at cd_spot_at ct_spot_at), sl_spot_at⟩)
    (c_spot_at : PySem.W.codeIn K cd_spot_at "spot_at" = true)
    (k_spot_at : PySem.W.keepIn K (.ref f_spot_at) = true)
    (a_meet : PySem.W.nsIn K mainGlobals "meet" = some (some (.ref f_meet)))
    (l_meet : K.lookup f_meet = some ⟨oc_meet, od_meet, .func (PySem.W.fnOf "meet" "meet" (defArgs (topS 45)) (defBody (topS 45)) (defScope (topS 45)) .none (.ref Dkw) dc_meet pm_meet an_meet cd_meet ct_meet), sl_meet⟩)
    (kwmeet : PySem.W.nsIn K Dkw "side" = some (some (.int 1 tkw)))
    (c_meet : PySem.W.codeIn K cd_meet "meet" = true)
    (k_meet : PySem.W.keepIn K (.ref f_meet) = true)
    (a_exceeds : PySem.W.nsIn K mainGlobals "exceeds" = some (some (.ref f_exceeds)))
    (l_exceeds : K.lookup f_exceeds = some ⟨oc_exceeds, od_exceeds, .func (PySem.W.fnOf "exceeds" "exceeds" (defArgs (topS 46)) (defBody (topS 46)) (defScope (topS 46)) .none kV_exceeds dc_exceeds pm_exceeds an_exceeds cd_exceeds ct_exceeds), sl_exceeds⟩)
    (c_exceeds : PySem.W.codeIn K cd_exceeds "exceeds" = true)
    (k_exceeds : PySem.W.keepIn K (.ref f_exceeds) = true)
    (a_padded : PySem.W.nsIn K mainGlobals "padded" = some (some (.ref f_padded)))
    (l_padded : K.lookup f_padded = some ⟨oc_padded, od_padded, .func (PySem.W.fnOf "padded" "padded" (defArgs (topS 47)) (defBody (topS 47)) (defScope (topS 47)) .none kV_padded dc_padded pm_padded an_padded cd_padded ct_padded), sl_padded⟩)
    (c_padded : PySem.W.codeIn K cd_padded "padded" = true)
    (k_padded : PySem.W.keepIn K (.ref f_padded) = true)
    (a_chain_reach : PySem.W.nsIn K mainGlobals "chain_reach" = some (some (.ref f_chain_reach)))
    (l_chain_reach : K.lookup f_chain_reach = some ⟨oc_chain_reach, od_chain_reach, .func (PySem.W.fnOf "chain_reach" "chain_reach" (defArgs (topS 48)) (defBody (topS 48)) (defScope (topS 48)) .none kV_chain_reach dc_chain_reach pm_chain_reach an_chain_reach cd_chain_reach ct_chain_reach), sl_chain_reach⟩)
    (c_chain_reach : PySem.W.codeIn K cd_chain_reach "chain_reach" = true)
    (k_chain_reach : PySem.W.keepIn K (.ref f_chain_reach) = true)
    (a_store : PySem.W.nsIn K mainGlobals "_law_store" = some (some (.ref f_store)))
    (l_store : K.lookup f_store = some ⟨oc_store, od_store, .func (PySem.W.fnOf "_law_store" "_law_store" (defArgs (topS 50)) (defBody (topS 50)) (defScope (topS 50)) .none kV_store dc_store pm_store an_store cd_store ct_store), sl_store⟩)
    (c_store : PySem.W.codeIn K cd_store "_law_store" = true)
    (k_store : PySem.W.keepIn K (.ref f_store) = true)
    (a_take : PySem.W.nsIn K mainGlobals "_law_take" = some (some (.ref f_take)))
    (l_take : K.lookup f_take = some ⟨oc_take, od_take, .func (PySem.W.fnOf "_law_take" "_law_take" (defArgs (topS 51)) (defBody (topS 51)) (defScope (topS 51)) .none kV_take dc_take pm_take an_take cd_take ct_take), sl_take⟩)
    (c_take : PySem.W.codeIn K cd_take "_law_take" = true)
    (k_take : PySem.W.keepIn K (.ref f_take) = true)
    (a_edge : PySem.W.nsIn K mainGlobals "_law_edge" = some (some (.ref f_edge)))
    (l_edge : K.lookup f_edge = some ⟨oc_edge, od_edge, .func (PySem.W.fnOf "_law_edge" "_law_edge" (defArgs (topS 52)) (defBody (topS 52)) (defScope (topS 52)) .none kV_edge dc_edge pm_edge an_edge cd_edge ct_edge), sl_edge⟩)
    (c_edge : PySem.W.codeIn K cd_edge "_law_edge" = true)
    (k_edge : PySem.W.keepIn K (.ref f_edge) = true)
    (a_between : PySem.W.nsIn K mainGlobals "_law_between" = some (some (.ref f_between)))
    (l_between : K.lookup f_between = some ⟨oc_between, od_between, .func (PySem.W.fnOf "_law_between" "_law_between" (defArgs (topS 53)) (defBody (topS 53)) (defScope (topS 53)) .none kV_between dc_between pm_between an_between cd_between ct_between), sl_between⟩)
    (c_between : PySem.W.codeIn K cd_between "_law_between" = true)
    (k_between : PySem.W.keepIn K (.ref f_between) = true)
    (a_pick : PySem.W.nsIn K mainGlobals "_law_pick" = some (some (.ref f_pick)))
    (l_pick : K.lookup f_pick = some ⟨oc_pick, od_pick, .func (PySem.W.fnOf "_law_pick" "_law_pick" (defArgs (topS 54)) (defBody (topS 54)) (defScope (topS 54)) .none kV_pick dc_pick pm_pick an_pick cd_pick ct_pick), sl_pick⟩)
    (c_pick : PySem.W.codeIn K cd_pick "_law_pick" = true)
    (k_pick : PySem.W.keepIn K (.ref f_pick) = true)
    (a_mixed : PySem.W.nsIn K mainGlobals "_law_mixed" = some (some (.ref f_mixed)))
    (l_mixed : K.lookup f_mixed = some ⟨oc_mixed, od_mixed, .func (PySem.W.fnOf "_law_mixed" "_law_mixed" (defArgs (topS 55)) (defBody (topS 55)) (defScope (topS 55)) .none kV_mixed dc_mixed pm_mixed an_mixed cd_mixed ct_mixed), sl_mixed⟩)
    (c_mixed : PySem.W.codeIn K cd_mixed "_law_mixed" = true)
    (k_mixed : PySem.W.keepIn K (.ref f_mixed) = true)
    (a_low : PySem.W.nsIn K mainGlobals "_law_low" = some (some (.ref f_low)))
    (l_low : K.lookup f_low = some ⟨oc_low, od_low, .func (PySem.W.fnOf "_law_low" "_law_low" (defArgs (topS 56)) (defBody (topS 56)) (defScope (topS 56)) .none kV_low dc_low pm_low an_low cd_low ct_low), sl_low⟩)
    (c_low : PySem.W.codeIn K cd_low "_law_low" = true)
    (k_low : PySem.W.keepIn K (.ref f_low) = true)
    (a_plus : PySem.W.nsIn K mainGlobals "_law_plus" = some (some (.ref f_plus)))
    (l_plus : K.lookup f_plus = some ⟨oc_plus, od_plus, .func (PySem.W.fnOf "_law_plus" "_law_plus" (defArgs (topS 57)) (defBody (topS 57)) (defScope (topS 57)) .none kV_plus dc_plus pm_plus an_plus cd_plus ct_plus), sl_plus⟩)
    (c_plus : PySem.W.codeIn K cd_plus "_law_plus" = true)
    (k_plus : PySem.W.keepIn K (.ref f_plus) = true)
    (a_minus : PySem.W.nsIn K mainGlobals "_law_minus" = some (some (.ref f_minus)))
    (l_minus : K.lookup f_minus = some ⟨oc_minus, od_minus, .func (PySem.W.fnOf "_law_minus" "_law_minus" (defArgs (topS 58)) (defBody (topS 58)) (defScope (topS 58)) .none kV_minus dc_minus pm_minus an_minus cd_minus ct_minus), sl_minus⟩)
    (c_minus : PySem.W.codeIn K cd_minus "_law_minus" = true)
    (k_minus : PySem.W.keepIn K (.ref f_minus) = true)
    (a_times : PySem.W.nsIn K mainGlobals "_law_times" = some (some (.ref f_times)))
    (l_times : K.lookup f_times = some ⟨oc_times, od_times, .func (PySem.W.fnOf "_law_times" "_law_times" (defArgs (topS 59)) (defBody (topS 59)) (defScope (topS 59)) .none kV_times dc_times pm_times an_times cd_times ct_times), sl_times⟩)
    (c_times : PySem.W.codeIn K cd_times "_law_times" = true)
    (k_times : PySem.W.keepIn K (.ref f_times) = true)
    (a_sgn : PySem.W.nsIn K mainGlobals "_law_sgn" = some (some (.ref f_sgn)))
    (l_sgn : K.lookup f_sgn = some ⟨oc_sgn, od_sgn, .func (PySem.W.fnOf "_law_sgn" "_law_sgn" (defArgs (topS 60)) (defBody (topS 60)) (defScope (topS 60)) .none kV_sgn dc_sgn pm_sgn an_sgn cd_sgn ct_sgn), sl_sgn⟩)
    (c_sgn : PySem.W.codeIn K cd_sgn "_law_sgn" = true)
    (k_sgn : PySem.W.keepIn K (.ref f_sgn) = true)
    (a_cmp : PySem.W.nsIn K mainGlobals "_law_cmp" = some (some (.ref f_cmp)))
    (l_cmp : K.lookup f_cmp = some ⟨oc_cmp, od_cmp, .func (PySem.W.fnOf "_law_cmp" "_law_cmp" (defArgs (topS 61)) (defBody (topS 61)) (defScope (topS 61)) .none kV_cmp dc_cmp pm_cmp an_cmp cd_cmp ct_cmp), sl_cmp⟩)
    (c_cmp : PySem.W.codeIn K cd_cmp "_law_cmp" = true)
    (k_cmp : PySem.W.keepIn K (.ref f_cmp) = true)
    (a_sum : PySem.W.nsIn K mainGlobals "_law_sum" = some (some (.ref f_sum)))
    (l_sum : K.lookup f_sum = some ⟨oc_sum, od_sum, .func (PySem.W.fnOf "_law_sum" "_law_sum" (defArgs (topS 62)) (defBody (topS 62)) (defScope (topS 62)) .none kV_sum dc_sum pm_sum an_sum cd_sum ct_sum), sl_sum⟩)
    (c_sum : PySem.W.codeIn K cd_sum "_law_sum" = true)
    (k_sum : PySem.W.keepIn K (.ref f_sum) = true)
    (a_padd : PySem.W.nsIn K mainGlobals "_law_padd" = some (some (.ref f_padd)))
    (l_padd : K.lookup f_padd = some ⟨oc_padd, od_padd, .func (PySem.W.fnOf "_law_padd" "_law_padd" (defArgs (topS 63)) (defBody (topS 63)) (defScope (topS 63)) .none kV_padd dc_padd pm_padd an_padd cd_padd ct_padd), sl_padd⟩)
    (c_padd : PySem.W.codeIn K cd_padd "_law_padd" = true)
    (k_padd : PySem.W.keepIn K (.ref f_padd) = true)
    (a_psub : PySem.W.nsIn K mainGlobals "_law_psub" = some (some (.ref f_psub)))
    (l_psub : K.lookup f_psub = some ⟨oc_psub, od_psub, .func (PySem.W.fnOf "_law_psub" "_law_psub" (defArgs (topS 64)) (defBody (topS 64)) (defScope (topS 64)) .none kV_psub dc_psub pm_psub an_psub cd_psub ct_psub), sl_psub⟩)
    (c_psub : PySem.W.codeIn K cd_psub "_law_psub" = true)
    (k_psub : PySem.W.keepIn K (.ref f_psub) = true)
    (a_pmul : PySem.W.nsIn K mainGlobals "_law_pmul" = some (some (.ref f_pmul)))
    (l_pmul : K.lookup f_pmul = some ⟨oc_pmul, od_pmul, .func (PySem.W.fnOf "_law_pmul" "_law_pmul" (defArgs (topS 65)) (defBody (topS 65)) (defScope (topS 65)) .none kV_pmul dc_pmul pm_pmul an_pmul cd_pmul ct_pmul), sl_pmul⟩)
    (c_pmul : PySem.W.codeIn K cd_pmul "_law_pmul" = true)
    (k_pmul : PySem.W.keepIn K (.ref f_pmul) = true)
    (a_pdot : PySem.W.nsIn K mainGlobals "_law_pdot" = some (some (.ref f_pdot)))
    (l_pdot : K.lookup f_pdot = some ⟨oc_pdot, od_pdot, .func (PySem.W.fnOf "_law_pdot" "_law_pdot" (defArgs (topS 66)) (defBody (topS 66)) (defScope (topS 66)) .none kV_pdot dc_pdot pm_pdot an_pdot cd_pdot ct_pdot), sl_pdot⟩)
    (c_pdot : PySem.W.codeIn K cd_pdot "_law_pdot" = true)
    (k_pdot : PySem.W.keepIn K (.ref f_pdot) = true)
    (a_psq : PySem.W.nsIn K mainGlobals "_law_psq" = some (some (.ref f_psq)))
    (l_psq : K.lookup f_psq = some ⟨oc_psq, od_psq, .func (PySem.W.fnOf "_law_psq" "_law_psq" (defArgs (topS 67)) (defBody (topS 67)) (defScope (topS 67)) .none kV_psq dc_psq pm_psq an_psq cd_psq ct_psq), sl_psq⟩)
    (c_psq : PySem.W.codeIn K cd_psq "_law_psq" = true)
    (k_psq : PySem.W.keepIn K (.ref f_psq) = true)
    (a_small : PySem.W.nsIn K mainGlobals "_law_small" = some (some (.ref f_small)))
    (l_small : K.lookup f_small = some ⟨oc_small, od_small, .func (PySem.W.fnOf "_law_small" "_law_small" (defArgs (topS 68)) (defBody (topS 68)) (defScope (topS 68)) .none kV_small dc_small pm_small an_small cd_small ct_small), sl_small⟩)
    (c_small : PySem.W.codeIn K cd_small "_law_small" = true)
    (k_small : PySem.W.keepIn K (.ref f_small) = true)
    (a_positive : PySem.W.nsIn K mainGlobals "_law_positive" = some (some (.ref f_positive)))
    (l_positive : K.lookup f_positive = some ⟨oc_positive, od_positive, .func (PySem.W.fnOf "_law_positive" "_law_positive" (defArgs (topS 69)) (defBody (topS 69)) (defScope (topS 69)) .none kV_positive dc_positive pm_positive an_positive cd_positive ct_positive), sl_positive⟩)
    (c_positive : PySem.W.codeIn K cd_positive "_law_positive" = true)
    (k_positive : PySem.W.keepIn K (.ref f_positive) = true)
    (a_cost : PySem.W.nsIn K mainGlobals "_law_cost" = some (some (.ref f_cost)))
    (l_cost : K.lookup f_cost = some ⟨oc_cost, od_cost, .func (PySem.W.fnOf "_law_cost" "_law_cost" (defArgs (topS 70)) (defBody (topS 70)) (defScope (topS 70)) .none kV_cost dc_cost pm_cost an_cost cd_cost ct_cost), sl_cost⟩)
    (c_cost : PySem.W.codeIn K cd_cost "_law_cost" = true)
    (k_cost : PySem.W.keepIn K (.ref f_cost) = true)
    (a_point : PySem.W.nsIn K mainGlobals "_law_point" = some (some (.ref f_point)))
    (l_point : K.lookup f_point = some ⟨oc_point, od_point, .func (PySem.W.fnOf "_law_point" "_law_point" (defArgs (topS 71)) (defBody (topS 71)) (defScope (topS 71)) .none kV_point dc_point pm_point an_point cd_point ct_point), sl_point⟩)
    (c_point : PySem.W.codeIn K cd_point "_law_point" = true)
    (k_point : PySem.W.keepIn K (.ref f_point) = true)
    (a_not_ratio : PySem.W.nsIn K mainGlobals "_law_not_ratio" = some (some (.ref f_not_ratio)))
    (l_not_ratio : K.lookup f_not_ratio = some ⟨oc_not_ratio, od_not_ratio, .func (PySem.W.fnOf "_law_not_ratio" "_law_not_ratio" (defArgs (topS 72)) (defBody (topS 72)) (defScope (topS 72)) .none kV_not_ratio dc_not_ratio pm_not_ratio an_not_ratio cd_not_ratio ct_not_ratio), sl_not_ratio⟩)
    (c_not_ratio : PySem.W.codeIn K cd_not_ratio "_law_not_ratio" = true)
    (k_not_ratio : PySem.W.keepIn K (.ref f_not_ratio) = true)
    (a_circles : PySem.W.nsIn K mainGlobals "_law_circles" = some (some (.ref f_circles)))
    (l_circles : K.lookup f_circles = some ⟨oc_circles, od_circles, .func (PySem.W.fnOf "_law_circles" "_law_circles" (defArgs (topS 73)) (defBody (topS 73)) (defScope (topS 73)) .none kV_circles dc_circles pm_circles an_circles cd_circles ct_circles), sl_circles⟩)
    (c_circles : PySem.W.codeIn K cd_circles "_law_circles" = true)
    (k_circles : PySem.W.keepIn K (.ref f_circles) = true)
    (a_chain : PySem.W.nsIn K mainGlobals "_law_chain" = some (some (.ref f_chain)))
    (l_chain : K.lookup f_chain = some ⟨oc_chain, od_chain, .func (PySem.W.fnOf "_law_chain" "_law_chain" (defArgs (topS 74)) (defBody (topS 74)) (defScope (topS 74)) .none kV_chain dc_chain pm_chain an_chain cd_chain ct_chain), sl_chain⟩)
    (c_chain : PySem.W.codeIn K cd_chain "_law_chain" = true)
    (k_chain : PySem.W.keepIn K (.ref f_chain) = true)
    (a_like : PySem.W.nsIn K mainGlobals "_law_like" = some (some (.ref f_like)))
    (l_like : K.lookup f_like = some ⟨oc_like, od_like, .func (PySem.W.fnOf "_law_like" "_law_like" (defArgs (topS 75)) (defBody (topS 75)) (defScope (topS 75)) .none kV_like dc_like pm_like an_like cd_like ct_like), sl_like⟩)
    (c_like : PySem.W.codeIn K cd_like "_law_like" = true)
    (k_like : PySem.W.keepIn K (.ref f_like) = true)
    (a_long : PySem.W.nsIn K mainGlobals "_law_long" = some (some (.ref f_long)))
    (l_long : K.lookup f_long = some ⟨oc_long, od_long, .func (PySem.W.fnOf "_law_long" "_law_long" (defArgs (topS 76)) (defBody (topS 76)) (defScope (topS 76)) .none kV_long dc_long pm_long an_long cd_long ct_long), sl_long⟩)
    (c_long : PySem.W.codeIn K cd_long "_law_long" = true)
    (k_long : PySem.W.keepIn K (.ref f_long) = true)
    (a_drawn : PySem.W.nsIn K mainGlobals "_law_drawn" = some (some (.ref f_drawn)))
    (l_drawn : K.lookup f_drawn = some ⟨oc_drawn, od_drawn, .func (PySem.W.fnOf "_law_drawn" "_law_drawn" (defArgs (topS 77)) (defBody (topS 77)) (defScope (topS 77)) .none kV_drawn dc_drawn pm_drawn an_drawn cd_drawn ct_drawn), sl_drawn⟩)
    (c_drawn : PySem.W.codeIn K cd_drawn "_law_drawn" = true)
    (k_drawn : PySem.W.keepIn K (.ref f_drawn) = true)
    (a_longer : PySem.W.nsIn K mainGlobals "_law_longer" = some (some (.ref f_longer)))
    (l_longer : K.lookup f_longer = some ⟨oc_longer, od_longer, .func (PySem.W.fnOf "_law_longer" "_law_longer" (defArgs (topS 78)) (defBody (topS 78)) (defScope (topS 78)) .none kV_longer dc_longer pm_longer an_longer cd_longer ct_longer), sl_longer⟩)
    (c_longer : PySem.W.codeIn K cd_longer "_law_longer" = true)
    (k_longer : PySem.W.keepIn K (.ref f_longer) = true)
    (a_due : PySem.W.nsIn K mainGlobals "_law_due" = some (some (.ref f_due)))
    (l_due : K.lookup f_due = some ⟨oc_due, od_due, .func (PySem.W.fnOf "_law_due" "_law_due" (defArgs (topS 79)) (defBody (topS 79)) (defScope (topS 79)) .none kV_due dc_due pm_due an_due cd_due ct_due), sl_due⟩)
    (c_due : PySem.W.codeIn K cd_due "_law_due" = true)
    (k_due : PySem.W.keepIn K (.ref f_due) = true)
    (a_right : PySem.W.nsIn K mainGlobals "_law_right" = some (some (.ref f_right)))
    (l_right : K.lookup f_right = some ⟨oc_right, od_right, .func (PySem.W.fnOf "_law_right" "_law_right" (defArgs (topS 80)) (defBody (topS 80)) (defScope (topS 80)) .none kV_right dc_right pm_right an_right cd_right ct_right), sl_right⟩)
    (c_right : PySem.W.codeIn K cd_right "_law_right" = true)
    (k_right : PySem.W.keepIn K (.ref f_right) = true)
    (a_orders : PySem.W.nsIn K mainGlobals "_law_orders" = some (some (.ref f_orders)))
    (l_orders : K.lookup f_orders = some ⟨oc_orders, od_orders, .func (PySem.W.fnOf "_law_orders" "_law_orders" (defArgs (topS 81)) (defBody (topS 81)) (defScope (topS 81)) .none kV_orders dc_orders pm_orders an_orders cd_orders ct_orders), sl_orders⟩)
    (c_orders : PySem.W.codeIn K cd_orders "_law_orders" = true)
    (k_orders : PySem.W.keepIn K (.ref f_orders) = true)
    (a_meets : PySem.W.nsIn K mainGlobals "_law_meets" = some (some (.ref f_meets)))
    (l_meets : K.lookup f_meets = some ⟨oc_meets, od_meets, .func (PySem.W.fnOf "_law_meets" "_law_meets" (defArgs (topS 82)) (defBody (topS 82)) (defScope (topS 82)) .none kV_meets dc_meets pm_meets an_meets cd_meets ct_meets), sl_meets⟩)
    (c_meets : PySem.W.codeIn K cd_meets "_law_meets" = true)
    (k_meets : PySem.W.keepIn K (.ref f_meets) = true)
    (a_failed : PySem.W.nsIn K mainGlobals "_law_failed" = some (some (.ref f_failed)))
    (l_failed : K.lookup f_failed = some ⟨oc_failed, od_failed, .func (PySem.W.fnOf "_law_failed" "_law_failed" (defArgs (topS 83)) (defBody (topS 83)) (defScope (topS 83)) .none kV_failed dc_failed pm_failed an_failed cd_failed ct_failed), sl_failed⟩)
    (c_failed : PySem.W.codeIn K cd_failed "_law_failed" = true)
    (k_failed : PySem.W.keepIn K (.ref f_failed) = true)
    (a_call : PySem.W.nsIn K mainGlobals "_law_call" = some (some (.ref f_call)))
    (l_call : K.lookup f_call = some ⟨oc_call, od_call, .func (PySem.W.fnOf "_law_call" "_law_call" (defArgs (topS 84)) (defBody (topS 84)) (defScope (topS 84)) .none kV_call dc_call pm_call an_call cd_call ct_call), sl_call⟩)
    (c_call : PySem.W.codeIn K cd_call "_law_call" = true)
    (k_call : PySem.W.keepIn K (.ref f_call) = true)
    (a_refusals : PySem.W.nsIn K mainGlobals "_law_refusals" = some (some (.ref f_refusals)))
    (l_refusals : K.lookup f_refusals = some ⟨oc_refusals, od_refusals, .func (PySem.W.fnOf "_law_refusals" "_law_refusals" (defArgs (topS 85)) (defBody (topS 85)) (defScope (topS 85)) .none kV_refusals dc_refusals pm_refusals an_refusals cd_refusals ct_refusals), sl_refusals⟩)
    (c_refusals : PySem.W.codeIn K cd_refusals "_law_refusals" = true)
    (k_refusals : PySem.W.keepIn K (.ref f_refusals) = true)
    (a_law : PySem.W.nsIn K mainGlobals "law" = some (some (.ref f_law)))
    (l_law : K.lookup f_law = some ⟨oc_law, od_law, .func (PySem.W.fnOf "law" "law" (defArgs (topS 86)) (defBody (topS 86)) (defScope (topS 86)) .none kV_law dc_law pm_law an_law cd_law ct_law), sl_law⟩)
    (c_law : PySem.W.codeIn K cd_law "law" = true)
    (k_law : PySem.W.keepIn K (.ref f_law) = true)
    (xLWrongKind : K.lookup CWrongKind = some (excClassObj nmWrongKind qnWrongKind CWrongKind NWrongKind bsWrongKind bmWrongKind true snWrongKind subWrongKind abWrongKind colWrongKind ddWrongKind m0WrongKind m1WrongKind m2WrongKind m3WrongKind m5WrongKind "ValueError.__new__"))
    (rvWrongKind : PySem.HandSPX.refsVE bmWrongKind = true)
    (saWrongKind : PySem.W.findIn K (.ref CWrongKind) "__setattr__" = some (some (.builtin "object.__setattr__")))
    (exWrongKind : PySem.W.subIn K (.ref CWrongKind) (.type "BaseException") = some true)
    (tyWrongKind : PySem.W.typeIn K (.ref CWrongKind) = some (.type "type"))
    (kcWrongKind : PySem.W.keepIn K (.ref CWrongKind) = true)
    (hgWrongKind : PySem.W.findIn K (.ref CWrongKind) "__getattribute__" = some (some (.builtin "BaseException.__getattribute__")))
    (hkWrongKind : PySem.W.findIn K (.ref CWrongKind) "__getattr__" = some none)
    (hdWrongKind : PySem.W.hasDictIn K CWrongKind = true)
    (haWrongKind : PySem.W.findIn K (.ref CWrongKind) "__class__" = some (some (.builtin "object.__class__")))
    (hmWrongKind : PySem.W.mroIn K CWrongKind (.type "object") = some true)
    (aiWrongKind : PySem.W.findIn K (.ref CWrongKind) "__init__" = some (some (.ref fiWrongKind)))
    (liWrongKind : K.lookup fiWrongKind = some ⟨ociWrongKind, odiWrongKind, .func (PySem.W.fnOf "__init__" "WrongKind.__init__" (defArgs (inClass (topS 2) 0)) (defBody (inClass (topS 2) 0)) (defScope (inClass (topS 2) 0)) .none kViWrongKind dciWrongKind pmiWrongKind aniWrongKind cdiWrongKind ctiWrongKind), sliWrongKind⟩)
    (ciWrongKind : PySem.W.codeIn K cdiWrongKind "WrongKind.__init__" = true)
    (kiWrongKind : PySem.W.keepIn K (.ref fiWrongKind) = true)
    (tiWrongKind : PySem.W.typeIn K (.ref fiWrongKind) = some (.type "function"))
    (nWrongKind_argument : PySem.W.findIn K (.ref CWrongKind) "argument" = some none)
    (kWrongKind_WrongKind : PySem.W.subIn K (.ref CWrongKind) (.ref CWrongKind) = some true)
    (kWrongKind_OutOfBounds : PySem.W.subIn K (.ref CWrongKind) (.ref COutOfBounds) = some false)
    (neWrongKind_OutOfBounds : Nat.beq CWrongKind COutOfBounds = false)
    (kWrongKind_RepeatedName : PySem.W.subIn K (.ref CWrongKind) (.ref CRepeatedName) = some false)
    (neWrongKind_RepeatedName : Nat.beq CWrongKind CRepeatedName = false)
    (kWrongKind_UnknownName : PySem.W.subIn K (.ref CWrongKind) (.ref CUnknownName) = some false)
    (neWrongKind_UnknownName : Nat.beq CWrongKind CUnknownName = false)
    (kWrongKind_UnfitError : PySem.W.subIn K (.ref CWrongKind) (.ref CUnfitError) = some false)
    (neWrongKind_UnfitError : Nat.beq CWrongKind CUnfitError = false)
    (kWrongKind_Unsafe : PySem.W.subIn K (.ref CWrongKind) (.ref CUnsafe) = some false)
    (neWrongKind_Unsafe : Nat.beq CWrongKind CUnsafe = false)
    (kWrongKind_BadText : PySem.W.subIn K (.ref CWrongKind) (.ref CBadText) = some false)
    (neWrongKind_BadText : Nat.beq CWrongKind CBadText = false)
    (kWrongKind_ValueError : PySem.W.subIn K (.ref CWrongKind) (.type "ValueError") = some true)
    (kWrongKind_FrameError : PySem.W.subIn K (.ref CWrongKind) (.ref CFrameError) = some true)
    (xLOutOfBounds : K.lookup COutOfBounds = some (excClassObj nmOutOfBounds qnOutOfBounds COutOfBounds NOutOfBounds bsOutOfBounds bmOutOfBounds true snOutOfBounds subOutOfBounds abOutOfBounds colOutOfBounds ddOutOfBounds m0OutOfBounds m1OutOfBounds m2OutOfBounds m3OutOfBounds m5OutOfBounds "ValueError.__new__"))
    (rvOutOfBounds : PySem.HandSPX.refsVE bmOutOfBounds = true)
    (saOutOfBounds : PySem.W.findIn K (.ref COutOfBounds) "__setattr__" = some (some (.builtin "object.__setattr__")))
    (exOutOfBounds : PySem.W.subIn K (.ref COutOfBounds) (.type "BaseException") = some true)
    (tyOutOfBounds : PySem.W.typeIn K (.ref COutOfBounds) = some (.type "type"))
    (kcOutOfBounds : PySem.W.keepIn K (.ref COutOfBounds) = true)
    (hgOutOfBounds : PySem.W.findIn K (.ref COutOfBounds) "__getattribute__" = some (some (.builtin "BaseException.__getattribute__")))
    (hkOutOfBounds : PySem.W.findIn K (.ref COutOfBounds) "__getattr__" = some none)
    (hdOutOfBounds : PySem.W.hasDictIn K COutOfBounds = true)
    (haOutOfBounds : PySem.W.findIn K (.ref COutOfBounds) "__class__" = some (some (.builtin "object.__class__")))
    (hmOutOfBounds : PySem.W.mroIn K COutOfBounds (.type "object") = some true)
    (aiOutOfBounds : PySem.W.findIn K (.ref COutOfBounds) "__init__" = some (some (.ref fiOutOfBounds)))
    (liOutOfBounds : K.lookup fiOutOfBounds = some ⟨ociOutOfBounds, odiOutOfBounds, .func (PySem.W.fnOf "__init__" "OutOfBounds.__init__" (defArgs (inClass (topS 3) 0)) (defBody (inClass (topS 3) 0)) (defScope (inClass (topS 3) 0)) .none kViOutOfBounds dciOutOfBounds pmiOutOfBounds aniOutOfBounds cdiOutOfBounds ctiOutOfBounds), sliOutOfBounds⟩)
    (ciOutOfBounds : PySem.W.codeIn K cdiOutOfBounds "OutOfBounds.__init__" = true)
    (kiOutOfBounds : PySem.W.keepIn K (.ref fiOutOfBounds) = true)
    (tiOutOfBounds : PySem.W.typeIn K (.ref fiOutOfBounds) = some (.type "function"))
    (nOutOfBounds_argument : PySem.W.findIn K (.ref COutOfBounds) "argument" = some none)
    (kOutOfBounds_WrongKind : PySem.W.subIn K (.ref COutOfBounds) (.ref CWrongKind) = some false)
    (neOutOfBounds_WrongKind : Nat.beq COutOfBounds CWrongKind = false)
    (kOutOfBounds_OutOfBounds : PySem.W.subIn K (.ref COutOfBounds) (.ref COutOfBounds) = some true)
    (kOutOfBounds_RepeatedName : PySem.W.subIn K (.ref COutOfBounds) (.ref CRepeatedName) = some false)
    (neOutOfBounds_RepeatedName : Nat.beq COutOfBounds CRepeatedName = false)
    (kOutOfBounds_UnknownName : PySem.W.subIn K (.ref COutOfBounds) (.ref CUnknownName) = some false)
    (neOutOfBounds_UnknownName : Nat.beq COutOfBounds CUnknownName = false)
    (kOutOfBounds_UnfitError : PySem.W.subIn K (.ref COutOfBounds) (.ref CUnfitError) = some false)
    (neOutOfBounds_UnfitError : Nat.beq COutOfBounds CUnfitError = false)
    (kOutOfBounds_Unsafe : PySem.W.subIn K (.ref COutOfBounds) (.ref CUnsafe) = some false)
    (neOutOfBounds_Unsafe : Nat.beq COutOfBounds CUnsafe = false)
    (kOutOfBounds_BadText : PySem.W.subIn K (.ref COutOfBounds) (.ref CBadText) = some false)
    (neOutOfBounds_BadText : Nat.beq COutOfBounds CBadText = false)
    (kOutOfBounds_ValueError : PySem.W.subIn K (.ref COutOfBounds) (.type "ValueError") = some true)
    (kOutOfBounds_FrameError : PySem.W.subIn K (.ref COutOfBounds) (.ref CFrameError) = some true)
    (isWrongKind : PySem.W.isClsIn K CWrongKind = true)
    (isOutOfBounds : PySem.W.isClsIn K COutOfBounds = true)
    (tyRepeatedName : PySem.W.typeIn K (.ref CRepeatedName) = some (.type "type"))
    (isRepeatedName : PySem.W.isClsIn K CRepeatedName = true)
    (tyUnknownName : PySem.W.typeIn K (.ref CUnknownName) = some (.type "type"))
    (isUnknownName : PySem.W.isClsIn K CUnknownName = true)
    (tyUnfitError : PySem.W.typeIn K (.ref CUnfitError) = some (.type "type"))
    (isUnfitError : PySem.W.isClsIn K CUnfitError = true)
    (tyUnsafe : PySem.W.typeIn K (.ref CUnsafe) = some (.type "type"))
    (isUnsafe : PySem.W.isClsIn K CUnsafe = true)
    (tyBadText : PySem.W.typeIn K (.ref CBadText) = some (.type "type"))
    (isBadText : PySem.W.isClsIn K CBadText = true)
    (tyFrameError : PySem.W.typeIn K (.ref CFrameError) = some (.type "type"))
    (isFrameError : PySem.W.isClsIn K CFrameError = true)
    (exFrameError : PySem.W.subIn K (.ref CFrameError) (.type "BaseException") = some true)
    (qZERO_RATIO : PySem.W.nsIn K mainGlobals "ZERO_RATIO" = some (some (.ref aZERO_RATIO)))
    (lNZERO_RATIO : K.lookup aZERO_RATIO = some ⟨.type "tuple", dNZERO_RATIO, .seq [.int 0 tk0ZERO_RATIO, .int 1 tk1ZERO_RATIO].toArray nNZERO_RATIO, sNZERO_RATIO⟩)
    (qMOST_CHAIN : PySem.W.nsIn K mainGlobals "MOST_CHAIN" = some (some (.int 3 tMC)))
    (hn : PySem.W.specialIn K (.builtin "object.__class__") "__get__" = some (some (.builtin "getset_descriptor.__get__")))
    (ht : PySem.W.takesIn K (.builtin "object.__class__") = some true)
    (z_reversed : PySem.W.nsIn K mainGlobals "reversed" = some none)
    (z_len : PySem.W.nsIn K mainGlobals "len" = some none)
    (z_max : PySem.W.nsIn K mainGlobals "max" = some none)
    (z_min : PySem.W.nsIn K mainGlobals "min" = some none)
    (z_abs : PySem.W.nsIn K mainGlobals "abs" = some none)
    (z_int : PySem.W.nsIn K mainGlobals "int" = some none)
    (z_str : PySem.W.nsIn K mainGlobals "str" = some none)
    (z_bool : PySem.W.nsIn K mainGlobals "bool" = some none)
    (z_list : PySem.W.nsIn K mainGlobals "list" = some none)
    (z_tuple : PySem.W.nsIn K mainGlobals "tuple" = some none)
    (z_dict : PySem.W.nsIn K mainGlobals "dict" = some none)
    (z_isinstance : PySem.W.nsIn K mainGlobals "isinstance" = some none)
    (z_range : PySem.W.nsIn K mainGlobals "range" = some none)
    (z_enumerate : PySem.W.nsIn K mainGlobals "enumerate" = some none)
    (z_all : PySem.W.nsIn K mainGlobals "all" = some none)
    (z_ValueError : PySem.W.nsIn K mainGlobals "ValueError" = some none)
    (dig : PySem.W.nsIn K cStatics "sys.int_max_str_digits" = some none) :
    ∃ fd : FuncData, (∀ (s : Shared) (v : Value), BindsTo s fd ⟨[v], []⟩ [("script", v)]) ∧ ∀ base : Heap, K.In base → base.Ns mainGlobals mg → FnOk l.prog w K mg base (L2N.CX l.prog w) 179 fa fd ["script"] (spLaw K) := by
  have e := hfa.symm.trans (PySem.W.mg_of X G a_law)
  cases e
  have F_is_whole := fun_mk (st := topS 12) l_is_whole c_is_whole k_is_whole
  have b_is_whole := F_is_whole.binds (ps := ["value"]) fun _ _ _ _ _ _ us hl => match us, hl with | [_], _ => rfl
  have F_divisor := fun_mk (st := topS 13) l_divisor c_divisor k_divisor
  have b_divisor := F_divisor.binds (ps := ["one", "other"]) fun _ _ _ _ _ _ us hl => match us, hl with | [_, _], _ => rfl
  have F_lowest := fun_mk (st := topS 14) l_lowest c_lowest k_lowest
  have b_lowest := F_lowest.binds (ps := ["top", "bottom"]) fun _ _ _ _ _ _ us hl => match us, hl with | [_, _], _ => rfl
  have F_sign_of := fun_mk (st := topS 15) l_sign_of c_sign_of k_sign_of
  have b_sign_of := F_sign_of.binds (ps := ["number"]) fun _ _ _ _ _ _ us hl => match us, hl with | [_], _ => rfl
  have F_floor_root := fun_mk (st := topS 16) l_floor_root c_floor_root k_floor_root
  have b_floor_root := F_floor_root.binds (ps := ["number"]) fun _ _ _ _ _ _ us hl => match us, hl with | [_], _ => rfl
  have F_need_ratio := fun_mk (st := topS 17) l_need_ratio c_need_ratio k_need_ratio
  have b_need_ratio := F_need_ratio.binds (ps := ["value", "argument"]) fun _ _ _ _ _ _ us hl => match us, hl with | [_, _], _ => rfl
  have F_need_two := fun_mk (st := topS 18) l_need_two c_need_two k_need_two
  have b_need_two := F_need_two.binds (ps := ["one", "other"]) fun _ _ _ _ _ _ us hl => match us, hl with | [_, _], _ => rfl
  have F_is_ratio := fun_mk (st := topS 19) l_is_ratio c_is_ratio k_is_ratio
  have b_is_ratio := F_is_ratio.binds (ps := ["value"]) fun _ _ _ _ _ _ us hl => match us, hl with | [_], _ => rfl
  have F_add := fun_mk (st := topS 20) l_add c_add k_add
  have b_add := F_add.binds (ps := ["one", "other"]) fun _ _ _ _ _ _ us hl => match us, hl with | [_, _], _ => rfl
  have F_subtract := fun_mk (st := topS 21) l_subtract c_subtract k_subtract
  have b_subtract := F_subtract.binds (ps := ["one", "other"]) fun _ _ _ _ _ _ us hl => match us, hl with | [_, _], _ => rfl
  have F_multiply := fun_mk (st := topS 22) l_multiply c_multiply k_multiply
  have b_multiply := F_multiply.binds (ps := ["one", "other"]) fun _ _ _ _ _ _ us hl => match us, hl with | [_, _], _ => rfl
  have F_divide := fun_mk (st := topS 23) l_divide c_divide k_divide
  have b_divide := F_divide.binds (ps := ["one", "other"]) fun _ _ _ _ _ _ us hl => match us, hl with | [_, _], _ => rfl
  have F_negate := fun_mk (st := topS 24) l_negate c_negate k_negate
  have b_negate := F_negate.binds (ps := ["one"]) fun _ _ _ _ _ _ us hl => match us, hl with | [_], _ => rfl
  have F_sign := fun_mk (st := topS 25) l_sign c_sign k_sign
  have b_sign := F_sign.binds (ps := ["one"]) fun _ _ _ _ _ _ us hl => match us, hl with | [_], _ => rfl
  have F_compare := fun_mk (st := topS 26) l_compare c_compare k_compare
  have b_compare := F_compare.binds (ps := ["one", "other"]) fun _ _ _ _ _ _ us hl => match us, hl with | [_, _], _ => rfl
  have F_root := fun_mk (st := topS 27) l_root c_root k_root
  have b_root := F_root.binds (ps := ["one"]) fun _ _ _ _ _ _ us hl => match us, hl with | [_], _ => rfl
  have F_root_sign := fun_mk (st := topS 28) l_root_sign c_root_sign k_root_sign
  have b_root_sign := F_root_sign.binds (ps := ["plain", "factor", "under"]) fun _ _ _ _ _ _ us hl => match us, hl with | [_, _, _], _ => rfl
  have F_is_point := fun_mk (st := topS 31) l_is_point c_is_point k_is_point
  have b_is_point := F_is_point.binds (ps := ["value"]) fun _ _ _ _ _ _ us hl => match us, hl with | [_], _ => rfl
  have F_point_sum := fun_mk (st := topS 32) l_point_sum c_point_sum k_point_sum
  have b_point_sum := F_point_sum.binds (ps := ["one", "other"]) fun _ _ _ _ _ _ us hl => match us, hl with | [_, _], _ => rfl
  have F_point_gap := fun_mk (st := topS 33) l_point_gap c_point_gap k_point_gap
  have b_point_gap := F_point_gap.binds (ps := ["one", "other"]) fun _ _ _ _ _ _ us hl => match us, hl with | [_, _], _ => rfl
  have F_point_times := fun_mk (st := topS 34) l_point_times c_point_times k_point_times
  have b_point_times := F_point_times.binds (ps := ["point", "factor"]) fun _ _ _ _ _ _ us hl => match us, hl with | [_, _], _ => rfl
  have F_point_dot := fun_mk (st := topS 35) l_point_dot c_point_dot k_point_dot
  have b_point_dot := F_point_dot.binds (ps := ["one", "other"]) fun _ _ _ _ _ _ us hl => match us, hl with | [_, _], _ => rfl
  have F_left_turn := fun_mk (st := topS 36) l_left_turn c_left_turn k_left_turn
  have b_left_turn := F_left_turn.binds (ps := ["point"]) fun _ _ _ _ _ _ us hl => match us, hl with | [_], _ => rfl
  have F_point_square := fun_mk (st := topS 37) l_point_square c_point_square k_point_square
  have b_point_square := F_point_square.binds (ps := ["point"]) fun _ _ _ _ _ _ us hl => match us, hl with | [_], _ => rfl
  have F_is_positive := fun_mk (st := topS 40) l_is_positive c_is_positive k_is_positive
  have b_is_positive := F_is_positive.binds (ps := ["value"]) fun _ _ _ _ _ _ us hl => match us, hl with | [_], _ => rfl
  have F_is_side := fun_mk (st := topS 41) l_is_side c_is_side k_is_side
  have b_is_side := F_is_side.binds (ps := ["value"]) fun _ _ _ _ _ _ us hl => match us, hl with | [_], _ => rfl
  have F_check_point := fun_mk (st := topS 42) l_check_point c_check_point k_check_point
  have b_check_point := F_check_point.binds (ps := ["value", "argument"]) fun _ _ _ _ _ _ us hl => match us, hl with | [_, _], _ => rfl
  have F_check_positive := fun_mk (st := topS 43) l_check_positive c_check_positive k_check_positive
  have b_check_positive := F_check_positive.binds (ps := ["value", "argument"]) fun _ _ _ _ _ _ us hl => match us, hl with | [_, _], _ => rfl
  have F_spot_at := fun_mk (st := topS 44) l_spot_at c_spot_at k_spot_at
  have b_spot_at := F_spot_at.binds (ps := ["base", "lean", "under"]) fun _ _ _ _ _ _ us hl => match us, hl with | [_, _, _], _ => rfl
  have F_meet : FunD K "meet" "meet" (defArgs (topS 45)) (defBody (topS 45)) (defScope (topS 45)) [] [("side", .int 1)] f_meet _ := ⟨⟨_, _, _, _, _, _, _, _, _, _, rfl, l_meet, c_meet, .inl ⟨rfl, rfl⟩, .inr ⟨Dkw, rfl, fun q hq => (by rw [List.mem_singleton.mp hq]; exact ⟨_, kwmeet, ⟨tkw, rfl⟩⟩)⟩⟩, k_meet⟩
  obtain ⟨ds_meet, vd_meet, bd_meet⟩ := F_meet.binds0 (ps := ["one", "other", "first", "second", "side"]) 4 (by simp) rfl fun _ _ _ _ _ _ us ks h1 h2 => match us, ks, h1, h2 with | [_, _, _, _], [_], _, _ => ⟨_, _, _, _, _, _, rfl, rfl, rfl⟩
  obtain ⟨_, kb_meet⟩ := F_meet.kbinds0 (ps := ["one", "other", "first", "second", "side"]) 4 ["side"] [] (fun us mv ws => us ++ ws) (by simp) (by simp) (fun r1 _ r3 => r1.append r3) fun _ _ _ _ _ _ us mv ws h1 h2 h3 => match us, mv, ws, h1, h2, h3 with | [_, _, _, _], [], [_], _, _, _ => rfl
  have F_exceeds := fun_mk (st := topS 46) l_exceeds c_exceeds k_exceeds
  have b_exceeds := F_exceeds.binds (ps := ["longest", "others"]) fun _ _ _ _ _ _ us hl => match us, hl with | [_, _], _ => rfl
  have F_padded := fun_mk (st := topS 47) l_padded c_padded k_padded
  have b_padded := F_padded.binds (ps := ["values"]) fun _ _ _ _ _ _ us hl => match us, hl with | [_], _ => rfl
  have F_chain_reach := fun_mk (st := topS 48) l_chain_reach c_chain_reach k_chain_reach
  have b_chain_reach := F_chain_reach.binds (ps := ["squares", "distance"]) fun _ _ _ _ _ _ us hl => match us, hl with | [_, _], _ => rfl
  have F_store := fun_mk (st := topS 50) l_store c_store k_store
  have b_store := F_store.binds (ps := ["script"]) fun _ _ _ _ _ _ us hl => match us, hl with | [_], _ => rfl
  have F_take := fun_mk (st := topS 51) l_take c_take k_take
  have b_take := F_take.binds (ps := ["store", "many"]) fun _ _ _ _ _ _ us hl => match us, hl with | [_, _], _ => rfl
  have F_edge := fun_mk (st := topS 52) l_edge c_edge k_edge
  have b_edge := F_edge.binds (ps := ["store", "many"]) fun _ _ _ _ _ _ us hl => match us, hl with | [_, _], _ => rfl
  have F_between := fun_mk (st := topS 53) l_between c_between k_between
  have b_between := F_between.binds (ps := ["store", "low", "high"]) fun _ _ _ _ _ _ us hl => match us, hl with | [_, _, _], _ => rfl
  have F_pick := fun_mk (st := topS 54) l_pick c_pick k_pick
  have b_pick := F_pick.binds (ps := ["store", "items"]) fun _ _ _ _ _ _ us hl => match us, hl with | [_, _], _ => rfl
  have F_mixed := fun_mk (st := topS 55) l_mixed c_mixed k_mixed
  have b_mixed := F_mixed.binds (ps := ["store", "items"]) fun _ _ _ _ _ _ us hl => match us, hl with | [_, _], _ => rfl
  have F_low := fun_mk (st := topS 56) l_low c_low k_low
  have b_low := F_low.binds (ps := ["up", "down"]) fun _ _ _ _ _ _ us hl => match us, hl with | [_, _], _ => rfl
  have F_plus := fun_mk (st := topS 57) l_plus c_plus k_plus
  have b_plus := F_plus.binds (ps := ["one", "two"]) fun _ _ _ _ _ _ us hl => match us, hl with | [_, _], _ => rfl
  have F_minus := fun_mk (st := topS 58) l_minus c_minus k_minus
  have b_minus := F_minus.binds (ps := ["one", "two"]) fun _ _ _ _ _ _ us hl => match us, hl with | [_, _], _ => rfl
  have F_times := fun_mk (st := topS 59) l_times c_times k_times
  have b_times := F_times.binds (ps := ["one", "two"]) fun _ _ _ _ _ _ us hl => match us, hl with | [_, _], _ => rfl
  have F_sgn := fun_mk (st := topS 60) l_sgn c_sgn k_sgn
  have b_sgn := F_sgn.binds (ps := ["one"]) fun _ _ _ _ _ _ us hl => match us, hl with | [_], _ => rfl
  have F_cmp := fun_mk (st := topS 61) l_cmp c_cmp k_cmp
  have b_cmp := F_cmp.binds (ps := ["one", "two"]) fun _ _ _ _ _ _ us hl => match us, hl with | [_, _], _ => rfl
  have F_sum := fun_mk (st := topS 62) l_sum c_sum k_sum
  have b_sum := F_sum.binds (ps := ["items"]) fun _ _ _ _ _ _ us hl => match us, hl with | [_], _ => rfl
  have F_padd := fun_mk (st := topS 63) l_padd c_padd k_padd
  have b_padd := F_padd.binds (ps := ["one", "two"]) fun _ _ _ _ _ _ us hl => match us, hl with | [_, _], _ => rfl
  have F_psub := fun_mk (st := topS 64) l_psub c_psub k_psub
  have b_psub := F_psub.binds (ps := ["one", "two"]) fun _ _ _ _ _ _ us hl => match us, hl with | [_, _], _ => rfl
  have F_pmul := fun_mk (st := topS 65) l_pmul c_pmul k_pmul
  have b_pmul := F_pmul.binds (ps := ["by", "one"]) fun _ _ _ _ _ _ us hl => match us, hl with | [_, _], _ => rfl
  have F_pdot := fun_mk (st := topS 66) l_pdot c_pdot k_pdot
  have b_pdot := F_pdot.binds (ps := ["one", "two"]) fun _ _ _ _ _ _ us hl => match us, hl with | [_, _], _ => rfl
  have F_psq := fun_mk (st := topS 67) l_psq c_psq k_psq
  have b_psq := F_psq.binds (ps := ["one"]) fun _ _ _ _ _ _ us hl => match us, hl with | [_], _ => rfl
  have F_small := fun_mk (st := topS 68) l_small c_small k_small
  have b_small := F_small.binds (ps := ["store"]) fun _ _ _ _ _ _ us hl => match us, hl with | [_], _ => rfl
  have F_positive := fun_mk (st := topS 69) l_positive c_positive k_positive
  have b_positive := F_positive.binds (ps := ["store"]) fun _ _ _ _ _ _ us hl => match us, hl with | [_], _ => rfl
  have F_cost := fun_mk (st := topS 70) l_cost c_cost k_cost
  have b_cost := F_cost.binds (ps := ["store"]) fun _ _ _ _ _ _ us hl => match us, hl with | [_], _ => rfl
  have F_point := fun_mk (st := topS 71) l_point c_point k_point
  have b_point := F_point.binds (ps := ["store"]) fun _ _ _ _ _ _ us hl => match us, hl with | [_], _ => rfl
  have F_not_ratio := fun_mk (st := topS 72) l_not_ratio c_not_ratio k_not_ratio
  have b_not_ratio := F_not_ratio.binds (ps := ["store", "none_too"]) fun _ _ _ _ _ _ us hl => match us, hl with | [_, _], _ => rfl
  have F_circles := fun_mk (st := topS 73) l_circles c_circles k_circles
  have b_circles := F_circles.binds (ps := ["store"]) fun _ _ _ _ _ _ us hl => match us, hl with | [_], _ => rfl
  have F_chain := fun_mk (st := topS 74) l_chain c_chain k_chain
  have b_chain := F_chain.binds (ps := ["store"]) fun _ _ _ _ _ _ us hl => match us, hl with | [_], _ => rfl
  have F_like := fun_mk (st := topS 75) l_like c_like k_like
  have b_like := F_like.binds (ps := ["got", "due"]) fun _ _ _ _ _ _ us hl => match us, hl with | [_, _], _ => rfl
  have F_long := fun_mk (st := topS 76) l_long c_long k_long
  have b_long := F_long.binds (ps := ["store"]) fun _ _ _ _ _ _ us hl => match us, hl with | [_], _ => rfl
  have F_drawn := fun_mk (st := topS 77) l_drawn c_drawn k_drawn
  have b_drawn := F_drawn.binds (ps := ["store"]) fun _ _ _ _ _ _ us hl => match us, hl with | [_], _ => rfl
  have F_longer := fun_mk (st := topS 78) l_longer c_longer k_longer
  have b_longer := F_longer.binds (ps := ["most", "some"]) fun _ _ _ _ _ _ us hl => match us, hl with | [_, _], _ => rfl
  have F_due := fun_mk (st := topS 79) l_due c_due k_due
  have b_due := F_due.binds (ps := ["bars", "gap"]) fun _ _ _ _ _ _ us hl => match us, hl with | [_, _], _ => rfl
  have F_right := fun_mk (st := topS 80) l_right c_right k_right
  have b_right := F_right.binds (ps := ["bars", "gap"]) fun _ _ _ _ _ _ us hl => match us, hl with | [_, _], _ => rfl
  have F_orders := fun_mk (st := topS 81) l_orders c_orders k_orders
  have b_orders := F_orders.binds (ps := ["store", "bars", "gap"]) fun _ _ _ _ _ _ us hl => match us, hl with | [_, _, _], _ => rfl
  have F_meets := fun_mk (st := topS 82) l_meets c_meets k_meets
  have b_meets := F_meets.binds (ps := ["store"]) fun _ _ _ _ _ _ us hl => match us, hl with | [_], _ => rfl
  have F_failed := fun_mk (st := topS 83) l_failed c_failed k_failed
  have b_failed := F_failed.binds (ps := ["e"]) fun _ _ _ _ _ _ us hl => match us, hl with | [_], _ => rfl
  have F_call := fun_mk (st := topS 84) l_call c_call k_call
  have b_call := F_call.binds (ps := ["bars", "gap"]) fun _ _ _ _ _ _ us hl => match us, hl with | [_, _], _ => rfl
  have F_refusals := fun_mk (st := topS 85) l_refusals c_refusals k_refusals
  have b_refusals := F_refusals.binds (ps := ["store", "bars", "gap"]) fun _ _ _ _ _ _ us hl => match us, hl with | [_, _, _], _ => rfl
  have F_law := fun_mk (st := topS 86) l_law c_law k_law
  have b_law := F_law.binds (ps := ["script"]) fun _ _ _ _ _ _ us hl => match us, hl with | [_], _ => rfl
  have FiWrongKind : FunD K "__init__" "WrongKind.__init__" (defArgs (inClass (topS 2) 0)) (defBody (inClass (topS 2) 0)) (defScope (inClass (topS 2) 0)) [] [] fiWrongKind _ := ⟨⟨_, _, _, _, _, _, _, _, _, _, rfl, liWrongKind, ciWrongKind, .inl ⟨rfl, rfl⟩, .inl rfl⟩, kiWrongKind⟩
  have b1iWrongKind := FiWrongKind.bindsN (ps := ["self", "argument"]) fun _ _ _ _ _ _ us hl => match us, hl with | [_, _], _ => rfl
  have FiOutOfBounds : FunD K "__init__" "OutOfBounds.__init__" (defArgs (inClass (topS 3) 0)) (defBody (inClass (topS 3) 0)) (defScope (inClass (topS 3) 0)) [] [] fiOutOfBounds _ := ⟨⟨_, _, _, _, _, _, _, _, _, _, rfl, liOutOfBounds, ciOutOfBounds, .inl ⟨rfl, rfl⟩, .inl rfl⟩, kiOutOfBounds⟩
  have b1iOutOfBounds := FiOutOfBounds.bindsN (ps := ["self", "argument"]) fun _ _ _ _ _ _ us hl => match us, hl with | [_, _], _ => rfl
  let T : Txt K mg := {
    dis_whole := ⟨f_is_whole, _, F_is_whole, b_is_whole, PySem.W.mg_of X G a_is_whole⟩
    ddivisor := ⟨f_divisor, _, F_divisor, b_divisor, PySem.W.mg_of X G a_divisor⟩
    dlowest := ⟨f_lowest, _, F_lowest, b_lowest, PySem.W.mg_of X G a_lowest⟩
    dsign_of := ⟨f_sign_of, _, F_sign_of, b_sign_of, PySem.W.mg_of X G a_sign_of⟩
    dfloor_root := ⟨f_floor_root, _, F_floor_root, b_floor_root, PySem.W.mg_of X G a_floor_root⟩
    dneed_ratio := ⟨f_need_ratio, _, F_need_ratio, b_need_ratio, PySem.W.mg_of X G a_need_ratio⟩
    dneed_two := ⟨f_need_two, _, F_need_two, b_need_two, PySem.W.mg_of X G a_need_two⟩
    dis_ratio := ⟨f_is_ratio, _, F_is_ratio, b_is_ratio, PySem.W.mg_of X G a_is_ratio⟩
    dadd := ⟨f_add, _, F_add, b_add, PySem.W.mg_of X G a_add⟩
    dsubtract := ⟨f_subtract, _, F_subtract, b_subtract, PySem.W.mg_of X G a_subtract⟩
    dmultiply := ⟨f_multiply, _, F_multiply, b_multiply, PySem.W.mg_of X G a_multiply⟩
    ddivide := ⟨f_divide, _, F_divide, b_divide, PySem.W.mg_of X G a_divide⟩
    dnegate := ⟨f_negate, _, F_negate, b_negate, PySem.W.mg_of X G a_negate⟩
    dsign := ⟨f_sign, _, F_sign, b_sign, PySem.W.mg_of X G a_sign⟩
    dcompare := ⟨f_compare, _, F_compare, b_compare, PySem.W.mg_of X G a_compare⟩
    droot := ⟨f_root, _, F_root, b_root, PySem.W.mg_of X G a_root⟩
    droot_sign := ⟨f_root_sign, _, F_root_sign, b_root_sign, PySem.W.mg_of X G a_root_sign⟩
    dis_point := ⟨f_is_point, _, F_is_point, b_is_point, PySem.W.mg_of X G a_is_point⟩
    dpoint_sum := ⟨f_point_sum, _, F_point_sum, b_point_sum, PySem.W.mg_of X G a_point_sum⟩
    dpoint_gap := ⟨f_point_gap, _, F_point_gap, b_point_gap, PySem.W.mg_of X G a_point_gap⟩
    dpoint_times := ⟨f_point_times, _, F_point_times, b_point_times, PySem.W.mg_of X G a_point_times⟩
    dpoint_dot := ⟨f_point_dot, _, F_point_dot, b_point_dot, PySem.W.mg_of X G a_point_dot⟩
    dleft_turn := ⟨f_left_turn, _, F_left_turn, b_left_turn, PySem.W.mg_of X G a_left_turn⟩
    dpoint_square := ⟨f_point_square, _, F_point_square, b_point_square, PySem.W.mg_of X G a_point_square⟩
    dis_positive := ⟨f_is_positive, _, F_is_positive, b_is_positive, PySem.W.mg_of X G a_is_positive⟩
    dis_side := ⟨f_is_side, _, F_is_side, b_is_side, PySem.W.mg_of X G a_is_side⟩
    dcheck_point := ⟨f_check_point, _, F_check_point, b_check_point, PySem.W.mg_of X G a_check_point⟩
    dcheck_positive := ⟨f_check_positive, _, F_check_positive, b_check_positive, PySem.W.mg_of X G a_check_positive⟩
    dspot_at := ⟨f_spot_at, _, F_spot_at, b_spot_at, PySem.W.mg_of X G a_spot_at⟩
    dmeet := ⟨f_meet, _, F_meet, ds_meet, vd_meet, bd_meet, kb_meet, PySem.W.mg_of X G a_meet⟩
    dexceeds := ⟨f_exceeds, _, F_exceeds, b_exceeds, PySem.W.mg_of X G a_exceeds⟩
    dpadded := ⟨f_padded, _, F_padded, b_padded, PySem.W.mg_of X G a_padded⟩
    dchain_reach := ⟨f_chain_reach, _, F_chain_reach, b_chain_reach, PySem.W.mg_of X G a_chain_reach⟩
    dstore := ⟨f_store, _, F_store, b_store, PySem.W.mg_of X G a_store⟩
    dtake := ⟨f_take, _, F_take, b_take, PySem.W.mg_of X G a_take⟩
    dedge := ⟨f_edge, _, F_edge, b_edge, PySem.W.mg_of X G a_edge⟩
    dbetween := ⟨f_between, _, F_between, b_between, PySem.W.mg_of X G a_between⟩
    dpick := ⟨f_pick, _, F_pick, b_pick, PySem.W.mg_of X G a_pick⟩
    dmixed := ⟨f_mixed, _, F_mixed, b_mixed, PySem.W.mg_of X G a_mixed⟩
    dlow := ⟨f_low, _, F_low, b_low, PySem.W.mg_of X G a_low⟩
    dplus := ⟨f_plus, _, F_plus, b_plus, PySem.W.mg_of X G a_plus⟩
    dminus := ⟨f_minus, _, F_minus, b_minus, PySem.W.mg_of X G a_minus⟩
    dtimes := ⟨f_times, _, F_times, b_times, PySem.W.mg_of X G a_times⟩
    dsgn := ⟨f_sgn, _, F_sgn, b_sgn, PySem.W.mg_of X G a_sgn⟩
    dcmp := ⟨f_cmp, _, F_cmp, b_cmp, PySem.W.mg_of X G a_cmp⟩
    dsum := ⟨f_sum, _, F_sum, b_sum, PySem.W.mg_of X G a_sum⟩
    dpadd := ⟨f_padd, _, F_padd, b_padd, PySem.W.mg_of X G a_padd⟩
    dpsub := ⟨f_psub, _, F_psub, b_psub, PySem.W.mg_of X G a_psub⟩
    dpmul := ⟨f_pmul, _, F_pmul, b_pmul, PySem.W.mg_of X G a_pmul⟩
    dpdot := ⟨f_pdot, _, F_pdot, b_pdot, PySem.W.mg_of X G a_pdot⟩
    dpsq := ⟨f_psq, _, F_psq, b_psq, PySem.W.mg_of X G a_psq⟩
    dsmall := ⟨f_small, _, F_small, b_small, PySem.W.mg_of X G a_small⟩
    dpositive := ⟨f_positive, _, F_positive, b_positive, PySem.W.mg_of X G a_positive⟩
    dcost := ⟨f_cost, _, F_cost, b_cost, PySem.W.mg_of X G a_cost⟩
    dpoint := ⟨f_point, _, F_point, b_point, PySem.W.mg_of X G a_point⟩
    dnot_ratio := ⟨f_not_ratio, _, F_not_ratio, b_not_ratio, PySem.W.mg_of X G a_not_ratio⟩
    dcircles := ⟨f_circles, _, F_circles, b_circles, PySem.W.mg_of X G a_circles⟩
    dchain := ⟨f_chain, _, F_chain, b_chain, PySem.W.mg_of X G a_chain⟩
    dlike := ⟨f_like, _, F_like, b_like, PySem.W.mg_of X G a_like⟩
    dlong := ⟨f_long, _, F_long, b_long, PySem.W.mg_of X G a_long⟩
    ddrawn := ⟨f_drawn, _, F_drawn, b_drawn, PySem.W.mg_of X G a_drawn⟩
    dlonger := ⟨f_longer, _, F_longer, b_longer, PySem.W.mg_of X G a_longer⟩
    ddue := ⟨f_due, _, F_due, b_due, PySem.W.mg_of X G a_due⟩
    dright := ⟨f_right, _, F_right, b_right, PySem.W.mg_of X G a_right⟩
    dorders := ⟨f_orders, _, F_orders, b_orders, PySem.W.mg_of X G a_orders⟩
    dmeets := ⟨f_meets, _, F_meets, b_meets, PySem.W.mg_of X G a_meets⟩
    dfailed := ⟨f_failed, _, F_failed, b_failed, PySem.W.mg_of X G a_failed⟩
    dcall := ⟨f_call, _, F_call, b_call, PySem.W.mg_of X G a_call⟩
    drefusals := ⟨f_refusals, _, F_refusals, b_refusals, PySem.W.mg_of X G a_refusals⟩
    dlaw := ⟨fa, _, F_law, b_law, PySem.W.mg_of X G a_law⟩
    m_reversed := PySem.W.mg_none_of X G z_reversed
    m_len := PySem.W.mg_none_of X G z_len
    m_max := PySem.W.mg_none_of X G z_max
    m_min := PySem.W.mg_none_of X G z_min
    m_abs := PySem.W.mg_none_of X G z_abs
    m_int := PySem.W.mg_none_of X G z_int
    m_str := PySem.W.mg_none_of X G z_str
    m_bool := PySem.W.mg_none_of X G z_bool
    m_list := PySem.W.mg_none_of X G z_list
    m_tuple := PySem.W.mg_none_of X G z_tuple
    m_dict := PySem.W.mg_none_of X G z_dict
    m_isinstance := PySem.W.mg_none_of X G z_isinstance
    m_range := PySem.W.mg_none_of X G z_range
    m_enumerate := PySem.W.mg_none_of X G z_enumerate
    m_all := PySem.W.mg_none_of X G z_all
    m_ValueError := PySem.W.mg_none_of X G z_ValueError
    dig := dig
    aZERO_RATIO := aZERO_RATIO
    kZERO_RATIO := PySem.W.mg_of X G qZERO_RATIO
    vZERO_RATIO := fun so A => ⟨aZERO_RATIO, [.int 0, .int 1], rfl, (.inr ⟨_, _, nNZERO_RATIO, lNZERO_RATIO, rfl, rfl, (by show 2 ≤ sizeLine; decide), .cons ⟨tk0ZERO_RATIO, rfl⟩ (.cons ⟨tk1ZERO_RATIO, rfl⟩ .nil)⟩), .int 0, [.int 1], rfl, rfl, .int 1, [], rfl, rfl, rfl⟩
    tMOST_CHAIN := tMC
    kMOST_CHAIN := PySem.W.mg_of X G qMOST_CHAIN
    cFrameError := ⟨CFrameError, PySem.W.mg_of X G aFrameError⟩
    cWrongKind := ⟨CWrongKind, PySem.W.mg_of X G aWrongKind, ⟨⟨nmWrongKind, qnWrongKind, NWrongKind, bsWrongKind, bmWrongKind, snWrongKind, subWrongKind, abWrongKind, colWrongKind, ddWrongKind, m0WrongKind, m1WrongKind, m2WrongKind, m3WrongKind, m5WrongKind, xLWrongKind, rvWrongKind⟩, saWrongKind, exWrongKind, tyWrongKind, kcWrongKind⟩, ⟨⟨hgWrongKind, hkWrongKind, exWrongKind, hdWrongKind, haWrongKind, hn, ht, hmWrongKind⟩, cl_of xLWrongKind⟩⟩
    cOutOfBounds := ⟨COutOfBounds, PySem.W.mg_of X G aOutOfBounds, ⟨⟨nmOutOfBounds, qnOutOfBounds, NOutOfBounds, bsOutOfBounds, bmOutOfBounds, snOutOfBounds, subOutOfBounds, abOutOfBounds, colOutOfBounds, ddOutOfBounds, m0OutOfBounds, m1OutOfBounds, m2OutOfBounds, m3OutOfBounds, m5OutOfBounds, xLOutOfBounds, rvOutOfBounds⟩, saOutOfBounds, exOutOfBounds, tyOutOfBounds, kcOutOfBounds⟩, ⟨⟨hgOutOfBounds, hkOutOfBounds, exOutOfBounds, hdOutOfBounds, haOutOfBounds, hn, ht, hmOutOfBounds⟩, cl_of xLOutOfBounds⟩⟩
    cRepeatedName := ⟨CRepeatedName, PySem.W.mg_of X G aRepeatedName⟩
    cUnknownName := ⟨CUnknownName, PySem.W.mg_of X G aUnknownName⟩
    cUnfitError := ⟨CUnfitError, PySem.W.mg_of X G aUnfitError⟩
    cZeroDivisor := ⟨CZeroDivisor, PySem.W.mg_of X G aZeroDivisor⟩
    cNegativeRoot := ⟨CNegativeRoot, PySem.W.mg_of X G aNegativeRoot⟩
    cUnsafe := ⟨CUnsafe, PySem.W.mg_of X G aUnsafe⟩
    cBadText := ⟨CBadText, PySem.W.mg_of X G aBadText⟩
    iWrongKind := ⟨fiWrongKind, _, FiWrongKind, b1iWrongKind, [], .nil, b1iWrongKind, aiWrongKind, tiWrongKind⟩
    zWrongKind := ⟨fun f hf => by rw [List.mem_singleton.mp hf]; exact nWrongKind_argument, ⟨⟨nmWrongKind, qnWrongKind, NWrongKind, bsWrongKind, bmWrongKind, snWrongKind, subWrongKind, abWrongKind, colWrongKind, ddWrongKind, m0WrongKind, m1WrongKind, m2WrongKind, m3WrongKind, m5WrongKind, xLWrongKind, rvWrongKind⟩, saWrongKind, exWrongKind, tyWrongKind, kcWrongKind⟩, mk1_da⟩
    kWrongKind_WrongKind := kit_tR isWrongKind tyWrongKind kWrongKind_WrongKind
    kWrongKind_OutOfBounds := kit_fR neWrongKind_OutOfBounds isOutOfBounds tyOutOfBounds kWrongKind_OutOfBounds
    kWrongKind_RepeatedName := kit_fR neWrongKind_RepeatedName isRepeatedName tyRepeatedName kWrongKind_RepeatedName
    kWrongKind_UnknownName := kit_fR neWrongKind_UnknownName isUnknownName tyUnknownName kWrongKind_UnknownName
    kWrongKind_UnfitError := kit_fR neWrongKind_UnfitError isUnfitError tyUnfitError kWrongKind_UnfitError
    kWrongKind_Unsafe := kit_fR neWrongKind_Unsafe isUnsafe tyUnsafe kWrongKind_Unsafe
    kWrongKind_BadText := kit_fR neWrongKind_BadText isBadText tyBadText kWrongKind_BadText
    kWrongKind_ValueError := kit_tT kWrongKind_ValueError
    xWrongKind := exm_t exFrameError isFrameError tyFrameError kWrongKind_FrameError
    iOutOfBounds := ⟨fiOutOfBounds, _, FiOutOfBounds, b1iOutOfBounds, [], .nil, b1iOutOfBounds, aiOutOfBounds, tiOutOfBounds⟩
    zOutOfBounds := ⟨fun f hf => by rw [List.mem_singleton.mp hf]; exact nOutOfBounds_argument, ⟨⟨nmOutOfBounds, qnOutOfBounds, NOutOfBounds, bsOutOfBounds, bmOutOfBounds, snOutOfBounds, subOutOfBounds, abOutOfBounds, colOutOfBounds, ddOutOfBounds, m0OutOfBounds, m1OutOfBounds, m2OutOfBounds, m3OutOfBounds, m5OutOfBounds, xLOutOfBounds, rvOutOfBounds⟩, saOutOfBounds, exOutOfBounds, tyOutOfBounds, kcOutOfBounds⟩, mk1_da⟩
    kOutOfBounds_WrongKind := kit_fR neOutOfBounds_WrongKind isWrongKind tyWrongKind kOutOfBounds_WrongKind
    kOutOfBounds_OutOfBounds := kit_tR isOutOfBounds tyOutOfBounds kOutOfBounds_OutOfBounds
    kOutOfBounds_RepeatedName := kit_fR neOutOfBounds_RepeatedName isRepeatedName tyRepeatedName kOutOfBounds_RepeatedName
    kOutOfBounds_UnknownName := kit_fR neOutOfBounds_UnknownName isUnknownName tyUnknownName kOutOfBounds_UnknownName
    kOutOfBounds_UnfitError := kit_fR neOutOfBounds_UnfitError isUnfitError tyUnfitError kOutOfBounds_UnfitError
    kOutOfBounds_Unsafe := kit_fR neOutOfBounds_Unsafe isUnsafe tyUnsafe kOutOfBounds_Unsafe
    kOutOfBounds_BadText := kit_fR neOutOfBounds_BadText isBadText tyBadText kOutOfBounds_BadText
    kOutOfBounds_ValueError := kit_tT kOutOfBounds_ValueError
    xOutOfBounds := exm_t exFrameError isFrameError tyFrameError kOutOfBounds_FrameError
  }
  exact ⟨PySem.W.fnOf "law" "law" (defArgs (topS 86)) (defBody (topS 86)) (defScope (topS 86)) .none kV_law dc_law pm_law an_law cd_law ct_law, fun s v => .of_eq rfl, fun base _ _ => ok_law T⟩
theorem walk {l : PySem.W.OpenLaw} {q : Program} {loose : List Str} {XP : (Str → Option Value) → Heap → Prop} {YP : World → Heap → Prop} {d : DefRec} {K : Params → PySem.W.Frag} (hn : l.most = some 63) (hdf : d.params.defaults = [])
    (hY : ∀ (w : World) (h : Heap), YP w h → (K w.params).In h)
    (F : ∀ (w : World) (mg : Str → Option Value) (fa : Addr) (h : Heap), (K w.params).In h → h.Ns mainGlobals mg → mg d.name = some (.ref fa) →
      ∃ fd : FuncData, (∀ (s : Shared) (u : Value), BindsTo s fd ⟨[u], []⟩ [("script", u)]) ∧ ∀ base : Heap, (K w.params).In base → base.Ns mainGlobals mg → FnOk l.prog w (K w.params) mg base (L2N.CX l.prog w) 179 fa fd ["script"] (spLaw (K w.params))) :
    PySem.W.WalkO q loose XP YP l.row.toRowW d [] (fun f vs => PySem.call f vs) :=
  L2.walk_of (n := 63) (k := 179) (x := "script") (CX := fun w => L2N.CX l.prog w) (sp := fun w => spLaw (K w.params)) hn (by decide) hdf ⟨rfl, by decide, by decide⟩ hY F (fun _ _ a ns hl _ hS => ⟨a, ns, rfl, hS, hl, fun _ => rfl⟩) fun w H s e s' z => by
    obtain ⟨_, _, _, _, _, _, _, _, _, _, _, _, z⟩ := z
    exact z
end My
open PySem PySem.W PyProof.Rows in
set_option maxRecDepth 100000 in
set_option maxHeartbeats 0 in
theorem PySem.Challenge.cw_standframes_k76_chain_reach_is_that_of_m_holds : PySem.Challenge.rw_standframes_k76_chain_reach_is_that_of_m.Holds := by
  w_on; o_law; k_head; (case hw => w_witness2)
  k_fill
  refine My.walk (l := PySem.Challenge.rw_standframes_k76_chain_reach_is_that_of_m) rfl rfl (fun w h Y => PySem.W.kIn_of Y) ?F
  case F =>
    intro w mg fa h KX G hmg
    refine' My.all_mk KX G hmg ?aFrameError ?aWrongKind ?aOutOfBounds ?aRepeatedName ?aUnknownName ?aUnfitError ?aZeroDivisor ?aNegativeRoot ?aUnsafe ?aBadText ?a_is_whole ?l_is_whole ?c_is_whole ?k_is_whole ?a_divisor ?l_divisor ?c_divisor ?k_divisor ?a_lowest ?l_lowest ?c_lowest ?k_lowest ?a_sign_of ?l_sign_of ?c_sign_of ?k_sign_of ?a_floor_root ?l_floor_root ?c_floor_root ?k_floor_root ?a_need_ratio ?l_need_ratio ?c_need_ratio ?k_need_ratio ?a_need_two ?l_need_two ?c_need_two ?k_need_two ?a_is_ratio ?l_is_ratio ?c_is_ratio ?k_is_ratio ?a_add ?l_add ?c_add ?k_add ?a_subtract ?l_subtract ?c_subtract ?k_subtract ?a_multiply ?l_multiply ?c_multiply ?k_multiply ?a_divide ?l_divide ?c_divide ?k_divide ?a_negate ?l_negate ?c_negate ?k_negate ?a_sign ?l_sign ?c_sign ?k_sign ?a_compare ?l_compare ?c_compare ?k_compare ?a_root ?l_root ?c_root ?k_root ?a_root_sign ?l_root_sign ?c_root_sign ?k_root_sign ?a_is_point ?l_is_point ?c_is_point ?k_is_point ?a_point_sum ?l_point_sum ?c_point_sum ?k_point_sum ?a_point_gap ?l_point_gap ?c_point_gap ?k_point_gap ?a_point_times ?l_point_times ?c_point_times ?k_point_times ?a_point_dot ?l_point_dot ?c_point_dot ?k_point_dot ?a_left_turn ?l_left_turn ?c_left_turn ?k_left_turn ?a_point_square ?l_point_square ?c_point_square ?k_point_square ?a_is_positive ?l_is_positive ?c_is_positive ?k_is_positive ?a_is_side ?l_is_side ?c_is_side ?k_is_side ?a_check_point ?l_check_point ?c_check_point ?k_check_point ?a_check_positive ?l_check_positive ?c_check_positive ?k_check_positive ?a_spot_at ?l_spot_at ?c_spot_at ?k_spot_at ?a_meet ?l_meet ?kwmeet ?c_meet ?k_meet ?a_exceeds ?l_exceeds ?c_exceeds ?k_exceeds ?a_padded ?l_padded ?c_padded ?k_padded ?a_chain_reach ?l_chain_reach ?c_chain_reach ?k_chain_reach ?a_store ?l_store ?c_store ?k_store ?a_take ?l_take ?c_take ?k_take ?a_edge ?l_edge ?c_edge ?k_edge ?a_between ?l_between ?c_between ?k_between ?a_pick ?l_pick ?c_pick ?k_pick ?a_mixed ?l_mixed ?c_mixed ?k_mixed ?a_low ?l_low ?c_low ?k_low ?a_plus ?l_plus ?c_plus ?k_plus ?a_minus ?l_minus ?c_minus ?k_minus ?a_times ?l_times ?c_times ?k_times ?a_sgn ?l_sgn ?c_sgn ?k_sgn ?a_cmp ?l_cmp ?c_cmp ?k_cmp ?a_sum ?l_sum ?c_sum ?k_sum ?a_padd ?l_padd ?c_padd ?k_padd ?a_psub ?l_psub ?c_psub ?k_psub ?a_pmul ?l_pmul ?c_pmul ?k_pmul ?a_pdot ?l_pdot ?c_pdot ?k_pdot ?a_psq ?l_psq ?c_psq ?k_psq ?a_small ?l_small ?c_small ?k_small ?a_positive ?l_positive ?c_positive ?k_positive ?a_cost ?l_cost ?c_cost ?k_cost ?a_point ?l_point ?c_point ?k_point ?a_not_ratio ?l_not_ratio ?c_not_ratio ?k_not_ratio ?a_circles ?l_circles ?c_circles ?k_circles ?a_chain ?l_chain ?c_chain ?k_chain ?a_like ?l_like ?c_like ?k_like ?a_long ?l_long ?c_long ?k_long ?a_drawn ?l_drawn ?c_drawn ?k_drawn ?a_longer ?l_longer ?c_longer ?k_longer ?a_due ?l_due ?c_due ?k_due ?a_right ?l_right ?c_right ?k_right ?a_orders ?l_orders ?c_orders ?k_orders ?a_meets ?l_meets ?c_meets ?k_meets ?a_failed ?l_failed ?c_failed ?k_failed ?a_call ?l_call ?c_call ?k_call ?a_refusals ?l_refusals ?c_refusals ?k_refusals ?a_law ?l_law ?c_law ?k_law ?xLWrongKind ?rvWrongKind ?saWrongKind ?exWrongKind ?tyWrongKind ?kcWrongKind ?hgWrongKind ?hkWrongKind ?hdWrongKind ?haWrongKind ?hmWrongKind ?aiWrongKind ?liWrongKind ?ciWrongKind ?kiWrongKind ?tiWrongKind ?nWrongKind_argument ?kWrongKind_WrongKind ?kWrongKind_OutOfBounds ?neWrongKind_OutOfBounds ?kWrongKind_RepeatedName ?neWrongKind_RepeatedName ?kWrongKind_UnknownName ?neWrongKind_UnknownName ?kWrongKind_UnfitError ?neWrongKind_UnfitError ?kWrongKind_Unsafe ?neWrongKind_Unsafe ?kWrongKind_BadText ?neWrongKind_BadText ?kWrongKind_ValueError ?kWrongKind_FrameError ?xLOutOfBounds ?rvOutOfBounds ?saOutOfBounds ?exOutOfBounds ?tyOutOfBounds ?kcOutOfBounds ?hgOutOfBounds ?hkOutOfBounds ?hdOutOfBounds ?haOutOfBounds ?hmOutOfBounds ?aiOutOfBounds ?liOutOfBounds ?ciOutOfBounds ?kiOutOfBounds ?tiOutOfBounds ?nOutOfBounds_argument ?kOutOfBounds_WrongKind ?neOutOfBounds_WrongKind ?kOutOfBounds_OutOfBounds ?kOutOfBounds_RepeatedName ?neOutOfBounds_RepeatedName ?kOutOfBounds_UnknownName ?neOutOfBounds_UnknownName ?kOutOfBounds_UnfitError ?neOutOfBounds_UnfitError ?kOutOfBounds_Unsafe ?neOutOfBounds_Unsafe ?kOutOfBounds_BadText ?neOutOfBounds_BadText ?kOutOfBounds_ValueError ?kOutOfBounds_FrameError ?isWrongKind ?isOutOfBounds ?tyRepeatedName ?isRepeatedName ?tyUnknownName ?isUnknownName ?tyUnfitError ?isUnfitError ?tyUnsafe ?isUnsafe ?tyBadText ?isBadText ?tyFrameError ?isFrameError ?exFrameError ?qZERO_RATIO ?lNZERO_RATIO ?qMOST_CHAIN ?hn ?ht ?z_reversed ?z_len ?z_max ?z_min ?z_abs ?z_int ?z_str ?z_bool ?z_list ?z_tuple ?z_dict ?z_isinstance ?z_range ?z_enumerate ?z_all ?z_ValueError ?dig
    (case aFrameError => k_is)
    (case aWrongKind => k_is)
    (case aOutOfBounds => k_is)
    (case aRepeatedName => k_is)
    (case aUnknownName => k_is)
    (case aUnfitError => k_is)
    (case aZeroDivisor => k_is)
    (case aNegativeRoot => k_is)
    (case aUnsafe => k_is)
    (case aBadText => k_is)
    (case a_is_whole => k_is)
    (case l_is_whole => k_is)
    (case c_is_whole => k_is)
    (case k_is_whole => k_is)
    (case a_divisor => k_is)
    (case l_divisor => k_is)
    (case c_divisor => k_is)
    (case k_divisor => k_is)
    (case a_lowest => k_is)
    (case l_lowest => k_is)
    (case c_lowest => k_is)
    (case k_lowest => k_is)
    (case a_sign_of => k_is)
    (case l_sign_of => k_is)
    (case c_sign_of => k_is)
    (case k_sign_of => k_is)
    (case a_floor_root => k_is)
    (case l_floor_root => k_is)
    (case c_floor_root => k_is)
    (case k_floor_root => k_is)
    (case a_need_ratio => k_is)
    (case l_need_ratio => k_is)
    (case c_need_ratio => k_is)
    (case k_need_ratio => k_is)
    (case a_need_two => k_is)
    (case l_need_two => k_is)
    (case c_need_two => k_is)
    (case k_need_two => k_is)
    (case a_is_ratio => k_is)
    (case l_is_ratio => k_is)
    (case c_is_ratio => k_is)
    (case k_is_ratio => k_is)
    (case a_add => k_is)
    (case l_add => k_is)
    (case c_add => k_is)
    (case k_add => k_is)
    (case a_subtract => k_is)
    (case l_subtract => k_is)
    (case c_subtract => k_is)
    (case k_subtract => k_is)
    (case a_multiply => k_is)
    (case l_multiply => k_is)
    (case c_multiply => k_is)
    (case k_multiply => k_is)
    (case a_divide => k_is)
    (case l_divide => k_is)
    (case c_divide => k_is)
    (case k_divide => k_is)
    (case a_negate => k_is)
    (case l_negate => k_is)
    (case c_negate => k_is)
    (case k_negate => k_is)
    (case a_sign => k_is)
    (case l_sign => k_is)
    (case c_sign => k_is)
    (case k_sign => k_is)
    (case a_compare => k_is)
    (case l_compare => k_is)
    (case c_compare => k_is)
    (case k_compare => k_is)
    (case a_root => k_is)
    (case l_root => k_is)
    (case c_root => k_is)
    (case k_root => k_is)
    (case a_root_sign => k_is)
    (case l_root_sign => k_is)
    (case c_root_sign => k_is)
    (case k_root_sign => k_is)
    (case a_is_point => k_is)
    (case l_is_point => k_is)
    (case c_is_point => k_is)
    (case k_is_point => k_is)
    (case a_point_sum => k_is)
    (case l_point_sum => k_is)
    (case c_point_sum => k_is)
    (case k_point_sum => k_is)
    (case a_point_gap => k_is)
    (case l_point_gap => k_is)
    (case c_point_gap => k_is)
    (case k_point_gap => k_is)
    (case a_point_times => k_is)
    (case l_point_times => k_is)
    (case c_point_times => k_is)
    (case k_point_times => k_is)
    (case a_point_dot => k_is)
    (case l_point_dot => k_is)
    (case c_point_dot => k_is)
    (case k_point_dot => k_is)
    (case a_left_turn => k_is)
    (case l_left_turn => k_is)
    (case c_left_turn => k_is)
    (case k_left_turn => k_is)
    (case a_point_square => k_is)
    (case l_point_square => k_is)
    (case c_point_square => k_is)
    (case k_point_square => k_is)
    (case a_is_positive => k_is)
    (case l_is_positive => k_is)
    (case c_is_positive => k_is)
    (case k_is_positive => k_is)
    (case a_is_side => k_is)
    (case l_is_side => k_is)
    (case c_is_side => k_is)
    (case k_is_side => k_is)
    (case a_check_point => k_is)
    (case l_check_point => k_is)
    (case c_check_point => k_is)
    (case k_check_point => k_is)
    (case a_check_positive => k_is)
    (case l_check_positive => k_is)
    (case c_check_positive => k_is)
    (case k_check_positive => k_is)
    (case a_spot_at => k_is)
    (case l_spot_at => k_is)
    (case c_spot_at => k_is)
    (case k_spot_at => k_is)
    (case a_meet => k_is)
    (case l_meet => k_is)
    (case kwmeet => k_is)
    (case c_meet => k_is)
    (case k_meet => k_is)
    (case a_exceeds => k_is)
    (case l_exceeds => k_is)
    (case c_exceeds => k_is)
    (case k_exceeds => k_is)
    (case a_padded => k_is)
    (case l_padded => k_is)
    (case c_padded => k_is)
    (case k_padded => k_is)
    (case a_chain_reach => k_is)
    (case l_chain_reach => k_is)
    (case c_chain_reach => k_is)
    (case k_chain_reach => k_is)
    (case a_store => k_is)
    (case l_store => k_is)
    (case c_store => k_is)
    (case k_store => k_is)
    (case a_take => k_is)
    (case l_take => k_is)
    (case c_take => k_is)
    (case k_take => k_is)
    (case a_edge => k_is)
    (case l_edge => k_is)
    (case c_edge => k_is)
    (case k_edge => k_is)
    (case a_between => k_is)
    (case l_between => k_is)
    (case c_between => k_is)
    (case k_between => k_is)
    (case a_pick => k_is)
    (case l_pick => k_is)
    (case c_pick => k_is)
    (case k_pick => k_is)
    (case a_mixed => k_is)
    (case l_mixed => k_is)
    (case c_mixed => k_is)
    (case k_mixed => k_is)
    (case a_low => k_is)
    (case l_low => k_is)
    (case c_low => k_is)
    (case k_low => k_is)
    (case a_plus => k_is)
    (case l_plus => k_is)
    (case c_plus => k_is)
    (case k_plus => k_is)
    (case a_minus => k_is)
    (case l_minus => k_is)
    (case c_minus => k_is)
    (case k_minus => k_is)
    (case a_times => k_is)
    (case l_times => k_is)
    (case c_times => k_is)
    (case k_times => k_is)
    (case a_sgn => k_is)
    (case l_sgn => k_is)
    (case c_sgn => k_is)
    (case k_sgn => k_is)
    (case a_cmp => k_is)
    (case l_cmp => k_is)
    (case c_cmp => k_is)
    (case k_cmp => k_is)
    (case a_sum => k_is)
    (case l_sum => k_is)
    (case c_sum => k_is)
    (case k_sum => k_is)
    (case a_padd => k_is)
    (case l_padd => k_is)
    (case c_padd => k_is)
    (case k_padd => k_is)
    (case a_psub => k_is)
    (case l_psub => k_is)
    (case c_psub => k_is)
    (case k_psub => k_is)
    (case a_pmul => k_is)
    (case l_pmul => k_is)
    (case c_pmul => k_is)
    (case k_pmul => k_is)
    (case a_pdot => k_is)
    (case l_pdot => k_is)
    (case c_pdot => k_is)
    (case k_pdot => k_is)
    (case a_psq => k_is)
    (case l_psq => k_is)
    (case c_psq => k_is)
    (case k_psq => k_is)
    (case a_small => k_is)
    (case l_small => k_is)
    (case c_small => k_is)
    (case k_small => k_is)
    (case a_positive => k_is)
    (case l_positive => k_is)
    (case c_positive => k_is)
    (case k_positive => k_is)
    (case a_cost => k_is)
    (case l_cost => k_is)
    (case c_cost => k_is)
    (case k_cost => k_is)
    (case a_point => k_is)
    (case l_point => k_is)
    (case c_point => k_is)
    (case k_point => k_is)
    (case a_not_ratio => k_is)
    (case l_not_ratio => k_is)
    (case c_not_ratio => k_is)
    (case k_not_ratio => k_is)
    (case a_circles => k_is)
    (case l_circles => k_is)
    (case c_circles => k_is)
    (case k_circles => k_is)
    (case a_chain => k_is)
    (case l_chain => k_is)
    (case c_chain => k_is)
    (case k_chain => k_is)
    (case a_like => k_is)
    (case l_like => k_is)
    (case c_like => k_is)
    (case k_like => k_is)
    (case a_long => k_is)
    (case l_long => k_is)
    (case c_long => k_is)
    (case k_long => k_is)
    (case a_drawn => k_is)
    (case l_drawn => k_is)
    (case c_drawn => k_is)
    (case k_drawn => k_is)
    (case a_longer => k_is)
    (case l_longer => k_is)
    (case c_longer => k_is)
    (case k_longer => k_is)
    (case a_due => k_is)
    (case l_due => k_is)
    (case c_due => k_is)
    (case k_due => k_is)
    (case a_right => k_is)
    (case l_right => k_is)
    (case c_right => k_is)
    (case k_right => k_is)
    (case a_orders => k_is)
    (case l_orders => k_is)
    (case c_orders => k_is)
    (case k_orders => k_is)
    (case a_meets => k_is)
    (case l_meets => k_is)
    (case c_meets => k_is)
    (case k_meets => k_is)
    (case a_failed => k_is)
    (case l_failed => k_is)
    (case c_failed => k_is)
    (case k_failed => k_is)
    (case a_call => k_is)
    (case l_call => k_is)
    (case c_call => k_is)
    (case k_call => k_is)
    (case a_refusals => k_is)
    (case l_refusals => k_is)
    (case c_refusals => k_is)
    (case k_refusals => k_is)
    (case a_law => k_is)
    (case l_law => k_is)
    (case c_law => k_is)
    (case k_law => k_is)
    (case xLWrongKind => k_is)
    (case rvWrongKind => first | rfl | decide +kernel | kernel_rfl)
    (case saWrongKind => k_is)
    (case exWrongKind => k_is)
    (case tyWrongKind => k_is)
    (case kcWrongKind => k_is)
    (case hgWrongKind => k_is)
    (case hkWrongKind => k_is)
    (case hdWrongKind => k_is)
    (case haWrongKind => k_is)
    (case hmWrongKind => k_is)
    (case aiWrongKind => k_is)
    (case liWrongKind => k_is)
    (case ciWrongKind => k_is)
    (case kiWrongKind => k_is)
    (case tiWrongKind => k_is)
    (case nWrongKind_argument => k_is)
    (case kWrongKind_WrongKind => k_is)
    (case kWrongKind_OutOfBounds => k_is)
    (case neWrongKind_OutOfBounds => rfl)
    (case kWrongKind_RepeatedName => k_is)
    (case neWrongKind_RepeatedName => rfl)
    (case kWrongKind_UnknownName => k_is)
    (case neWrongKind_UnknownName => rfl)
    (case kWrongKind_UnfitError => k_is)
    (case neWrongKind_UnfitError => rfl)
    (case kWrongKind_Unsafe => k_is)
    (case neWrongKind_Unsafe => rfl)
    (case kWrongKind_BadText => k_is)
    (case neWrongKind_BadText => rfl)
    (case kWrongKind_ValueError => k_is)
    (case kWrongKind_FrameError => k_is)
    (case xLOutOfBounds => k_is)
    (case rvOutOfBounds => first | rfl | decide +kernel | kernel_rfl)
    (case saOutOfBounds => k_is)
    (case exOutOfBounds => k_is)
    (case tyOutOfBounds => k_is)
    (case kcOutOfBounds => k_is)
    (case hgOutOfBounds => k_is)
    (case hkOutOfBounds => k_is)
    (case hdOutOfBounds => k_is)
    (case haOutOfBounds => k_is)
    (case hmOutOfBounds => k_is)
    (case aiOutOfBounds => k_is)
    (case liOutOfBounds => k_is)
    (case ciOutOfBounds => k_is)
    (case kiOutOfBounds => k_is)
    (case tiOutOfBounds => k_is)
    (case nOutOfBounds_argument => k_is)
    (case kOutOfBounds_WrongKind => k_is)
    (case neOutOfBounds_WrongKind => rfl)
    (case kOutOfBounds_OutOfBounds => k_is)
    (case kOutOfBounds_RepeatedName => k_is)
    (case neOutOfBounds_RepeatedName => rfl)
    (case kOutOfBounds_UnknownName => k_is)
    (case neOutOfBounds_UnknownName => rfl)
    (case kOutOfBounds_UnfitError => k_is)
    (case neOutOfBounds_UnfitError => rfl)
    (case kOutOfBounds_Unsafe => k_is)
    (case neOutOfBounds_Unsafe => rfl)
    (case kOutOfBounds_BadText => k_is)
    (case neOutOfBounds_BadText => rfl)
    (case kOutOfBounds_ValueError => k_is)
    (case kOutOfBounds_FrameError => k_is)
    (case isWrongKind => k_is)
    (case isOutOfBounds => k_is)
    (case tyRepeatedName => k_is)
    (case isRepeatedName => k_is)
    (case tyUnknownName => k_is)
    (case isUnknownName => k_is)
    (case tyUnfitError => k_is)
    (case isUnfitError => k_is)
    (case tyUnsafe => k_is)
    (case isUnsafe => k_is)
    (case tyBadText => k_is)
    (case isBadText => k_is)
    (case tyFrameError => k_is)
    (case isFrameError => k_is)
    (case exFrameError => k_is)
    (case qZERO_RATIO => k_is)
    (case lNZERO_RATIO => k_is)
    (case qMOST_CHAIN => k_is)
    (case hn => k_is)
    (case ht => k_is)
    (case z_reversed => k_is)
    (case z_len => k_is)
    (case z_max => k_is)
    (case z_min => k_is)
    (case z_abs => k_is)
    (case z_int => k_is)
    (case z_str => k_is)
    (case z_bool => k_is)
    (case z_list => k_is)
    (case z_tuple => k_is)
    (case z_dict => k_is)
    (case z_isinstance => k_is)
    (case z_range => k_is)
    (case z_enumerate => k_is)
    (case z_all => k_is)
    (case z_ValueError => k_is)
    (case dig => k_is)
