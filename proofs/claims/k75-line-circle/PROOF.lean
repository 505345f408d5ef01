import PyProof.Rows.All
import Wide.All
import OpenK.AllK
import Wide.FinOn
import HandS.ForMost
import HandS.ForExc
import HandS.Wide
import HandS.IsInst
import HandS.More
import HandS.Evl
import HandS.ExcCtx
import HandS.HotCalls
import HandS.ExcInit
import HandS.ExcInitHot
import HandS.ExcIs
import HandS.ExcField
import KE.KExcIs
import HandS.Replace
import HandS.ReplaceLit
import HandS.ReplaceList
import HandS.Text
import HandS.Style
import KE.IntText
import PyProof.Rows.Digits
import PyProof.Rows.CountFlat
import HandS.ExcValue
import HandS.TupAny
import HandS.CallSlots
import HandS.Hot
import PyProof.Rows.RuleB_pow
import HandS.WideBits
import HandS.Defaults
import KE.IntTextLaws
import HandS.Rev
import HandS.RevTup
import PyProof.ListRange
import PyProof.ListNew
import HandS.Conv
import HandS.SortInts
import HandS.MakeKwOnly
import PySem.Challenge.RW_standframes_k75_line_meets_circle
set_option Elab.async false
set_option linter.all false
set_option maxRecDepth 100000
set_option maxHeartbeats 8000000
namespace My
open PySem PySem.Spec PyProof.Rows L2
/-! ### heaps: all but the store -/
structure Sx (s : Addr) (H H' : Hp) : Prop where
  kp : ∀ b o, b ≠ s → H b = some o → H' b = some o
  ce : ∀ L xs, H s = some (.lst (.ref L :: xs)) → ∃ ys, H' s = some (.lst (.ref L :: ys))
theorem Sx.refl (s : Addr) (H : Hp) : Sx s H H := ⟨fun _ _ _ h => h, fun _ xs h => ⟨xs, h⟩⟩
theorem Sx.trans {s : Addr} {H H1 H2 : Hp} (a : Sx s H H1) (b : Sx s H1 H2) : Sx s H H2 := ⟨fun c o n h => b.kp c o n (a.kp c o n h), fun L xs h => by
  obtain ⟨ys, e⟩ := a.ce L xs h
  exact b.ce L ys e⟩
theorem Sx.of {s : Addr} {H H' : Hp} (a : Same H H') : Sx s H H' := ⟨fun c o _ h => a c o h, fun _ xs h => ⟨xs, a _ _ h⟩⟩
theorem Sx.new {s p : Addr} {H : Hp} {o : HO} (h : H p = none) : Sx s H (upd H p o) := Sx.of fun b u e => by
  rw [upd_ne (ne_of_none e h)]
  exact e
/-- a thing that was not there at first is changed -/
theorem Sx.mut {s p : Addr} {H H' : Hp} {o : HO} (x : Sx s H H') (h : H p = none) : Sx s H (upd H' p o) := ⟨fun b u n e => by
  rw [upd_ne (ne_of_none e h)]
  exact x.kp b u n e, fun L xs e => by
  rw [upd_ne (ne_of_none e h)]
  exact x.ce L xs e⟩
theorem Sx.self {s : Addr} {H H' : Hp} {xs : List V} {j : Nat} {v : V} (x : Sx s H H') (hs : H' s = some (.lst xs)) (j0 : j ≠ 0) : Sx s H (upd H' s (.lst (xs.set j v))) := ⟨fun b u n e => by
  rw [upd_ne n]
  exact x.kp b u n e, fun L zs e => by
  obtain ⟨ys, e2⟩ := x.ce L zs e
  rw [hs] at e2
  cases e2
  cases j with
  | zero => exact absurd rfl j0
  | succ j => exact ⟨ys.set j v, by rw [upd_same]; rfl⟩⟩
theorem Sx.sq {K : PySem.W.Frag} {s a : Addr} {H H' : Hp} {xs : List V} (x : Sx s H H') (n : a ≠ s) (h : SqL K H a xs) : SqL K H' a xs := by
  rcases h with (h | ⟨o, h⟩) | h
  · exact .inl (.inl (x.kp _ _ n h))
  · exact .inl (.inr ⟨o, x.kp _ _ n h⟩)
  · exact .inr h
theorem same_new {H : Hp} {p : Addr} {o : HO} (h : H p = none) : Same H (upd H p o) := fun b x e => by
  rw [upd_ne (ne_of_none e h)]
  exact e
/-! ### readings by name -/
def rIsN : R2 := fun x y H Q => y = .non ∧ Q (.bl (decide (x = .non))) H
def rNotN : R2 := fun x y H Q => y = .non ∧ Q (.bl (!decide (x = .non))) H
def rAddS : R2 := fun x y H Q => ∃ i j, x = .str i ∧ y = .str j ∧ i.length + j.length ≤ sizeLine ∧ Q (.str (i ++ j)) H
def rInt1 : List V → Hp → VK → Prop := fun xs H Q => (∃ i, xs = [.int i] ∧ Q (.int i) H) ∨ ∃ k, xs = [.bl k] ∧ Q (.int (if k then 1 else 0)) H
def rMaxQ : List V → Hp → VK → Prop := fun xs H Q => ∃ i j, xs = [.int i, .int j] ∧ Q (.int (if j > i then j else i)) H
def rMinQ : List V → Hp → VK → Prop := fun xs H Q => ∃ i j, xs = [.int i, .int j] ∧ Q (.int (if j < i then j else i)) H
def rAbsQ : List V → Hp → VK → Prop := fun xs H Q => ∃ i, xs = [.int i] ∧ Q (.int (if i < 0 then -i else i)) H
def rLenQ (K : PySem.W.Frag) : List V → Hp → VK → Prop := fun xs H Q => ∃ p ys, xs = [.ref p] ∧ (SqL K H p ys ∨ SqT K H p ys) ∧ Q (.int ys.length) H
def rLenSQ : List V → Hp → VK → Prop := fun xs H Q => ∃ z, xs = [.str z] ∧ z.length ≤ sizeLine ∧ Q (.int z.length) H
def rListQ (K : PySem.W.Frag) : List V → Hp → VK → Prop := fun xs H Q => ∃ p ys, xs = [.ref p] ∧ (SqL K H p ys ∨ SqT K H p ys) ∧ ∀ l, H l = none → Q (.ref l) (upd H l (.lst ys))
def rIsBQ : R2 := fun x y H Q => ∃ b, y = .bl b ∧ Q (.bl (decide (x = .bl b))) H
section
variable {X : Cx}
theorem o_isN : OpR X (compareOp .Is) rIsN := op_isN
theorem o_notN : OpR X (compareOp .IsNot) rNotN := op_notN
theorem o_isB : OpR X (compareOp .Is) rIsBQ := by
  intro pins s σ H x y v u Q I rx ry h
  obtain ⟨b, rfl, q⟩ := h
  cases (show u = Value.bool b from ry)
  by_cases e : x = .bl b
  · subst e
    cases (show v = Value.bool b from rx)
    exact wpAny_is_self rfl ⟨.bl true, H, I, rfl, by simpa using q⟩
  · have ne : v ≠ Value.bool b := by
      intro z
      subst z
      cases x with
      | bl a =>
        have z : Value.bool b = Value.bool a := rx
        cases z
        exact e rfl
      | non => cases (show Value.bool b = Value.none from rx)
      | ref a => cases (show Value.bool b = Value.ref a from rx)
      | ty n => cases (show Value.bool b = Value.type n from rx)
      | int i => obtain ⟨t, z⟩ := rx; cases z
      | str i => obtain ⟨t, z⟩ := rx; cases z
      | byt i => obtain ⟨t, z⟩ := rx; cases z
      | flt i => obtain ⟨t, z⟩ := rx; cases z
    refine wpAny_is_other ?_ ne ⟨.bl false, H, I, rfl, by simpa [e] using q⟩
    cases x <;> first
      | (cases rx; rfl)
      | (obtain ⟨t, rfl⟩ := rx; rfl)
theorem o_addS : OpR X (binaryOp .Add) rAddS := op_add_str
theorem c_int1 : CallR X (.type "int") rInt1 := call_int1
theorem c_max2 (hc : X.calm = true) : CallR X (.builtin "max") rMaxQ := call_max2 hc
theorem c_min2 (hc : X.calm = true) : CallR X (.builtin "min") rMinQ := call_min2 hc
theorem c_abs : CallR X (.builtin "abs") rAbsQ := call_abs
theorem c_len : CallR X (.builtin "len") (rLenQ X.K) := call_len_seq
theorem c_lenS : CallR X (.builtin "len") rLenSQ := call_len_str
theorem c_list : CallR X (.type "list") (rListQ X.K) := call_list_of
end
/-! ### steps of readings -/
section
variable {σ : L2.St} {H : Hp} {Q : VK} {D : Ends} {te ta tb : TE} {t u : TS}
theorem g_seq (h : t { D with nx := u D } σ H) : tSeq t u D σ H := h
theorem g_asg {g : TG} (h : te σ H fun x H1 => g x σ H1 D.nx) : tAsg te g D σ H := h
theorem g_name {i : Nat} {v : V} {R : L2.St → Hp → Prop} (h : R (σ.set i (some v)) H) : gName i v σ H R := h
theorem g_sub {to ti : TE} {ts : TSet} {v : V} {R : L2.St → Hp → Prop} (h : to σ H fun o H1 => ti σ H1 fun i H2 => ts o i v H2 fun H3 => R σ H3) : gSub to ti ts v σ H R := h
theorem g_ret (h : te σ H D.rt) : tRet te D σ H := h
theorem g_drop (h : te σ H fun _ H1 => D.nx σ H1) : tDrop te D σ H := h
theorem g_if {c : TT} (h : c σ H fun b H1 => if b = true then t D σ H1 else u D σ H1) : tIfS c t u D σ H := h
theorem g_next (h : D.nx σ H) : tNext D σ H := h
theorem g_var {i : Nat} {v : V} (e : σ[i]? = some (some v)) (h : Q v H) : tVar i σ H Q := ⟨v, e, h⟩
theorem g_c {v : V} (h : Q v H) : tC v σ H Q := h
theorem g_op {r : R2} (h : ta σ H fun x H1 => tb σ H1 fun y H2 => r x y H2 Q) : tOp r ta tb σ H Q := h
theorem g_un {r : V → Hp → VK → Prop} (h : ta σ H fun x H1 => r x H1 Q) : tUn r ta σ H Q := h
theorem g_I0 {g : Int → Int → V} {i j : Int} (h : Q (g i j) H) : rI0 g (.int i) (.int j) H Q := ⟨i, j, rfl, rfl, h⟩
theorem g_I {C : Int → Int → Prop} {g : Int → Int → V} {i j : Int} (c : C i j) (h : Q (g i j) H) : rI C g (.int i) (.int j) H Q := ⟨i, j, rfl, rfl, c, h⟩
theorem g_pow9 (h : Q (.int 1000000000) H) : rI CPow (fun i j => V.int (i ^ j.toNat)) (.int 10) (.int 9) H Q := ⟨10, 9, rfl, rfl, by unfold CPow; decide, h⟩
theorem g_pow18 (h : Q (.int 1000000000000000000) H) : rI CPow (fun i j => V.int (i ^ j.toNat)) (.int 10) (.int 18) H Q := ⟨10, 18, rfl, rfl, by unfold CPow; decide, h⟩
theorem g_U {g : Int → V} {i : Int} (h : Q (g i) H) : rU g (.int i) H Q := ⟨i, rfl, h⟩
theorem g_eq {x y : V} (s : scal x y = true) (h : Q (.bl (decide (x = y))) H) : rEq x y H Q := ⟨s, h⟩
theorem g_ne {x y : V} (s : scal x y = true) (h : Q (.bl (!decide (x = y))) H) : rNe x y H Q := ⟨s, h⟩
theorem g_test {R : Bool → Hp → Prop} (h : te σ H fun x H' => ∃ k, x = .bl k ∧ R k H') : tTest te σ H R := h
theorem g_tB {R : Bool → Hp → Prop} (h : te σ H fun x H' => ∃ k, x = .bl k ∧ R k H') : tB te σ H R := h
theorem g_bl {k : Bool} {R : Bool → Prop} (h : R k) : ∃ k', V.bl k = .bl k' ∧ R k' := ⟨k, rfl, h⟩
theorem g_cut {Mid : L2.St → Hp → Prop} (h : t { D with nx := Mid } σ H) (h2 : ∀ σ' H', Mid σ' H' → u D σ' H') : Evl.tCut t u D σ H := ⟨Mid, h, h2⟩
theorem g_isN {x : V} (h : Q (.bl (decide (x = .non))) H) : rIsN x .non H Q := ⟨rfl, h⟩
theorem g_notN {x : V} (h : Q (.bl (!decide (x = .non))) H) : rNotN x .non H Q := ⟨rfl, h⟩
theorem g_addS {x y : Str} (hl : x.length + y.length ≤ sizeLine) (h : Q (.str (x ++ y)) H) : rAddS (.str x) (.str y) H Q := ⟨x, y, rfl, rfl, hl, h⟩
theorem g_int1 {i : Int} (h : Q (.int i) H) : rInt1 [.int i] H Q := .inl ⟨i, rfl, h⟩
theorem g_intb {k : Bool} (h : Q (.int (if k = true then 1 else 0)) H) : rInt1 [.bl k] H Q := .inr ⟨k, rfl, h⟩
theorem g_max2 {i j : Int} (h : Q (.int (if j > i then j else i)) H) : rMaxQ [.int i, .int j] H Q := ⟨i, j, rfl, h⟩
theorem g_min2 {i j : Int} (h : Q (.int (if j < i then j else i)) H) : rMinQ [.int i, .int j] H Q := ⟨i, j, rfl, h⟩
theorem g_abs {i : Int} (h : Q (.int (if i < 0 then -i else i)) H) : rAbsQ [.int i] H Q := ⟨i, rfl, h⟩
theorem g_lenL {K : PySem.W.Frag} {p : Addr} {xs : List V} (hs : SqL K H p xs) (h : Q (.int xs.length) H) : rLenQ K [.ref p] H Q := ⟨p, xs, rfl, .inl hs, h⟩
theorem g_lenT {K : PySem.W.Frag} {p : Addr} {xs : List V} (hs : SqT K H p xs) (h : Q (.int xs.length) H) : rLenQ K [.ref p] H Q := ⟨p, xs, rfl, .inr hs, h⟩
theorem g_lenS {z : Str} (hl : z.length ≤ sizeLine) (h : Q (.int z.length) H) : rLenSQ [.str z] H Q := ⟨z, rfl, hl, h⟩
theorem g_ixT {K : PySem.W.Frag} {p : Addr} {xs : List V} {i : Int} {v : V} (hs : SqT K H p xs) (ha : atI xs i = some v) (h : Q v H) : rIxT K (.ref p) (.int i) H Q := ⟨p, xs, i, v, rfl, rfl, hs, ha, h⟩
theorem g_ixS {z : Str} {i : Int} {c : Nat} (hl : z.length ≤ sizeLine) (ha : atI z.cps.toList i = some c) (h : Q (.str ⟨#[c]⟩) H) : rIxS (.str z) (.int i) H Q := ⟨z, i, c, rfl, rfl, hl, ha, h⟩
theorem g_tup {tt : TA} (h : tt σ H fun xs H1 => xs.length ≤ sizeLine ∧ ∀ p, H1 p = none → Q (.ref p) (upd H1 p (.tup xs))) : tTup tt σ H Q := h
theorem g_lst {tt : TA} (h : tt σ H fun xs H1 => xs.length ≤ sizeLine ∧ ∀ p, H1 p = none → Q (.ref p) (upd H1 p (.lst xs))) : tLst tt σ H Q := h
theorem g_andV (h : ta σ H fun x H1 => ∃ c, x = .bl c ∧ if c = true then tb σ H1 Q else Q (.bl false) H1) : tAndV ta tb σ H Q := h
theorem g_orV (h : ta σ H fun x H1 => ∃ c, x = .bl c ∧ if c = true then Q (.bl true) H1 else tb σ H1 Q) : tOrV ta tb σ H Q := h
theorem g_notV (h : ta σ H fun x H1 => ∃ c, x = .bl c ∧ Q (.bl (!c)) H1) : tNotV ta σ H Q := h
/-- a cell of the store is set: H0 the heap at the entry -/
theorem g_st {K : PySem.W.Frag} {H0 : Hp} {s L : Addr} {xs cs : List V} {k : Int} {v : V} {j : Nat} {R : Hp → Prop} (hs : H s = some (.lst xs)) (hL : SqL K H L cs) (ne : L ≠ s) (x0 : Sx s H0 H) (hj : ixN xs.length k = some j) (j0 : j ≠ 0)
    (h : ∀ H1, H1 s = some (.lst (xs.set j v)) → SqL K H1 L cs → Sx s H0 H1 → R H1) : rSetL (.ref s) (.int k) v H R :=
  ⟨s, xs, k, j, rfl, rfl, hs, hj, h _ upd_same (Sx.sq ((Sx.refl s H).self hs j0) ne hL) (x0.self hs j0)⟩
theorem g_and {c d : TT} {R : Bool → Hp → Prop} (h : c σ H fun b H1 => if b = true then d σ H1 R else R false H1) : tAnd c d σ H R := h
theorem g_or {c d : TT} {R : Bool → Hp → Prop} (h : c σ H fun b H1 => if b = true then R true H1 else d σ H1 R) : tOr c d σ H R := h
theorem g_not {c : TT} {R : Bool → Hp → Prop} (h : c σ H fun b H1 => R (!b) H1) : tNot c σ H R := h
theorem g_nil {R : List V → Hp → Prop} (h : R [] H) : tNil σ H R := h
theorem g_cons {tr : TA} {R : List V → Hp → Prop} (h : ta σ H fun x H1 => tr σ H1 fun xs H2 => R (x :: xs) H2) : tCons ta tr σ H R := h
theorem g_callB {r : List V → Hp → VK → Prop} {tt : TA} (h : tt σ H fun vs H1 => r vs H1 Q) : tCB r tt σ H Q := h
theorem g_call {sp : Sp} {dvs : List V} {E : XK} {tt : TA} (h : tt σ H fun vs H1 => sp (vs ++ dvs) H1 Q E) : tCall sp dvs E tt σ H Q := h
theorem g_ixL {K : PySem.W.Frag} {p : Addr} {xs : List V} {i : Int} {v : V} (hs : SqL K H p xs) (ha : atI xs i = some v) (h : Q v H) : rIxL K (.ref p) (.int i) H Q := ⟨p, xs, i, v, rfl, rfl, hs, ha, h⟩
theorem g_setL {p : Addr} {xs : List V} {k : Int} {v : V} {j : Nat} {R : Hp → Prop} (hs : H p = some (.lst xs)) (hj : ixN xs.length k = some j) (h : R (upd H p (.lst (xs.set j v)))) : rSetL (.ref p) (.int k) v H R := ⟨p, xs, k, j, rfl, rfl, hs, hj, h⟩
theorem g_ite {b : Bool} {A B : Prop} (h1 : b = true → A) (h2 : b = false → B) : if b = true then A else B := by
  cases b with
  | true => exact h1 rfl
  | false => exact h2 rfl
theorem g_iteT {b : Bool} {A B : Prop} (e : b = true) (h : A) : if b = true then A else B := by
  subst e
  exact h
theorem g_iteF {b : Bool} {A B : Prop} (e : b = false) (h : B) : if b = true then A else B := by
  subst e
  exact iteF h
theorem g_isB {x : V} {b : Bool} (h : Q (.bl (decide (x = .bl b))) H) : rIsBQ x (.bl b) H Q := ⟨b, rfl, h⟩
theorem g_or3 {K : PySem.W.Frag} {p : Addr} {xs : List V} {i : Int} {v : V} (hs : SqL K H p xs ∨ SqT K H p xs) (ha : atI xs i = some v) (h : Q v H) : rIx K (.ref p) (.int i) H Q := by
  rcases hs with hs | hs
  · exact .inl ⟨p, xs, i, v, rfl, rfl, hs, ha, h⟩
  · exact .inr (.inl ⟨p, xs, i, v, rfl, rfl, hs, ha, h⟩)
theorem g_for {wi : TI} {g : TG} {tb : TS} (h : wi σ H fun J H1 => ∃ W : Nat → Nat → L2.St → Hp → Prop, (∃ m, W 0 m σ H1) ∧ ∀ i m σ H, W i m σ H →
    (J.stop i H ∧ D.nx σ H) ∨ (J.go i H ∧ ∃ N : L2.St → Hp → Prop, (∀ σ' H', N σ' H' → ∃ m', m' < m ∧ W (i + 1) m' σ' H') ∧ ∀ x H', J.yld i H x H' → g x σ H' fun σ2 H2 => tb { D with nx := N, ct := N, bk := D.nx } σ2 H2)) : tFor wi g tb D σ H := h
theorem g_rng1 {ta : TA} {R : It → Hp → Prop} (h : ta σ H fun vs H1 => ∃ j : Int, vs = [.int j] ∧ -(2 ^ 62) ≤ j ∧ j < 2 ^ 62 ∧ R (Itr 0 j.toNat) H1) : iRng1 ta σ H R := h
theorem g_rng2 {ta : TA} {R : It → Hp → Prop} (h : ta σ H fun vs H1 => ∃ i j : Int, vs = [.int i, .int j] ∧ (-(2 ^ 62) ≤ i ∧ i < 2 ^ 62 ∧ -(2 ^ 62) ≤ j ∧ j < 2 ^ 62) ∧ R (Itr i (j - i).toNat) H1) : iRng2 ta σ H R := h
theorem g_iList {K : PySem.W.Frag} {tl : TE} {R : It → Hp → Prop} (h : tl σ H fun x H1 => ∃ a, x = .ref a ∧ (∃ xs, SqL K H1 a xs) ∧ R (Itl K a) H1) : iList K tl σ H R := h
theorem g_break (h : D.bk σ H) : tBreak D σ H := h
theorem g_cont (h : D.ct σ H) : tCont D σ H := h
theorem g_retN (h : D.rt .non H) : tRetN D σ H := h
end
theorem dec_int {i j : Int} : decide (V.int i = V.int j) = decide (i = j) := by
  by_cases h : i = j
  · rw [h, decide_eq_true rfl, decide_eq_true rfl]
  · rw [decide_eq_false h, decide_eq_false fun e => h (V.int.inj e)]
theorem bt_len : bootBuiltins "len" = some (.builtin "len") := by decide +kernel
theorem bt_max : bootBuiltins "max" = some (.builtin "max") := by decide +kernel
theorem bt_min : bootBuiltins "min" = some (.builtin "min") := by decide +kernel
theorem bt_abs : bootBuiltins "abs" = some (.builtin "abs") := by decide +kernel
theorem bt_isinstance : bootBuiltins "isinstance" = some (.builtin "isinstance") := by decide +kernel
theorem bt_int : bootBuiltins "int" = some (.type "int") := by decide +kernel
theorem bt_str : bootBuiltins "str" = some (.type "str") := by decide +kernel
theorem bt_bool : bootBuiltins "bool" = some (.type "bool") := by decide +kernel
theorem bt_list : bootBuiltins "list" = some (.type "list") := by decide +kernel
theorem bt_tuple : bootBuiltins "tuple" = some (.type "tuple") := by decide +kernel
theorem bt_dict : bootBuiltins "dict" = some (.type "dict") := by decide +kernel
theorem atI_map {α : Type} (g : α → V) (xs : List α) (i : Int) (d : α) (h0 : 0 ≤ i) (h1 : i < xs.length) : atI (xs.map g) i = some (g (xs.getD i.toNat d)) := by
  obtain ⟨j, rfl⟩ : ∃ j : Nat, i = j := ⟨i.toNat, by omega⟩
  have hj : j < xs.length := by omega
  unfold atI ixN
  rw [if_pos h0, if_pos (by rw [List.length_map]; exact h1)]
  simp [hj]
theorem dint_t {i j : Int} (h : decide (V.int i = V.int j) = true) : i = j := V.int.inj (of_decide_eq_true h)
theorem dint_f {i j : Int} (h : decide (V.int i = V.int j) = false) : i ≠ j := fun e => of_decide_eq_false h (by rw [e])
/-- a def of the top -/
structure Df (K : PySem.W.Frag) (mg : Str → Option Value) (x : Str) (st : Stmt) (ps : List Str) where
  f : Addr
  fd : FuncData
  F : Fun K x x st f fd
  b : Binds K fd ps []
  g : mg x = some (.ref f)
/-! ### the store -/
def StL (L : Addr) (p a b c d : Int) : List V := [.ref L, .int p, .int a, .int b, .int c, .int d]
structure StOk (K : PySem.W.Frag) (H : Hp) (s : Addr) (L : Addr) (ns : List Int) (p a b c d : Int) : Prop where
  at_ : H s = some (.lst (StL L p a b c d))
  ne : L ≠ s
  cells : SqL K H L (ns.map V.int)
  p0 : 0 ≤ p
  a0 : 0 ≤ a
  b0 : 0 ≤ b
  c0 : 0 ≤ c
  c1 : c < 2305843009213693951
  len : ns.length ≤ 63
def Store (K : PySem.W.Frag) (H : Hp) (s : Addr) : Prop := ∃ L ns p a b c d, StOk K H s L ns p a b c d
theorem Store.there {K : PySem.W.Frag} {H : Hp} {s : Addr} (h : Store K H s) : ∃ xs, H s = some (.lst xs) := by
  obtain ⟨L, ns, p, a, b, c, d, h⟩ := h
  exact ⟨_, h.at_⟩
theorem Store.free {K : PySem.W.Frag} {s l : Addr} {H H' : Hp} (st : Store K H' s) (x : Sx s H H') (h : H' l = none) : H l = none := by
  cases e : H l with
  | none => rfl
  | some o =>
    obtain ⟨xs, hs⟩ := st.there
    have n : l ≠ s := fun z => by
      rw [z, hs] at h
      cases h
    rw [x.kp l o n e] at h
    cases h
theorem Store.ne {K : PySem.W.Frag} {s l : Addr} {H : Hp} (st : Store K H s) (h : H l = none) : l ≠ s := fun z => by
  obtain ⟨xs, hs⟩ := st.there
  rw [z, hs] at h
  cases h
theorem Store.same {K : PySem.W.Frag} {s : Addr} {H H' : Hp} (st : Store K H s) (x : Same H H') : Store K H' s := by
  obtain ⟨L, ns, p, a, b, c, d, h⟩ := st
  exact ⟨L, ns, p, a, b, c, d, ⟨x _ _ h.at_, h.ne, Sx.sq (Sx.of x) h.ne h.cells, h.p0, h.a0, h.b0, h.c0, h.c1, h.len⟩⟩
/-- what was not there at first is changed: the store stays a store -/
theorem Store.mut {K : PySem.W.Frag} {s l : Addr} {H H' : Hp} {o : HO} (st0 : Store K H s) (x : Sx s H H') (st : Store K H' s) (h : H l = none) : Store K (upd H' l o) s := by
  obtain ⟨L0, ns0, p0, a0, b0, c0, d0, h0⟩ := st0
  obtain ⟨L, ns, p, a, b, c, d, h1⟩ := st
  obtain ⟨ys, e⟩ := x.ce L0 _ h0.at_
  have e2 : L = L0 := by
    have e3 := h1.at_
    rw [e] at e3
    cases e3
    rfl
  subst e2
  have nl : s ≠ l := fun z => by
    have q := h0.at_
    rw [z, h] at q
    cases q
  have q := h0.cells
  by_cases hk : L = l
  · subst hk
    rcases q with (q | ⟨o2, q⟩) | q
    · rw [h] at q
      cases q
    · rw [h] at q
      cases q
    · exact ⟨L, ns0, p, a, b, c, d, ⟨by rw [upd_ne nl]; exact h1.at_, h1.ne, .inr q, h1.p0, h1.a0, h1.b0, h1.c0, h1.c1, h0.len⟩⟩
  · refine ⟨L, ns, p, a, b, c, d, ⟨by rw [upd_ne nl]; exact h1.at_, h1.ne, ?_, h1.p0, h1.a0, h1.b0, h1.c0, h1.c1, h1.len⟩⟩
    rcases h1.cells with (r | ⟨o2, r⟩) | r
    · exact .inl (.inl (by rw [upd_ne hk]; exact r))
    · exact .inl (.inr ⟨o2, by rw [upd_ne hk]; exact r⟩)
    · exact .inr r
/-- the widest draw -/
def BIG : Int := 2 ^ 5000
theorem big_div {i m : Int} (h0 : 0 < m) (h : m < BIG) : CDivW i m := wide_div (b := 5000) h0 (by unfold BIG at h; omega) (by decide) (by decide)
/-- a draw: below many, and nothing else has changed -/
def spTake (K : PySem.W.Frag) (B : Int) : Sp := fun vs H Q _ => ∃ (s : Addr) (many : Int), vs = [.ref s, .int many] ∧ Store K H s ∧ many ≤ B ∧ many < BIG ∧
  ∀ (r : Int) (H' : Hp), 0 ≤ r → (r = 0 ∨ r < many) → Sx s H H' → Store K H' s → Q (.int r) H'
def topS (i : Nat) : Stmt := PySem.Challenge.pw_standframes_k75_line_meets_circle.main.body.getD i (.Pass ⟨0, 0, 0, 0⟩)
end My
namespace My
open PySem PySem.Spec PyProof.Rows L2
/-! ### raising: an own class whose __init__ is a def; the context of what is raised is None -/
section
variable {X : Cx}
theorem pmkN {CXc : CXT} {nm : Str} {C fI : Addr} {lv : Nat} {fdI : FuncData} {psI : List Str} {spI : Sp} {ds : List Value} {dvs : List V} {e : Expr} {es : List Expr} {ta : TA} {p pos : Pos} (T : OexC X.K C)
    (iC : PySem.W.findIn X.K (.ref C) "__init__" = some (some (.ref fI))) (tI : PySem.W.typeIn X.K (.ref fI) = some (.type "function"))
    (FI : FnOk X.prog X.w X.K X.mg X.base CXc lv fI fdI psI spI) (room : Room (lv + 1) X.A) (bnd : Binds X.K fdI psI ds) (dfl : Vals dvs ds) (px : Passes CXc X (fun _ _ _ => False)) (gl : Gl X nm) (gm : X.mg nm = some (.ref C)) (args : PA X (e :: es) ta)
    (nd : (nm == ("__debug__" : Str)) = false := by decide) (st1 : starEach (e :: es) X.env = (false, eval e X.env) :: starEach es X.env := by rfl) (st2 : (backTo pos (starEach es X.env)).any (·.1) = false := by rfl) :
    L2N.PMk X (.Call (.Name nm p) (e :: es) [] pos) (tMkO C spI dvs ta) := by
  intro pins s σ H Q I rd
  have T' := T.cls
  obtain ⟨n0, n1, n2, n3, n4, n5, n6, n7, n8, n9, j0, j1, j2, j3, j5, lkC, rfs⟩ := T'
  refine wpAny_Call_Name_kw (ld_glob I gl gm ?_ nd)
  refine PySem.W.callWith_K (h₀ := X.base) I.ok.mod.kin T.kC (thn (args.run pos pins s σ H _ I rd) fun us s1 hh => ?_) st1 st2
  obtain ⟨vs, H1, I1, rel, sz, rd1⟩ := hh
  refine ⟨I1.kIn, ?_⟩
  show wpAny _ _ (call (.ref C) us) _ _ _
  obtain ⟨hp, gn, dr, tk, os⟩ := s1
  generalize en : hp.objs.size + 1 = nx at *
  have le : hp.objs.size ≤ nx := by omega
  have fresh : H1 nx = none := I1.hok.fresh le
  have rd2 := rd1 nx fresh
  have keep : ∀ b o, hp.get? b = some o → ((hp.push (PySem.W.kdv_tup us)).push (PySem.HandSPX.excO C hp.objs.size)).get? b = some o :=
    fun b o z => Heap.get?_push_of_some _ (Heap.get?_push_of_some _ z)
  have there : ((hp.push (PySem.W.kdv_tup us)).push (PySem.HandSPX.excO C hp.objs.size)).get? nx = some (PySem.HandSPX.excO C hp.objs.size) := by
    rw [← en]
    heap_get
  have I2 := I1.laid (t' := tk) (a := nx) (o := exo nx C none) (h' := (hp.push (PySem.W.kdv_tup us)).push (PySem.HandSPX.excO C hp.objs.size)) keep le (exo_ok there)
  have rel2 : Vals (V.ref nx :: (vs ++ dvs)) (Value.ref nx :: (us ++ ds)) := .cons rfl (rel.append dfl)
  have hlen : (Value.ref nx :: us ++ ds).length = psI.length := by
    have q := rel2.length
    rw [FI.len _ _ _ _ rd2] at q
    exact q.symm
  have few : us.length ≤ sizeLine := by
    have q := Paired.length rel
    rw [← q, sizeLine_eq]
    omega
  refine wpAny_call ?_
  refine PySem.HandSPX.call_own F.excBase_ValueError (fun Y => PySem.HandSPX.refsVE_contains Y n4 rfs) (I1.kIn _ _ lkC) (PySem.W.looks_findIn I1.kIn iC) (fun self => PySem.W.bind_fn I1.kIn self tI) few ?_
  rw [en]
  refine codeAny_mono (FI.run _ X.stack _ _ ⟨Value.ref nx :: us, []⟩ (Value.ref nx :: (us ++ ds)) _ _ (fun _ _ _ => False) (room.make C us []) (I2.env0.make C us []) (bnd _ (Value.ref nx :: us) I2.kIn hlen) rel2 rd2) fun r s' back => ?_
  cases r with
  | error er => exact px pins σ _ _ er s' I2 back
  | ok fl =>
    cases fl with
    | next => exact back.elim
    | brk => exact back.elim
    | cont => exact back.elim
    | ret u =>
      obtain ⟨v, H2, os2, bare2, un2, hok2, rv, ev, d, fs, ea, ed, hd1, q2⟩ := back
      subst ev
      obtain ⟨h2, g2, d2, t2, os'⟩ := s'
      obtain ⟨t0, G, J, kG, ge, hoe, na⟩ := mk_end0 (d2 := d2) (t2 := t2) I1 le keep un2 hok2 os2 bare2 ea ed hd1
      exact ⟨rv, nx, _, _, ⟨G, g2, d2, t2, os'⟩, _, .ref C, some d, rfl, J, kG, ge, hoe, ⟨rfl, rfl, fun ws hw => by cases hw; rfl⟩, rfl, rfl, na, rfl, bare2, raises_own T.exC T.tyC, q2⟩
/-! ### what may be asked of an exception that is pinned -/
/-- the class facts of its class at C -/
structure XC (K : PySem.W.Frag) (C : Addr) : Prop where
  e : ExcC K C
  cl : (PySem.W.clsIn K C).isSome = true
/-- e.n -/
def tXg (K : PySem.W.Frag) (a : Addr) (cls : Value) (d : Option Addr) (n : Str) (te : TE) : TE := fun σ H Q => te σ H fun x H1 => x = .ref a ∧ ∃ (C dd : Addr) (fs : List (Str × V)) (v : V),
  cls = .ref C ∧ XC K C ∧ PySem.W.findIn K (.ref C) n = some none ∧ d = some dd ∧ H1 dd = some (.xd fs) ∧ fs.lookup n = some v ∧ Q v H1
theorem pe_xg {a : Addr} {oe : Obj} {cls : Value} {d : Option Addr} {e : Expr} {te : TE} {pos : Pos} {n : Str} (hp : (a, oe) ∈ X.pn) (hz : oe.cls = cls ∧ oe.dict = d) (hf : ∃ vs, oe.data = .fields vs) (he : PE X e te)
    (hb : attributeBase e n X.env (eval e X.env) = eval e X.env := by rfl) : PE X (.Attribute e n pos) (tXg X.K a cls d n te) := by
  refine ⟨fun pins s σ H Q I rd => attr_of hb (thn (he.run pins s σ H _ I rd) fun u s1 hh => ?_)⟩
  obtain ⟨x, H1, I1, rx, ex, C, dd, fs, v, ec, T, no, ed, ea, l, q⟩ := hh
  subst ex ec ed
  cases (show u = Value.ref a from rx)
  have there := (I1.pin (a, oe) (List.mem_append_left _ hp)).1
  obtain ⟨ws, hd⟩ := hf
  obtain ⟨mA, hns, rel⟩ := (show ObjOk X.prog X.w H1 s1.heap dd (.xd fs) from I1.hok dd _ ea)
  obtain ⟨od, ho, hl⟩ := lookIn_ns hns
  obtain ⟨u', hu, ru⟩ := RelO.some_of (v := v) (o := mA n) (by rw [← l]; exact rel n)
  have J : PySem.W.InstAt s1.heap a oe C (some od) := ⟨there, hz.1, by unfold PySem.W.notCls; rw [hd] <;> rfl, by rw [hz.2]; exact ho⟩
  exact HandSPX.exc_get I1.kIn J T.e.hg T.e.hk T.e.hs (PySem.W.findObj_own T.e.hd no rfl (by rw [hl, hu])) (handed_of ru) ⟨v, H1, I1.tok _, ru, q⟩
/-- isinstance(e, c) of it -/
def rIsP (K : PySem.W.Frag) (a : Addr) (cls : Value) (d : Option Addr) : List V → Hp → VK → Prop := fun xs H Q => ∃ (C dd : Addr) (fs : List (Str × V)) (c : V) (cv : Value) (b : Bool),
  xs = [.ref a, c] ∧ cls = .ref C ∧ XC K C ∧ d = some dd ∧ H dd = some (.xd fs) ∧ ClsV c cv ∧ PySem.W.kitOne K (.ref C) cv = some b ∧ Q (.bl b) H
theorem c_isP {a : Addr} {oe : Obj} {cls : Value} {d : Option Addr} (hp : (a, oe) ∈ X.pn) (hz : oe.cls = cls ∧ oe.dict = d) (hf : ∃ vs, oe.data = .fields vs) : CallR X (.builtin "isinstance") (rIsP X.K a cls d) := by
  intro pins s σ H xs us Q I r rd
  obtain ⟨C, dd, fs, c, cv, b, ex, ec, T, ed, ea, kc, kb, q⟩ := rd
  subst ex ec ed
  obtain ⟨u1, u2, rfl, r1, r2⟩ := vals2 r
  cases (show u1 = Value.ref a from r1)
  have e2 := kc.eq r2
  subst e2
  have there := (I.pin (a, oe) (List.mem_append_left _ hp)).1
  obtain ⟨ws, hd⟩ := hf
  obtain ⟨mA, hns, rel⟩ := (show ObjOk X.prog X.w H s.heap dd (.xd fs) from I.hok dd _ ea)
  obtain ⟨od, ho, hl⟩ := lookIn_ns hns
  have J : PySem.W.InstAt s.heap a oe C (some od) := ⟨there, hz.1, by unfold PySem.W.notCls; rw [hd] <;> rfl, by rw [hz.2]; exact ho⟩
  exact PySem.W.kia_one (PySem.W.kitx_exc T.cl T.e.hg T.e.hk T.e.hs T.e.ha T.e.hn T.e.ht T.e.hm) I.kIn J kb (fun z => nomatch z) fun tk => ⟨.bl b, H, I.kept (t' := tk) fun _ _ z => z, rfl, q⟩
end
/-! ### a def that is called with the exception that is handled -/
open L2H in
/-- as L2H.FnH, the promise told of the pinned exception -/
structure FnE (P : Program) (w : World) (K : PySem.W.Frag) (mg : Str → Option Value) (base : Heap) (lv : Nat) (f : Addr) (fd : FuncData) (ps : List Str) (sp : Addr × Obj → Sp) : Prop where
  few : ∀ q vs H Q E, sp q vs H Q E → vs.length = ps.length
  go : ∀ (q : Addr × Obj) (A : Around) (outer : List Env) (s : Shared) (H : Hp) (args : Args) (us : List Value) (vs : List V) (Q : VK) (E : XK),
    RoomH lv A → Hot1 A q → PinOk outer H s q → Env0 P w K mg base A outer s H → BindsTo s fd args (ps.zip us) → Vals vs us → sp q vs H Q E → codeAny (model P w) A (.call (.ref f) args) (CR CX0 outer P w H s Q E) s
section
variable {P : Program} {w : World} {K : PySem.W.Frag} {mg : Str → Option Value} {base : Heap}
open L2H in
theorem Df.okE {x : Str} {st : Stmt} {N ps : List Str} {lv : Nat} {sp : Addr × Obj → Sp} (D : Df K mg x st ps) (S : FnScope N ps (defScope st)) (len : ∀ q vs H Q E, sp q vs H Q E → vs.length = ps.length)
    (body : ∀ (q : Addr × Obj) (cdv : Value) (A : Around) (outer : List Env) (s : Shared) (H : Hp) (vs : List V) (Q : VK) (E : XK), Hot1 A q → RoomH lv (A.deeper (envOfC x (defScope st) s.heap.objs.size D.f cdv)) → sp q vs H Q E →
      ∃ t, PSs (cxH CX0 P w K mg base N x (defScope st) D.f cdv A outer s H E q).nox (defBody st) t ∧ t { nx := fun _ H' => Q .non H', rt := Q } (L2.start N vs) H) :
    FnE P w K mg base (lv + 1) D.f D.fd ps sp := by
  obtain ⟨f, fd, F, bnd, gl⟩ := D
  obtain ⟨oc, od, kV, doc, pm, an, cdv, ct, osl, e, lk, hcd⟩ := F.ex
  have e : fd = _ := e
  subst e
  refine ⟨len, fun q A outer s H args us vs Q E room hot pin e0 hb rel rd => ?_⟩
  have hl := len _ _ _ _ _ rd
  have keep : ∀ b o, base.get? b = some o → s.heap.get? b = some o := fun b o z => (e0.bs b o z).1
  have KX : K.In s.heap := e0.mod.kin.keeps keep
  have lim : s.heap.NoLimit := e0.mod.nolimit.keeps keep
  have kinds : ∀ y ∈ ps.zip us, (defScope st).names.lookup y.1 = some .local ∨ ((defScope st).names.lookup y.1 = some .cell ∧ ((cellsFrom (s.heap.objs.size + 1) (defScope st).names []).lookup y.1).isSome = true) := by
    rintro ⟨n, v⟩ hy
    rcases S.par n (List.of_mem_zip hy).1 with z | z
    · exact .inl z
    · exact .inr ⟨z, PySem.W.cellsFrom_some _ _ _ (.inl z)⟩
  refine codeAny_call_function room.depth (KX _ _ lk) rfl S.co S.gen rfl (PySem.W.codeRec_of KX hcd) (hb _ _ _ _ ?_)
  refine wpAny_newFunctionEnv_cells S.kind kinds fun env he s1 y => ?_
  subst he
  refine ⟨lim.keeps y.toInCall.keep, codeAny_func ?_⟩
  obtain ⟨t, ht, hq⟩ := body q cdv A outer s H vs Q E hot (room.deeper _) rd
  have I := inv_startH (CX := CX0) (E := E) S pin e0 hl rel y
  refine wpAny_mono (ht.nox.run [] s1 (L2.start N vs) H _ I hq) (fun fl s' hs => ?_) fun _ _ z => z
  cases fl with
  | brk => exact (hs.choose_spec.choose_spec.2).elim
  | cont => exact (hs.choose_spec.choose_spec.2).elim
  | ret u =>
    obtain ⟨v, _, H', J, rv, z⟩ := hs
    exact ⟨v, H', J.os, J.bare, J.base, J.hok, rv, z⟩
  | next =>
    obtain ⟨_, H', J, z⟩ := hs
    exact ⟨V.non, H', J.os, J.bare, J.base, J.hok, rfl, z⟩
end
section
variable {X : Cx}
open L2H in
theorem pe_callE {lv : Nat} {f a : Addr} {oe : Obj} {fd : FuncData} {ps : List Str} {sp : Addr × Obj → Sp} {nm : Str} {p pos : Pos} {e : Expr} {es : List Expr} {t : TA} (F : FnE X.prog X.w X.K X.mg X.base lv f fd ps sp) (room : RoomH lv X.A) (hot : Hot1 X.A (a, oe)) (hp : (a, oe) ∈ X.pn)
    (gl : Gl X nm) (gm : X.mg nm = some (.ref f)) (kp : PySem.W.keepIn X.K (.ref f) = true) (bnd : Binds X.K fd ps []) (args : PA X (e :: es) t) (nd : (nm == ("__debug__" : Str)) = false := by decide)
    (st1 : starEach (e :: es) X.env = (false, eval e X.env) :: starEach es X.env := by rfl) (st2 : (backTo pos (starEach es X.env)).any (·.1) = false := by rfl) : PE X (.Call (.Name nm p) (e :: es) [] pos) (tCallS (sp (a, oe)) (fun _ => E0) t) := by
  refine ⟨fun pins s σ H Q I rd => wpAny_Call_Name_kw (ld_glob I gl gm ?_ nd)⟩
  refine PySem.W.callWith_K (h₀ := X.base) I.ok.mod.kin kp (thn (args.run pos pins s σ H _ I rd) fun us s1 hh => ?_) st1 st2
  obtain ⟨vs, H1, I1, rel, q⟩ := hh
  refine ⟨I1.kIn, ?_⟩
  have hl : us.length = ps.length := by
    rw [← rel.length]
    exact F.few _ _ _ _ _ q
  have b := bnd s1 us I1.kIn (by rw [List.append_nil]; exact hl)
  rw [List.append_nil] at b
  have P1 := I1.pin (a, oe) (List.mem_append_left _ hp)
  have pin : PinOk X.stack H1 s1 (a, oe) := ⟨P1.1, P1.2.1, fun hm => (List.mem_cons.mp (I1.stkSub a hm)).elim P1.2.2.1 P1.2.2.2.1, P1.2.2.2.2⟩
  refine wpAny_call (codeAny_mono (F.go (a, oe) X.A X.stack s1 H1 ⟨us, []⟩ us vs Q _ room hot pin I1.env0 b rel q) fun r s' back => ?_)
  cases r with
  | error z => exact back.elim
  | ok fl =>
    cases fl with
    | ret u => exact I1.after back
    | next => exact back.elim
    | brk => exact back.elim
    | cont => exact back.elim
end
/-! ### defs that raise -/
section
variable {P : Program} {w : World} {K : PySem.W.Frag} {mg : Str → Option Value} {base : Heap}
theorem Df.okN {x : Str} {st : Stmt} {N ps : List Str} {lv : Nat} {sp : Sp} (D : Df K mg x st ps) (S : FnScope N ps (defScope st)) (len : ∀ vs H Q E, sp vs H Q E → vs.length = ps.length)
    (body : ∀ (cdv : Value) (A : Around) (outer : List Env) (s : Shared) (H : Hp) (vs : List V) (Q : VK) (E : XK), Room lv (A.deeper (envOfC x (defScope st) s.heap.objs.size D.f cdv)) → sp vs H Q E →
      ∃ t, PSs (cxOf (L2N.CX P w) P w K mg base N x (defScope st) D.f cdv A outer s H E) (defBody st) t ∧ t { nx := fun _ H' => Q .non H', rt := Q } (L2.start N vs) H) :
    FnOk P w K mg base (L2N.CX P w) (lv + 1) D.f D.fd ps sp := by
  obtain ⟨f, fd, F, bnd, gl⟩ := D
  obtain ⟨oc, od, kV, doc, pm, an, cdv, ct, osl, e, lk, hcd⟩ := F.ex
  have e : fd = _ := e
  subst e
  exact fn_of lk hcd S len fun A outer s H vs Q E room rd => body cdv A outer s H vs Q E room rd
/-- around a body nothing is let out -/
theorem takesN0 {X : Cx} : L2N.Takes X (fun _ _ _ _ => False) := fun _ _ z => by
  obtain ⟨_, _, _, _, _, _, _, _, _, _, _, _, _, _, _, _, z⟩ := z
  exact z.elim
end
end My
namespace My
open PySem PySem.Spec PyProof.Rows L2
/-! ### the digits' limit -/
theorem none_of_k {K : PySem.W.Frag} {h : Heap} {a : Addr} {m : Str → Option Value} {n : Str} (X : K.In h) (G : h.Ns a m) (e : PySem.W.nsIn K a n = some none) : m n = none := by
  obtain ⟨o, es, ep, ho, hd, _, hf⟩ := G
  unfold PySem.W.nsIn at e
  split at e
  · rename_i c d es' n' sl lk
    have two := ho.symm.trans (X _ _ lk)
    cases two
    cases hd
    split at e
    · cases e
    · rename_i none_
      rw [← hf]
      unfold nsFind findBy
      rw [← Array.find?_toList, none_]
      rfl
  · cases e
def NoDig (K : PySem.W.Frag) : Prop := PySem.W.nsIn K cStatics "sys.int_max_str_digits" = some none
theorem noDigits {X : Cx} {pins : List (Addr × Obj)} {σ : L2.St} {H : Hp} {s : Shared} (nd : NoDig X.K) (I : Inv X pins σ H s) : s.heap.NoDigits := by
  obtain ⟨mc, a, b⟩ := I.nolimit
  exact ⟨mc, a, none_of_k I.kIn a nd⟩
/-! ### int of a longer text -/
theorem wp_long {M : Model} {A : Around} {E : Value → Shared → Prop} {s : Shared} {Q : Value → Shared → Prop} {v : Value} {text : List Nat} {n : Int} (nd : s.heap.NoDigits)
    (hs : ¬ (text.takeWhile (· != 0)).length ≤ 640) (hr : (int_private% "readNumeral") 4300 10 (text.takeWhile (· != 0)) = (int_private% "Numeral.value") n)
    (ha : ((text.takeWhile (· != 0)).length == text.length) = true) (h : Q (.int n s.toks) { s with toks := s.toks + 1 }) :
    wpAny M A ((int_private% "intFromText") v text 10) Q E s := by
  obtain ⟨mc, hns, hno⟩ := nd
  obtain ⟨hp, g, d, tk, os⟩ := s
  repeat (any_goals (first
    | assumption
    | (with_reducible refine wpAny_ite_false (decide_eq_false hs) ?_)
    | (with_reducible refine wpAny_ite_true (decide_eq_true ha) ?_)
    | (with_reducible refine wpAny_nsGet hns ?_; rw [hno])
    | wp_step))
  all_goals (rw [hr]; dsimp only)
  repeat (any_goals (first
    | assumption
    | (with_reducible refine wpAny_ite_true (decide_eq_true ha) ?_)
    | wp_step))
structure Hold (p : Prop) : Prop where
  out : p
theorem meets_long {x : PySem.Str} {u : Tok} {n : Int} (hz : x.length ≤ sizeLine) (hl : ¬ (PySem.numSeenOf x).length ≤ 640) (hn : PySem.intText? x = some n) :
    Meets (Builtin.«int.__new__» ⟨[.type "int", .str x u], []⟩) (fun _ R s => s.heap.NoDigits ∧ R (.ok (.ret (.int n s.toks))) { s with toks := s.toks + 1 }) :=
  .of_wp fun prog w A R s h => by
    obtain ⟨nd, h⟩ := h
    have f1 := PySem.F.conv_sub_int
    have f2 := PySem.F.madeHere_int
    have f3 := PySem.W.KIN.str_int
    have f4 := PySem.W.KIN.str_idx
    have f5 := PySem.W.KIN.str_trunc
    have f6 : typeOf (.str x u) = pure (.type "str") := rfl
    have two : (int_private% "readNumeral") 4300 10 (PySem.numSeenOf x) = (int_private% "Numeral.value") n ∧ ((PySem.numSeenOf x).length == (PySem.numTextOf x).length) = true := by
      rcases PySem.read4300 x hz with ⟨m, h1, h2, h3⟩ | ⟨h1, _⟩
      · rw [hn] at h1
        cases h1
        exact ⟨h3, h2⟩
      · rw [hn] at h1
        cases h1
    have hk := Hold.mk (And.intro nd (And.intro hl two))
    obtain ⟨hp, g, d, tk, os⟩ := s
    clear nd hl two hn
    repeat (any_goals (first
      | assumption
      | ((with_reducible show wpAny _ _ ((int_private% "intFromText") _ _ _) _ _ _); refine wp_long hk.out.1 hk.out.2.1 hk.out.2.2.1 hk.out.2.2.2 ?_)
      | wp_step))
    all_goals first | exact ⟨_, rfl, h⟩ | skip
/-- int of a text of at most 4300 digits -/
def rIntS (K : PySem.W.Frag) : List V → Hp → VK → Prop := fun xs H Q => ∃ a n, xs = [.str a] ∧ PySem.intText? a = some n ∧ a.length ≤ sizeLine ∧ (PySem.numSeenOf a).length = a.length ∧ NoDig K ∧ Q (.int n) H
theorem c_intS {X : Cx} : CallR X (.type "int") (rIntS X.K) := by
  intro pins s σ H xs us Q I rs h
  obtain ⟨a, n, rfl, hn, hl, hsn, nd, h⟩ := h
  cases rs with
  | cons r1 rs =>
    cases rs
    obtain ⟨t, rfl⟩ := r1
    have fin : ∀ t', EP X pins σ Q (.int n t') { s with toks := s.toks + 1 } := fun t' => ⟨.int n, H, I.tok _, ⟨_, rfl⟩, h⟩
    by_cases h6 : a.length ≤ 640
    · exact PySem.W.KIN.call_text hn h6 (fin _)
    · exact call_int_1 (meets_long hl (by rw [hsn]; exact h6) hn) ⟨noDigits nd I, rfl, fin _⟩
/-! ### text * int -/
def rMulS : R2 := fun x y H Q => ∃ z n, x = .str z ∧ y = .int n ∧ 0 ≤ n ∧ n ≤ 100000 ∧ z.length ≤ 100 ∧ Q (.str (PySem.Txt.mul z n)) H
theorem o_mulS {X : Cx} : OpR X (binaryOp .Mult) rMulS := by
  intro pins s σ H x y v u Q I rx ry h
  obtain ⟨z, n, rfl, rfl, h0, h1, h2, h⟩ := h
  obtain ⟨t, rfl⟩ := (show ∃ t, v = Value.str z t from rx)
  obtain ⟨t', rfl⟩ := (show ∃ t, u = Value.int n t from ry)
  refine PySem.SB.mul ⟨by simp; omega, fun a _ => ?_, fun a _ => ?_⟩ fun t2 k => ⟨.str (PySem.Txt.mul z n), H, I.tok _, ⟨t2, rfl⟩, h⟩
  · have hq : (100000 : Int) ≤ (2 ^ 63 - 1) / n := (Int.le_ediv_iff_mul_le (by omega)).mpr (by omega)
    omega
  · have e : z.length * n.toNat ≤ 100 * 100000 := Nat.mul_le_mul h2 (by omega)
    unfold Builtin.Str.tooLong
    refine decide_eq_false ?_
    rw [sizeLine_eq]
    omega
/-! ### how often a truth value stands in a list of such -/
def rCntB (K : PySem.W.Frag) : V → List V → Hp → VK → Prop := fun x xs H Q => ∃ (a : Addr) (bs : List Bool) (k : Bool), x = .ref a ∧ xs = [.bl k] ∧ SqL K H a (bs.map V.bl) ∧ Q (.int (countIn (.bool k) (bs.map PyData.bool))) H
theorem reads_bools {h : Heap} : ∀ {bs : List Bool} {vs : List Value}, Vals (bs.map V.bl) vs → ReadsAll h vs (bs.map PyData.bool) []
  | [], _, r => by cases r; exact .nil
  | b :: bs, _, r => by
    cases r with
    | cons r1 r2 =>
      cases r1
      exact .cons (as := []) (by constructor) (reads_bools r2)
theorem all_bools (bs : List Bool) : (bs.map PyData.bool).all Shape.bool.has = true := by
  rw [List.all_map, List.all_eq_true]
  intro x _
  rfl
theorem mt_cntB {X : Cx} : MtR X "list.count" (rCntB X.K) := by
  intro pins s σ H x xs v us Q I rx rs h
  obtain ⟨a, bs, k, rfl, rfl, hq, h⟩ := h
  cases (show v = Value.ref a from rx)
  cases rs with
  | cons r1 r2 =>
    cases r2
    cases r1
    obtain ⟨its, rv, pl, hz⟩ := I.list hq
    exact count_list_bools pl.isList (reads_bools (h := s.heap) rv) (all_bools bs) ⟨.int _, H, I.tok _, ⟨_, rfl⟩, h⟩
/-! ### replace: a token must be out -/
def PE1 (X : Cx) (e : Expr) (t : TE) : Prop := ∀ (pins : List (Addr × Obj)) (s : Shared) (σ : L2.St) (H : Hp) (Q : VK), Inv X pins σ H s → t σ H Q →
  wpAny (model X.prog X.w) X.A (eval e X.env) (fun u s' => 1 ≤ s'.toks ∧ EP X pins σ Q u s') X.xe s
def PA1 (X : Cx) (es : List Expr) (t : TA) : Prop := ∀ (pos : Pos) (pins : List (Addr × Obj)) (s : Shared) (σ : L2.St) (H : Hp) (Q : List V → Hp → Prop), Inv X pins σ H s → t σ H Q →
  wpAny (model X.prog X.w) X.A (spliced (backTo pos (starEach es X.env))) (fun us s' => 1 ≤ s'.toks ∧ AP X pins σ Q us s') X.xe s
section
variable {X : Cx}
theorem PE1.pe {e : Expr} {t : TE} (h : PE1 X e t) : PE X e t := ⟨fun pins s σ H Q I q => thn (h pins s σ H Q I q) fun _ _ z => z.2⟩
theorem drop_toks {α : Type} {M : Model} {A : Around} {t : Sem α} {Q : α → Shared → Prop} {E : Value → Shared → Prop} {s : Shared} {n : Nat} (hn : n ≤ s.toks) (h : wpAny M A t Q E s) :
    wpAny M A t (fun a s' => n ≤ s'.toks ∧ Q a s') E s := wpAny_mono (wpAny_toks_of hn h) (fun _ _ z => z) fun _ _ z => z.2
theorem pe1_intL {op : Operator} {r : R2} {b : Expr} {tb : TE} {i : Int} {j : Nat} {cp pos : Pos} (ho : OpR X (binaryOp op) r) (hb : PE X b tb) : PE1 X (.BinOp (.Constant (.int i) j cp) op b pos) (tOp r (tC (.int i)) tb) := by
  intro pins s σ H Q I h
  refine wpAny_BinOp (wpAny_Constant_int ?_)
  refine thn (drop_toks (n := 1) (by show 1 ≤ s.toks + 1; omega) (hb.run pins _ σ H _ (I.tok _) h)) fun u s1 hh => ?_
  obtain ⟨h1, y, H1, I1, ry, q⟩ := hh
  exact drop_toks h1 (ho pins s1 σ H1 (.int i) y _ u Q I1 ⟨_, rfl⟩ ry q)
theorem pa1_head {e : Expr} {es : List Expr} {te : TE} {t : TA} (ha : PE1 X e te) (hr : PA X es t) (hs : starEach (e :: es) X.env = (false, eval e X.env) :: starEach es X.env := by rfl) : PA1 X (e :: es) (tCons te t) := by
  intro pos pins s σ H Q I h
  rw [hs]
  refine Calls.spliced_cons (thn (ha pins s σ H _ I h) fun u s1 hh => ?_)
  obtain ⟨h1, x, H1, I1, r1, q1⟩ := hh
  exact thn (drop_toks h1 (hr.run pos pins s1 σ H1 _ I1 q1)) fun us s2 ⟨h2, xs, H2, I2, r2, q2⟩ => ⟨h2, x :: xs, H2, I2, .cons r1 r2, q2⟩
theorem pa1_tail {e : Expr} {es : List Expr} {te : TE} {t : TA} (ha : PE X e te) (hr : PA1 X es t) (hs : starEach (e :: es) X.env = (false, eval e X.env) :: starEach es X.env := by rfl) : PA1 X (e :: es) (tCons te t) := by
  intro pos pins s σ H Q I h
  rw [hs]
  refine Calls.spliced_cons (thn (ha.run pins s σ H _ I h) fun u s1 hh => ?_)
  obtain ⟨x, H1, I1, r1, q1⟩ := hh
  exact thn (hr pos pins s1 σ H1 _ I1 q1) fun us s2 ⟨h2, xs, H2, I2, r2, q2⟩ => ⟨h2, x :: xs, H2, I2, .cons r1 r2, q2⟩
theorem pe1_call {CX : CXT} {lv : Nat} {f : Addr} {fd : FuncData} {ps : List Str} {sp : Sp} {E : XK} {nm : Str} {p pos : Pos} {e : Expr} {es : List Expr} {t : TA} (F : FnOk X.prog X.w X.K X.mg X.base CX lv f fd ps sp) (hr : Room lv X.A) (hg : Gl X nm) (hm : X.mg nm = some (.ref f)) (hk : PySem.W.keepIn X.K (.ref f) = true)
    (hb : Binds X.K fd ps []) (hx : Passes CX X E) (ha : PA1 X (e :: es) t) (nd : (nm == ("__debug__" : Str)) = false := by decide) (st1 : starEach (e :: es) X.env = (false, eval e X.env) :: starEach es X.env := by rfl)
    (st2 : (backTo pos (starEach es X.env)).any (·.1) = false := by rfl) : PE1 X (.Call (.Name nm p) (e :: es) [] pos) (tCall sp [] E t) := by
  intro pins s σ H Q I h
  refine wpAny_Call_Name_kw (ld_glob I hg hm ?_ nd)
  refine PySem.W.callWith_K (h₀ := X.base) I.ok.mod.kin hk (thn (ha pos pins s σ H _ I h) fun us s1 hh => ?_) st1 st2
  obtain ⟨h1, vs, H1, I1, r, q⟩ := hh
  exact ⟨I1.kIn, drop_toks h1 (run_fn F hr hb .nil hx I1 r q)⟩
def tRepl (y z : Str) (to : TE) : TE := fun σ H Q => to σ H fun v H1 => ∃ x, v = .str x ∧ x.length + (x.length + 1) * z.length ≤ 16777216 ∧ Q (.str (PySem.Txt.replace x y z)) H1
theorem pe1_repl {o : Expr} {to : TE} {y z : Str} {j k : Nat} {c0 c1 apos pos : Pos} (ho : PE1 X o to) (hyz : (y == z) = false := by decide)
    (hst : starEach [.Constant (.str y) j c0, .Constant (.str z) k c1] X.env = [(false, eval (.Constant (.str y) j c0) X.env), (false, eval (.Constant (.str z) k c1) X.env)] := by rfl)
    (hbase : attributeBase o "replace" X.env (eval o X.env) = eval o X.env := by rfl) (hline : (apos.endLine == pos.line) = true := by rfl) :
    PE1 X (.Call (.Attribute o "replace" apos) [.Constant (.str y) j c0, .Constant (.str z) k c1] [] pos) (tRepl y z to) := by
  intro pins s σ H Q I h
  refine PySem.Call_method2 hbase hst hline (thn (ho pins s σ H _ I h) fun v s1 q => ?_)
  obtain ⟨h1, v', H1, I1, r1, x, rfl, hb, q⟩ := q
  obtain ⟨tx, rfl⟩ := (show ∃ t, v = Value.str x t from r1)
  refine ⟨"str", _, PySem.F.plainAttrs_str, PySem.F.slot_str_replace, PySem.F.type_str_replace, typeIs_str _ _ _, (fun _ e => nomatch e), Calls.callWith_builtin rfl (Calls.evalArgs_plain (Calls.spliced_cons ?_))⟩
  refine Calls.Constant_str (Calls.spliced_cons (Calls.Constant_str (Calls.spliced_nil ?_)))
  refine drop_toks (n := 1) (by show 1 ≤ s1.toks + 1 + 1; omega) ?_
  refine PySem.SC.replace ?_ ?_ ?_ hyz hb fun t' k => ⟨.str (PySem.Txt.replace x y z), H1, I1.tok k, ⟨t', rfl⟩, q⟩
  · show s1.toks ≠ 0
    omega
  · show s1.toks + 1 ≠ 0
    omega
  · show s1.toks ≠ s1.toks + 1
    omega
end
end My
namespace My
open PySem PySem.Spec PyProof.Rows L2
/-! ### data: what stands at a value, without addresses -/
inductive D where
  | non | bl (b : Bool) | int (i : Int) | str (x : Str) | tup (l : List D) | lst (l : List D) | dct (ks vs : List D) | ins (C : Addr) (fs : List Str) (vs : List D) | scr (ns : List Int) | sto | exc (a : Addr) | err (C : Addr) (fs : List Str) (vs : List D)
def kD : Key → D
  | .inl i => .int i
  | .inr x => .str x
def tD (l : List Key) : D := .tup (l.map kD)
/-- a dict at a with the keys ks, the values us -/
def DicV (H : Hp) (a : Addr) (ks : List D) (us : List V) : Prop :=
  (∃ kvs : List (Key × V), H a = some (.dK kvs) ∧ ks = kvs.map (fun p => kD p.1) ∧ us = kvs.map (·.2)) ∨
  (∃ kvs : List (List Key × V), H a = some (.dT kvs) ∧ ks = kvs.map (fun p => tD p.1) ∧ us = kvs.map (·.2))
/-- one heap within another -/
abbrev Sub (H H' : Hp) : Prop := ∀ b o, H b = some o → H' b = some o
/-- an exception at a, not raised: of the class at C, its fields -/
def ErrAt (H : Hp) (a C : Addr) (fs : List Str) (us : List V) : Prop :=
  (∃ dx, H a = some (exo a C (some dx)) ∧ H dx = some (exd dx (fs.zip us)) ∧ us.length = fs.length) ∨ (fs = [] ∧ us = [] ∧ H a = some (ExO (.ref C) a))
mutual
/-- at v stands the data d -/
def Da (K : PySem.W.Frag) (so : Option Addr) (H : Hp) : D → V → Prop
  | .non, v => v = .non
  | .bl b, v => v = .bl b
  | .int i, v => v = .int i
  | .str x, v => v = .str x
  | .tup l, v => ∃ a xs, v = .ref a ∧ SqT K H a xs ∧ DaL K so H l xs
  | .lst l, v => ∃ a xs, v = .ref a ∧ H a = some (.lst xs) ∧ DaL K so H l xs
  | .dct ks vs, v => ∃ a us, v = .ref a ∧ DicV H a ks us ∧ DaL K so H vs us
  | .ins C fs vs, v => ∃ a dx us, v = .ref a ∧ H a = some (.ins C dx (fs.zip us)) ∧ H dx = some (.own a) ∧ us.length = fs.length ∧ DaL K so H vs us
  | .scr ns, v => ∃ a, v = .ref a ∧ SqL K H a (ns.map V.int)
  | .sto, v => ∃ a, v = .ref a ∧ so = some a
  | .exc a, v => v = .ref a
  | .err C fs vs, v => ∃ a us, v = .ref a ∧ ErrAt H a C fs us ∧ DaL K so H vs us
def DaL (K : PySem.W.Frag) (so : Option Addr) (H : Hp) : List D → List V → Prop
  | [], xs => xs = []
  | d :: l, xs => ∃ x r, xs = x :: r ∧ Da K so H d x ∧ DaL K so H l r
end
theorem Sub.sqT {K : PySem.W.Frag} {H H' : Hp} {a : Addr} {xs : List V} (x : Sub H H') (h : SqT K H a xs) : SqT K H' a xs := by
  rcases h with (h | ⟨o, h⟩) | h
  · exact .inl (.inl (x _ _ h))
  · exact .inl (.inr ⟨o, x _ _ h⟩)
  · exact .inr h
theorem Sub.sqL {K : PySem.W.Frag} {H H' : Hp} {a : Addr} {xs : List V} (x : Sub H H') (h : SqL K H a xs) : SqL K H' a xs := by
  rcases h with (h | ⟨o, h⟩) | h
  · exact .inl (.inl (x _ _ h))
  · exact .inl (.inr ⟨o, x _ _ h⟩)
  · exact .inr h
theorem Sub.dic {H H' : Hp} {a : Addr} {ks : List D} {us : List V} (x : Sub H H') (h : DicV H a ks us) : DicV H' a ks us := by
  rcases h with ⟨kvs, h, e⟩ | ⟨kvs, h, e⟩
  · exact .inl ⟨kvs, x _ _ h, e⟩
  · exact .inr ⟨kvs, x _ _ h, e⟩
theorem Sub.err {H H' : Hp} {a C : Addr} {fs : List Str} {us : List V} (x : Sub H H') (h : ErrAt H a C fs us) : ErrAt H' a C fs us := by
  rcases h with ⟨dx, h1, h2, h3⟩ | ⟨h1, h2, h3⟩
  · exact .inl ⟨dx, x _ _ h1, x _ _ h2, h3⟩
  · exact .inr ⟨h1, h2, x _ _ h3⟩
mutual
theorem Da.mono {K : PySem.W.Frag} {so : Option Addr} {H H' : Hp} (x : Sub H H') : ∀ (d : D) (v : V), Da K so H d v → Da K so H' d v
  | .non, _, h => h
  | .bl _, _, h => h
  | .int _, _, h => h
  | .str _, _, h => h
  | .tup l, _, ⟨a, xs, e, h, q⟩ => ⟨a, xs, e, Sub.sqT x h, DaL.mono x l xs q⟩
  | .lst l, _, ⟨a, xs, e, h, q⟩ => ⟨a, xs, e, x _ _ h, DaL.mono x l xs q⟩
  | .dct ks vs, _, ⟨a, us, e, h, q⟩ => ⟨a, us, e, Sub.dic x h, DaL.mono x vs us q⟩
  | .ins C fs vs, _, ⟨a, dx, us, e, h, h2, l, q⟩ => ⟨a, dx, us, e, x _ _ h, x _ _ h2, l, DaL.mono x vs us q⟩
  | .scr ns, _, ⟨a, e, h⟩ => ⟨a, e, Sub.sqL x h⟩
  | .sto, _, h => h
  | .exc _, _, h => h
  | .err C fs vs, _, ⟨a, us, e, h, q⟩ => ⟨a, us, e, Sub.err x h, DaL.mono x vs us q⟩
theorem DaL.mono {K : PySem.W.Frag} {so : Option Addr} {H H' : Hp} (x : Sub H H') : ∀ (l : List D) (xs : List V), DaL K so H l xs → DaL K so H' l xs
  | [], _, h => h
  | d :: l, _, ⟨v, r, e, h, q⟩ => ⟨v, r, e, Da.mono x d v h, DaL.mono x l r q⟩
end
section
variable {K : PySem.W.Frag} {so : Option Addr} {H : Hp}
theorem DaL.len : ∀ {l : List D} {xs : List V}, DaL K so H l xs → xs.length = l.length
  | [], _, h => by
    have e : _ = _ := h
    rw [e]
    rfl
  | d :: l, _, ⟨v, r, e, h, q⟩ => by
    rw [e, List.length_cons, List.length_cons, q.len]
theorem DaL.get : ∀ {l : List D} {xs : List V} {i : Nat} {d : D}, DaL K so H l xs → l[i]? = some d → ∃ v, xs[i]? = some v ∧ Da K so H d v
  | [], _, _, _, _, e => by simp at e
  | c :: l, _, 0, d, ⟨v, r, e1, h, q⟩, e => by
    have e2 : c = d := by simpa using e
    subst e2
    exact ⟨v, by rw [e1]; rfl, h⟩
  | c :: l, _, i + 1, d, ⟨v, r, e1, h, q⟩, e => by
    obtain ⟨z, h1, h2⟩ := q.get (i := i) (d := d) (by simpa using e)
    exact ⟨z, by rw [e1]; simpa using h1, h2⟩
theorem DaL.back : ∀ {l : List D} {xs : List V} {i : Nat} {v : V}, DaL K so H l xs → xs[i]? = some v → ∃ d, l[i]? = some d ∧ Da K so H d v := fun {l xs i v} q e => by
  have hi : i < xs.length := (List.getElem?_eq_some_iff.mp e).1
  rw [q.len] at hi
  obtain ⟨w, h1, h2⟩ := q.get (List.getElem?_eq_getElem hi)
  have e2 : v = w := Option.some.inj (e.symm.trans h1)
  subst e2
  exact ⟨_, List.getElem?_eq_getElem hi, h2⟩
theorem DaL.app : ∀ {l m : List D} {xs ys : List V}, DaL K so H l xs → DaL K so H m ys → DaL K so H (l ++ m) (xs ++ ys)
  | [], _, _, _, h, q => by
    have e : _ = _ := h
    rw [e]
    exact q
  | d :: l, m, _, ys, ⟨v, r, e, h, z⟩, q => ⟨v, r ++ ys, by rw [e]; rfl, h, z.app q⟩
theorem DaL.one {d : D} {v : V} (h : Da K so H d v) : DaL K so H [d] [v] := ⟨v, [], rfl, h, rfl⟩
theorem DaL.set : ∀ {l : List D} {xs : List V} (j : Nat) {d : D} {v : V}, DaL K so H l xs → Da K so H d v → DaL K so H (l.set j d) (xs.set j v)
  | [], _, _, _, _, h, _ => by
    have e : _ = _ := h
    rw [e]
    exact rfl
  | c :: l, _, 0, d, v, ⟨w, r, e, h, q⟩, z => ⟨v, r, by rw [e]; rfl, z, q⟩
  | c :: l, _, j + 1, d, v, ⟨w, r, e, h, q⟩, z => ⟨w, r.set j v, by rw [e]; rfl, h, q.set j z⟩
theorem DaL.drop : ∀ {l : List D} {xs : List V} (n : Nat), DaL K so H l xs → DaL K so H (l.drop n) (xs.drop n)
  | _, _, 0, h => h
  | [], _, n + 1, h => by
    have e : _ = _ := h
    rw [e]
    exact rfl
  | c :: l, _, n + 1, ⟨w, r, e, h, q⟩ => by
    rw [e]
    exact q.drop n
theorem DaL.take : ∀ {l : List D} {xs : List V} (n : Nat), DaL K so H l xs → DaL K so H (l.take n) (xs.take n)
  | _, _, 0, h => by
    rw [List.take_zero, List.take_zero]
    exact rfl
  | [], _, n + 1, h => by
    have e : _ = _ := h
    rw [e]
    exact rfl
  | c :: l, _, n + 1, ⟨w, r, e, h, q⟩ => ⟨w, r.take n, by rw [e]; rfl, h, q.take n⟩
theorem DaL.atI {l : List D} {xs : List V} {i : Int} {d : D} (q : DaL K so H l xs) (e : L2.atI l i = some d) : ∃ v, L2.atI xs i = some v ∧ Da K so H d v := by
  unfold L2.atI at e ⊢
  rw [q.len]
  cases h : ixN l.length i with
  | none =>
    rw [h] at e
    cases e
  | some j =>
    rw [h] at e
    exact q.get e
end
/-! ### the two heaps: A what is frozen, H all -/
/-- the store at s: a list of the script's copy and five ints -/
def StoOk (K : PySem.W.Frag) (A H : Hp) (s : Addr) : Prop := A s = none ∧ ∃ (L : Addr) (ns : List Int) (p a b c d : Int), H s = some (.lst (StL L p a b c d)) ∧ A L = some (.lst (ns.map V.int)) ∧ 0 ≤ p ∧ 0 ≤ a ∧ 0 ≤ b ∧ 0 ≤ c ∧ c < 2305843009213693951 ∧ ns.length ≤ 63
structure Good (K : PySem.W.Frag) (so : Option Addr) (A H : Hp) : Prop where
  sub : Sub A H
  st : ∀ s, so = some s → StoOk K A H s
/-- from (A, H) to (A', H'): what was there is kept but for the store; what is frozen now was so, or is new -/
structure Ext (K : PySem.W.Frag) (so : Option Addr) (A H A' H' : Hp) : Prop where
  good : Good K so A' H'
  mono : Sub A A'
  kept : ∀ b o, so ≠ some b → H b = some o → H' b = some o
  new : ∀ b o, A' b = some o → A b = some o ∨ H b = none
section
variable {K : PySem.W.Frag} {so : Option Addr} {A H A1 H1 A2 H2 : Hp}
theorem Ext.refl (g : Good K so A H) : Ext K so A H A H := ⟨g, fun _ _ h => h, fun _ _ _ h => h, fun _ _ h => .inl h⟩
theorem Ext.trans (x : Ext K so A H A1 H1) (y : Ext K so A1 H1 A2 H2) : Ext K so A H A2 H2 := by
  refine ⟨y.good, fun b o h => y.mono b o (x.mono b o h), fun b o n h => y.kept b o n (x.kept b o n h), fun b o h => ?_⟩
  rcases y.new b o h with z | z
  · exact x.new b o z
  · cases e : H b with
    | none => exact .inr rfl
    | some u =>
      by_cases n : so = some b
      · have := (y.good.st b n).1
        rw [h] at this
        cases this
      · rw [x.kept b u n e] at z
        cases z
theorem Ext.da (x : Ext K so A H A1 H1) {d : D} {v : V} (h : Da K so A d v) : Da K so A1 d v := Da.mono x.mono d v h
theorem Ext.daL (x : Ext K so A H A1 H1) {d : List D} {v : List V} (h : DaL K so A d v) : DaL K so A1 d v := DaL.mono x.mono d v h
theorem Good.da (g : Good K so A H) {d : D} {v : V} (h : Da K so A d v) : Da K so H d v := Da.mono g.sub d v h
theorem Good.daL (g : Good K so A H) {d : List D} {v : List V} (h : DaL K so A d v) : DaL K so H d v := DaL.mono g.sub d v h
theorem Good.ne (g : Good K so A H) {p s : Addr} (h : H p = none) (e : so = some s) : p ≠ s := fun z => by
  obtain ⟨_, L, ns, p', a, b, c, d, h2, _⟩ := g.st s e
  rw [← z, h] at h2
  cases h2
/-- a new object, frozen -/
theorem Ext.laid (g : Good K so A H) {p : Addr} {o : HO} (h : H p = none) : Ext K so A H (upd A p o) (upd H p o) := by
  have ap : A p = none := by
    cases e : A p with
    | none => rfl
    | some u =>
      rw [g.sub p u e] at h
      cases h
  refine ⟨⟨fun b u e => ?_, fun s e => ?_⟩, fun b u e => ?_, fun b u n e => ?_, fun b u e => ?_⟩
  · by_cases z : b = p
    · subst z
      rw [upd_same] at e ⊢
      exact e
    · rw [upd_ne z] at e ⊢
      exact g.sub b u e
  · obtain ⟨h1, L, ns, p', a, b, c, d, h2, h3, r⟩ := g.st s e
    have n := g.ne h e
    exact ⟨by rw [upd_ne (Ne.symm n)]; exact h1, L, ns, p', a, b, c, d, by rw [upd_ne (Ne.symm n)]; exact h2, by rw [upd_ne (ne_of_none h3 ap)]; exact h3, r⟩
  · rw [upd_ne (ne_of_none e ap)]
    exact e
  · rw [upd_ne (ne_of_none e h)]
    exact e
  · by_cases z : b = p
    · subst z
      exact .inr h
    · rw [upd_ne z] at e
      exact .inl e
/-- a new object, not frozen -/
theorem Ext.open_ (g : Good K so A H) {p : Addr} {o : HO} (h : H p = none) : Ext K so A H A (upd H p o) := by
  refine ⟨⟨fun b u e => ?_, fun s e => ?_⟩, fun b u e => e, fun b u n e => ?_, fun b u e => .inl e⟩
  · rw [upd_ne (ne_of_none (g.sub b u e) h)]
    exact g.sub b u e
  · obtain ⟨h1, L, ns, p', a, b, c, d, h2, h3, r⟩ := g.st s e
    have n := g.ne h e
    exact ⟨h1, L, ns, p', a, b, c, d, by rw [upd_ne (Ne.symm n)]; exact h2, h3, r⟩
  · rw [upd_ne (ne_of_none e h)]
    exact e
theorem Ext.fresh (x : Ext K so A H A1 H1) {p : Addr} (h : H1 p = none) : H p = none := by
  cases e : H p with
  | none => rfl
  | some u =>
    by_cases n : so = some p
    · exact absurd rfl (x.good.ne h n)
    · rw [x.kept p u n e] at h
      cases h
/-- an own object is changed (it was not there at first, it is not frozen) -/
theorem Ext.mut (x : Ext K so A H A1 H1) {a : Addr} {o : HO} (h : H a = none) (h1 : A1 a = none) (hs : so ≠ some a) : Ext K so A H A1 (upd H1 a o) := by
  refine ⟨⟨fun b u e => ?_, fun s e => ?_⟩, x.mono, fun b u n e => ?_, x.new⟩
  · rw [upd_ne (ne_of_none e h1)]
    exact x.good.sub b u e
  · obtain ⟨h2, L, ns, p', a', b, c, d, h3, h4, r⟩ := x.good.st s e
    have n : s ≠ a := fun z => hs (by rw [e, z])
    exact ⟨h2, L, ns, p', a', b, c, d, by rw [upd_ne n]; exact h3, h4, r⟩
  · rw [upd_ne (ne_of_none e h)]
    exact x.kept b u n e
/-- an own object is frozen -/
theorem Ext.frz (x : Ext K so A H A1 H1) {a : Addr} {o : HO} (h : H a = none) (h1 : A1 a = none) (h2 : H1 a = some o) (hs : so ≠ some a) : Ext K so A H (upd A1 a o) H1 := by
  refine ⟨⟨fun b u e => ?_, fun s e => ?_⟩, fun b u e => ?_, x.kept, fun b u e => ?_⟩
  · by_cases z : b = a
    · subst z
      rw [upd_same] at e
      rw [← e]
      exact h2
    · rw [upd_ne z] at e
      exact x.good.sub b u e
  · obtain ⟨h3, L, ns, p', a', b, c, d, h4, h5, r⟩ := x.good.st s e
    have n : s ≠ a := fun z => hs (by rw [e, z])
    exact ⟨by rw [upd_ne n]; exact h3, L, ns, p', a', b, c, d, h4, by rw [upd_ne (ne_of_none h5 h1)]; exact h5, r⟩
  · rw [upd_ne (ne_of_none (x.mono b u e) h1)]
    exact x.mono b u e
  · by_cases z : b = a
    · subst z
      exact .inr h
    · rw [upd_ne z] at e
      exact x.new b u e
end
/-! ### slots -/
inductive Sl where
  | no | fr (d : D) | ow (l : List D) | od (ks vs : List D)
abbrev DEnv := List Sl
/-- is it owned -/
def Sl.own : Sl → Bool
  | .ow _ => true
  | .od _ _ => true
  | _ => false
def SlOk (K : PySem.W.Frag) (so : Option Addr) (Hi A H : Hp) : Sl → Option V → Prop
  | .no, _ => True
  | .fr d, o => ∃ v, o = some v ∧ Da K so A d v
  | .ow l, o => ∃ a xs, o = some (.ref a) ∧ H a = some (.lst xs) ∧ A a = none ∧ Hi a = none ∧ so ≠ some a ∧ DaL K so A l xs
  | .od ks vs, o => ∃ a us, o = some (.ref a) ∧ DicV H a ks us ∧ A a = none ∧ Hi a = none ∧ so ≠ some a ∧ DaL K so A vs us
structure EnvOk (K : PySem.W.Frag) (so : Option Addr) (Hi A H : Hp) (σ : L2.St) (ρ : DEnv) : Prop where
  len : σ.length = ρ.length
  ok : ∀ (i : Nat) (sl : Sl), ρ[i]? = some sl → ∃ o, σ[i]? = some o ∧ SlOk K so Hi A H sl o
  dj : ∀ (i j : Nat) (sl sl' : Sl) (a : Addr), i ≠ j → ρ[i]? = some sl → ρ[j]? = some sl' → sl.own = true → sl'.own = true → σ[i]? = some (some (.ref a)) → σ[j]? = some (some (.ref a)) → False
section
variable {K : PySem.W.Frag} {so : Option Addr} {Hi A H A1 H1 : Hp} {σ : L2.St} {ρ : DEnv}
theorem DicV.there {a : Addr} {ks : List D} {us : List V} (h : DicV H a ks us) : ∃ o, H a = some o := by
  rcases h with ⟨_, h, _⟩ | ⟨_, h, _⟩ <;> exact ⟨_, h⟩
theorem DicV.ext {a : Addr} {ks : List D} {us : List V} (h : DicV H a ks us) (k : ∀ o : HO, H a = some o → H1 a = some o) : DicV H1 a ks us := by
  rcases h with ⟨kvs, h, e⟩ | ⟨kvs, h, e⟩
  · exact .inl ⟨kvs, k _ h, e⟩
  · exact .inr ⟨kvs, k _ h, e⟩
theorem Ext.unfrozen (x : Ext K so A H A1 H1) {a : Addr} {o : HO} (h : A a = none) (h2 : H a = some o) : A1 a = none := by
  cases e : A1 a with
  | none => rfl
  | some u =>
    rcases x.new a u e with z | z
    · rw [h] at z
      cases z
    · rw [h2] at z
      cases z
theorem SlOk.ext (x : Ext K so A H A1 H1) : ∀ {sl : Sl} {o : Option V}, SlOk K so Hi A H sl o → SlOk K so Hi A1 H1 sl o
  | .no, _, h => h
  | .fr d, _, ⟨v, e, h⟩ => ⟨v, e, x.da h⟩
  | .ow l, _, ⟨a, xs, e, h, na, ni, ns, q⟩ => ⟨a, xs, e, x.kept a _ ns h, x.unfrozen na h, ni, ns, x.daL q⟩
  | .od ks vs, _, ⟨a, us, e, h, na, ni, ns, q⟩ => ⟨a, us, e, h.ext (fun o z => x.kept a o ns z), (let ⟨_, z⟩ := h.there; x.unfrozen na z), ni, ns, x.daL q⟩
theorem EnvOk.ext (x : Ext K so A H A1 H1) (h : EnvOk K so Hi A H σ ρ) : EnvOk K so Hi A1 H1 σ ρ :=
  ⟨h.len, fun i sl e => let ⟨o, e2, q⟩ := h.ok i sl e; ⟨o, e2, q.ext x⟩, h.dj⟩
/-- a slot is set: to a value, to what is told of it -/
theorem EnvOk.set {i : Nat} {sl : Sl} {v : V} (h : EnvOk K so Hi A H σ ρ) (q : SlOk K so Hi A H sl (some v))
    (d : sl.own = true → ∀ (j : Nat) (sl' : Sl) (a : Addr), v = .ref a → i ≠ j → ρ[j]? = some sl' → sl'.own = true → σ[j]? = some (some (.ref a)) → False) : EnvOk K so Hi A H (σ.set i (some v)) (ρ.set i sl) := by
  refine ⟨by rw [List.length_set, List.length_set]; exact h.len, fun j sl' e => ?_, fun j k sl1 sl2 a n e1 e2 o1 o2 s1 s2 => ?_⟩
  · by_cases z : i = j
    · subst z
      by_cases hi : i < ρ.length
      · rw [List.getElem?_set_self hi] at e
        cases e
        exact ⟨_, List.getElem?_set_self (by rw [h.len]; exact hi), q⟩
      · rw [List.getElem?_eq_none (by rw [List.length_set]; omega)] at e
        cases e
    · rw [List.getElem?_set_ne z] at e
      rw [List.getElem?_set_ne z]
      exact h.ok j sl' e
  · by_cases z : i = j
    · subst z
      rw [List.getElem?_set_ne n] at e2 s2
      by_cases hi : i < ρ.length
      · rw [List.getElem?_set_self hi] at e1
        rw [List.getElem?_set_self (by rw [h.len]; exact hi)] at s1
        cases e1
        cases s1
        exact d o1 k sl2 a rfl n e2 o2 s2
      · rw [List.getElem?_eq_none (by rw [List.length_set]; omega)] at e1
        cases e1
    · by_cases z2 : i = k
      · subst z2
        rw [List.getElem?_set_ne (Ne.symm n)] at e1 s1
        by_cases hi : i < ρ.length
        · rw [List.getElem?_set_self hi] at e2
          rw [List.getElem?_set_self (by rw [h.len]; exact hi)] at s2
          cases e2
          cases s2
          exact d o2 j sl1 a rfl (Ne.symm n) e1 o1 s1
        · rw [List.getElem?_eq_none (by rw [List.length_set]; omega)] at e2
          cases e2
      · rw [List.getElem?_set_ne z] at e1 s1
        rw [List.getElem?_set_ne z2] at e2 s2
        exact h.dj j k sl1 sl2 a n e1 e2 o1 o2 s1 s2
theorem EnvOk.setFr {i : Nat} {d : D} {v : V} (h : EnvOk K so Hi A H σ ρ) (q : Da K so A d v) : EnvOk K so Hi A H (σ.set i (some v)) (ρ.set i (.fr d)) :=
  h.set ⟨v, rfl, q⟩ fun z => by cases z
theorem SlOk.there {sl : Sl} {a : Addr} (h : SlOk K so Hi A H sl (some (.ref a))) (o : sl.own = true) : ∃ u, H a = some u := by
  cases sl with
  | no => cases o
  | fr d => cases o
  | ow l =>
    obtain ⟨a', xs, e, h, _⟩ := h
    cases e
    exact ⟨_, h⟩
  | od ks vs =>
    obtain ⟨a', us, e, h, _⟩ := h
    cases e
    exact h.there
/-- a new list is owned by slot i -/
theorem EnvOk.setOw {i : Nat} {p : Addr} {l : List D} {xs : List V} {Ai : Hp} (x : Ext K so Ai Hi A H) (h : EnvOk K so Hi A H σ ρ) (hp : H p = none) (q : DaL K so A l xs) :
    EnvOk K so Hi A (upd H p (.lst xs)) (σ.set i (some (.ref p))) (ρ.set i (.ow l)) := by
  have ap : A p = none := by
    cases e : A p with
    | none => rfl
    | some u =>
      rw [x.good.sub p u e] at hp
      cases hp
  refine EnvOk.set (h.ext (Ext.open_ x.good hp)) ⟨p, xs, rfl, upd_same, ap, x.fresh hp, fun z => x.good.ne hp z rfl, q⟩ fun _ j sl' a e n e2 o2 s2 => ?_
  cases e
  obtain ⟨o, e3, z⟩ := h.ok j sl' e2
  rw [s2] at e3
  cases e3
  obtain ⟨u, z⟩ := z.there o2
  rw [hp] at z
  cases z
/-- the object of an owned slot is changed -/
theorem EnvOk.mutOw {i : Nat} {a : Addr} {sl sl' : Sl} {o : HO} (h : EnvOk K so Hi A H σ ρ) (ho : sl.own = true) (e : ρ[i]? = some sl) (es : σ[i]? = some (some (.ref a))) (q : SlOk K so Hi A (upd H a o) sl' (some (.ref a))) : EnvOk K so Hi A (upd H a o) σ (ρ.set i sl') := by
  have hi : i < ρ.length := (List.getElem?_eq_some_iff.mp e).1
  have oth : ∀ (j : Nat) (sl2 : Sl), i ≠ j → ρ[j]? = some sl2 → ∃ o', σ[j]? = some o' ∧ SlOk K so Hi A (upd H a o) sl2 o' := fun j sl2 n e2 => by
    obtain ⟨o2, e3, z⟩ := h.ok j sl2 e2
    refine ⟨o2, e3, ?_⟩
    cases sl2 with
    | no => exact z
    | fr d => exact z
    | ow l =>
      obtain ⟨a2, xs, ea, ha, r⟩ := z
      have na : a2 ≠ a := fun w => h.dj i j _ _ a n e e2 ho rfl es (by rw [e3, ea, w])
      exact ⟨a2, xs, ea, by rw [upd_ne na]; exact ha, r⟩
    | od ks vs =>
      obtain ⟨a2, xs, ea, ha, r⟩ := z
      have na : a2 ≠ a := fun w => h.dj i j _ _ a n e e2 ho rfl es (by rw [e3, ea, w])
      exact ⟨a2, xs, ea, ha.ext fun o' w => by rw [upd_ne na]; exact w, r⟩
  refine ⟨by rw [List.length_set]; exact h.len, fun j sl2 e2 => ?_, fun j k sl1 sl2 b n e1 e2 o1 o2 s1 s2 => ?_⟩
  · by_cases z : i = j
    · subst z
      rw [List.getElem?_set_self hi] at e2
      cases e2
      exact ⟨_, es, q⟩
    · rw [List.getElem?_set_ne z] at e2
      exact oth j sl2 z e2
  · have look : ∀ (m : Nat) (sl3 : Sl), (ρ.set i sl')[m]? = some sl3 → sl3.own = true → ∃ sl4, ρ[m]? = some sl4 ∧ sl4.own = true := fun m sl3 em om => by
      by_cases z : i = m
      · subst z
        exact ⟨_, e, ho⟩
      · rw [List.getElem?_set_ne z] at em
        exact ⟨_, em, om⟩
    obtain ⟨t1, f1, g1⟩ := look j sl1 e1 o1
    obtain ⟨t2, f2, g2⟩ := look k sl2 e2 o2
    exact h.dj j k t1 t2 b n f1 f2 g1 g2 s1 s2
/-- less is told -/
theorem EnvOk.weak {ρ' : DEnv} (h : EnvOk K so Hi A H σ ρ) (hl : ρ'.length = ρ.length) (w : ∀ (i : Nat) (sl : Sl), ρ'[i]? = some sl → sl = .no ∨ ρ[i]? = some sl) : EnvOk K so Hi A H σ ρ' := by
  refine ⟨h.len.trans hl.symm, fun i sl e => ?_, fun i j sl sl' a n e1 e2 o1 o2 s1 s2 => ?_⟩
  · rcases w i sl e with z | z
    · subst z
      have hi : i < ρ'.length := (List.getElem?_eq_some_iff.mp e).1
      have hs : i < σ.length := by rw [h.len, ← hl]; exact hi
      exact ⟨σ[i], List.getElem?_eq_getElem hs, trivial⟩
    · exact h.ok i sl z
  · rcases w i sl e1 with z | z
    · subst z
      cases o1
    · rcases w j sl' e2 with z2 | z2
      · subst z2
        cases o2
      · exact h.dj i j sl sl' a n z z2 o1 o2 s1 s2
end
end My
namespace My
open PySem PySem.Spec PyProof.Rows L2
/-! ### readings over data -/
structure XD where
  C : Addr
  fs : List Str
  vs : List D
structure Gx where
  so : Option Addr
  Ai : Hp
  Hi : Hp
abbrev DE := DEnv → (D → Prop) → (XD → Prop) → Prop
abbrev DT := DEnv → (Bool → Prop) → (XD → Prop) → Prop
abbrev DL := DEnv → (List D → Prop) → (XD → Prop) → Prop
abbrev EXT := L2.St → XK
structure Stt (K : PySem.W.Frag) (g : Gx) (A H : Hp) (σ : L2.St) (ρ : DEnv) : Prop where
  x : Ext K g.so g.Ai g.Hi A H
  e : EnvOk K g.so g.Hi A H σ ρ
def Cont (K : PySem.W.Frag) (so : Option Addr) (A H : Hp) (Qd : D → Prop) (Q : VK) : Prop := ∀ d v A' H', Ext K so A H A' H' → Da K so A' d v → Qd d → Q v H'
def ContT (K : PySem.W.Frag) (so : Option Addr) (A H : Hp) (Qd : Bool → Prop) (Q : Bool → Hp → Prop) : Prop := ∀ b A' H', Ext K so A H A' H' → Qd b → Q b H'
def ContA (K : PySem.W.Frag) (so : Option Addr) (A H : Hp) (Qd : List D → Prop) (Q : List V → Hp → Prop) : Prop := ∀ ds vs A' H', Ext K so A H A' H' → DaL K so A' ds vs → Qd ds → Q vs H'
def ContN (K : PySem.W.Frag) (so : Option Addr) (A H : Hp) (Qd : List D → Prop) (Q : VK) : Prop := ∀ l xs p A' H', Ext K so A H A' H' → H' p = none → DaL K so A' l xs → Qd l → Q (.ref p) (upd H' p (.lst xs))
def ContX (K : PySem.W.Frag) (so : Option Addr) (A H : Hp) (Ed : XD → Prop) (E : XK) : Prop := ∀ x dx A' H' us, Ext K so A H A' H' → H dx = none → H' dx = some (.xd (x.fs.zip us)) → us.length = x.fs.length → DaL K so A' x.vs us → Ed x → E (.ref x.C) (some dx) H'
def lE (K : PySem.W.Frag) (g : Gx) (EX : EXT) (r : DE) : TE := fun σ H Q => ∃ A ρ Qd Ed, Stt K g A H σ ρ ∧ r ρ Qd Ed ∧ Cont K g.so A H Qd Q ∧ ContX K g.so A H Ed (EX σ)
def lT (K : PySem.W.Frag) (g : Gx) (EX : EXT) (r : DT) : TT := fun σ H Q => ∃ A ρ Qd Ed, Stt K g A H σ ρ ∧ r ρ Qd Ed ∧ ContT K g.so A H Qd Q ∧ ContX K g.so A H Ed (EX σ)
def lA (K : PySem.W.Frag) (g : Gx) (EX : EXT) (r : DL) : TA := fun σ H Q => ∃ A ρ Qd Ed, Stt K g A H σ ρ ∧ r ρ Qd Ed ∧ ContA K g.so A H Qd Q ∧ ContX K g.so A H Ed (EX σ)
def lN (K : PySem.W.Frag) (g : Gx) (EX : EXT) (r : DL) : TE := fun σ H Q => ∃ A ρ Qd Ed, Stt K g A H σ ρ ∧ r ρ Qd Ed ∧ ContN K g.so A H Qd Q ∧ ContX K g.so A H Ed (EX σ)
structure PD (X : Cx) (g : Gx) (EX : EXT) (e : Expr) (r : DE) : Prop where
  pe : PE X e (lE X.K g EX r)
structure PDT (X : Cx) (g : Gx) (EX : EXT) (e : Expr) (r : DT) : Prop where
  pt : PT X e (lT X.K g EX r)
structure PDW (X : Cx) (g : Gx) (EX : EXT) (e : Expr) (r : DT) : Prop where
  pw : PW X e (lT X.K g EX r)
structure PDA (X : Cx) (g : Gx) (EX : EXT) (es : List Expr) (r : DL) : Prop where
  pa : PA X es (lA X.K g EX r)
/-- an expression whose value is a new list -/
structure PDN (X : Cx) (g : Gx) (EX : EXT) (e : Expr) (r : DL) : Prop where
  pe : PE X e (lN X.K g EX r)
theorem _root_.L2.PE.imp {X : Cx} {e : Expr} {t t' : TE} (h : PE X e t) (w : ∀ σ H Q, t' σ H Q → t σ H Q) : PE X e t' := ⟨fun pins s σ H Q I q => h.run pins s σ H Q I (w σ H Q q)⟩
theorem _root_.L2.PT.imp {X : Cx} {e : Expr} {t t' : TT} (h : PT X e t) (w : ∀ σ H Q, t' σ H Q → t σ H Q) : PT X e t' := ⟨fun pins s σ H Q I q => h.run pins s σ H Q I (w σ H Q q)⟩
theorem _root_.L2.PW.imp {X : Cx} {e : Expr} {t t' : TT} (h : PW X e t) (w : ∀ σ H Q, t' σ H Q → t σ H Q) : PW X e t' := ⟨fun wh pins s σ H Q I q => h.run wh pins s σ H Q I (w σ H Q q)⟩
theorem _root_.L2.PA.imp {X : Cx} {es : List Expr} {t t' : TA} (h : PA X es t) (w : ∀ σ H Q, t' σ H Q → t σ H Q) : PA X es t' := ⟨fun pos pins s σ H Q I q => h.run pos pins s σ H Q I (w σ H Q q)⟩
theorem Stt.good {K : PySem.W.Frag} {g : Gx} {A H : Hp} {σ : L2.St} {ρ : DEnv} (S : Stt K g A H σ ρ) : Good K g.so A H := S.x.good
theorem Stt.ext {K : PySem.W.Frag} {g : Gx} {A H A1 H1 : Hp} {σ : L2.St} {ρ : DEnv} (S : Stt K g A H σ ρ) (x : Ext K g.so A H A1 H1) : Stt K g A1 H1 σ ρ := ⟨S.x.trans x, S.e.ext x⟩
section
variable {K : PySem.W.Frag} {so : Option Addr} {A H A1 H1 : Hp}
theorem Cont.ext {Qd : D → Prop} {Q : VK} (c : Cont K so A H Qd Q) (x : Ext K so A H A1 H1) : Cont K so A1 H1 Qd Q := fun d v A' H' y => c d v A' H' (x.trans y)
theorem ContT.ext {Qd : Bool → Prop} {Q : Bool → Hp → Prop} (c : ContT K so A H Qd Q) (x : Ext K so A H A1 H1) : ContT K so A1 H1 Qd Q := fun b A' H' y => c b A' H' (x.trans y)
theorem ContA.ext {Qd : List D → Prop} {Q : List V → Hp → Prop} (c : ContA K so A H Qd Q) (x : Ext K so A H A1 H1) : ContA K so A1 H1 Qd Q := fun d v A' H' y => c d v A' H' (x.trans y)
theorem ContN.ext {Qd : List D → Prop} {Q : VK} (c : ContN K so A H Qd Q) (x : Ext K so A H A1 H1) : ContN K so A1 H1 Qd Q := fun l xs p A' H' y => c l xs p A' H' (x.trans y)
theorem ContX.ext {Ed : XD → Prop} {E : XK} (c : ContX K so A H Ed E) (x : Ext K so A H A1 H1) : ContX K so A1 H1 Ed E := fun z dx A' H' us y n => c z dx A' H' us (x.trans y) (x.fresh n)
/-- an end where nothing has changed -/
theorem Cont.now {Qd : D → Prop} {Q : VK} {d : D} {v : V} (c : Cont K so A H Qd Q) (g : Good K so A H) (h : Da K so A d v) (q : Qd d) : Q v H := c d v A H (Ext.refl g) h q
theorem Cont.nowI {Qd : D → Prop} {Q : VK} {i : Int} (c : Cont K so A H Qd Q) (g : Good K so A H) (q : Qd (.int i)) : Q (.int i) H := c.now (d := .int i) g rfl q
theorem Cont.nowB {Qd : D → Prop} {Q : VK} {i : Bool} (c : Cont K so A H Qd Q) (g : Good K so A H) (q : Qd (.bl i)) : Q (.bl i) H := c.now (d := .bl i) g rfl q
theorem Cont.nowS {Qd : D → Prop} {Q : VK} {i : Str} (c : Cont K so A H Qd Q) (g : Good K so A H) (q : Qd (.str i)) : Q (.str i) H := c.now (d := .str i) g rfl q
theorem Cont.nowN {Qd : D → Prop} {Q : VK} (c : Cont K so A H Qd Q) (g : Good K so A H) (q : Qd .non) : Q .non H := c.now (d := .non) g rfl q
theorem Cont.newL {Qd : D → Prop} {Q : VK} (c : Cont K so A H Qd Q) : ContN K so A H (fun l => Qd (.lst l)) Q := fun l xs p A' H' x hp da q => by
  have y := Ext.laid (o := .lst xs) x.good hp
  exact c (.lst l) (.ref p) _ _ (x.trans y) ⟨p, xs, rfl, upd_same, DaL.mono y.mono _ _ da⟩ q
/-- a new tuple -/
theorem Cont.tup {Qd : D → Prop} {Q : VK} {l : List D} {xs : List V} {p : Addr} (c : Cont K so A H Qd Q) (g : Good K so A H) (hp : H p = none) (da : DaL K so A l xs) (q : Qd (.tup l)) : Q (.ref p) (upd H p (.tup xs)) := by
  have y := Ext.laid (o := .tup xs) g hp
  exact c (.tup l) (.ref p) _ _ y ⟨p, xs, rfl, SqT.of upd_same, DaL.mono y.mono _ _ da⟩ q
end
theorem outT {A B : Prop} (h : if true = true then A else B) : A := by simpa using h
theorem outF {A B : Prop} (h : if false = true then A else B) : B := by simpa using h
/-! ### names, constants -/
def rdS (o : Option Sl) (Q : D → Prop) : Prop := match o with
  | some (.fr d) => Q d
  | _ => False
def dVar (i : Nat) : DE := fun ρ Q _ => rdS ρ[i]? Q
def dC (d : D) : DE := fun _ Q _ => Q d
def dNew (r : DL) : DE := fun ρ Q E => r ρ (fun l => Q (.lst l)) E
section
variable {X : Cx} {g : Gx} {EX : EXT} {e a b : Expr} {es : List Expr} {ra rb : DE} {pos : Pos}
theorem pd_var {i : Nat} (h : PE X e (tVar i)) : PD X g EX e (dVar i) := ⟨h.imp fun σ H Q q => by
  obtain ⟨A, ρ, Qd, Ed, S, q, c, cx⟩ := q
  unfold dVar rdS at q
  split at q
  · rename_i d e
    obtain ⟨o, e2, v, e3, da⟩ := S.e.ok _ _ e
    exact ⟨v, by rw [e2, e3], c.now S.good da q⟩
  · exact q.elim⟩
theorem pd_c {v : V} {d : D} (h : PE X e (tC v)) (hd : ∀ so A, Da X.K so A d v) : PD X g EX e (dC d) := ⟨h.imp fun σ H Q q => by
  obtain ⟨A, ρ, Qd, Ed, S, q, c, cx⟩ := q
  exact c.now S.good (hd _ _) q⟩
theorem pd_int {i j p} : PD X g EX (.Constant (.int i) j p) (dC (.int i)) := pd_c pe_int fun _ _ => rfl
theorem pd_bl {i j p} : PD X g EX (.Constant (.bool i) j p) (dC (.bl i)) := pd_c pe_bl fun _ _ => rfl
theorem pd_non {j p} : PD X g EX (.Constant .none j p) (dC .non) := pd_c pe_non fun _ _ => rfl
theorem pd_str {i j p} : PD X g EX (.Constant (.str i) j p) (dC (.str i)) := pd_c pe_str fun _ _ => rfl
theorem pd_new {r : DL} (h : PDN X g EX e r) : PD X g EX e (dNew r) := ⟨h.pe.imp fun σ H Q q => by
  obtain ⟨A, ρ, Qd, Ed, S, q, c, cx⟩ := q
  exact ⟨A, ρ, _, Ed, S, q, c.newL, cx⟩⟩
/-! ### operators -/
abbrev D2 := D → D → (D → Prop) → Prop
def OpL (K : PySem.W.Frag) (r2 : R2) (rr : D2) : Prop := ∀ so A H x y v u Qd Q, Good K so A H → Da K so A x v → Da K so A y u → rr x y Qd → Cont K so A H Qd Q → r2 v u H Q
def dOp (rr : D2) (ra rb : DE) : DE := fun ρ Q E => ra ρ (fun x => rb ρ (fun y => rr x y Q) E) E
theorem lE_op {r2 : R2} {rr : D2} (hl : OpL X.K r2 rr) {σ : L2.St} {H : Hp} {Q : VK} (h : lE X.K g EX (dOp rr ra rb) σ H Q) : tOp r2 (lE X.K g EX ra) (lE X.K g EX rb) σ H Q := by
  obtain ⟨A, ρ, Qd, Ed, S, h, c, cx⟩ := h
  refine ⟨A, ρ, fun x => rb ρ (fun y => rr x y Qd) Ed, Ed, S, h, fun d v A1 H1 x1 da q => ?_, cx⟩
  refine ⟨A1, ρ, fun y => rr d y Qd, Ed, S.ext x1, q, fun d2 v2 A2 H2 x2 da2 q2 => ?_, cx.ext x1⟩
  exact hl g.so A2 H2 d d2 v v2 Qd Q x2.good (x2.da da) da2 q2 ((c.ext x1).ext x2)
theorem pd_op {op : Operator} {r2 : R2} {rr : D2} (ho : OpR X (binaryOp op) r2) (hl : OpL X.K r2 rr) (ha : PD X g EX a ra) (hb : PD X g EX b rb) : PD X g EX (.BinOp a op b pos) (dOp rr ra rb) :=
  ⟨(pe_op ho ha.pe hb.pe).imp fun σ H Q h => lE_op hl h⟩
theorem pd_cmp {op : CmpOp} {r2 : R2} {rr : D2} (ho : OpR X (compareOp op) r2) (hl : OpL X.K r2 rr) (ha : PD X g EX a ra) (hb : PD X g EX b rb) (hm : behindInMarks op b = false) : PD X g EX (.Compare a [op] [b] pos) (dOp rr ra rb) :=
  ⟨(pe_cmpR ho ha.pe hb.pe hm).imp fun σ H Q h => lE_op hl h⟩
theorem pd_ix {r2 : R2} {rr : D2} (hr : IxR X r2) (hl : OpL X.K r2 rr) (ha : PD X g EX a ra) (hb : PD X g EX b rb) (hs : PlainIx b) : PD X g EX (.Subscript a b pos) (dOp rr ra rb) :=
  ⟨(pe_ix hr ha.pe hb.pe hs).imp fun σ H Q h => lE_op hl h⟩
/-- the value is a bool -/
def onB (d : D) (Q : Bool → Prop) : Prop := match d with
  | .bl k => Q k
  | _ => False
theorem onB.out {K : PySem.W.Frag} {so : Option Addr} {A : Hp} {d : D} {v : V} {Q : Bool → Prop} (h : onB d Q) (da : Da K so A d v) : ∃ k, v = .bl k ∧ Q k := by
  unfold onB at h
  split at h
  · exact ⟨_, da, h⟩
  · exact h.elim
def qB (r : DE) : DT := fun ρ Q E => r ρ (fun d => onB d Q) E
theorem lT_B {r : DE} {t : TE} {σ : L2.St} {H : Hp} {Q : Bool → Hp → Prop} (w : ∀ Q, lE X.K g EX r σ H Q → t σ H Q) (h : lT X.K g EX (qB r) σ H Q) : tTest t σ H Q := by
  obtain ⟨A, ρ, Qd, Ed, S, h, c, cx⟩ := h
  refine w _ ⟨A, ρ, _, Ed, S, h, fun d v A1 H1 x1 da q => ?_, cx⟩
  obtain ⟨k, rfl, q⟩ := q.out da
  exact ⟨k, rfl, c k A1 H1 x1 q⟩
theorem pdt_cmp {op : CmpOp} {r2 : R2} {rr : D2} (ho : OpR X (compareOp op) r2) (hl : OpL X.K r2 rr) (ha : PD X g EX a ra) (hb : PD X g EX b rb) (hm : behindInMarks op b = false) : PDT X g EX (.Compare a [op] [b] pos) (qB (dOp rr ra rb)) :=
  ⟨(pt_cmpR ho ha.pe hb.pe hm).imp fun σ H Q h => lT_B (fun Q h => lE_op hl h) h⟩
def dChain (rr rr' : D2) (ra rb rc : DE) : DE := fun ρ Q E => ra ρ (fun x => rb ρ (fun y => rr x y fun z => onB z fun k => if k = true then rc ρ (fun z => rr' y z Q) E else Q (.bl false)) E) E
theorem lE_chain {c : Expr} {rc : DE} {r2 r2' : R2} {rr rr' : D2} (hl : OpL X.K r2 rr) (hl' : OpL X.K r2' rr') {σ : L2.St} {H : Hp} {Q : VK} (h : lE X.K g EX (dChain rr rr' ra rb rc) σ H Q) : tChain r2 r2' (lE X.K g EX ra) (lE X.K g EX rb) (lE X.K g EX rc) σ H Q := by
  obtain ⟨A, ρ, Qd, Ed, S, h, c, cx⟩ := h
  refine ⟨A, ρ, _, Ed, S, h, fun d v A1 H1 x1 da q => ?_, cx⟩
  refine ⟨A1, ρ, _, Ed, S.ext x1, q, fun d2 v2 A2 H2 x2 da2 q2 => ?_, cx.ext x1⟩
  refine hl g.so A2 H2 d d2 v v2 _ _ x2.good (x2.da da) da2 q2 fun z w A3 H3 x3 da3 q3 => ?_
  obtain ⟨k, rfl, q3⟩ := q3.out da3
  refine ⟨k, rfl, ?_⟩
  cases k with
  | true =>
    refine iteT ⟨A3, ρ, _, Ed, ((S.ext x1).ext x2).ext x3, outT q3, fun d4 v4 A4 H4 x4 da4 q4 => ?_, ((cx.ext x1).ext x2).ext x3⟩
    exact hl' g.so A4 H4 d2 d4 v2 v4 _ _ x4.good (x4.da (x3.da da2)) da4 q4 (((c.ext x1).ext x2).ext x3 |>.ext x4)
  | false =>
    refine iteF ?_
    exact c (.bl false) _ A3 H3 ((x1.trans x2).trans x3) rfl (outF q3)
/-! ### tests -/
def qAnd (t u : DT) : DT := fun ρ Q E => t ρ (fun k => if k = true then u ρ Q E else Q false) E
def qOr (t u : DT) : DT := fun ρ Q E => t ρ (fun k => if k = true then Q true else u ρ Q E) E
def qNot (t : DT) : DT := fun ρ Q E => t ρ (fun k => Q (!k)) E
variable {tA tB' : DT} {rest : List Expr}
theorem PDW.t (h : PDW X g EX e tA) : PDT X g EX e tA := ⟨h.pw.pt⟩
theorem pdw_and1 (ha : PDT X g EX a tA) : PDW X g EX (.BoolOp .And [a] pos) tA := ⟨pw_and1 ha.pt⟩
theorem pdw_or1 (ha : PDT X g EX a tA) : PDW X g EX (.BoolOp .Or [a] pos) tA := ⟨pw_or1 ha.pt⟩
theorem pdw_and (ha : PDT X g EX a tA) (hb : PDW X g EX (.BoolOp .And (b :: rest) pos) tB') : PDW X g EX (.BoolOp .And (a :: b :: rest) pos) (qAnd tA tB') := ⟨(pw_and ha.pt hb.pw).imp fun σ H Q h => by
  obtain ⟨A, ρ, Qd, Ed, S, h, c, cx⟩ := h
  refine ⟨A, ρ, _, Ed, S, h, fun k A1 H1 x1 q => ?_, cx⟩
  cases k with
  | true => exact iteT ⟨A1, ρ, _, Ed, S.ext x1, outT q, c.ext x1, cx.ext x1⟩
  | false => exact iteF (c false A1 H1 x1 (outF q))⟩
theorem pdw_or (ha : PDT X g EX a tA) (hb : PDW X g EX (.BoolOp .Or (b :: rest) pos) tB') : PDW X g EX (.BoolOp .Or (a :: b :: rest) pos) (qOr tA tB') := ⟨(pw_or ha.pt hb.pw).imp fun σ H Q h => by
  obtain ⟨A, ρ, Qd, Ed, S, h, c, cx⟩ := h
  refine ⟨A, ρ, _, Ed, S, h, fun k A1 H1 x1 q => ?_, cx⟩
  cases k with
  | true => exact iteT (c true A1 H1 x1 (outT q))
  | false => exact iteF ⟨A1, ρ, _, Ed, S.ext x1, outF q, c.ext x1, cx.ext x1⟩⟩
theorem pdt_not (ha : PDT X g EX a tA) : PDT X g EX (.UnaryOp .Not a pos) (qNot tA) := ⟨(pt_not ha.pt).imp fun σ H Q h => by
  obtain ⟨A, ρ, Qd, Ed, S, h, c, cx⟩ := h
  exact ⟨A, ρ, _, Ed, S, h, fun k A1 H1 x1 q => c (!k) A1 H1 x1 q, cx⟩⟩
/-- truth -/
def truD (d : D) (Q : Bool → Prop) : Prop := match d with
  | .non => Q false
  | .bl k => Q k
  | .int i => Q (i != 0)
  | .str y => y.length ≤ sizeLine ∧ Q ((y.length : Int) != 0)
  | .tup l => Q (!l.isEmpty)
  | .lst l => Q (!l.isEmpty)
  | _ => False
def qTru (r : DE) : DT := fun ρ Q E => r ρ (fun d => truD d Q) E
theorem empty_len {α β : Type} {xs : List α} {ys : List β} (h : xs.length = ys.length) : xs.isEmpty = ys.isEmpty := by
  cases xs <;> cases ys <;> first | rfl | cases h
theorem truD.out {K : PySem.W.Frag} {so : Option Addr} {A H : Hp} {d : D} {v : V} {Q : Bool → Prop} (gd : Good K so A H) (h : truD d Q) (da : Da K so A d v) : ∃ k, TruV K v H k ∧ Q k := by
  cases d with
  | non => exact ⟨_, by cases da; exact rfl, h⟩
  | bl k => exact ⟨_, by cases da; exact rfl, h⟩
  | int i => exact ⟨_, by cases da; exact rfl, h⟩
  | str y => exact ⟨_, by cases da; exact ⟨h.1, rfl⟩, h.2⟩
  | tup l =>
    obtain ⟨p, xs, e, hs, q⟩ := da
    subst e
    exact ⟨_, .inr (.inl ⟨xs, Sub.sqT gd.sub hs, by rw [empty_len q.len]⟩), h⟩
  | lst l =>
    obtain ⟨p, xs, e, hs, q⟩ := da
    subst e
    exact ⟨_, .inl ⟨xs, SqL.of (gd.sub _ _ hs), by rw [empty_len q.len]⟩, h⟩
  | _ => exact h.elim
theorem pdt_tru (ha : PD X g EX a ra) (he : ∀ whole, isTrue a X.env whole = (do let v ← whole; standAt a.pos; holding [v] (truthy v)) := by intro _; rfl) : PDT X g EX a (qTru ra) := ⟨(pt_truth ha.pe he).imp fun σ H Q h => by
  obtain ⟨A, ρ, Qd, Ed, S, h, c, cx⟩ := h
  refine ⟨A, ρ, _, Ed, S, h, fun d v A1 H1 x1 da q => ?_, cx⟩
  obtain ⟨k, t, q⟩ := q.out x1.good da
  exact ⟨k, t, c k A1 H1 x1 q⟩⟩
def dIf (c : DT) (ra rb : DE) : DE := fun ρ Q E => c ρ (fun k => if k = true then ra ρ Q E else rb ρ Q E) E
theorem pd_if {c : Expr} (hc : PDT X g EX c tA) (ha : PD X g EX a ra) (hb : PD X g EX b rb) : PD X g EX (.IfExp c a b pos) (dIf tA ra rb) := ⟨(pe_ifExp hc.pt ha.pe hb.pe).imp fun σ H Q h => by
  obtain ⟨A, ρ, Qd, Ed, S, h, c, cx⟩ := h
  refine ⟨A, ρ, _, Ed, S, h, fun k A1 H1 x1 q => ?_, cx⟩
  cases k with
  | true => exact iteT ⟨A1, ρ, _, Ed, S.ext x1, outT q, c.ext x1, cx.ext x1⟩
  | false => exact iteF ⟨A1, ρ, _, Ed, S.ext x1, outF q, c.ext x1, cx.ext x1⟩⟩
/-- and, or, not as values of bools -/
def dAnd (ra rb : DE) : DE := fun ρ Q E => ra ρ (fun x => onB x fun k => if k = true then rb ρ Q E else Q (.bl false)) E
def dOr (ra rb : DE) : DE := fun ρ Q E => ra ρ (fun x => onB x fun k => if k = true then Q (.bl true) else rb ρ Q E) E
def dNot (ra : DE) : DE := fun ρ Q E => ra ρ (fun x => onB x fun k => Q (.bl (!k))) E
theorem pd_one {op} (h : PD X g EX a ra) : PD X g EX (.BoolOp op [a] pos) ra := ⟨pe_one h.pe⟩
theorem pd_and (ha : PD X g EX a ra) (hb : PD X g EX (.BoolOp .And (b :: rest) pos) rb) : PD X g EX (.BoolOp .And (a :: b :: rest) pos) (dAnd ra rb) := ⟨(pe_and ha.pe hb.pe).imp fun σ H Q h => by
  obtain ⟨A, ρ, Qd, Ed, S, h, c, cx⟩ := h
  refine ⟨A, ρ, _, Ed, S, h, fun d v A1 H1 x1 da q => ?_, cx⟩
  obtain ⟨k, rfl, q⟩ := q.out da
  refine ⟨k, rfl, ?_⟩
  cases k with
  | true => exact iteT ⟨A1, ρ, _, Ed, S.ext x1, outT q, c.ext x1, cx.ext x1⟩
  | false => exact iteF (c (.bl false) _ A1 H1 x1 rfl (outF q))⟩
theorem pd_or (ha : PD X g EX a ra) (hb : PD X g EX (.BoolOp .Or (b :: rest) pos) rb) : PD X g EX (.BoolOp .Or (a :: b :: rest) pos) (dOr ra rb) := ⟨(pe_or ha.pe hb.pe).imp fun σ H Q h => by
  obtain ⟨A, ρ, Qd, Ed, S, h, c, cx⟩ := h
  refine ⟨A, ρ, _, Ed, S, h, fun d v A1 H1 x1 da q => ?_, cx⟩
  obtain ⟨k, rfl, q⟩ := q.out da
  refine ⟨k, rfl, ?_⟩
  cases k with
  | true => exact iteT (c (.bl true) _ A1 H1 x1 rfl (outT q))
  | false => exact iteF ⟨A1, ρ, _, Ed, S.ext x1, outF q, c.ext x1, cx.ext x1⟩⟩
theorem pd_not (ha : PD X g EX a ra) : PD X g EX (.UnaryOp .Not a pos) (dNot ra) := ⟨(pe_not ha.pe).imp fun σ H Q h => by
  obtain ⟨A, ρ, Qd, Ed, S, h, c, cx⟩ := h
  refine ⟨A, ρ, _, Ed, S, h, fun d v A1 H1 x1 da q => ?_, cx⟩
  obtain ⟨k, rfl, q⟩ := q.out da
  exact ⟨k, rfl, c (.bl (!k)) _ A1 H1 x1 rfl q⟩⟩
def dUn (f : D → (D → Prop) → Prop) (ra : DE) : DE := fun ρ Q E => ra ρ (fun x => f x Q) E
def ddNeg (d : D) (Q : D → Prop) : Prop := match d with
  | .int i => Q (.int (-i))
  | _ => False
theorem pd_neg (ha : PD X g EX a ra) : PD X g EX (.UnaryOp .USub a pos) (dUn ddNeg ra) := ⟨(pe_un un_neg ha.pe).imp fun σ H Q h => by
  obtain ⟨A, ρ, Qd, Ed, S, h, c, cx⟩ := h
  refine ⟨A, ρ, _, Ed, S, h, fun d v A1 H1 x1 da q => ?_, cx⟩
  have q : ddNeg d Qd := q
  unfold ddNeg at q
  split at q
  · exact ⟨_, da, c (.int _) _ A1 H1 x1 rfl q⟩
  · exact q.elim⟩
/-! ### lists of arguments, displays -/
def lNil : DL := fun _ Q _ => Q []
def lCons (r : DE) (t : DL) : DL := fun ρ Q E => r ρ (fun d => t ρ (fun l => Q (d :: l)) E) E
variable {r : DE} {t : DL}
theorem pda_nil : PDA X g EX [] lNil := ⟨pa_nil.imp fun σ H Q h => by
  obtain ⟨A, ρ, Qd, Ed, S, h, c, cx⟩ := h
  exact c [] [] A H (Ext.refl S.good) rfl h⟩
theorem pda_cons (ha : PD X g EX e r) (hr : PDA X g EX es t) (hs : starEach (e :: es) X.env = (false, eval e X.env) :: starEach es X.env := by rfl) : PDA X g EX (e :: es) (lCons r t) := ⟨(pa_cons ha.pe hr.pa hs).imp fun σ H Q h => by
  obtain ⟨A, ρ, Qd, Ed, S, h, c, cx⟩ := h
  refine ⟨A, ρ, _, Ed, S, h, fun d v A1 H1 x1 da q => ?_, cx⟩
  refine ⟨A1, ρ, _, Ed, S.ext x1, q, fun ds vs A2 H2 x2 das q2 => ?_, cx.ext x1⟩
  exact c (d :: ds) (v :: vs) A2 H2 (x1.trans x2) ⟨v, vs, rfl, x2.da da, das⟩ q2⟩
def dTup (t : DL) : DE := fun ρ Q E => t ρ (fun l => l.length ≤ sizeLine ∧ Q (.tup l)) E
def nLst (t : DL) : DL := fun ρ Q E => t ρ (fun l => l.length ≤ sizeLine ∧ Q l) E
theorem pd_tup {x1} (h : PDA X g EX es t) : PD X g EX (.Tuple es x1 pos) (dTup t) := ⟨(pe_tup h.pa).imp fun σ H Q h => by
  obtain ⟨A, ρ, Qd, Ed, S, h, c, cx⟩ := h
  refine ⟨A, ρ, _, Ed, S, h, fun ds vs A1 H1 x1 das q => ?_, cx⟩
  exact ⟨by rw [das.len]; exact q.1, fun p hp => (c.ext x1).tup x1.good hp das q.2⟩⟩
theorem pdn_lst (h : PDA X g EX es t) : PDN X g EX (.List es pos) (nLst t) := ⟨(pe_lst h.pa).imp fun σ H Q h => by
  obtain ⟨A, ρ, Qd, Ed, S, h, c, cx⟩ := h
  refine ⟨A, ρ, _, Ed, S, h, fun ds vs A1 H1 x1 das q => ?_, cx⟩
  exact ⟨by rw [das.len]; exact q.1, fun p hp => c ds vs p A1 H1 x1 hp das q.2⟩⟩
end
end My
namespace My
open PySem PySem.Spec PyProof.Rows L2
/-! ### operators over data -/
def CDivZ (_ j : Int) : Prop := j ≠ 0 ∧ j.natAbs.log2 < 9000
theorem op_fdivZ {X : Cx} : OpR X (binaryOp .FloorDiv) (rI CDivZ fun i j => .int (i.fdiv j)) := opI fun _ _ _ _ _ _ _ hc q => floordiv_int hc.1 q (.inl (PyProof.noPylong_of_log2 hc.2))
def ddI (C : Int → Int → Prop) (f : Int → Int → D) : D2 := fun x y Q => match x, y with
  | .int i, .int j => C i j ∧ Q (f i j)
  | _, _ => False
theorem ol_I {K : PySem.W.Frag} {C : Int → Int → Prop} {f : Int → Int → D} {h : Int → Int → V} (hf : ∀ i j so A, Da K so A (f i j) (h i j)) : OpL K (rI C h) (ddI C f) := by
  intro so A H x y v u Qd Q gd dx dy q c
  unfold ddI at q
  split at q
  · exact ⟨_, _, dx, dy, q.1, c.now gd (hf _ _ _ _) q.2⟩
  · exact q.elim
def ddI0 (f : Int → Int → D) : D2 := fun x y Q => match x, y with
  | .int i, .int j => Q (f i j)
  | _, _ => False
theorem ol_I0 {K : PySem.W.Frag} {f : Int → Int → D} {h : Int → Int → V} (hf : ∀ i j so A, Da K so A (f i j) (h i j)) : OpL K (rI0 h) (ddI0 f) := by
  intro so A H x y v u Qd Q gd dx dy q c
  unfold ddI0 at q
  split at q
  · exact ⟨_, _, dx, dy, c.now gd (hf _ _ _ _) q⟩
  · exact q.elim
/-- x + y -/
def ddAdd : D2 := fun x y Q => match x, y with
  | .int i, .int j => Q (.int (i + j))
  | .str i, .str j => i.length + j.length ≤ sizeLine ∧ Q (.str (i ++ j))
  | .tup l, .tup m => l ≠ [] ∧ l.length + m.length ≤ sizeLine ∧ Q (.tup (l ++ m))
  | .lst l, .lst m => l.length + m.length ≤ sizeLine ∧ Q (.lst (l ++ m))
  | _, _ => False
def rAdd4 (K : PySem.W.Frag) : R2 := fun x y H Q => rI0 (fun i j => .int (i + j)) x y H Q ∨ rAddS x y H Q ∨ rCatT K x y H Q ∨ rCat x y H Q
theorem oo_add {X : Cx} : OpR X (binaryOp .Add) (rAdd4 X.K) := op_add.or (o_addS.or (op_catT.or op_cat))
theorem ol_add {K : PySem.W.Frag} : OpL K (rAdd4 K) ddAdd := by
  intro so A H x y v u Qd Q gd dx dy q c
  unfold ddAdd at q
  split at q
  · exact .inl ⟨_, _, dx, dy, c.nowI gd q⟩
  · exact .inr (.inl ⟨_, _, dx, dy, q.1, c.nowS gd q.2⟩)
  · obtain ⟨a, xs, rfl, hs, qa⟩ := dx
    obtain ⟨b, ys, rfl, ht, qb⟩ := dy
    refine .inr (.inr (.inl ⟨a, b, xs, ys, rfl, rfl, Sub.sqT gd.sub hs, Sub.sqT gd.sub ht, fun e => q.1 ?_, by rw [qa.len, qb.len]; exact q.2.1, fun e => ?_, fun e p hp => c.tup gd hp (qa.app qb) q.2.2⟩))
    · have z := qa.len
      rw [e] at z
      exact List.eq_nil_of_length_eq_zero z.symm
    · have z := qb.len
      rw [e] at z
      have z := List.eq_nil_of_length_eq_zero z.symm
      subst z
      have q := q.2.2
      rw [List.append_nil] at q
      exact c.now (d := .tup _) gd ⟨a, xs, rfl, hs, qa⟩ q
  · obtain ⟨a, xs, rfl, hs, qa⟩ := dx
    obtain ⟨b, ys, rfl, ht, qb⟩ := dy
    exact .inr (.inr (.inr ⟨a, b, xs, ys, rfl, rfl, gd.sub _ _ hs, gd.sub _ _ ht, by rw [qa.len, qb.len]; exact q.1, fun p hp => c.newL _ _ p A H (Ext.refl gd) hp (qa.app qb) q.2⟩))
  · exact q.elim
theorem ol_sub {K : PySem.W.Frag} : OpL K (rI0 fun i j => .int (i - j)) (ddI0 fun i j => .int (i - j)) := ol_I0 fun _ _ _ _ => rfl
theorem ol_mul {K : PySem.W.Frag} : OpL K (rI CMulW fun i j => .int (i * j)) (ddI CMulW fun i j => .int (i * j)) := ol_I fun _ _ _ _ => rfl
theorem ol_fdiv {K : PySem.W.Frag} : OpL K (rI CDivZ fun i j => .int (i.fdiv j)) (ddI CDivZ fun i j => .int (i.fdiv j)) := ol_I fun _ _ _ _ => rfl
theorem ol_mod {K : PySem.W.Frag} : OpL K (rI (fun _ j => j ≠ 0) fun i j => .int (i.fmod j)) (ddI (fun _ j => j ≠ 0) fun i j => .int (i.fmod j)) := ol_I fun _ _ _ _ => rfl
theorem ol_pow {K : PySem.W.Frag} : OpL K (rI CPow fun i j => .int (i ^ j.toNat)) (ddI CPow fun i j => .int (i ^ j.toNat)) := ol_I fun _ _ _ _ => rfl
theorem ol_lt {K : PySem.W.Frag} : OpL K (rI0 fun i j => .bl (decide (i < j))) (ddI0 fun i j => .bl (decide (i < j))) := ol_I0 fun _ _ _ _ => rfl
theorem ol_le {K : PySem.W.Frag} : OpL K (rI0 fun i j => .bl (decide (i ≤ j))) (ddI0 fun i j => .bl (decide (i ≤ j))) := ol_I0 fun _ _ _ _ => rfl
theorem ol_gt {K : PySem.W.Frag} : OpL K (rI0 fun i j => .bl (decide (j < i))) (ddI0 fun i j => .bl (decide (j < i))) := ol_I0 fun _ _ _ _ => rfl
theorem ol_ge {K : PySem.W.Frag} : OpL K (rI0 fun i j => .bl (decide (j ≤ i))) (ddI0 fun i j => .bl (decide (j ≤ i))) := ol_I0 fun _ _ _ _ => rfl
/-- is None, is True: y is the constant -/
def isNonD : D → Bool
  | .non => true
  | _ => false
def isBlD (b : Bool) : D → Bool
  | .bl c => c == b
  | _ => false
theorem Da.isN {K : PySem.W.Frag} {so : Option Addr} {A : Hp} {d : D} {v : V} (h : Da K so A d v) : decide (v = .non) = isNonD d := by
  cases d with
  | non => cases h; rfl
  | bl _ => cases h; rfl
  | int _ => cases h; rfl
  | str _ => cases h; rfl
  | tup _ => obtain ⟨_, _, rfl, _⟩ := h; rfl
  | lst _ => obtain ⟨_, _, rfl, _⟩ := h; rfl
  | dct _ _ => obtain ⟨_, _, rfl, _⟩ := h; rfl
  | ins _ _ _ => obtain ⟨_, _, _, rfl, _⟩ := h; rfl
  | scr _ => obtain ⟨_, rfl, _⟩ := h; rfl
  | sto => obtain ⟨_, rfl, _⟩ := h; rfl
  | exc _ => cases h; rfl
  | err _ _ _ => obtain ⟨_, _, rfl, _⟩ := h; rfl
theorem Da.isB {K : PySem.W.Frag} {so : Option Addr} {A : Hp} {d : D} {v : V} {b : Bool} (h : Da K so A d v) : decide (v = .bl b) = isBlD b d := by
  cases d with
  | bl c =>
    cases h
    show decide (V.bl c = V.bl b) = (c == b)
    exact dec_bl
  | non => cases h; rfl
  | int _ => cases h; rfl
  | str _ => cases h; rfl
  | tup _ => obtain ⟨_, _, rfl, _⟩ := h; rfl
  | lst _ => obtain ⟨_, _, rfl, _⟩ := h; rfl
  | dct _ _ => obtain ⟨_, _, rfl, _⟩ := h; rfl
  | ins _ _ _ => obtain ⟨_, _, _, rfl, _⟩ := h; rfl
  | scr _ => obtain ⟨_, rfl, _⟩ := h; rfl
  | sto => obtain ⟨_, rfl, _⟩ := h; rfl
  | exc _ => cases h; rfl
  | err _ _ _ => obtain ⟨_, _, rfl, _⟩ := h; rfl
def ddIsN (neg : Bool) : D2 := fun x y Q => match y with
  | .non => Q (.bl (neg != isNonD x))
  | _ => False
theorem ol_isN {K : PySem.W.Frag} : OpL K rIsN (ddIsN false) := by
  intro so A H x y v u Qd Q gd dx dy q c
  unfold ddIsN at q
  split at q
  · refine ⟨dy, ?_⟩
    rw [dx.isN]
    exact c.nowB gd (by simpa using q)
  · exact q.elim
theorem ol_notN {K : PySem.W.Frag} : OpL K rNotN (ddIsN true) := by
  intro so A H x y v u Qd Q gd dx dy q c
  unfold ddIsN at q
  split at q
  · refine ⟨dy, ?_⟩
    rw [dx.isN]
    exact c.nowB gd (by simpa using q)
  · exact q.elim
def ddIsB : D2 := fun x y Q => match y with
  | .bl b => Q (.bl (isBlD b x))
  | _ => False
theorem ol_isB {K : PySem.W.Frag} : OpL K rIsBQ ddIsB := by
  intro so A H x y v u Qd Q gd dx dy q c
  unfold ddIsB at q
  split at q
  · refine ⟨_, dy, ?_⟩
    rw [dx.isB]
    exact c.nowB gd q
  · exact q.elim
/-! ### == -/
mutual
def pyD : D → Option PyData
  | .non => some .none
  | .bl b => some (.bool b)
  | .int i => some (.int i)
  | .str x => some (.str x)
  | .tup l => (pyL l).map .tuple
  | .lst l => (pyL l).map .list
  | _ => none
def pyL : List D → Option (List PyData)
  | [] => some []
  | d :: l => (pyD d).bind fun x => (pyL l).map fun r => x :: r
end
mutual
theorem Da.py {K : PySem.W.Frag} {so : Option Addr} {A : Hp} : ∀ (d : D) (v : V) (z : PyData), Da K so A d v → pyD d = some z → Dp K A v z
  | .non, _, _, h, e => by cases h; cases e; exact .non
  | .bl b, _, _, h, e => by cases h; cases e; exact .bl _
  | .int b, _, _, h, e => by cases h; cases e; exact .int _
  | .str b, _, _, h, e => by cases h; cases e; exact .str _
  | .tup l, _, _, ⟨a, xs, e1, hs, q⟩, e => by
    subst e1
    unfold pyD at e
    cases h : pyL l with
    | none =>
      rw [h] at e
      cases e
    | some r =>
      rw [h] at e
      cases e
      exact .tup hs (DaL.py l xs r q h)
  | .lst l, _, _, ⟨a, xs, e1, hs, q⟩, e => by
    subst e1
    unfold pyD at e
    cases h : pyL l with
    | none =>
      rw [h] at e
      cases e
    | some r =>
      rw [h] at e
      cases e
      exact .lst (SqL.of hs) (DaL.py l xs r q h)
  | .dct _ _, _, _, _, e => by cases e
  | .ins _ _ _, _, _, _, e => by cases e
  | .scr _, _, _, _, e => by cases e
  | .sto, _, _, _, e => by cases e
  | .exc _, _, _, _, e => by cases e
  | .err _ _ _, _, _, _, e => by cases e
theorem DaL.py {K : PySem.W.Frag} {so : Option Addr} {A : Hp} : ∀ (l : List D) (vs : List V) (zs : List PyData), DaL K so A l vs → pyL l = some zs → DpAll K A vs zs
  | [], _, _, h, e => by
    have h : _ = _ := h
    subst h
    cases e
    exact .nil
  | d :: l, _, _, ⟨x, r, e1, h, q⟩, e => by
    subst e1
    unfold pyL at e
    cases h1 : pyD d with
    | none =>
      rw [h1] at e
      cases e
    | some z =>
      rw [h1] at e
      cases h2 : pyL l with
      | none =>
        rw [h2] at e
        cases e
      | some zs =>
        rw [h2] at e
        cases e
        exact .cons (Da.py d x z h h1) (DaL.py l r zs q h2)
end
def ddEqP (neg : Bool) : D2 := fun x y Q => ∃ a b, pyD x = some a ∧ pyD y = some b ∧ SeqAt.shaped a = true ∧ SeqAt.shaped b = true ∧ Q (.bl (neg != PyData.eqv a b))
def ddEq (neg : Bool) : D2 := fun x y Q => match x, y with
  | .int i, .int j => Q (.bl (neg != decide (i = j)))
  | .str i, .str j => Q (.bl (neg != decide (i = j)))
  | .bl i, .bl j => Q (.bl (neg != decide (i = j)))
  | .non, .non => Q (.bl (!neg))
  | x, y => ddEqP neg x y Q
def rEq2 (K : PySem.W.Frag) : R2 := fun x y H Q => rEq x y H Q ∨ rEqD K x y H Q
def rNe2 (K : PySem.W.Frag) : R2 := fun x y H Q => rNe x y H Q ∨ rNeD K x y H Q
theorem oo_eq {X : Cx} (hu : X.A.units + 64 < cLine) : OpR X (compareOp .Eq) (rEq2 X.K) := op_eq.or (op_eqD hu)
theorem oo_ne {X : Cx} (hu : X.A.units + 64 < cLine) : OpR X (compareOp .NotEq) (rNe2 X.K) := op_ne.or (op_neD hu)
theorem ol_eq {K : PySem.W.Frag} : OpL K (rEq2 K) (ddEq false) := by
  intro so A H x y v u Qd Q gd dx dy q c
  unfold ddEq at q
  split at q
  · have dx : v = _ := dx
    have dy : u = _ := dy
    subst dx dy
    refine .inl ⟨rfl, c.nowB gd ?_⟩
    rw [L2.dec_int, Bool.beq_eq_decide_eq]
    simpa using q
  · have dx : v = _ := dx
    have dy : u = _ := dy
    subst dx dy
    refine .inl ⟨rfl, c.nowB gd ?_⟩
    rw [dec_str, Bool.beq_eq_decide_eq]
    simpa using q
  · have dx : v = _ := dx
    have dy : u = _ := dy
    subst dx dy
    refine .inl ⟨rfl, c.nowB gd ?_⟩
    rw [dec_bl, Bool.beq_eq_decide_eq]
    simpa using q
  · have dx : v = _ := dx
    have dy : u = _ := dy
    subst dx dy
    exact .inl ⟨rfl, c.nowB gd q⟩
  · obtain ⟨a, b, h1, h2, s1, s2, q⟩ := q
    exact .inr ⟨a, b, (gd.da dx).py _ _ _ h1, (gd.da dy).py _ _ _ h2, s1, s2, c.nowB gd (by simpa using q)⟩
theorem ol_ne {K : PySem.W.Frag} : OpL K (rNe2 K) (ddEq true) := by
  intro so A H x y v u Qd Q gd dx dy q c
  unfold ddEq at q
  split at q
  · have dx : v = _ := dx
    have dy : u = _ := dy
    subst dx dy
    refine .inl ⟨rfl, c.nowB gd ?_⟩
    rw [L2.dec_int, Bool.beq_eq_decide_eq]
    simpa using q
  · have dx : v = _ := dx
    have dy : u = _ := dy
    subst dx dy
    refine .inl ⟨rfl, c.nowB gd ?_⟩
    rw [dec_str, Bool.beq_eq_decide_eq]
    simpa using q
  · have dx : v = _ := dx
    have dy : u = _ := dy
    subst dx dy
    refine .inl ⟨rfl, c.nowB gd ?_⟩
    rw [dec_bl, Bool.beq_eq_decide_eq]
    simpa using q
  · have dx : v = _ := dx
    have dy : u = _ := dy
    subst dx dy
    exact .inl ⟨rfl, c.nowB gd q⟩
  · obtain ⟨a, b, h1, h2, s1, s2, q⟩ := q
    exact .inr ⟨a, b, (gd.da dx).py _ _ _ h1, (gd.da dy).py _ _ _ h2, s1, s2, c.nowB gd (by simpa using q)⟩
/-! ### items -/
def ddIx : D2 := fun x y Q => match x, y with
  | .tup l, .int i => ∃ d, atI l i = some d ∧ Q d
  | .lst l, .int i => ∃ d, atI l i = some d ∧ Q d
  | .str z, .int i => z.length ≤ sizeLine ∧ ∃ c, atI z.cps.toList i = some c ∧ Q (.str ⟨#[c]⟩)
  | _, _ => False
theorem ol_ix {K : PySem.W.Frag} : OpL K (rIx K) ddIx := by
  intro so A H x y v u Qd Q gd dx dy q c
  unfold ddIx at q
  split at q
  · obtain ⟨a, xs, rfl, hs, qa⟩ := dx
    obtain ⟨d, e, q⟩ := q
    obtain ⟨w, e2, dw⟩ := qa.atI e
    exact .inr (.inl ⟨a, xs, _, w, rfl, dy, Sub.sqT gd.sub hs, e2, c.now gd dw q⟩)
  · obtain ⟨a, xs, rfl, hs, qa⟩ := dx
    obtain ⟨d, e, q⟩ := q
    obtain ⟨w, e2, dw⟩ := qa.atI e
    exact .inl ⟨a, xs, _, w, rfl, dy, SqL.of (gd.sub _ _ hs), e2, c.now gd dw q⟩
  · obtain ⟨hz, cc, e, q⟩ := q
    exact .inr (.inr ⟨_, _, cc, dx, dy, hz, e, c.nowS gd q⟩)
  · exact q.elim
/-! ### calls of built-ins -/
abbrev DCall := List D → (D → Prop) → Prop
def CallL (K : PySem.W.Frag) (r : List V → Hp → VK → Prop) (rr : DCall) : Prop := ∀ so A H ds vs Qd Q, Good K so A H → DaL K so A ds vs → rr ds Qd → Cont K so A H Qd Q → r vs H Q
def dCB (rr : DCall) (t : DL) : DE := fun ρ Q E => t ρ (fun ds => rr ds Q) E
section
variable {X : Cx} {g : Gx} {EX : EXT} {e a b : Expr} {es : List Expr} {ra rb : DE} {pos p : Pos} {t : DL} {id T : String} {x : Str}
theorem pd_callB {r : List V → Hp → VK → Prop} {rr : DCall} (hc : CallR X (.builtin id) r) (hl : CallL X.K r rr) (hg : Gl X x) (hm : X.mg x = none) (hv : bootBuiltins x = some (.builtin id)) (ha : PDA X g EX (e :: es) t) (hn : x ≠ "__name__" := by decide) (hdb : (x == ("__debug__" : Str)) = false := by decide)
    (he : starEach (e :: es) X.env = (false, eval e X.env) :: starEach es X.env := by rfl) (hpl : (backTo pos (starEach es X.env)).any (·.1) = false := by rfl) : PD X g EX (.Call (.Name x p) (e :: es) [] pos) (dCB rr t) :=
  ⟨(pe_callB hc hg hm hv ha.pa hn hdb he hpl).imp fun σ H Q h => by
  obtain ⟨A, ρ, Qd, Ed, S, h, c, cx⟩ := h
  refine ⟨A, ρ, _, Ed, S, h, fun ds vs A1 H1 x1 das q => ?_, cx⟩
  exact hl g.so A1 H1 ds vs Qd Q x1.good das q (c.ext x1)⟩
theorem pd_callTy {r : List V → Hp → VK → Prop} {rr : DCall} (hc : CallR X (.type T) r) (hl : CallL X.K r rr) (hg : Gl X x) (hm : X.mg x = none) (hv : bootBuiltins x = some (.type T)) (ha : PDA X g EX (e :: es) t) (hn : x ≠ "__name__" := by decide) (hdb : (x == ("__debug__" : Str)) = false := by decide)
    (he : starEach (e :: es) X.env = (false, eval e X.env) :: starEach es X.env := by rfl) (hpl : (backTo pos (starEach es X.env)).any (·.1) = false := by rfl) : PD X g EX (.Call (.Name x p) (e :: es) [] pos) (dCB rr t) :=
  ⟨(pe_callTy hc hg hm hv ha.pa hn hdb he hpl).imp fun σ H Q h => by
  obtain ⟨A, ρ, Qd, Ed, S, h, c, cx⟩ := h
  refine ⟨A, ρ, _, Ed, S, h, fun ds vs A1 H1 x1 das q => ?_, cx⟩
  exact hl g.so A1 H1 ds vs Qd Q x1.good das q (c.ext x1)⟩
end
/-- len -/
def ddLen : DCall := fun ds Q => match ds with
  | [.tup l] => Q (.int l.length)
  | [.lst l] => Q (.int l.length)
  | [.str z] => z.length ≤ sizeLine ∧ Q (.int z.length)
  | _ => False
theorem DaL.one' {K : PySem.W.Frag} {so : Option Addr} {A : Hp} {d : D} {vs : List V} (h : DaL K so A [d] vs) : ∃ v, vs = [v] ∧ Da K so A d v := by
  obtain ⟨v, r, e, dv, e2⟩ := h
  have e2 : r = [] := e2
  subst e2
  exact ⟨v, e, dv⟩
theorem DaL.two' {K : PySem.W.Frag} {so : Option Addr} {A : Hp} {d d2 : D} {vs : List V} (h : DaL K so A [d, d2] vs) : ∃ v w, vs = [v, w] ∧ Da K so A d v ∧ Da K so A d2 w := by
  obtain ⟨v, r, e, dv, h2⟩ := h
  obtain ⟨w, rfl, dw⟩ := DaL.one' h2
  exact ⟨v, w, e, dv, dw⟩
def rLen2 (K : PySem.W.Frag) : List V → Hp → VK → Prop := fun xs H Q => rLenQ K xs H Q ∨ rLenSQ xs H Q
theorem oo_len {X : Cx} : CallR X (.builtin "len") (rLen2 X.K) := c_len.or c_lenS
theorem cl_len {K : PySem.W.Frag} : CallL K (rLen2 K) ddLen := by
  intro so A H ds vs Qd Q gd da q c
  unfold ddLen at q
  split at q
  · obtain ⟨v, rfl, a, xs, rfl, hs, qa⟩ := da.one'
    exact .inl ⟨a, xs, rfl, .inr (Sub.sqT gd.sub hs), by rw [qa.len]; exact c.nowI gd q⟩
  · obtain ⟨v, rfl, a, xs, rfl, hs, qa⟩ := da.one'
    exact .inl ⟨a, xs, rfl, .inl (SqL.of (gd.sub _ _ hs)), by rw [qa.len]; exact c.nowI gd q⟩
  · obtain ⟨v, rfl, dv⟩ := da.one'
    have dv : v = _ := dv
    subst dv
    exact .inr ⟨_, rfl, q.1, c.nowI gd q.2⟩
  · exact q.elim
/-- int, abs, max, min of ints -/
def ddInt1 : DCall := fun ds Q => match ds with
  | [.int i] => Q (.int i)
  | [.bl k] => Q (.int (if k = true then 1 else 0))
  | _ => False
theorem cl_int1 {K : PySem.W.Frag} : CallL K rInt1 ddInt1 := by
  intro so A H ds vs Qd Q gd da q c
  unfold ddInt1 at q
  split at q
  · obtain ⟨v, rfl, dv⟩ := da.one'
    have dv : v = _ := dv
    subst dv
    exact .inl ⟨_, rfl, c.nowI gd q⟩
  · obtain ⟨v, rfl, dv⟩ := da.one'
    have dv : v = _ := dv
    subst dv
    exact .inr ⟨_, rfl, c.nowI gd q⟩
  · exact q.elim
def ddAbs : DCall := fun ds Q => match ds with
  | [.int i] => Q (.int (if i < 0 then -i else i))
  | _ => False
theorem cl_abs {K : PySem.W.Frag} : CallL K rAbsQ ddAbs := by
  intro so A H ds vs Qd Q gd da q c
  unfold ddAbs at q
  split at q
  · obtain ⟨v, rfl, dv⟩ := da.one'
    have dv : v = _ := dv
    subst dv
    exact ⟨_, rfl, c.nowI gd q⟩
  · exact q.elim
def ddMM (f : Int → Int → Int) : DCall := fun ds Q => match ds with
  | [.int i, .int j] => Q (.int (f i j))
  | _ => False
theorem cl_max2 {K : PySem.W.Frag} : CallL K rMaxQ (ddMM fun i j => if j > i then j else i) := by
  intro so A H ds vs Qd Q gd da q c
  unfold ddMM at q
  split at q
  · obtain ⟨v, w, rfl, dv, dw⟩ := da.two'
    have dv : v = _ := dv
    have dw : w = _ := dw
    subst dv dw
    exact ⟨_, _, rfl, c.nowI gd q⟩
  · exact q.elim
theorem cl_min2 {K : PySem.W.Frag} : CallL K rMinQ (ddMM fun i j => if j < i then j else i) := by
  intro so A H ds vs Qd Q gd da q c
  unfold ddMM at q
  split at q
  · obtain ⟨v, w, rfl, dv, dw⟩ := da.two'
    have dv : v = _ := dv
    have dw : w = _ := dw
    subst dv dw
    exact ⟨_, _, rfl, c.nowI gd q⟩
  · exact q.elim
/-- tuple(x) -/
def ddTuple : DCall := fun ds Q => match ds with
  | [.tup l] => Q (.tup l)
  | [.lst l] => Q (.tup l)
  | _ => False
def rTupleQ (K : PySem.W.Frag) : List V → Hp → VK → Prop := fun xs H Q => ∃ p ys, xs = [.ref p] ∧ ((SqL K H p ys ∧ ∀ l, H l = none → Q (.ref l) (upd H l (.tup ys))) ∨ (SqT K H p ys ∧ Q (.ref p) H))
theorem oo_tuple {X : Cx} : CallR X (.type "tuple") (rTupleQ X.K) := call_tuple_of
theorem cl_tuple {K : PySem.W.Frag} : CallL K (rTupleQ K) ddTuple := by
  intro so A H ds vs Qd Q gd da q c
  unfold ddTuple at q
  split at q
  · obtain ⟨v, rfl, a, xs, rfl, hs, qa⟩ := da.one'
    exact ⟨a, xs, rfl, .inr ⟨Sub.sqT gd.sub hs, c.now (d := .tup _) gd ⟨a, xs, rfl, hs, qa⟩ q⟩⟩
  · obtain ⟨v, rfl, a, xs, rfl, hs, qa⟩ := da.one'
    exact ⟨a, xs, rfl, .inl ⟨SqL.of (gd.sub _ _ hs), fun p hp => c.tup gd hp qa q⟩⟩
  · exact q.elim
/-- list(x): a new list -/
def nCB (rr : List D → (List D → Prop) → Prop) (t : DL) : DL := fun ρ Q E => t ρ (fun ds => rr ds Q) E
def nnList : List D → (List D → Prop) → Prop := fun ds Q => match ds with
  | [.tup l] => Q l
  | [.lst l] => Q l
  | [.scr ns] => Q (ns.map D.int)
  | _ => False
theorem daL_ints {K : PySem.W.Frag} {so : Option Addr} {A : Hp} : ∀ ns : List Int, DaL K so A (ns.map D.int) (ns.map V.int)
  | [] => rfl
  | n :: ns => ⟨.int n, ns.map V.int, rfl, rfl, daL_ints ns⟩
section
variable {X : Cx} {g : Gx} {EX : EXT} {e a b : Expr} {es : List Expr} {ra rb : DE} {pos p : Pos} {t : DL}
theorem pdn_list (hg : Gl X "list") (hm : X.mg "list" = none) (ha : PDA X g EX (e :: es) t)
    (he : starEach (e :: es) X.env = (false, eval e X.env) :: starEach es X.env := by rfl) (hpl : (backTo pos (starEach es X.env)).any (·.1) = false := by rfl) : PDN X g EX (.Call (.Name "list" p) (e :: es) [] pos) (nCB nnList t) :=
  ⟨(pe_callTy c_list hg hm bt_list ha.pa (by decide) (by decide) he hpl).imp fun σ H Q h => by
  obtain ⟨A, ρ, Qd, Ed, S, h, c, cx⟩ := h
  refine ⟨A, ρ, _, Ed, S, h, fun ds vs A1 H1 x1 das q => ?_, cx⟩
  have q : nnList ds Qd := q
  unfold nnList at q
  split at q
  · obtain ⟨v, rfl, a, xs, rfl, hs, qa⟩ := das.one'
    exact ⟨a, xs, rfl, .inr (Sub.sqT x1.good.sub hs), fun l hl => c _ xs l A1 H1 x1 hl qa q⟩
  · obtain ⟨v, rfl, a, xs, rfl, hs, qa⟩ := das.one'
    exact ⟨a, xs, rfl, .inl (SqL.of (x1.good.sub _ _ hs)), fun l hl => c _ xs l A1 H1 x1 hl qa q⟩
  · obtain ⟨v, rfl, a, rfl, hs⟩ := das.one'
    exact ⟨a, _, rfl, .inl (Sub.sqL x1.good.sub hs), fun l hl => c _ _ l A1 H1 x1 hl (daL_ints _) q⟩
  · exact q.elim⟩
end
end My
namespace My
open PySem PySem.Spec PyProof.Rows L2
/-! ### isinstance of built-in types -/
def isIn (d : D) (T : String) : Bool := match d with
  | .bl _ => T == "bool" || T == "int"
  | .int _ => T == "int"
  | .str _ => T == "str"
  | .tup _ => T == "tuple"
  | .lst _ => T == "list"
  | .dct _ _ => T == "dict"
  | _ => false
/-- plain data -/
def plainD : D → Bool
  | .ins _ _ _ => false
  | .scr _ => false
  | .sto => false
  | .exc _ => false
  | .err _ _ _ => false
  | _ => true
def tyN : D → String
  | .non => "NoneType"
  | .bl _ => "bool"
  | .int _ => "int"
  | .str _ => "str"
  | .dct _ _ => "dict"
  | .tup _ => "tuple"
  | _ => "list"
theorem sqT_ty {K : PySem.W.Frag} {H : Hp} {a : Addr} {xs : List V} (h : SqT K H a xs) : TyX K H (.ref a) (.type "tuple") := by
  rcases h with (h | ⟨o, h⟩) | ⟨o, its, n, hk, hc, _⟩
  · exact .base (.tup h)
  · exact .fTuple h
  · exact .kTuple hk hc
theorem Da.ty {K : PySem.W.Frag} {so : Option Addr} {A H : Hp} {d : D} {v : V} (gd : Good K so A H) (da : Da K so A d v) (p : plainD d = true) : TyX K H v (.type (tyN d)) := by
  cases d with
  | non =>
    have da : v = _ := da
    subst da
    exact .base .non
  | bl b =>
    have da : v = _ := da
    subst da
    exact .base (.bl b)
  | int b =>
    have da : v = _ := da
    subst da
    exact .base (.int b)
  | str b =>
    have da : v = _ := da
    subst da
    exact .base (.str b)
  | dct ks vs =>
    obtain ⟨a, us, e, h, _⟩ := da
    subst e
    rcases h with ⟨kvs, h, _⟩ | ⟨kvs, h, _⟩
    · exact .base (.dK (gd.sub _ _ h))
    · exact .base (.dT (gd.sub _ _ h))
  | tup l =>
    obtain ⟨a, xs, e, h, _⟩ := da
    subst e
    exact sqT_ty (Sub.sqT gd.sub h)
  | lst l =>
    obtain ⟨a, xs, e, h, _⟩ := da
    subst e
    exact .base (.lst (gd.sub _ _ h))
  | ins _ _ _ => cases p
  | scr _ => cases p
  | sto => cases p
  | exc _ => cases p
  | err _ _ _ => cases p
theorem k_NoneType_int : kitB "NoneType" "int" = some false := by decide +kernel
theorem k_NoneType_str : kitB "NoneType" "str" = some false := by decide +kernel
theorem k_NoneType_bool : kitB "NoneType" "bool" = some false := by decide +kernel
theorem k_NoneType_list : kitB "NoneType" "list" = some false := by decide +kernel
theorem k_NoneType_tuple : kitB "NoneType" "tuple" = some false := by decide +kernel
theorem k_NoneType_dict : kitB "NoneType" "dict" = some false := by decide +kernel
theorem k_bool_int : kitB "bool" "int" = some true := by decide +kernel
theorem k_bool_str : kitB "bool" "str" = some false := by decide +kernel
theorem k_bool_bool : kitB "bool" "bool" = some true := by decide +kernel
theorem k_bool_list : kitB "bool" "list" = some false := by decide +kernel
theorem k_bool_tuple : kitB "bool" "tuple" = some false := by decide +kernel
theorem k_bool_dict : kitB "bool" "dict" = some false := by decide +kernel
theorem k_int_int : kitB "int" "int" = some true := by decide +kernel
theorem k_int_str : kitB "int" "str" = some false := by decide +kernel
theorem k_int_bool : kitB "int" "bool" = some false := by decide +kernel
theorem k_int_list : kitB "int" "list" = some false := by decide +kernel
theorem k_int_tuple : kitB "int" "tuple" = some false := by decide +kernel
theorem k_int_dict : kitB "int" "dict" = some false := by decide +kernel
theorem k_str_int : kitB "str" "int" = some false := by decide +kernel
theorem k_str_str : kitB "str" "str" = some true := by decide +kernel
theorem k_str_bool : kitB "str" "bool" = some false := by decide +kernel
theorem k_str_list : kitB "str" "list" = some false := by decide +kernel
theorem k_str_tuple : kitB "str" "tuple" = some false := by decide +kernel
theorem k_str_dict : kitB "str" "dict" = some false := by decide +kernel
theorem k_dict_int : kitB "dict" "int" = some false := by decide +kernel
theorem k_dict_str : kitB "dict" "str" = some false := by decide +kernel
theorem k_dict_bool : kitB "dict" "bool" = some false := by decide +kernel
theorem k_dict_list : kitB "dict" "list" = some false := by decide +kernel
theorem k_dict_tuple : kitB "dict" "tuple" = some false := by decide +kernel
theorem k_dict_dict : kitB "dict" "dict" = some true := by decide +kernel
theorem k_tuple_int : kitB "tuple" "int" = some false := by decide +kernel
theorem k_tuple_str : kitB "tuple" "str" = some false := by decide +kernel
theorem k_tuple_bool : kitB "tuple" "bool" = some false := by decide +kernel
theorem k_tuple_list : kitB "tuple" "list" = some false := by decide +kernel
theorem k_tuple_tuple : kitB "tuple" "tuple" = some true := by decide +kernel
theorem k_tuple_dict : kitB "tuple" "dict" = some false := by decide +kernel
theorem k_list_int : kitB "list" "int" = some false := by decide +kernel
theorem k_list_str : kitB "list" "str" = some false := by decide +kernel
theorem k_list_bool : kitB "list" "bool" = some false := by decide +kernel
theorem k_list_list : kitB "list" "list" = some true := by decide +kernel
theorem k_list_tuple : kitB "list" "tuple" = some false := by decide +kernel
theorem k_list_dict : kitB "list" "dict" = some false := by decide +kernel
/-- what is asked of a type's name -/
structure TyQ (T : String) : Prop where
  h : ∀ d : D, plainD d = true → kitB (tyN d) T = some (isIn d T)
theorem tq_int : TyQ "int" := ⟨fun d p => match d, p with
  | .non, _ => k_NoneType_int
  | .bl _, _ => k_bool_int
  | .int _, _ => k_int_int
  | .str _, _ => k_str_int
  | .dct _ _, _ => k_dict_int
  | .tup _, _ => k_tuple_int
  | .lst _, _ => k_list_int⟩
theorem tq_str : TyQ "str" := ⟨fun d p => match d, p with
  | .non, _ => k_NoneType_str
  | .bl _, _ => k_bool_str
  | .int _, _ => k_int_str
  | .str _, _ => k_str_str
  | .dct _ _, _ => k_dict_str
  | .tup _, _ => k_tuple_str
  | .lst _, _ => k_list_str⟩
theorem tq_bool : TyQ "bool" := ⟨fun d p => match d, p with
  | .non, _ => k_NoneType_bool
  | .bl _, _ => k_bool_bool
  | .int _, _ => k_int_bool
  | .str _, _ => k_str_bool
  | .dct _ _, _ => k_dict_bool
  | .tup _, _ => k_tuple_bool
  | .lst _, _ => k_list_bool⟩
theorem tq_list : TyQ "list" := ⟨fun d p => match d, p with
  | .non, _ => k_NoneType_list
  | .bl _, _ => k_bool_list
  | .int _, _ => k_int_list
  | .str _, _ => k_str_list
  | .dct _ _, _ => k_dict_list
  | .tup _, _ => k_tuple_list
  | .lst _, _ => k_list_list⟩
theorem tq_tuple : TyQ "tuple" := ⟨fun d p => match d, p with
  | .non, _ => k_NoneType_tuple
  | .bl _, _ => k_bool_tuple
  | .int _, _ => k_int_tuple
  | .str _, _ => k_str_tuple
  | .dct _ _, _ => k_dict_tuple
  | .tup _, _ => k_tuple_tuple
  | .lst _, _ => k_list_tuple⟩
theorem tq_dict : TyQ "dict" := ⟨fun d p => match d, p with
  | .non, _ => k_NoneType_dict
  | .bl _, _ => k_bool_dict
  | .int _, _ => k_int_dict
  | .str _, _ => k_str_dict
  | .dct _ _, _ => k_dict_dict
  | .tup _, _ => k_tuple_dict
  | .lst _, _ => k_list_dict⟩
def ddIsi (T : String) (d : D) (Q : D → Prop) : Prop := plainD d = true ∧ Q (.bl (isIn d T))
section
variable {X : Cx} {g : Gx} {EX : EXT} {e a b : Expr} {es : List Expr} {ra rb : DE} {pos p : Pos} {t : DL} {T : String}
theorem pd_isi (hg : Gl X "isinstance") (hm : X.mg "isinstance" = none) (ha : PD X g EX a ra) (hb : PE X b (tC (.ty T))) (hT : TyQ T)
    (he : starEach [a, b] X.env = (false, eval a X.env) :: starEach [b] X.env := by rfl) (hs : starEach [b] X.env = (false, eval b X.env) :: starEach [] X.env := by rfl) (hpl : (backTo pos (starEach [b] X.env)).any (·.1) = false := by rfl) :
    PD X g EX (.Call (.Name "isinstance" p) [a, b] [] pos) (dUn (ddIsi T) ra) :=
  ⟨(pe_callB call_isi hg hm bt_isinstance (pa_cons ha.pe (pa_cons hb pa_nil hs) he) (by decide) (by decide) he hpl).imp fun σ H Q h => by
  obtain ⟨A, ρ, Qd, Ed, S, h, c, cx⟩ := h
  refine ⟨A, ρ, _, Ed, S, h, fun d v A1 H1 x1 da q => ?_, cx⟩
  have q : ddIsi T d Qd := q
  exact ⟨v, .ty T, _, _, _, rfl, .ty T, da.ty x1.good q.1, kit_ty (hT.h d q.1), (c.ext x1).nowB x1.good q.2⟩⟩
end
/-! ### what a def promises, over data -/
abbrev DF := List D → (D → Prop) → (XD → Prop) → Prop
def spD (K : PySem.W.Frag) (n : Nat) (m : DF) : Sp := fun vs H Q E => ∃ so A ds Qd Ed, Good K so A H ∧ ds.length = n ∧ DaL K so A ds vs ∧ m ds Qd Ed ∧ Cont K so A H Qd Q ∧ ContX K so A H Ed E
theorem spD_len {K : PySem.W.Frag} {n : Nat} {m : DF} : ∀ vs H Q E, spD K n m vs H Q E → vs.length = n := fun vs H Q E ⟨_, _, _, _, _, _, h, da, _⟩ => by rw [da.len, h]
def dCall (n : Nat) (m : DF) (dd : List D) (t : DL) : DE := fun ρ Q E => t ρ (fun ds => (ds ++ dd).length = n ∧ m (ds ++ dd) Q E) E
section
variable {X : Cx} {g : Gx} {EX : EXT} {e a b : Expr} {es : List Expr} {ra rb : DE} {pos p : Pos} {t : DL} {lv : Nat} {f : Addr} {fd : FuncData} {ps : List Str} {m : DF} {x : Str} {CX : CXT}
theorem pd_call (F : FnOk X.prog X.w X.K X.mg X.base CX lv f fd ps (spD X.K ps.length m)) (hr : Room lv X.A) (hg : Gl X x) (hm : X.mg x = some (.ref f)) (hk : PySem.W.keepIn X.K (.ref f) = true) (hb : Binds X.K fd ps []) (hx : ∀ σ, PassesAt CX X σ (EX σ))
    (ha : PDA X g EX (e :: es) t) (hdb : (x == ("__debug__" : Str)) = false := by decide) (he : starEach (e :: es) X.env = (false, eval e X.env) :: starEach es X.env := by rfl) (hpl : (backTo pos (starEach es X.env)).any (·.1) = false := by rfl) :
    PD X g EX (.Call (.Name x p) (e :: es) [] pos) (dCall ps.length m [] t) := ⟨(pe_callS F hr hg hm hk hb hx ha.pa hdb he hpl).imp fun σ H Q h => by
  obtain ⟨A, ρ, Qd, Ed, S, h, c, cx⟩ := h
  refine ⟨A, ρ, _, Ed, S, h, fun ds vs A1 H1 x1 das q => ?_, cx⟩
  obtain ⟨hl, q⟩ := q
  rw [List.append_nil] at hl q
  exact ⟨g.so, A1, ds, Qd, Ed, x1.good, hl, das, q, c.ext x1, cx.ext x1⟩⟩
/-- with default arguments -/
theorem pd_callD {dds : List D} {dvs : List V} {dus : List Value} (F : FnOk X.prog X.w X.K X.mg X.base CX lv f fd ps (spD X.K ps.length m)) (hr : Room lv X.A) (hg : Gl X x) (hm : X.mg x = some (.ref f)) (hk : PySem.W.keepIn X.K (.ref f) = true) (hb : Binds X.K fd ps dus) (hv : Vals dvs dus)
    (hd : ∀ so A, DaL X.K so A dds dvs) (hx : ∀ σ, PassesAt CX X σ (EX σ))
    (ha : PDA X g EX (e :: es) t) (hdb : (x == ("__debug__" : Str)) = false := by decide) (he : starEach (e :: es) X.env = (false, eval e X.env) :: starEach es X.env := by rfl) (hpl : (backTo pos (starEach es X.env)).any (·.1) = false := by rfl) :
    PD X g EX (.Call (.Name x p) (e :: es) [] pos) (dCall ps.length m dds t) := ⟨(pe_callSD F hr hg hm hk hb hv hx ha.pa hdb he hpl).imp fun σ H Q h => by
  obtain ⟨A, ρ, Qd, Ed, S, h, c, cx⟩ := h
  refine ⟨A, ρ, _, Ed, S, h, fun ds vs A1 H1 x1 das q => ?_, cx⟩
  obtain ⟨hl, q⟩ := q
  exact ⟨g.so, A1, ds ++ dds, Qd, Ed, x1.good, hl, das.app (hd _ _), q, c.ext x1, cx.ext x1⟩⟩
end
theorem passN0 {X : Cx} {P : Program} {w : World} (σ : L2.St) : PassesAt (L2N.CX P w) X σ (fun _ _ _ => False) := fun _ _ _ _ _ _ c => by
  obtain ⟨_, _, _, _, _, _, _, _, _, _, _, _, z⟩ := c
  exact z.elim
theorem pass00 {X : Cx} (E : EXT) (σ : L2.St) : PassesAt CX0 X σ (E σ) := fun _ _ _ _ _ _ c => c.elim
/-! ### statements -/
structure DEnds where
  nx : DEnv → Prop
  rt : D → Prop
  bk : DEnv → Prop
  ct : DEnv → Prop
  ex : XD → Prop
  fr : Prop := False
abbrev DS := DEnds → DEnv → Prop
structure EndsOk (K : PySem.W.Frag) (g : Gx) (EX : EXT) (n : Nat) (B : Hp) (DD : DEnds) (De : Ends) : Prop where
  nx : ∀ A H σ ρ, Stt K g A H σ ρ → ρ.length = n → Sub B A → DD.nx ρ → De.nx σ H
  rt : ∀ A H d v, Ext K g.so g.Ai g.Hi A H → Da K g.so A d v → DD.rt d → De.rt v H
  bk : ∀ A H σ ρ, Stt K g A H σ ρ → ρ.length = n → Sub B A → DD.bk ρ → De.bk σ H
  ct : ∀ A H σ ρ, Stt K g A H σ ρ → ρ.length = n → Sub B A → DD.ct ρ → De.ct σ H
  ex : ∀ σ, σ.length = n → ContX K g.so g.Ai g.Hi DD.ex (EX σ)
  fr : DD.fr → ∀ H, De.rt (.bl true) H
def lS (K : PySem.W.Frag) (g : Gx) (EX : EXT) (r : DS) : TS := fun De σ H => ∃ A ρ DD, Stt K g A H σ ρ ∧ r DD ρ ∧ EndsOk K g EX ρ.length A DD De
structure PDS (X : Cx) (g : Gx) (EX : EXT) (st : Stmt) (r : DS) : Prop where
  ps : PS X st (lS X.K g EX r)
structure PDSs (X : Cx) (g : Gx) (EX : EXT) (st : List Stmt) (r : DS) : Prop where
  pss : PSs X st (lS X.K g EX r)
theorem _root_.L2.PS.imp {X : Cx} {st : Stmt} {t t' : TS} (h : PS X st t) (w : ∀ De σ H, t' De σ H → t De σ H) : PS X st t' := ⟨fun pins s σ H D I q => h.run pins s σ H D I (w D σ H q)⟩
theorem _root_.L2.PSs.imp {X : Cx} {st : List Stmt} {t t' : TS} (h : PSs X st t) (w : ∀ De σ H, t' De σ H → t De σ H) : PSs X st t' := ⟨fun pins s σ H D I q => h.run pins s σ H D I (w D σ H q)⟩
theorem Sub.rfl' {A : Hp} : Sub A A := fun _ _ h => h
theorem Sub.trans {A B C : Hp} (x : Sub A B) (y : Sub B C) : Sub A C := fun b o h => y b o (x b o h)
theorem EndsOk.up {K : PySem.W.Frag} {g : Gx} {EX : EXT} {n : Nat} {B B' : Hp} {DD : DEnds} {De : Ends} (k : EndsOk K g EX n B DD De) (x : Sub B B') : EndsOk K g EX n B' DD De :=
  ⟨fun A H σ ρ S l sb => k.nx A H σ ρ S l (x.trans sb), k.rt, fun A H σ ρ S l sb => k.bk A H σ ρ S l (x.trans sb), fun A H σ ρ S l sb => k.ct A H σ ρ S l (x.trans sb), k.ex, k.fr⟩
theorem EndsOk.cx {K : PySem.W.Frag} {g : Gx} {EX : EXT} {B : Hp} {DD : DEnds} {De : Ends} {A H : Hp} {σ : L2.St} {ρ : DEnv} (k : EndsOk K g EX ρ.length B DD De) (S : Stt K g A H σ ρ) : ContX K g.so A H DD.ex (EX σ) := (k.ex σ S.e.len).ext S.x
theorem Stt.setFr {K : PySem.W.Frag} {g : Gx} {A H : Hp} {σ : L2.St} {ρ : DEnv} {i : Nat} {d : D} {v : V} (S : Stt K g A H σ ρ) (q : Da K g.so A d v) : Stt K g A H (σ.set i (some v)) (ρ.set i (.fr d)) := ⟨S.x, S.e.setFr q⟩
theorem Stt.setOw {K : PySem.W.Frag} {g : Gx} {A H : Hp} {σ : L2.St} {ρ : DEnv} {i : Nat} {p : Addr} {l : List D} {xs : List V} (S : Stt K g A H σ ρ) (hp : H p = none) (q : DaL K g.so A l xs) : Stt K g A (upd H p (.lst xs)) (σ.set i (some (.ref p))) (ρ.set i (.ow l)) :=
  ⟨S.x.trans (Ext.open_ S.good hp), S.e.setOw S.x hp q⟩
section
variable {X : Cx} {g : Gx} {EX : EXT} {e a b : Expr} {es : List Expr} {r ra rb : DE} {pos p : Pos} {t : DL} {st : Stmt} {rest : List Stmt} {rs rs' : DS}
def sSkip : DS := fun DD ρ => DD.nx ρ
def sSeq (r u : DS) : DS := fun DD ρ => r { DD with nx := u DD } ρ
theorem pds_nil : PDSs X g EX [] sSkip := ⟨pss_nil.imp fun De σ H h => by
  obtain ⟨A, ρ, DD, S, h, k⟩ := h
  exact k.nx A H σ ρ S rfl Sub.rfl' h⟩
theorem pds_cons (h1 : PDS X g EX st rs) (h2 : PDSs X g EX rest rs') : PDSs X g EX (st :: rest) (sSeq rs rs') := ⟨(pss_cons h1.ps h2.pss).imp fun De σ H h => by
  obtain ⟨A, ρ, DD, S, h, k⟩ := h
  refine ⟨A, ρ, { DD with nx := rs' DD }, S, h, ⟨fun A1 H1 σ1 ρ1 S1 l sb q => ⟨A1, ρ1, DD, S1, q, by rw [l]; exact k.up sb⟩, k.rt, k.bk, k.ct, k.ex, k.fr⟩⟩⟩
theorem pds_one (h1 : PDS X g EX st rs) : PDSs X g EX [st] rs := ⟨pss_one h1.ps⟩
theorem pds_pass : PDS X g EX (.Pass pos) sSkip := ⟨ps_pass.imp fun De σ H h => by
  obtain ⟨A, ρ, DD, S, h, k⟩ := h
  exact k.nx A H σ ρ S rfl Sub.rfl' h⟩
def sBreak : DS := fun DD ρ => DD.bk ρ
def sCont : DS := fun DD ρ => DD.ct ρ
theorem pds_break : PDS X g EX (.Break pos) sBreak := ⟨ps_break.imp fun De σ H h => by
  obtain ⟨A, ρ, DD, S, h, k⟩ := h
  exact k.bk A H σ ρ S rfl Sub.rfl' h⟩
theorem pds_cont : PDS X g EX (.Continue pos) sCont := ⟨ps_continue.imp fun De σ H h => by
  obtain ⟨A, ρ, DD, S, h, k⟩ := h
  exact k.ct A H σ ρ S rfl Sub.rfl' h⟩
theorem pds_doc {x j pos'} : PDS X g EX (.Expr (.Constant (.str x) j pos') pos) sSkip := ⟨ps_doc.imp fun De σ H h => by
  obtain ⟨A, ρ, DD, S, h, k⟩ := h
  exact k.nx A H σ ρ S rfl Sub.rfl' h⟩
def sExpr (r : DE) : DS := fun DD ρ => r ρ (fun _ => DD.nx ρ) DD.ex
theorem pds_expr (he : PD X g EX e r) (hs : swapsWith e none pos.line X.env = pure false := by rfl) : PDS X g EX (.Expr e pos) (sExpr r) := ⟨(ps_expr he.pe hs).imp fun De σ H h => by
  obtain ⟨A, ρ, DD, S, h, k⟩ := h
  exact ⟨A, ρ, _, _, S, h, fun d v A1 H1 x1 da q => k.nx A1 H1 σ ρ (S.ext x1) rfl x1.mono q, k.cx S⟩⟩
def sRet (r : DE) : DS := fun DD ρ => r ρ DD.rt DD.ex
theorem pds_ret (he : PD X g EX e r) : PDS X g EX (.Return (some e) pos) (sRet r) := ⟨(ps_ret he.pe).imp fun De σ H h => by
  obtain ⟨A, ρ, DD, S, h, k⟩ := h
  exact ⟨A, ρ, _, _, S, h, fun d v A1 H1 x1 da q => k.rt A1 H1 d v (S.x.trans x1) da q, k.cx S⟩⟩
def sRetN : DS := fun DD _ => DD.rt .non
theorem pds_retN : PDS X g EX (.Return none pos) sRetN := ⟨ps_retN.imp fun De σ H h => by
  obtain ⟨A, ρ, DD, S, h, k⟩ := h
  exact k.rt A H .non .non S.x rfl h⟩
def sIf (c : DT) (r u : DS) : DS := fun DD ρ => c ρ (fun b => if b = true then r DD ρ else u DD ρ) DD.ex
theorem pds_if {c : Expr} {x y : List Stmt} {tc : DT} (hc : PDT X g EX c tc) (ha : PDSs X g EX x rs) (hb : PDSs X g EX y rs') : PDS X g EX (.If c x y pos) (sIf tc rs rs') := ⟨(ps_if hc.pt ha.pss hb.pss).imp fun De σ H h => by
  obtain ⟨A, ρ, DD, S, h, k⟩ := h
  refine ⟨A, ρ, _, _, S, h, fun b A1 H1 x1 q => ?_, k.cx S⟩
  cases b with
  | true => exact iteT ⟨A1, ρ, DD, S.ext x1, outT q, k.up x1.mono⟩
  | false => exact iteF ⟨A1, ρ, DD, S.ext x1, outF q, k.up x1.mono⟩⟩
def sNever : DS := fun _ _ => False
theorem pds_never : PDSs X g EX rest sNever := ⟨pss_never.imp fun De σ H h => by
  obtain ⟨A, ρ, DD, S, h, k⟩ := h
  exact h⟩
/-! ### targets -/
abbrev DG := D → DEnv → (DEnv → Prop) → Prop
abbrev DGs := List D → DEnv → (DEnv → Prop) → Prop
def lG (K : PySem.W.Frag) (g : Gx) (r : DG) : TG := fun v σ H R => ∃ A ρ d Rd, Stt K g A H σ ρ ∧ Da K g.so A d v ∧ r d ρ Rd ∧ ∀ σ' ρ', Stt K g A H σ' ρ' → ρ'.length = ρ.length → Rd ρ' → R σ' H
def lGs (K : PySem.W.Frag) (g : Gx) (r : DGs) : TGs := fun vs σ H R => ∃ A ρ ds Rd, Stt K g A H σ ρ ∧ DaL K g.so A ds vs ∧ r ds ρ Rd ∧ ∀ σ' ρ', Stt K g A H σ' ρ' → ρ'.length = ρ.length → Rd ρ' → R σ' H
structure PDG (X : Cx) (g : Gx) (e : Expr) (r : DG) : Prop where
  pg : PG X e (lG X.K g r)
structure PDGs (X : Cx) (g : Gx) (es : List Expr) (r : DGs) : Prop where
  pgs : PGs X es (lGs X.K g r)
theorem _root_.L2.PG.imp {X : Cx} {e : Expr} {t t' : TG} (h : PG X e t) (w : ∀ v σ H R, t' v σ H R → t v σ H R) : PG X e t' := ⟨fun pins s σ H v u Q I r q => h.run pins s σ H v u Q I r (w v σ H Q q)⟩
theorem _root_.L2.PGs.imp {X : Cx} {e : List Expr} {t t' : TGs} (h : PGs X e t) (w : ∀ v σ H R, t' v σ H R → t v σ H R) : PGs X e t' := ⟨fun pins s σ H v u Q I r q => h.run pins s σ H v u Q I r (w v σ H Q q)⟩
def gdName (i : Nat) : DG := fun d ρ R => R (ρ.set i (.fr d))
theorem pdg_name {i : Nat} (h : PG X e (gName i)) : PDG X g e (gdName i) := ⟨h.imp fun v σ H R q => by
  obtain ⟨A, ρ, d, Rd, S, da, q, k⟩ := q
  exact k _ _ (S.setFr da) (List.length_set ..) q⟩
def gdNil : DGs := fun ds ρ R => ds = [] ∧ R ρ
def gdCons (t : DG) (u : DGs) : DGs := fun ds ρ R => match ds with
  | d :: r => t d ρ fun ρ' => u r ρ' R
  | [] => False
theorem pdgs_nil : PDGs X g [] gdNil := ⟨pgs_nil.imp fun v σ H R q => by
  obtain ⟨A, ρ, ds, Rd, S, da, q, k⟩ := q
  obtain ⟨rfl, q⟩ := q
  exact ⟨da, k _ _ S rfl q⟩⟩
theorem pdgs_cons {gr : DG} {gu : DGs} (h1 : PDG X g e gr) (h2 : PDGs X g es gu) (hs : (assignEach (e :: es) X.env).map (·.2) = assign e X.env :: (assignEach es X.env).map (·.2) := by rfl) : PDGs X g (e :: es) (gdCons gr gu) := ⟨(pgs_cons h1.pg h2.pgs hs).imp fun v σ H R q => by
  obtain ⟨A, ρ, ds, Rd, S, da, q, k⟩ := q
  cases ds with
  | nil => exact q.elim
  | cons d dr =>
    obtain ⟨x, xr, e1, d1, d2⟩ := da
    subst e1
    refine ⟨x, xr, rfl, A, ρ, d, _, S, d1, q, fun σ1 ρ1 S1 l q1 => ?_⟩
    exact ⟨A, ρ1, dr, Rd, S1, d2, q1, fun σ2 ρ2 S2 l2 q2 => k σ2 ρ2 S2 (l2.trans l) q2⟩⟩
def gdTup (n : Nat) (u : DGs) : DG := fun d ρ R => match d with
  | .tup l => l.length = n ∧ u l ρ R
  | _ => False
theorem pdg_tup {gu : DGs} {n k : Nat} (hc : X.calm = true) (h : PDGs X g es gu) (hn : (assignEach es X.env).length = n := by rfl) (hst : (assignEach es X.env).findIdx? (·.1) = none := by rfl) : PDG X g (.Tuple es k pos) (gdTup n gu) := ⟨(pg_tup hc h.pgs hn hst).imp fun v σ H R q => by
  obtain ⟨A, ρ, d, Rd, S, da, q, k⟩ := q
  unfold gdTup at q
  split at q
  · obtain ⟨a, xs, rfl, hs, qa⟩ := da
    exact ⟨a, xs, rfl, Sub.sqT S.good.sub hs, by rw [qa.len]; exact q.1, A, ρ, _, Rd, S, qa, q.2, k⟩
  · exact q.elim⟩
def sAsg (r : DE) (gr : DG) : DS := fun DD ρ => r ρ (fun d => gr d ρ DD.nx) DD.ex
theorem pds_asg {tg : Expr} {gr : DG} (he : PD X g EX e r) (hg : PDG X g tg gr) (hs : swapsWithSole [tg] e pos.line X.env = pure false := by rfl) (hw : swappedStores [tg] e X.env = pure none := by rfl)
    (h1 : (assignEach [tg] X.env).map (·.2) = [assign tg X.env] := by rfl) : PDS X g EX (.Assign [tg] e pos) (sAsg r gr) := ⟨(ps_asg he.pe hg.pg hs hw h1).imp fun De σ H h => by
  obtain ⟨A, ρ, DD, S, h, k⟩ := h
  refine ⟨A, ρ, _, _, S, h, fun d v A1 H1 x1 da q => ?_, k.cx S⟩
  exact ⟨A1, ρ, d, _, S.ext x1, da, q, fun σ' ρ' S' l q' => k.nx A1 H1 σ' ρ' S' l x1.mono q'⟩⟩
theorem pds_set {i : Nat} {x : Str} {p' : Pos} (hN : X.N.Nodup) (hi : X.N[i]? = some x) (hx : Loc X.env.scope x) (he : PD X g EX e r) (hs : swapsWith e (some (.Name x p')) pos.line X.env = pure false := by rfl) (hf : X.fn x = true ∨ X.env.scope.names.lookup x = some .local := by first | exact .inl rfl | exact .inr rfl | assumption) :
    PDS X g EX (.Assign [.Name x p'] e pos) (sAsg r (gdName i)) := ⟨(ps_set hN hi hx he.pe hs hf).imp fun De σ H h => by
  obtain ⟨A, ρ, DD, S, h, k⟩ := h
  refine ⟨A, ρ, _, _, S, h, fun d v A1 H1 x1 da q => ?_, k.cx S⟩
  exact k.nx A1 H1 _ _ ((S.ext x1).setFr da) (List.length_set ..) x1.mono q⟩
/-- name = a new list, owned -/
def sSetN (i : Nat) (r : DL) : DS := fun DD ρ => r ρ (fun l => DD.nx (ρ.set i (.ow l))) DD.ex
theorem pds_setN {i : Nat} {x : Str} {p' : Pos} {rn : DL} (hN : X.N.Nodup) (hi : X.N[i]? = some x) (hx : Loc X.env.scope x) (he : PDN X g EX e rn) (hs : swapsWith e (some (.Name x p')) pos.line X.env = pure false := by rfl) (hf : X.fn x = true ∨ X.env.scope.names.lookup x = some .local := by first | exact .inl rfl | exact .inr rfl | assumption) :
    PDS X g EX (.Assign [.Name x p'] e pos) (sSetN i rn) := ⟨(ps_set hN hi hx he.pe hs hf).imp fun De σ H h => by
  obtain ⟨A, ρ, DD, S, h, k⟩ := h
  refine ⟨A, ρ, _, _, S, h, fun l xs p A1 H1 x1 hp da q => ?_, k.cx S⟩
  exact k.nx _ _ _ _ ((S.ext x1).setOw hp da) (List.length_set ..) x1.mono q⟩
def sPar (i j : Nat) (t : DL) : DS := fun DD ρ => t ρ (fun ds => match ds with
  | [a, b] => DD.nx ((ρ.set i (.fr a)).set j (.fr b))
  | _ => False) DD.ex
theorem pds_par {i j : Nat} {x y : Str} {px py pt : Pos} {kt k2 pt2} (hc : X.calm = true) (hN : X.N.Nodup) (hi : X.N[i]? = some x) (hj : X.N[j]? = some y) (hij : i ≠ j)
    (hx : X.env.scope.names.lookup x = some .local) (hy : X.env.scope.names.lookup y = some .local) (ha : PDA X g EX [a, b] t)
    (hw : swappedStores [.Tuple [.Name x px, .Name y py] kt pt] (.Tuple [a, b] k2 pt2) X.env = pure (some [x, y]))
    (hs : swapsWithSole [.Tuple [.Name x px, .Name y py] kt pt] (.Tuple [a, b] k2 pt2) pos.line X.env = pure false := by rfl) :
    PDS X g EX (.Assign [.Tuple [.Name x px, .Name y py] kt pt] (.Tuple [a, b] k2 pt2) pos) (sPar i j t) := ⟨(ps_par hc hN hi hj hij hx hy ha.pa hw hs).imp fun De σ H h => by
  obtain ⟨A, ρ, DD, S, h, k⟩ := h
  refine ⟨A, ρ, _, _, S, h, fun ds vs A1 H1 x1 das q => ?_, k.cx S⟩
  dsimp only at q
  split at q
  · obtain ⟨v, w, rfl, dv, dw⟩ := das.two'
    exact ⟨v, w, rfl, k.nx A1 H1 _ _ (((S.ext x1).setFr dv).setFr dw) (by rw [List.length_set, List.length_set]) x1.mono q⟩
  · exact q.elim⟩
end
end My
namespace My
open PySem PySem.Spec PyProof.Rows L2
/-! ### a def -/
def startD (N : List Str) (ds : List D) : DEnv := ds.map Sl.fr ++ List.replicate (N.length - ds.length) .no
theorem startOk {K : PySem.W.Frag} {so : Option Addr} {A H : Hp} {N : List Str} : ∀ {ds : List D} {vs : List V}, Good K so A H → DaL K so A ds vs → EnvOk K so H A H (L2.start N vs) (startD N ds) := by
  intro ds vs gd da
  have hl := da.len
  refine ⟨?_, fun i sl e => ?_, fun i j sl sl' a n e1 e2 o1 o2 s1 s2 => ?_⟩
  · unfold L2.start startD
    rw [List.length_append, List.length_append, List.length_map, List.length_map, List.length_replicate, List.length_replicate, hl]
  · unfold startD at e
    by_cases hi : i < ds.length
    · rw [List.getElem?_append_left (by rw [List.length_map]; exact hi), List.getElem?_map, List.getElem?_eq_getElem hi] at e
      cases e
      obtain ⟨v, e3, dv⟩ := da.get (List.getElem?_eq_getElem hi)
      refine ⟨some v, ?_, v, rfl, dv⟩
      unfold L2.start
      rw [List.getElem?_append_left (by rw [List.length_map, hl]; exact hi), List.getElem?_map, e3]
      rfl
    · rw [List.getElem?_append_right (by rw [List.length_map]; omega), List.length_map] at e
      have hz : sl = .no := by
        have := List.getElem?_eq_some_iff.mp e
        obtain ⟨h1, h2⟩ := this
        rw [List.getElem_replicate] at h2
        exact h2.symm
      subst hz
      have hn : i - ds.length < N.length - ds.length := by
        have := (List.getElem?_eq_some_iff.mp e).1
        rw [List.length_replicate] at this
        exact this
      refine ⟨none, ?_, trivial⟩
      unfold L2.start
      rw [List.getElem?_append_right (by rw [List.length_map, hl]; omega), List.length_map, hl, List.getElem?_replicate, if_pos hn]
  · have noOwn : ∀ (k : Nat) (sl : Sl), (startD N ds)[k]? = some sl → sl.own = false := fun k sl e => by
      unfold startD at e
      by_cases hi : k < ds.length
      · rw [List.getElem?_append_left (by rw [List.length_map]; exact hi), List.getElem?_map, List.getElem?_eq_getElem hi] at e
        cases e
        rfl
      · rw [List.getElem?_append_right (by rw [List.length_map]; omega)] at e
        obtain ⟨h1, h2⟩ := List.getElem?_eq_some_iff.mp e
        rw [List.getElem_replicate] at h2
        rw [← h2]
        rfl
    rw [noOwn i sl e1] at o1
    cases o1
section
variable {P : Program} {w : World} {K : PySem.W.Frag} {mg : Str → Option Value} {base : Heap}
theorem Df.okD {x : Str} {st : Stmt} {N ps : List Str} {lv : Nat} {m : DF} (D : Df K mg x st ps) (S : FnScope N ps (defScope st))
    (body : ∀ (cdv : Value) (A : Around) (outer : List PySem.Env) (s : Shared) (H : Hp) (E : XK) (so : Option Addr) (A0 : Hp), Room lv (A.deeper (envOfC x (defScope st) s.heap.objs.size D.f cdv)) →
      L2N.Takes (cxOf (L2N.CX P w) P w K mg base N x (defScope st) D.f cdv A outer s H E) (fun c d _ H => E c d H) →
      PassesOwn (model P w) (A.deeper (envOfC x (defScope st) s.heap.objs.size D.f cdv)) (envOfC x (defScope st) s.heap.objs.size D.f cdv) (cxOf (L2N.CX P w) P w K mg base N x (defScope st) D.f cdv A outer s H E).xe →
      ∃ r, PDSs (cxOf (L2N.CX P w) P w K mg base N x (defScope st) D.f cdv A outer s H E) ⟨so, A0, H⟩ (fun _ => E) (defBody st) r ∧
        ∀ ds Qd Ed, ds.length = ps.length → m ds Qd Ed → r ⟨fun _ => Qd .non, Qd, fun _ => False, fun _ => False, Ed, False⟩ (startD N ds)) :
    FnOk P w K mg base (L2N.CX P w) (lv + 1) D.f D.fd ps (spD K ps.length m) := by
  refine D.okN S spD_len fun cdv A outer s H vs Q E room rd => ?_
  obtain ⟨so, A0, ds, Qd, Ed, gd, hl, da, h, c, cx⟩ := rd
  obtain ⟨r, hr, k⟩ := body cdv A outer s H E so A0 room (L2N.takes_of rfl rfl rfl rfl) PassesOwn.leaving
  refine ⟨_, hr.pss, A0, startD N ds, ⟨fun _ => Qd .non, Qd, fun _ => False, fun _ => False, Ed, False⟩, ⟨Ext.refl gd, startOk gd da⟩, k ds Qd Ed hl h, ⟨fun A1 H1 σ ρ S1 _ _ q => ?_, fun A1 H1 d v x1 d1 q => c d v A1 H1 x1 d1 q, fun _ _ _ _ _ _ _ q => q.elim, fun _ _ _ _ _ _ _ q => q.elim, fun σ _ => cx, fun z => z.elim⟩⟩
  exact c .non .non A1 H1 S1.x rfl q
end
/-! ### loops -/
/-- the turns of J go over ds -/
structure Turns (K : PySem.W.Frag) (so : Option Addr) (A : Hp) (J : It) (ds : List D) : Prop where
  go : ∀ (A' H' : Hp), Sub A A' → Good K so A' H' → ∀ i d, ds[i]? = some d → J.go i H' ∧ ∀ x H2, J.yld i H' x H2 → ∃ A2, Ext K so A' H' A2 H2 ∧ Da K so A2 d x
  stop : ∀ (A' H' : Hp), Sub A A' → Good K so A' H' → J.stop ds.length H'
def lI (K : PySem.W.Frag) (g : Gx) (EX : EXT) (r : DL) : TI := fun σ H R => ∃ A ρ Qd Ed, Stt K g A H σ ρ ∧ r ρ Qd Ed ∧ ContX K g.so A H Ed (EX σ) ∧ ∀ ds J A' H', Ext K g.so A H A' H' → Turns K g.so A' J ds → Qd ds → R J H'
structure PDI (X : Cx) (g : Gx) (EX : EXT) (tg iter : Expr) (r : DL) : Prop where
  pi : PI X tg iter (lI X.K g EX r)
theorem _root_.L2.PI.imp {X : Cx} {tg it : Expr} {t t' : TI} (h : PI X tg it t) (w : ∀ σ H R, t' σ H R → t σ H R) : PI X tg it t' := ⟨fun pins s σ H R I q => h.run pins s σ H R I (w σ H R q)⟩
theorem turns_list {K : PySem.W.Frag} {so : Option Addr} {A : Hp} {a : Addr} {xs : List V} {ds : List D} (h : SqL K A a xs) (q : DaL K so A ds xs) : Turns K so A (Itl K a) ds := by
  refine ⟨fun A' H' sb gd i d e => ?_, fun A' H' sb gd => ⟨xs, Sub.sqL gd.sub (Sub.sqL sb h), by rw [q.len]; exact Nat.le_refl _⟩⟩
  obtain ⟨v, e2, dv⟩ := q.get e
  have hs := Sub.sqL gd.sub (Sub.sqL sb h)
  refine ⟨⟨xs, v, hs, e2⟩, fun x H2 y => ?_⟩
  obtain ⟨e3, y⟩ := y
  subst e3
  have z := y xs hs
  rw [e2] at z
  cases z
  exact ⟨A', Ext.refl gd, Da.mono sb _ _ dv⟩
theorem turns_tup {K : PySem.W.Frag} {so : Option Addr} {A : Hp} {a : Addr} {xs : List V} {ds : List D} (h : SqT K A a xs) (q : DaL K so A ds xs) : Turns K so A (Itt K a) ds := by
  refine ⟨fun A' H' sb gd i d e => ?_, fun A' H' sb gd => ⟨xs, Sub.sqT gd.sub (Sub.sqT sb h), by rw [q.len]; exact Nat.le_refl _⟩⟩
  obtain ⟨v, e2, dv⟩ := q.get e
  have hs := Sub.sqT gd.sub (Sub.sqT sb h)
  refine ⟨⟨xs, v, hs, e2⟩, fun x H2 y => ?_⟩
  obtain ⟨e3, y⟩ := y
  subst e3
  have z := y xs hs
  rw [e2] at z
  cases z
  exact ⟨A', Ext.refl gd, Da.mono sb _ _ dv⟩
def rangeD (lo : Int) (n : Nat) : List D := (List.range n).map fun i => .int (lo + (i : Nat))
theorem turns_range {K : PySem.W.Frag} {so : Option Addr} {A : Hp} {lo : Int} {n : Nat} : Turns K so A (Itr lo n) (rangeD lo n) := by
  refine ⟨fun A' H' sb gd i d e => ?_, fun A' H' sb gd => ?_⟩
  · unfold rangeD at e
    rw [List.getElem?_map] at e
    have hi : i < n := by
      cases h : (List.range n)[i]? with
      | none =>
        rw [h] at e
        cases e
      | some j =>
        have := (List.getElem?_eq_some_iff.mp h).1
        rw [List.length_range] at this
        exact this
    rw [List.getElem?_range hi] at e
    cases e
    refine ⟨hi, fun x H2 y => ?_⟩
    obtain ⟨rfl, rfl⟩ := y
    exact ⟨A', Ext.refl gd, rfl⟩
  · unfold rangeD
    rw [List.length_map, List.length_range]
    exact Nat.le_refl _
/-- enumerate of a list -/
def enumD : Nat → List D → List D
  | _, [] => []
  | k, d :: l => .tup [.int (k : Nat), d] :: enumD (k + 1) l
theorem enumD_len : ∀ (l : List D) (k : Nat), (enumD k l).length = l.length
  | [], _ => rfl
  | d :: l, k => by
    show (enumD (k + 1) l).length + 1 = l.length + 1
    rw [enumD_len l]
theorem enumD_get : ∀ (l : List D) (k i : Nat), (enumD k l)[i]? = l[i]?.map fun d => .tup [.int ((k + i : Nat) : Int), d]
  | [], _, _ => rfl
  | d :: l, k, 0 => rfl
  | d :: l, k, i + 1 => by
    show (enumD (k + 1) l)[i]? = _
    rw [enumD_get l (k + 1) i]
    show _ = l[i]?.map _
    have e : k + 1 + i = k + (i + 1) := by omega
    rw [e]
theorem turns_enum {K : PySem.W.Frag} {so : Option Addr} {A : Hp} {a : Addr} {xs : List V} {ds : List D} (h : SqL K A a xs) (q : DaL K so A ds xs) : Turns K so A (Ite K a) (enumD 0 ds) := by
  refine ⟨fun A' H' sb gd i d e => ?_, fun A' H' sb gd => ⟨xs, Sub.sqL gd.sub (Sub.sqL sb h), by rw [q.len, enumD_len]; exact Nat.le_refl _⟩⟩
  rw [enumD_get, Nat.zero_add] at e
  cases hd : ds[i]? with
  | none =>
    rw [hd] at e
    cases e
  | some c =>
    rw [hd] at e
    cases e
    obtain ⟨v, e2, dv⟩ := q.get hd
    have hs := Sub.sqL gd.sub (Sub.sqL sb h)
    refine ⟨⟨xs, v, hs, e2⟩, fun x H2 y => ?_⟩
    obtain ⟨T, x', rfl, hT, rfl, y⟩ := y
    have z := y xs hs
    rw [e2] at z
    cases z
    have x1 := Ext.laid (o := .tup [.int (i : Nat), v]) gd hT
    exact ⟨_, x1, T, _, rfl, SqT.of upd_same, .int (i : Nat), [v], rfl, rfl, v, [], rfl, x1.da (Da.mono sb _ _ dv), rfl⟩
def zipD : List D → List D → List D
  | d :: l, c :: m => .tup [d, c] :: zipD l m
  | _, _ => []
theorem zipD_get : ∀ (l m : List D) (i : Nat) (d : D), (zipD l m)[i]? = some d → ∃ x y, l[i]? = some x ∧ m[i]? = some y ∧ d = .tup [x, y]
  | [], _, _, _, e => by simp [zipD] at e
  | _ :: _, [], _, _, e => by simp [zipD] at e
  | x :: l, y :: m, 0, d, e => by
    simp [zipD] at e
    exact ⟨x, y, rfl, rfl, e.symm⟩
  | x :: l, y :: m, i + 1, d, e => by
    obtain ⟨a, b, h1, h2, h3⟩ := zipD_get l m i d (by simpa [zipD] using e)
    exact ⟨a, b, by simpa using h1, by simpa using h2, h3⟩
theorem zipD_len : ∀ (l m : List D), l.length ≤ (zipD l m).length ∨ m.length ≤ (zipD l m).length
  | [], _ => .inl (Nat.zero_le _)
  | _ :: _, [] => .inr (Nat.zero_le _)
  | x :: l, y :: m => by
    rcases zipD_len l m with h | h
    · exact .inl (Nat.succ_le_succ h)
    · exact .inr (Nat.succ_le_succ h)
theorem turns_zip {K : PySem.W.Frag} {so : Option Addr} {A : Hp} {a b : Addr} {xs ys : List V} {ds es : List D} (h : SqL K A a xs) (h2 : SqL K A b ys) (q : DaL K so A ds xs) (q2 : DaL K so A es ys) : Turns K so A (Itz K a b) (zipD ds es) := by
  refine ⟨fun A' H' sb gd i d e => ?_, fun A' H' sb gd => ⟨xs, ys, Sub.sqL gd.sub (Sub.sqL sb h), Sub.sqL gd.sub (Sub.sqL sb h2), by rw [q.len, q2.len]; exact zipD_len _ _⟩⟩
  obtain ⟨c1, c2, g1, g2, rfl⟩ := zipD_get _ _ _ _ e
  obtain ⟨v, e2, dv⟩ := q.get g1
  obtain ⟨u, e3, du⟩ := q2.get g2
  have hs := Sub.sqL gd.sub (Sub.sqL sb h)
  have hs2 := Sub.sqL gd.sub (Sub.sqL sb h2)
  refine ⟨⟨xs, ys, v, u, hs, hs2, e2, e3⟩, fun x H2 y => ?_⟩
  obtain ⟨T, x', y', rfl, hT, rfl, z1, z2⟩ := y
  have w1 := z1 xs hs
  rw [e2] at w1
  cases w1
  have w2 := z2 ys hs2
  rw [e3] at w2
  cases w2
  have x1 := Ext.laid (o := .tup [v, u]) gd hT
  exact ⟨_, x1, T, _, rfl, SqT.of upd_same, v, [u], rfl, x1.da (Da.mono sb _ _ dv), u, [], rfl, x1.da (Da.mono sb _ _ du), rfl⟩
/-- what a value is walked as -/
def onL (d : D) (Q : List D → Prop) : Prop := match d with
  | .lst l => Q l
  | _ => False
def onT (d : D) (Q : List D → Prop) : Prop := match d with
  | .tup l => Q l
  | _ => False
def iL (r : DE) : DL := fun ρ Q E => r ρ (fun d => onL d Q) E
def iT (r : DE) : DL := fun ρ Q E => r ρ (fun d => onT d Q) E
def iR1 (t : DL) : DL := fun ρ Q E => t ρ (fun ds => match ds with
  | [.int j] => j < 2 ^ 62 ∧ -(2 ^ 62) ≤ j ∧ Q (rangeD 0 j.toNat)
  | _ => False) E
def iR2 (t : DL) : DL := fun ρ Q E => t ρ (fun ds => match ds with
  | [.int i, .int j] => (-(2 ^ 62) ≤ i ∧ i < 2 ^ 62 ∧ -(2 ^ 62) ≤ j ∧ j < 2 ^ 62) ∧ Q (rangeD i (j - i).toNat)
  | _ => False) E
def iEn (t : DL) : DL := fun ρ Q E => t ρ (fun ds => match ds with
  | [.lst l] => Q (enumD 0 l)
  | _ => False) E
def iZp (t : DL) : DL := fun ρ Q E => t ρ (fun ds => match ds with
  | [.lst l, .lst m] => Q (zipD l m)
  | _ => False) E
section
variable {X : Cx} {g : Gx} {EX : EXT} {e a b tg iter : Expr} {es : List Expr} {r ra rb : DE} {pos p : Pos} {t ri : DL} {st : Stmt} {body : List Stmt} {rs rs' : DS} {gr : DG}
theorem pdi_list (h : PD X g EX e r) : PDI X g EX tg e (iL r) := ⟨(pi_list h.pe).imp fun σ H R q => by
  obtain ⟨A, ρ, Qd, Ed, S, q, cx, k⟩ := q
  refine ⟨A, ρ, _, Ed, S, q, fun d v A1 H1 x1 da q => ?_, cx⟩
  have q : onL d Qd := q
  unfold onL at q
  split at q
  · obtain ⟨p, xs, rfl, hs, qa⟩ := da
    exact ⟨p, rfl, ⟨xs, SqL.of (x1.good.sub _ _ hs)⟩, k _ _ A1 H1 x1 (turns_list (SqL.of hs) qa) q⟩
  · exact q.elim⟩
theorem pdi_tup (h : PD X g EX e r) : PDI X g EX tg e (iT r) := ⟨(pi_tup h.pe).imp fun σ H R q => by
  obtain ⟨A, ρ, Qd, Ed, S, q, cx, k⟩ := q
  refine ⟨A, ρ, _, Ed, S, q, fun d v A1 H1 x1 da q => ?_, cx⟩
  have q : onT d Qd := q
  unfold onT at q
  split at q
  · obtain ⟨p, xs, rfl, hs, qa⟩ := da
    exact ⟨p, rfl, ⟨xs, Sub.sqT x1.good.sub hs⟩, k _ _ A1 H1 x1 (turns_tup hs qa) q⟩
  · exact q.elim⟩
theorem pdi_range1 (hg : Gl X "range") (hm : X.mg "range" = none) (ha : PDA X g EX [a] t) (hs : starEach [a] X.env = [(false, eval a X.env)] := by rfl) : PDI X g EX tg (.Call (.Name "range" p) [a] [] pos) (iR1 t) := ⟨(pi_range1 hg hm ha.pa hs).imp fun σ H R q => by
  obtain ⟨A, ρ, Qd, Ed, S, q, cx, k⟩ := q
  refine ⟨A, ρ, _, Ed, S, q, fun ds vs A1 H1 x1 das q => ?_, cx⟩
  dsimp only at q
  split at q
  · obtain ⟨v, rfl, dv⟩ := das.one'
    have dv : v = _ := dv
    subst dv
    exact ⟨_, rfl, q.2.1, q.1, k _ _ A1 H1 x1 turns_range q.2.2⟩
  · exact q.elim⟩
theorem pdi_range2 (hg : Gl X "range") (hm : X.mg "range" = none) (ha : PDA X g EX [a, b] t) (hs : starEach [a, b] X.env = [(false, eval a X.env), (false, eval b X.env)] := by rfl) (hs2 : starEach [b] X.env = [(false, eval b X.env)] := by rfl) : PDI X g EX tg (.Call (.Name "range" p) [a, b] [] pos) (iR2 t) := ⟨(pi_range2 hg hm ha.pa hs hs2).imp fun σ H R q => by
  obtain ⟨A, ρ, Qd, Ed, S, q, cx, k⟩ := q
  refine ⟨A, ρ, _, Ed, S, q, fun ds vs A1 H1 x1 das q => ?_, cx⟩
  dsimp only at q
  split at q
  · obtain ⟨v, w, rfl, dv, dw⟩ := das.two'
    have dv : v = _ := dv
    have dw : w = _ := dw
    subst dv dw
    exact ⟨_, _, rfl, q.1, k _ _ A1 H1 x1 turns_range q.2⟩
  · exact q.elim⟩
theorem pdi_enum {elts : List Expr} {kk : Nat} {tpos : Pos} (hg : Gl X "enumerate") (hm : X.mg "enumerate" = none) (ha : PDA X g EX [e] t) (hs : starEach [e] X.env = [(false, eval e X.env)] := by rfl) : PDI X g EX (.Tuple elts kk tpos) (.Call (.Name "enumerate" p) [e] [] pos) (iEn t) := ⟨(pi_enum hg hm ha.pa hs).imp fun σ H R q => by
  obtain ⟨A, ρ, Qd, Ed, S, q, cx, k⟩ := q
  refine ⟨A, ρ, _, Ed, S, q, fun ds vs A1 H1 x1 das q => ?_, cx⟩
  dsimp only at q
  split at q
  · obtain ⟨v, rfl, a', xs, rfl, hs', qa⟩ := das.one'
    exact ⟨a', xs, rfl, SqL.of (x1.good.sub _ _ hs'), k _ _ A1 H1 x1 (turns_enum (SqL.of hs') qa) q⟩
  · exact q.elim⟩
theorem pdi_zip {elts : List Expr} {kk : Nat} {tpos : Pos} (hg : Gl X "zip") (hm : X.mg "zip" = none) (ha : PDA X g EX [a, b] t)
    (hs : starEach [a, b] X.env = (false, eval a X.env) :: starEach [b] X.env := by rfl) (hpl : (backTo pos (starEach [b] X.env)).any (·.1) = false := by rfl) : PDI X g EX (.Tuple elts kk tpos) (.Call (.Name "zip" p) [a, b] [] pos) (iZp t) := ⟨(pi_zip hg hm ha.pa hs hpl).imp fun σ H R q => by
  obtain ⟨A, ρ, Qd, Ed, S, q, cx, k⟩ := q
  refine ⟨A, ρ, _, Ed, S, q, fun ds vs A1 H1 x1 das q => ?_, cx⟩
  dsimp only at q
  split at q
  · obtain ⟨v, r1, e1, ⟨a', xs, e2, ha', qa⟩, r2⟩ := das
    obtain ⟨u, e3, ⟨b', ys, e4, hb', qb⟩⟩ := DaL.one' r2
    subst e1 e2 e3 e4
    exact ⟨a', b', xs, ys, rfl, SqL.of (x1.good.sub _ _ ha'), SqL.of (x1.good.sub _ _ hb'), k _ _ A1 H1 x1 (turns_zip (SqL.of ha') (SqL.of hb') qa qb) q⟩
  · exact q.elim⟩
/-- for: over the data, one after another -/
def forL (gr : DG) (body : DS) (DD : DEnds) : List D → DEnv → Prop
  | [], ρ => DD.nx ρ
  | d :: ds, ρ => gr d ρ fun ρ1 => body { DD with nx := forL gr body DD ds, ct := forL gr body DD ds, bk := DD.nx } ρ1
def sFor (ri : DL) (gr : DG) (body : DS) : DS := fun DD ρ => ri ρ (fun ds => forL gr body DD ds ρ) DD.ex
theorem pds_for (hp : PassesOwn (model X.prog X.w) X.A X.env X.xe) (hc : X.calm = true) (hi : PDI X g EX tg iter ri) (hg : PDG X g tg gr) (hb : PDSs X g EX body rs)
    (hs : ∀ x, foldedSetIterable iter X.env x = pure x := by intro _; rfl) : PDS X g EX (.For tg iter body [] pos) (sFor ri gr rs) := ⟨(ps_for hp hc hi.pi hg.pg hb.pss hs).imp fun De σ H h => by
  obtain ⟨A, ρ, DD, S, h, k⟩ := h
  refine ⟨A, ρ, _, _, S, h, k.cx S, fun ds J A1 H1 x1 T q => ?_⟩
  refine ⟨fun i m σ' H' => ∃ A' ρ', Stt X.K g A' H' σ' ρ' ∧ Sub A1 A' ∧ ρ'.length = ρ.length ∧ m + i = ds.length ∧ forL gr rs DD (ds.drop i) ρ', ⟨ds.length, A1, ρ, S.ext x1, fun _ _ z => z, rfl, rfl, q⟩, ?_⟩
  rintro i m σ2 H2 ⟨A2, ρ2, S2, sb, l2, hm, q2⟩
  cases hd : ds[i]? with
  | none =>
    have hi : ds.length ≤ i := List.getElem?_eq_none_iff.mp hd
    have e : i = ds.length := by omega
    subst e
    rw [List.drop_length] at q2
    exact .inl ⟨T.stop A2 H2 sb S2.good, k.nx A2 H2 σ2 ρ2 S2 l2 (x1.mono.trans sb) q2⟩
  | some d =>
    have hi : i < ds.length := (List.getElem?_eq_some_iff.mp hd).1
    have ed : ds.drop i = d :: ds.drop (i + 1) := by
      rw [List.drop_eq_getElem_cons hi]
      rw [List.getElem?_eq_getElem hi] at hd
      cases hd
      rfl
    rw [ed] at q2
    obtain ⟨go, yl⟩ := T.go A2 H2 sb S2.good i d hd
    refine .inr ⟨go, fun σ' H' => ∃ A' ρ', Stt X.K g A' H' σ' ρ' ∧ Sub A1 A' ∧ ρ'.length = ρ.length ∧ forL gr rs DD (ds.drop (i + 1)) ρ', fun σ' H' ⟨A', ρ', S', sb', l', q'⟩ => ⟨m - 1, by omega, A', ρ', S', sb', l', by omega, q'⟩, fun x H3 y => ?_⟩
    obtain ⟨A3, x3, da⟩ := yl x H3 y
    refine ⟨A3, ρ2, d, _, S2.ext x3, da, q2, fun σ4 ρ4 S4 l4 q4 => ?_⟩
    have sb3 := sb.trans x3.mono
    refine ⟨A3, ρ4, _, S4, q4, ⟨fun A5 H5 σ5 ρ5 S5 l5 sb5 q5 => ⟨A5, ρ5, S5, sb3.trans sb5, (l5.trans l4).trans l2, q5⟩, k.rt, fun A5 H5 σ5 ρ5 S5 l5 sb5 q5 => k.nx A5 H5 σ5 ρ5 S5 ((l5.trans l4).trans l2) (x1.mono.trans (sb3.trans sb5)) q5,
      fun A5 H5 σ5 ρ5 S5 l5 sb5 q5 => ⟨A5, ρ5, S5, sb3.trans sb5, (l5.trans l4).trans l2, q5⟩, fun σ5 h5 => k.ex σ5 (h5.trans (l4.trans l2)), k.fr⟩⟩⟩
/-- while -/
def sWhile (c : DT) (body : DS) : DS := fun DD ρ => ∃ W : Nat → DEnv → Prop, (∃ m, W m ρ) ∧ ∀ m ρ, W m ρ → c ρ (fun b => if b = true then ∃ N : DEnv → Prop, (∀ ρ', N ρ' → ∃ m', m' < m ∧ W m' ρ') ∧ body { DD with nx := N, ct := N, bk := DD.nx } ρ else DD.nx ρ) DD.ex
theorem pds_while {c : Expr} {tc : DT} (hp : PassesOwn (model X.prog X.w) X.A X.env X.xe) (hc : PDT X g EX c tc) (hb : PDSs X g EX body rs) : PDS X g EX (.While c body [] pos) (sWhile tc rs) := ⟨(ps_while hp hc.pt hb.pss).imp fun De σ H h => by
  obtain ⟨A, ρ, DD, S, ⟨W, ⟨m0, w0⟩, turn⟩, k⟩ := h
  refine ⟨fun m σ' H' => ∃ A' ρ', Stt X.K g A' H' σ' ρ' ∧ Sub A A' ∧ ρ'.length = ρ.length ∧ W m ρ', ⟨m0, A, ρ, S, Sub.rfl', rfl, w0⟩, ?_⟩
  rintro m σ1 H1 ⟨A1, ρ1, S1, sb1, l1, w1⟩
  refine ⟨A1, ρ1, _, _, S1, turn m ρ1 w1, fun b A2 H2 x2 q => ?_, (k.ex σ1 (S1.e.len.trans l1)).ext S1.x⟩
  have S2 := S1.ext x2
  have sb2 := sb1.trans x2.mono
  cases b with
  | true =>
    obtain ⟨N, hN, q⟩ := outT q
    refine iteT ⟨fun σ' H' => ∃ A' ρ', Stt X.K g A' H' σ' ρ' ∧ Sub A A' ∧ ρ'.length = ρ.length ∧ N ρ', fun σ' H' ⟨A', ρ', S', sb', l', n'⟩ => ?_, A2, ρ1, _, S2, q, ?_⟩
    · obtain ⟨m', lt, w'⟩ := hN ρ' n'
      exact ⟨m', lt, A', ρ', S', sb', l', w'⟩
    · exact ⟨fun A5 H5 σ5 ρ5 S5 l5 sb5 q5 => ⟨A5, ρ5, S5, sb2.trans sb5, l5.trans l1, q5⟩, k.rt, fun A5 H5 σ5 ρ5 S5 l5 sb5 q5 => k.nx A5 H5 σ5 ρ5 S5 (l5.trans l1) (sb2.trans sb5) q5,
        fun A5 H5 σ5 ρ5 S5 l5 sb5 q5 => ⟨A5, ρ5, S5, sb2.trans sb5, l5.trans l1, q5⟩, fun σ5 h5 => k.ex σ5 (h5.trans l1), k.fr⟩
  | false => exact iteF (k.nx A2 H2 σ1 ρ1 S2 l1 sb2 (outF q))⟩
end
end My
namespace My
open PySem PySem.Spec PyProof.Rows L2
/-! ### owned lists: read, changed, frozen -/
def owS (o : Option Sl) (Q : List D → Prop) : Prop := match o with
  | some (.ow l) => Q l
  | _ => False
theorem owS.out {o : Option Sl} {Q : List D → Prop} (h : owS o Q) : ∃ l, o = some (.ow l) ∧ Q l := by
  unfold owS at h
  split at h
  · exact ⟨_, rfl, h⟩
  · exact h.elim
theorem EnvOk.ow {K : PySem.W.Frag} {so : Option Addr} {Hi A H : Hp} {σ : L2.St} {ρ : DEnv} {i : Nat} {l : List D} (h : EnvOk K so Hi A H σ ρ) (e : ρ[i]? = some (.ow l)) :
    ∃ a xs, σ[i]? = some (some (.ref a)) ∧ H a = some (.lst xs) ∧ A a = none ∧ Hi a = none ∧ so ≠ some a ∧ DaL K so A l xs := by
  obtain ⟨o, e2, a, xs, e3, r⟩ := h.ok i _ e
  exact ⟨a, xs, by rw [e2, e3], r⟩
/-- slot i's list is another one now -/
theorem Stt.mutOw {K : PySem.W.Frag} {g : Gx} {A H : Hp} {σ : L2.St} {ρ : DEnv} {i : Nat} {a : Addr} {l m : List D} {ys : List V} (S : Stt K g A H σ ρ) (e : ρ[i]? = some (.ow l)) (es : σ[i]? = some (some (.ref a)))
    (ha : A a = none) (hi : g.Hi a = none) (hs : g.so ≠ some a) (q : DaL K g.so A m ys) : Stt K g A (upd H a (.lst ys)) σ (ρ.set i (.ow m)) :=
  ⟨S.x.mut hi ha hs, S.e.mutOw (sl := .ow l) rfl e es ⟨a, ys, rfl, upd_same, ha, hi, hs, q⟩⟩
theorem Stt.frz {K : PySem.W.Frag} {g : Gx} {A H : Hp} {σ : L2.St} {ρ : DEnv} {i : Nat} {l : List D} (S : Stt K g A H σ ρ) (e : ρ[i]? = some (.ow l)) : ∃ A', Sub A A' ∧ Stt K g A' H σ (ρ.set i (.fr (.lst l))) := by
  obtain ⟨a, xs, es, ha, na, ni, ns, q⟩ := S.e.ow e
  have x1 := S.x.frz ni na ha ns
  have sb : Sub A (upd A a (.lst xs)) := fun b o h => by
    rw [upd_ne (ne_of_none h na)]
    exact h
  refine ⟨_, sb, x1, ⟨by rw [List.length_set]; exact S.e.len, fun j sl ej => ?_, fun j k sl1 sl2 b n e1 e2 o1 o2 s1 s2 => ?_⟩⟩
  · by_cases z : i = j
    · subst z
      have hi : i < ρ.length := (List.getElem?_eq_some_iff.mp e).1
      rw [List.getElem?_set_self hi] at ej
      cases ej
      exact ⟨_, es, .ref a, rfl, a, xs, rfl, upd_same, DaL.mono sb _ _ q⟩
    · rw [List.getElem?_set_ne z] at ej
      obtain ⟨o, e2, ok⟩ := S.e.ok j sl ej
      refine ⟨o, e2, ?_⟩
      cases sl with
      | no => exact trivial
      | fr d =>
        obtain ⟨v, e3, dv⟩ := ok
        exact ⟨v, e3, Da.mono sb _ _ dv⟩
      | ow m =>
        obtain ⟨a2, ys, e3, h2, n2, i2, s2, q2⟩ := ok
        have na2 : a2 ≠ a := fun w => S.e.dj i j _ _ a z e ej rfl rfl es (by rw [e2, e3, w])
        exact ⟨a2, ys, e3, h2, by rw [upd_ne na2]; exact n2, i2, s2, DaL.mono sb _ _ q2⟩
      | od ks vs =>
        obtain ⟨a2, ys, e3, h2, n2, i2, s2, q2⟩ := ok
        have na2 : a2 ≠ a := fun w => S.e.dj i j _ _ a z e ej rfl rfl es (by rw [e2, e3, w])
        exact ⟨a2, ys, e3, h2, by rw [upd_ne na2]; exact n2, i2, s2, DaL.mono sb _ _ q2⟩
  · have look : ∀ (m : Nat) (sl3 : Sl), (ρ.set i (.fr (.lst l)))[m]? = some sl3 → sl3.own = true → ρ[m]? = some sl3 := fun m sl3 em om => by
      by_cases z : i = m
      · subst z
        have hi : i < ρ.length := (List.getElem?_eq_some_iff.mp e).1
        rw [List.getElem?_set_self hi] at em
        cases em
        cases om
      · rw [List.getElem?_set_ne z] at em
        exact em
    exact S.e.dj j k sl1 sl2 b n (look _ _ e1 o1) (look _ _ e2 o2) o1 o2 s1 s2
section
variable {X : Cx} {g : Gx} {EX : EXT} {e a b tg iter : Expr} {es : List Expr} {r ra rb : DE} {pos p apos : Pos} {t ri : DL} {st : Stmt} {body rest : List Stmt} {rs rs' : DS} {gr : DG}
/-- a step that is no statement: slot i is frozen -/
def sFrz (i : Nat) (r : DS) : DS := fun DD ρ => owS ρ[i]? fun l => r DD (ρ.set i (.fr (.lst l)))
theorem pds_frz (i : Nat) (h : PDSs X g EX rest rs) : PDSs X g EX rest (sFrz i rs) := ⟨h.pss.imp fun De σ H q => by
  obtain ⟨A, ρ, DD, S, q, k⟩ := q
  obtain ⟨l, e, q⟩ := q.out
  obtain ⟨A1, sb, S1⟩ := S.frz e
  exact ⟨A1, _, DD, S1, q, by rw [List.length_set]; exact k.up sb⟩⟩
/-- x.append(e), x owned -/
def sApp (i : Nat) (r : DE) : DS := fun DD ρ => owS ρ[i]? fun l => r ρ (fun d => l.length < sizeLine ∧ DD.nx (ρ.set i (.ow (l ++ [d])))) DD.ex
theorem pds_app {i : Nat} {o : Expr} (ho : PE X o (tVar i)) (he : PD X g EX e r)
    (hbase : attributeBase o "append" X.env (eval o X.env) = eval o X.env) (hline : (apos.endLine == pos.line) = true)
    (hfew : ((backTo pos (starEach [e] X.env)).all (fun x => !x.1) && (backToKw pos (keywordEach [] X.env)).all (fun x => x.1.isSome)
      && decide ([e].length + ([] : List Keyword).length + (if ([] : List Keyword).isEmpty then 0 else 1) < 30)) = true)
    (hs : starEach [e] X.env = (false, eval e X.env) :: starEach [] X.env) (hpl : (backTo pos (starEach [] X.env)).any (·.1) = false) {pos' : Pos} (hw : swapsWith (.Call (.Attribute o "append" apos) [e] [] pos) none pos'.line X.env = pure false) :
    PDS X g EX (.Expr (.Call (.Attribute o "append" apos) [e] [] pos) pos') (sApp i r) := ⟨(ps_expr (pe_bm PySem.F.plainAttrs_list PySem.F.slot_list_append PySem.F.type_list_append mt_append ho (pa_cons he.pe pa_nil hs) hbase hfew hline hs hpl) hw).imp fun De σ H q => by
  obtain ⟨A, ρ, DD, S, q, k⟩ := q
  obtain ⟨l, el, q⟩ := q.out
  obtain ⟨a, xs, es, ha, na, ni, ns, qa⟩ := S.e.ow el
  refine ⟨.ref a, es, .inl ⟨rfl, xs, SqL.of ha⟩, A, ρ, _, _, S, q, fun d v A1 H1 x1 da q => ?_, k.cx S⟩
  have S1 := S.ext x1
  refine ⟨a, xs, v, rfl, rfl, x1.kept a _ ns ha, by rw [qa.len]; exact q.1, ?_⟩
  exact k.nx A1 _ σ _ (S1.mutOw el es (x1.unfrozen na ha) ni ns ((x1.daL qa).app (DaL.one da))) (List.length_set ..) x1.mono q.2⟩
/-- x.insert(i, e), x owned -/
def sIns (i : Nat) (t : DL) : DS := fun DD ρ => owS ρ[i]? fun l => t ρ (fun ds => match ds with
  | [.int j, d] => 0 ≤ j ∧ j < 2 ^ 63 ∧ l.length < sizeLine ∧ DD.nx (ρ.set i (.ow (l.take j.toNat ++ [d] ++ l.drop j.toNat)))
  | _ => False) DD.ex
theorem pds_ins {i : Nat} {o : Expr} (ho : PE X o (tVar i)) (he : PDA X g EX [a, b] t)
    (hbase : attributeBase o "insert" X.env (eval o X.env) = eval o X.env) (hline : (apos.endLine == pos.line) = true)
    (hs : starEach [a, b] X.env = (false, eval a X.env) :: starEach [b] X.env) (hpl : (backTo pos (starEach [b] X.env)).any (·.1) = false)
    (hfew : ((backTo pos (starEach [a, b] X.env)).all (fun x => !x.1) && (backToKw pos (keywordEach [] X.env)).all (fun x => x.1.isSome)
      && decide ([a, b].length + ([] : List Keyword).length + (if ([] : List Keyword).isEmpty then 0 else 1) < 30)) = true) {pos' : Pos}
    (hw : swapsWith (.Call (.Attribute o "insert" apos) [a, b] [] pos) none pos'.line X.env = pure false) :
    PDS X g EX (.Expr (.Call (.Attribute o "insert" apos) [a, b] [] pos) pos') (sIns i t) := ⟨(ps_expr (pe_bm PySem.F.plainAttrs_list PySem.F.slot_list_insert PySem.F.type_list_insert mt_insert ho he.pa hbase hfew hline hs hpl) hw).imp fun De σ H q => by
  obtain ⟨A, ρ, DD, S, q, k⟩ := q
  obtain ⟨l, el, q⟩ := q.out
  obtain ⟨a, xs, es, ha, na, ni, ns, qa⟩ := S.e.ow el
  refine ⟨.ref a, es, .inl ⟨rfl, xs, SqL.of ha⟩, A, ρ, _, _, S, q, fun ds vs A1 H1 x1 das q => ?_, k.cx S⟩
  have S1 := S.ext x1
  dsimp only at q
  split at q
  · obtain ⟨v, w, rfl, dv, dw⟩ := das.two'
    have dv : v = _ := dv
    subst dv
    refine ⟨a, xs, _, w, rfl, rfl, x1.kept a _ ns ha, by rw [qa.len]; exact q.2.2.1, q.1, q.2.1, ?_⟩
    exact k.nx A1 _ σ _ (S1.mutOw el es (x1.unfrozen na ha) ni ns ((((x1.daL qa).take _).app (DaL.one dw)).app ((x1.daL qa).drop _))) (List.length_set ..) x1.mono q.2.2.2
  · exact q.elim⟩
/-- x[k] = e, x owned -/
def sSetI (i : Nat) (r rk : DE) : DS := fun DD ρ => owS ρ[i]? fun l => r ρ (fun d => rk ρ (fun k => match k with
  | .int j => ∃ n, ixN l.length j = some n ∧ DD.nx (ρ.set i (.ow (l.set n d)))
  | _ => False) DD.ex) DD.ex
theorem pds_setI {i : Nat} {o k : Expr} {rk : DE} (ho : PE X o (tVar i)) (he : PD X g EX e r) (hk : PD X g EX k rk)
    (ha : ∀ v, assign (.Subscript o k p) X.env v = (do
      let ov ← holding [v] (eval o X.env)
      let iv ← holding [v, ov] (eval k X.env)
      standAt p
      holding [v, ov, iv] (setItem ov iv v)
      release [v, ov, iv] []) := by intro _; rfl)
    (hs : swapsWithSole [.Subscript o k p] e pos.line X.env = pure false := by rfl) (hw : swappedStores [.Subscript o k p] e X.env = pure none := by rfl)
    (h1 : (assignEach [.Subscript o k p] X.env).map (·.2) = [assign (.Subscript o k p) X.env] := by rfl) :
    PDS X g EX (.Assign [.Subscript o k p] e pos) (sSetI i r rk) := ⟨(ps_asg he.pe (pg_sub ho hk.pe set_list ha) hs hw h1).imp fun De σ H q => by
  obtain ⟨A, ρ, DD, S, q, kk⟩ := q
  obtain ⟨l, el, q⟩ := q.out
  obtain ⟨a, xs, es, ha, na, ni, ns, qa⟩ := S.e.ow el
  refine ⟨A, ρ, _, _, S, q, fun d v A1 H1 x1 da q => ?_, kk.cx S⟩
  have S1 := S.ext x1
  refine ⟨.ref a, es, A1, ρ, _, _, S1, q, fun dk vk A2 H2 x2 dak q2 => ?_, kk.cx S |>.ext x1⟩
  have S2 := S1.ext x2
  dsimp only at q2
  split at q2
  · obtain ⟨n, en, q2⟩ := q2
    have dak : vk = _ := dak
    subst dak
    have x12 := x1.trans x2
    refine ⟨a, xs, _, n, rfl, rfl, x12.kept a _ ns ha, by rw [qa.len]; exact en, ?_⟩
    exact kk.nx A2 _ σ _ (S2.mutOw el es (x12.unfrozen na ha) ni ns ((x12.daL qa).set n (x2.da da))) (List.length_set ..) x12.mono q2
  · exact q2.elim⟩
/-- len of an owned list, an item of an owned list -/
def dLenO (i : Nat) : DE := fun ρ Q _ => owS ρ[i]? fun l => Q (.int l.length)
theorem pd_lenO {i : Nat} {o : Expr} (hg : Gl X "len") (hm : X.mg "len" = none) (ho : PE X o (tVar i)) (he : starEach [o] X.env = (false, eval o X.env) :: starEach [] X.env := by rfl) (hpl : (backTo pos (starEach [] X.env)).any (·.1) = false := by rfl) :
    PD X g EX (.Call (.Name "len" p) [o] [] pos) (dLenO i) := ⟨(pe_callB c_len hg hm bt_len (pa_cons ho pa_nil he) (by decide) (by decide) he hpl).imp fun σ H Q q => by
  obtain ⟨A, ρ, Qd, Ed, S, q, c, cx⟩ := q
  obtain ⟨l, el, q⟩ := q.out
  obtain ⟨a, xs, es, ha, na, ni, ns, qa⟩ := S.e.ow el
  exact ⟨.ref a, es, a, xs, rfl, .inl (SqL.of ha), by rw [qa.len]; exact c.nowI S.good q⟩⟩
def dIxO (i : Nat) (rk : DE) : DE := fun ρ Q E => owS ρ[i]? fun l => rk ρ (fun k => match k with
  | .int j => ∃ d, atI l j = some d ∧ Q d
  | _ => False) E
theorem pd_ixO {i : Nat} {o k : Expr} {rk : DE} (ho : PE X o (tVar i)) (hk : PD X g EX k rk) (hs : PlainIx k) : PD X g EX (.Subscript o k pos) (dIxO i rk) := ⟨(pe_ix ix_list ho hk.pe hs).imp fun σ H Q q => by
  obtain ⟨A, ρ, Qd, Ed, S, q, c, cx⟩ := q
  obtain ⟨l, el, q⟩ := q.out
  obtain ⟨a, xs, es, ha, na, ni, ns, qa⟩ := S.e.ow el
  refine ⟨.ref a, es, A, ρ, _, _, S, q, fun dk vk A1 H1 x1 dak q => ?_, cx⟩
  dsimp only at q
  split at q
  · obtain ⟨d, ed, q⟩ := q
    have dak : vk = _ := dak
    subst dak
    obtain ⟨v, ev, dv⟩ := (x1.daL qa).atI ed
    exact ⟨a, xs, _, v, rfl, rfl, SqL.of (x1.kept a _ ns ha), ev, (c.ext x1).now x1.good dv q⟩
  · exact q.elim⟩
/-! ### comprehensions -/
def wipeD (ρ : DEnv) : List Nat → DEnv
  | [] => ρ
  | v :: vs => (wipeD ρ vs).set v .no
def EXF : EXT := fun _ _ _ _ => False
def compL (gr : DG) (tt : DT) (te : DE) (ρ : DEnv) (Q : List D → Prop) : List D → List D → Prop
  | [], acc => Q acc
  | d :: ds, acc => gr d ρ fun ρ2 => tt ρ2 (fun b => if b = true then te ρ2 (fun y => acc.length < sizeLine ∧ compL gr tt te ρ Q ds (acc ++ [y])) (fun _ => False) else compL gr tt te ρ Q ds acc) (fun _ => False)
def nComp (ri : DL) (gr : DG) (tt : DT) (te : DE) (vs : List Nat) : DL := fun ρ Q E => ri ρ (fun ds => compL gr tt te (wipeD ρ vs) Q ds []) E
def qYes : DT := fun _ Q _ => Q true
theorem wipe_len (σ : L2.St) : ∀ vs : List Nat, (wipe σ vs).length = σ.length := wipe_length σ
theorem wipeD_len (ρ : DEnv) : ∀ vs : List Nat, (wipeD ρ vs).length = ρ.length
  | [] => rfl
  | v :: vs => by
    show ((wipeD ρ vs).set v .no).length = _
    rw [List.length_set, wipeD_len ρ vs]
theorem wipeD_get (ρ : DEnv) : ∀ (vs : List Nat) (i : Nat) (sl : Sl), (wipeD ρ vs)[i]? = some sl → (i ∈ vs ∧ sl = .no) ∨ (i ∉ vs ∧ ρ[i]? = some sl)
  | [], i, sl, e => .inr ⟨by simp, e⟩
  | v :: vs, i, sl, e => by
    have e : ((wipeD ρ vs).set v .no)[i]? = some sl := e
    by_cases z : v = i
    · subst z
      have hi : v < (wipeD ρ vs).length := by
        have := (List.getElem?_eq_some_iff.mp e).1
        rw [List.length_set] at this
        exact this
      rw [List.getElem?_set_self hi] at e
      cases e
      exact .inl ⟨by simp, rfl⟩
    · rw [List.getElem?_set_ne z] at e
      rcases wipeD_get ρ vs i sl e with ⟨h1, h2⟩ | ⟨h1, h2⟩
      · exact .inl ⟨by simp [h1], h2⟩
      · refine .inr ⟨fun m => ?_, h2⟩
        rcases List.mem_cons.mp m with w | w
        · exact z w.symm
        · exact h1 w
theorem wipe_out (σ : L2.St) : ∀ (vs : List Nat) (i : Nat), i ∉ vs → (wipe σ vs)[i]? = σ[i]?
  | [], _, _ => rfl
  | v :: vs, i, n => by
    show ((wipe σ vs).set v none)[i]? = _
    rw [List.getElem?_set_ne (fun z => n (by simp [z])), wipe_out σ vs i (fun z => n (by simp [z]))]
theorem wipe_in (σ : L2.St) : ∀ (vs : List Nat) (i : Nat), i ∈ vs → i < σ.length → (wipe σ vs)[i]? = some none
  | [], _, m, _ => by simp at m
  | v :: vs, i, m, h => by
    show ((wipe σ vs).set v none)[i]? = _
    by_cases z : v = i
    · subst z
      rw [List.getElem?_set_self (by rw [wipe_len]; exact h)]
    · rw [List.getElem?_set_ne z]
      rcases List.mem_cons.mp m with w | w
      · exact absurd w.symm z
      · exact wipe_in σ vs i w h
theorem wipe_ext {σ τ : L2.St} {vs : List Nat} (hl : σ.length = τ.length) (h : ∀ i, i ∉ vs → σ[i]? = τ[i]?) : wipe σ vs = wipe τ vs := by
  refine List.ext_getElem? fun i => ?_
  by_cases m : i ∈ vs
  · by_cases hi : i < σ.length
    · rw [wipe_in σ vs i m hi, wipe_in τ vs i m (by rw [← hl]; exact hi)]
    · rw [List.getElem?_eq_none (by rw [wipe_len]; omega), List.getElem?_eq_none (by rw [wipe_len]; omega)]
  · rw [wipe_out σ vs i m, wipe_out τ vs i m, h i m]
theorem Stt.wipe {K : PySem.W.Frag} {g : Gx} {A H : Hp} {σ : L2.St} {ρ : DEnv} (S : Stt K g A H σ ρ) (vs : List Nat) : Stt K g A H (L2.wipe σ vs) (wipeD ρ vs) := by
  refine ⟨S.x, ⟨by rw [wipe_len, wipeD_len]; exact S.e.len, fun i sl e => ?_, fun i j sl sl' a n e1 e2 o1 o2 s1 s2 => ?_⟩⟩
  · rcases wipeD_get ρ vs i sl e with ⟨h1, rfl⟩ | ⟨h1, h2⟩
    · have hi : i < σ.length := by
        have := (List.getElem?_eq_some_iff.mp e).1
        rw [wipeD_len, ← S.e.len] at this
        exact this
      exact ⟨none, wipe_in σ vs i h1 hi, trivial⟩
    · rw [wipe_out σ vs i h1]
      exact S.e.ok i sl h2
  · rcases wipeD_get ρ vs i sl e1 with ⟨h1, rfl⟩ | ⟨h1, h2⟩
    · cases o1
    · rcases wipeD_get ρ vs j sl' e2 with ⟨h3, rfl⟩ | ⟨h3, h4⟩
      · cases o2
      · rw [wipe_out σ vs i h1] at s1
        rw [wipe_out σ vs j h3] at s2
        exact S.e.dj i j sl sl' a n h2 h4 o1 o2 s1 s2
end
/-- a target whose slots are the comprehension's own -/
def lGw (K : PySem.W.Frag) (g : Gx) (vs : List Nat) (r : DG) : TG := fun v σ H R => ∃ A ρ d Rd, Stt K g A H σ ρ ∧ Da K g.so A d v ∧ r d ρ Rd ∧ ∀ σ' ρ', Stt K g A H σ' ρ' → ρ'.length = ρ.length → L2.wipe σ' vs = L2.wipe σ vs → Rd ρ' → R σ' H
def lGsw (K : PySem.W.Frag) (g : Gx) (vs : List Nat) (r : DGs) : TGs := fun us σ H R => ∃ A ρ ds Rd, Stt K g A H σ ρ ∧ DaL K g.so A ds us ∧ r ds ρ Rd ∧ ∀ σ' ρ', Stt K g A H σ' ρ' → ρ'.length = ρ.length → L2.wipe σ' vs = L2.wipe σ vs → Rd ρ' → R σ' H
structure PDGw (X : Cx) (g : Gx) (vs : List Nat) (e : Expr) (r : DG) : Prop where
  pg : PG X e (lGw X.K g vs r)
structure PDGsw (X : Cx) (g : Gx) (vs : List Nat) (es : List Expr) (r : DGs) : Prop where
  pgs : PGs X es (lGsw X.K g vs r)
section
variable {X : Cx} {g : Gx} {EX : EXT} {e a b tg iter : Expr} {es : List Expr} {r ra rb : DE} {pos p apos : Pos} {t ri : DL} {gr : DG} {tt : DT} {te : DE} {vs : List Nat}
theorem pdgw_name {i : Nat} (h : PG X e (gName i)) (hi : i ∈ vs := by simp) : PDGw X g vs e (gdName i) := ⟨h.imp fun v σ H R q => by
  obtain ⟨A, ρ, d, Rd, S, da, q, k⟩ := q
  refine k _ _ (S.setFr da) (List.length_set ..) (wipe_ext (List.length_set ..) fun j n => ?_) q
  rw [List.getElem?_set_ne fun z => n (by rw [← z]; exact hi)]⟩
theorem pdgsw_nil : PDGsw X g vs [] gdNil := ⟨pgs_nil.imp fun v σ H R q => by
  obtain ⟨A, ρ, ds, Rd, S, da, q, k⟩ := q
  obtain ⟨rfl, q⟩ := q
  exact ⟨da, k _ _ S rfl rfl q⟩⟩
theorem pdgsw_cons {gr : DG} {gu : DGs} (h1 : PDGw X g vs e gr) (h2 : PDGsw X g vs es gu) (hs : (assignEach (e :: es) X.env).map (·.2) = assign e X.env :: (assignEach es X.env).map (·.2) := by rfl) : PDGsw X g vs (e :: es) (gdCons gr gu) := ⟨(pgs_cons h1.pg h2.pgs hs).imp fun v σ H R q => by
  obtain ⟨A, ρ, ds, Rd, S, da, q, k⟩ := q
  cases ds with
  | nil => exact q.elim
  | cons d dr =>
    obtain ⟨x, xr, e1, d1, d2⟩ := da
    subst e1
    refine ⟨x, xr, rfl, A, ρ, d, _, S, d1, q, fun σ1 ρ1 S1 l w1 q1 => ?_⟩
    exact ⟨A, ρ1, dr, Rd, S1, d2, q1, fun σ2 ρ2 S2 l2 w2 q2 => k σ2 ρ2 S2 (l2.trans l) (w2.trans w1) q2⟩⟩
theorem pdgw_tup {gu : DGs} {n k : Nat} (hc : X.calm = true) (h : PDGsw X g vs es gu) (hn : (assignEach es X.env).length = n := by rfl) (hst : (assignEach es X.env).findIdx? (·.1) = none := by rfl) : PDGw X g vs (.Tuple es k pos) (gdTup n gu) := ⟨(pg_tup hc h.pgs hn hst).imp fun v σ H R q => by
  obtain ⟨A, ρ, d, Rd, S, da, q, k⟩ := q
  unfold gdTup at q
  split at q
  · obtain ⟨a, xs, rfl, hs, qa⟩ := da
    exact ⟨a, xs, rfl, Sub.sqT S.good.sub hs, by rw [qa.len]; exact q.1, A, ρ, _, Rd, S, qa, q.2, k⟩
  · exact q.elim⟩
/-- a clause's tests -/
structure PDTs (X : Cx) (g : Gx) (EX : EXT) (ifs : List Expr) (r : DT) : Prop where
  pt : PTs X ifs (lT X.K g EX r)
theorem pdts_nil : PDTs X g EX [] qYes := ⟨⟨fun pins s σ H Q I h => by
  obtain ⟨A, ρ, Qd, Ed, S, h, c, cx⟩ := h
  exact pts_nil.run pins s σ H Q I (c true A H (Ext.refl S.good) h)⟩⟩
theorem pdts_one {c : Expr} (h : PDT X g EX c tt) : PDTs X g EX [c] tt := ⟨pts_one h.pt⟩
theorem del_ext {K : PySem.W.Frag} {so : Option Addr} {A H A' H' : Hp} {D : Addr} {o : HO} (x : Ext K so A H A' H') (h : H D = none) (h1 : A' D = none) (hd : H' D = some o) (hs : so ≠ some D) : ∃ H1, Ext K so A H A' H1 ∧ H1 D = none ∧ H' = upd H1 D o := by
  refine ⟨fun b => if b = D then none else H' b, ⟨⟨fun b u e => ?_, fun s e => ?_⟩, x.mono, fun b u n e => ?_, x.new⟩, if_pos rfl, ?_⟩
  · show (if b = D then none else H' b) = some u
    rw [if_neg (ne_of_none e h1)]
    exact x.good.sub b u e
  · obtain ⟨h3, L, ns, p', a', b, c, d, h4, h5, r⟩ := x.good.st s e
    have n : s ≠ D := fun z => hs (by rw [e, z])
    exact ⟨h3, L, ns, p', a', b, c, d, by show (if s = D then none else H' s) = _; rw [if_neg n]; exact h4, h5, r⟩
  · show (if b = D then none else H' b) = some u
    rw [if_neg (ne_of_none e h)]
    exact x.kept b u n e
  · funext b
    unfold upd
    by_cases z : b = D
    · rw [if_pos z, z, hd]
    · rw [if_neg z]
      show H' b = if b = D then none else H' b
      rw [if_neg z]
theorem lcD {σ : L2.St} {H : Hp} {Q : VK} (h : lN X.K g EX (nComp ri gr tt te vs) σ H Q) : tLc (lI X.K g EX ri) (lGw X.K g vs gr) (lT X.K g EXF tt) (lE X.K g EXF te) vs σ H Q := by
  obtain ⟨A, ρ, Qd, Ed, S, h, c, cx⟩ := h
  refine ⟨A, ρ, _, Ed, S, h, cx, fun ds J A1 H1 x1 T q D hD => ?_⟩
  have S1 := S.ext x1
  have nD : g.so ≠ some D := fun z => S1.good.ne hD z rfl
  have fl : ∀ {A' Hm : Hp}, Good X.K g.so A' Hm → Hm D = none → A' D = none := fun {A' Hm} gd hm => by
    cases e : A' D with
    | none => rfl
    | some u =>
      rw [gd.sub D u e] at hm
      cases hm
  refine ⟨fun i m H' => ∃ A' acc xs Hm, Ext X.K g.so A1 H1 A' Hm ∧ Hm D = none ∧ H' = upd Hm D (.lst xs) ∧ DaL X.K g.so A' acc xs ∧ m + i = ds.length ∧ compL gr tt te (wipeD ρ vs) Qd (ds.drop i) acc, ⟨ds.length, A1, [], [], H1, Ext.refl x1.good, hD, rfl, rfl, rfl, q⟩, ?_⟩
  rintro i m H2 ⟨A2, acc, xs, Hm, x2, hm, rfl, da, hl, q2⟩
  have x3 : Ext X.K g.so A1 H1 A2 (upd Hm D (.lst xs)) := x2.trans (Ext.open_ x2.good hm)
  cases hd : ds[i]? with
  | none =>
    have hi : ds.length ≤ i := List.getElem?_eq_none_iff.mp hd
    have e : i = ds.length := by omega
    subst e
    rw [List.drop_length] at q2
    exact .inl ⟨T.stop A2 _ x2.mono x3.good, c acc xs D A2 Hm (x1.trans x2) hm da q2⟩
  | some d =>
    have hi : i < ds.length := (List.getElem?_eq_some_iff.mp hd).1
    have ed : ds.drop i = d :: ds.drop (i + 1) := by
      rw [List.drop_eq_getElem_cons hi]
      rw [List.getElem?_eq_getElem hi] at hd
      cases hd
      rfl
    rw [ed] at q2
    obtain ⟨go, yl⟩ := T.go A2 _ x2.mono x3.good i d hd
    refine .inr ⟨go, fun H' => ∃ A' acc xs Hm, Ext X.K g.so A1 H1 A' Hm ∧ Hm D = none ∧ H' = upd Hm D (.lst xs) ∧ DaL X.K g.so A' acc xs ∧ compL gr tt te (wipeD ρ vs) Qd (ds.drop (i + 1)) acc,
      fun H' ⟨A', acc', xs', Hm', y1, y2, y3, y4, y5⟩ => ⟨m - 1, by omega, A', acc', xs', Hm', y1, y2, y3, y4, by omega, y5⟩, fun x H3 y => ?_⟩
    obtain ⟨A3, x4, dx⟩ := yl x H3 y
    have x5 := x3.trans x4
    have keepD : ∀ {A5 H5 : Hp}, Ext X.K g.so A2 (upd Hm D (.lst xs)) A5 H5 → H5 D = some (.lst xs) ∧ A5 D = none := fun {A5 H5} z => ⟨z.kept D _ nD upd_same, z.unfrozen (fl x2.good hm) upd_same⟩
    have back : ∀ {A5 H5 : Hp} (ys : List V), Ext X.K g.so A2 (upd Hm D (.lst xs)) A5 H5 → ∃ Hn, Ext X.K g.so A1 H1 A5 Hn ∧ Hn D = none ∧ upd H5 D (.lst ys) = upd Hn D (.lst ys) ∧ H5 = upd Hn D (.lst xs) := fun {A5 H5} ys z => by
      obtain ⟨z1, z2⟩ := keepD z
      obtain ⟨Hn, w1, w2, w3⟩ := del_ext (x3.trans z) hD z2 z1 nD
      refine ⟨Hn, w1, w2, ?_, w3⟩
      rw [w3, upd_upd]
    have SW : Stt X.K g A3 H3 (wipe σ vs) (wipeD ρ vs) := (S1.ext x5).wipe vs
    refine ⟨A3, wipeD ρ vs, d, _, SW, dx, q2, fun σ4 ρ4 S4 l4 w4 q4 => ⟨?_, ?_⟩⟩
    · rw [w4]
      refine wipe_ext (by rw [wipe_len]) fun j n => ?_
      rw [wipe_out σ vs j n]
    refine ⟨A3, ρ4, _, _, S4, q4, fun b A5 H5 x6 q5 => ?_, fun x dx A' H' us _ _ _ _ _ z => z.elim⟩
    cases b with
    | false =>
      refine iteF ?_
      obtain ⟨Hn, w1, w2, w3, w5⟩ := back [] (x4.trans x6)
      exact ⟨A5, acc, xs, Hn, w1, w2, w5, DaL.mono (x4.trans x6).mono _ _ da, outF q5⟩
    | true =>
      refine iteT ⟨A5, ρ4, _, _, S4.ext x6, outT q5, fun d7 v7 A7 H7 x7 da7 q7 => ?_, fun x dx A' H' us _ _ _ _ _ z => z.elim⟩
      have x8 := (x4.trans x6).trans x7
      obtain ⟨z1, z2⟩ := keepD x8
      obtain ⟨Hn, w1, w2, w3, w5⟩ := back (xs ++ [v7]) x8
      refine ⟨xs, z1, by rw [da.len]; exact q7.1, A7, acc ++ [d7], xs ++ [v7], Hn, w1, w2, w3, (DaL.mono x8.mono _ _ da).app (DaL.one da7), q7.2⟩
theorem pdn_lc {elt : Expr} {ifs : List Expr} {scope : Scope} {own : List (Str × Nat)} (hc : X.calm = true) (hN : X.N.Nodup) (hi : PDI X g EX tg iter ri) (ok : BlkOk X.N X.env.scope scope own)
    (hg : ∀ (s : Shared) (H : Hp) (C : Addr) (cl : List (Str × Addr)) (fp : List Addr), PDGw (X.blk s H scope (compEnvC scope cl C X.env) fp) g (own.map (·.2)) tg gr) (ht : ∀ (s : Shared) (H : Hp) (C : Addr) (cl : List (Str × Addr)) (fp : List Addr), PDTs (X.blk s H scope (compEnvC scope cl C X.env) fp) g EXF ifs tt)
    (he : ∀ (s : Shared) (H : Hp) (C : Addr) (cl : List (Str × Addr)) (fp : List Addr), PD (X.blk s H scope (compEnvC scope cl C X.env) fp) g EXF elt te) (hs : ∀ x, foldedSetIterable iter X.env x = pure x := by intro _; rfl) :
    PDN X g EX (.ListComp elt [⟨tg, iter, ifs, 0⟩] scope pos) (nComp ri gr tt te (own.map (·.2))) :=
  ⟨(pe_lc hc hN hi.pi ok (fun s H C cl fp => (hg s H C cl fp).pg) (fun s H C cl fp => (ht s H C cl fp).pt) (fun s H C cl fp => (he s H C cl fp).pe) hs).imp fun σ H Q h => lcD h⟩
/-- name = [..], owned -/
theorem pds_setLc {i : Nat} {y : Str} {py spos : Pos} {elt : Expr} {ifs : List Expr} {scope : Scope} {own : List (Str × Nat)} (hc : X.calm = true) (hN : X.N.Nodup) (hy : X.N[i]? = some y) (hyl : X.env.scope.names.lookup y = some .local)
    (hsw : swapsWith (.ListComp elt [⟨tg, iter, ifs, 0⟩] scope pos) (some (.Name y py)) spos.line X.env = pure true) (hi : PDI X g EX tg iter ri) (ok : BlkOk X.N X.env.scope scope own)
    (hg : ∀ (s : Shared) (H : Hp) (C : Addr) (cl : List (Str × Addr)) (fp : List Addr), PDGw (X.blk s H scope (compEnvC scope cl C X.env) fp) g (own.map (·.2)) tg gr) (ht : ∀ (s : Shared) (H : Hp) (C : Addr) (cl : List (Str × Addr)) (fp : List Addr), PDTs (X.blk s H scope (compEnvC scope cl C X.env) fp) g EXF ifs tt)
    (he : ∀ (s : Shared) (H : Hp) (C : Addr) (cl : List (Str × Addr)) (fp : List Addr), PD (X.blk s H scope (compEnvC scope cl C X.env) fp) g EXF elt te) (hs : ∀ x, foldedSetIterable iter X.env x = pure x := by intro _; rfl) :
    PDS X g EX (.Assign [.Name y py] (.ListComp elt [⟨tg, iter, ifs, 0⟩] scope pos) spos) (sSetN i (nComp ri gr tt te (own.map (·.2)))) :=
  ⟨(ps_setLc (i := i) hc hN hy hyl hsw hi.pi ok (fun s H C cl fp => (hg s H C cl fp).pg) (fun s H C cl fp => (ht s H C cl fp).pt) (fun s H C cl fp => (he s H C cl fp).pe) hs).imp fun De σ H h => by
  obtain ⟨A, ρ, DD, S, h, k⟩ := h
  have h2 : lN X.K g EX (nComp ri gr tt te (own.map (·.2))) σ H (fun x H1 => gName i x σ H1 De.nx) := ⟨A, ρ, _, _, S, h, fun l xs p A1 H1 x1 hp da q => k.nx _ _ _ _ ((S.ext x1).setOw hp da) (List.length_set ..) x1.mono q, k.cx S⟩
  exact lcD h2⟩
end
end My
namespace My
open PySem PySem.Spec PyProof.Rows L2
/-! ### raising -/
theorem Ext.same {K : PySem.W.Frag} {so : Option Addr} {A H H' : Hp} (gd : Good K so A H) (x : Sub H H') : Ext K so A H A H' :=
  ⟨⟨fun b o e => x b o (gd.sub b o e), fun s e => let ⟨h1, L, ns, p, a, b, c, d, h2, h3, r⟩ := gd.st s e; ⟨h1, L, ns, p, a, b, c, d, x _ _ h2, h3, r⟩⟩, fun _ _ h => h, fun b o _ h => x b o h, fun _ _ h => .inl h⟩
theorem FnOk_cx {P : Program} {w : World} {K : PySem.W.Frag} {mg : Str → Option Value} {base : Heap} {CX : CXT} {lv : Nat} {f : Addr} {fd : FuncData} {ps : List Str} {sp sp' : Sp} (F : FnOk P w K mg base CX0 lv f fd ps sp) (h : ∀ vs H Q E, sp' vs H Q E → sp vs H Q E) : FnOk P w K mg base CX lv f fd ps sp' :=
  ⟨fun vs H Q E q => F.len vs H Q E (h _ _ _ _ q), fun A outer s H args us vs Q E hr he hb hv hs => codeAny_mono (F.run A outer s H args us vs Q E hr he hb hv (h _ _ _ _ hs)) fun r s' z => by
    cases r with
    | error e => exact z.elim
    | ok fl => cases fl <;> exact z⟩
def IniEnd (a C : Addr) (fs : List (Str × V)) (H : Hp) (Q : VK) : Prop := ∀ (dx : Addr) (H' : Hp), H dx = none → dx ≠ a → H' a = some (exo a C (some dx)) → H' dx = some (exd dx fs) → (∀ b o, b ≠ a → H b = some o → H' b = some o) → Q .non H'
/-- an __init__ of n values that leaves the fields mk of them -/
def spIni (K : PySem.W.Frag) (C : Addr) (fs : List Str) (n : Nat) (mk : List V → List (Str × V)) : Sp := fun vs H Q _ => ∃ (a : Addr) (xs : List V), vs = .ref a :: xs ∧ xs.length = n ∧ OexC K C ∧ (∀ f ∈ fs, PySem.W.findIn K (.ref C) f = some none) ∧ H a = some (exo a C none) ∧ IniEnd a C (mk xs) H Q
theorem g_ost {σ : L2.St} {H : Hp} {D : Ends} {K : PySem.W.Frag} {f : Str} {to te : TE} (h : te σ H fun y H1 => to σ H1 fun x H2 => ∃ a C : Addr, x = .ref a ∧ OexC K C ∧ PySem.W.findIn K (.ref C) f = some none ∧
  ((H2 a = some (exo a C none) ∧ ∀ dx, H2 dx = none → dx ≠ a → D.nx σ (upd (upd H2 dx (exd dx [(f, y)])) a (exo a C (some dx)))) ∨
    ∃ (dx : Addr) (fs : List (Str × V)), H2 a = some (exo a C (some dx)) ∧ H2 dx = some (exd dx fs) ∧ fs.length ≤ 900 ∧ D.nx σ (upd H2 dx (exd dx ((f, y) :: fs))))) : tOst K f to te D σ H := h
theorem raiseN {K : PySem.W.Frag} {C : Addr} {fs : List Str} {n : Nat} {mk : List V → List (Str × V)} {xs ys : List V} {H : Hp} {Q : XK} (o : OexC K C) (hn : ∀ f ∈ fs, PySem.W.findIn K (.ref C) f = some none) (hl : (xs ++ ys).length = n) (hl2 : xs.length ≤ 1000) (q : ∀ d H', Same H H' → H d = none → H' d = some (.xd (mk (xs ++ ys))) → Q (.ref C) (some d) H') :
    xs.length ≤ 1000 ∧ ∀ a, H a = none → spIni K C fs n mk (.ref a :: (xs ++ ys)) (upd H a (exo a C none)) (fun v H2 => v = .non ∧ ∃ (d : Addr) (fs : List (Str × V)), H2 a = some (exo a C (some d)) ∧ H2 d = some (exd d fs) ∧ H d = none ∧ Q (.ref C) (some d) (upd (del H2 a) d (.xd fs))) (fun _ _ _ => False) := by
  refine ⟨hl2, fun a ha => ⟨a, xs ++ ys, rfl, hl, o, hn, upd_same, fun dx H' h1 h2 h3 h4 h5 => ⟨rfl, dx, _, h3, h4, ?_, q dx _ (fun b u hb => ?_) ?_ upd_same⟩⟩⟩
  · rw [upd_ne h2] at h1
    exact h1
  · rw [upd_ne h2] at h1
    rw [upd_ne (ne_of_none hb h1), del_ne (ne_of_none hb ha)]
    exact h5 b u (ne_of_none hb ha) (by rw [upd_ne (ne_of_none hb ha)]; exact hb)
  · rw [upd_ne h2] at h1
    exact h1
/-- what an own exception class of the program must have, for raising -/
structure Rz (K : PySem.W.Frag) (C : Addr) (fs : List Str) (n : Nat) (mk : List V → List (Str × V)) (mkD : List D → List D) : Prop where
  nf : ∀ f ∈ fs, PySem.W.findIn K (.ref C) f = some none
  o : OexC K C
  da : ∀ so A ds xs, ds.length = n → DaL K so A ds xs → ∃ us, mk xs = fs.zip us ∧ us.length = fs.length ∧ DaL K so A (mkD ds) us
def sRaise (C : Addr) (fs : List Str) (n : Nat) (mkD : List D → List D) (dd : List D) (t : DL) : DS := fun DD ρ => t ρ (fun ds => ds.length ≤ 1000 ∧ (ds ++ dd).length = n ∧ DD.ex ⟨C, fs, mkD (ds ++ dd)⟩) DD.ex
section
variable {X : Cx} {g : Gx} {EX : EXT} {e a b : Expr} {es : List Expr} {pos p pos' : Pos} {t : DL}
theorem pmkN0 {CXc : CXT} {nm : Str} {C fI : Addr} {lv : Nat} {fdI : FuncData} {psI : List Str} {spI : Sp} {ds : List Value} {dvs : List V} (T : OexC X.K C)
    (iC : PySem.W.findIn X.K (.ref C) "__init__" = some (some (.ref fI))) (tI : PySem.W.typeIn X.K (.ref fI) = some (.type "function"))
    (FI : FnOk X.prog X.w X.K X.mg X.base CXc lv fI fdI psI spI) (room : Room (lv + 1) X.A) (bnd : Binds X.K fdI psI ds) (dfl : Vals dvs ds) (px : Passes CXc X (fun _ _ _ => False)) (gl : Gl X nm) (gm : X.mg nm = some (.ref C))
    (nd : (nm == ("__debug__" : Str)) = false := by decide) :
    L2N.PMk X (.Call (.Name nm p) [] [] pos) (tMkO C spI dvs tNil) := by
  intro pins s σ H Q I rd
  have T' := T.cls
  obtain ⟨n0, n1, n2, n3, n4, n5, n6, n7, n8, n9, j0, j1, j2, j3, j5, lkC, rfs⟩ := T'
  refine wpAny_Call_Name_kw (ld_glob I gl gm ?_ nd)
  refine PySem.W.callWith_K0 I.kIn T.kC ?_
  show wpAny _ _ (call (.ref C) []) _ _ _
  obtain ⟨hp, gn, dr, tk, os⟩ := s
  have I1 := I
  generalize en : hp.objs.size + 1 = nx at *
  have le : hp.objs.size ≤ nx := by omega
  have fresh : H nx = none := I1.hok.fresh le
  have rd2 := rd.2 nx fresh
  have keep : ∀ b o, hp.get? b = some o → ((hp.push (PySem.W.kdv_tup [])).push (PySem.HandSPX.excO C hp.objs.size)).get? b = some o :=
    fun b o z => Heap.get?_push_of_some _ (Heap.get?_push_of_some _ z)
  have there : ((hp.push (PySem.W.kdv_tup [])).push (PySem.HandSPX.excO C hp.objs.size)).get? nx = some (PySem.HandSPX.excO C hp.objs.size) := by
    rw [← en]
    heap_get
  have I2 := I1.laid (t' := tk) (a := nx) (o := exo nx C none) (h' := (hp.push (PySem.W.kdv_tup [])).push (PySem.HandSPX.excO C hp.objs.size)) keep le (exo_ok there)
  have rel2 : Vals (V.ref nx :: dvs) (Value.ref nx :: ds) := .cons rfl dfl
  have rd2 : spI (V.ref nx :: dvs) _ _ _ := rd2
  have hlen : ([Value.ref nx] ++ ds).length = psI.length := by
    have q := rel2.length
    rw [FI.len _ _ _ _ rd2] at q
    exact q.symm
  have few : ([] : List Value).length ≤ sizeLine := by
    rw [sizeLine_eq]
    exact Nat.zero_le _
  refine wpAny_call ?_
  refine PySem.HandSPX.call_own F.excBase_ValueError (fun Y => PySem.HandSPX.refsVE_contains Y n4 rfs) (I1.kIn _ _ lkC) (PySem.W.looks_findIn I1.kIn iC) (fun self => PySem.W.bind_fn I1.kIn self tI) few ?_
  rw [en]
  refine codeAny_mono (FI.run _ X.stack _ _ ⟨[Value.ref nx], []⟩ (Value.ref nx :: ds) _ _ (fun _ _ _ => False) (room.make C [] []) (I2.env0.make C [] []) (bnd _ [Value.ref nx] I2.kIn hlen) rel2 rd2) fun r s' back => ?_
  cases r with
  | error er => exact px pins σ _ _ er s' I2 back
  | ok fl =>
    cases fl with
    | next => exact back.elim
    | brk => exact back.elim
    | cont => exact back.elim
    | ret u =>
      obtain ⟨v, H2, os2, bare2, un2, hok2, rv, ev, d, fs, ea, ed, hd1, q2⟩ := back
      subst ev
      obtain ⟨h2, g2, d2, t2, os'⟩ := s'
      obtain ⟨t0, G, J, kG, ge, hoe, na⟩ := mk_end0 (d2 := d2) (t2 := t2) I1 le keep un2 hok2 os2 bare2 ea ed hd1
      exact ⟨rv, nx, _, _, ⟨G, g2, d2, t2, os'⟩, _, .ref C, some d, rfl, J, kG, ge, hoe, ⟨rfl, rfl, fun ws hw => by cases hw; rfl⟩, rfl, rfl, na, rfl, bare2, raises_own T.exC T.tyC, q2⟩
variable {nm : Str} {C fI : Addr} {lv n : Nat} {fdI : FuncData} {psI fs : List Str} {mk : List V → List (Str × V)} {mkD : List D → List D} {dus : List Value} {dvs : List V} {dd : List D}
theorem pds_raise (R : Rz X.K C fs n mk mkD) (hc : X.calm = true) (tk : L2N.Takes X (fun c d σ H => EX σ c d H))
    (iC : PySem.W.findIn X.K (.ref C) "__init__" = some (some (.ref fI))) (tI : PySem.W.typeIn X.K (.ref fI) = some (.type "function"))
    (FI : FnOk X.prog X.w X.K X.mg X.base CX0 lv fI fdI psI (spIni X.K C fs n mk)) (room : Room (lv + 1) X.A) (bnd : Binds X.K fdI psI dus) (dfl : Vals dvs dus) (hd : ∀ so A, DaL X.K so A dd dvs) (gl : Gl X nm) (gm : X.mg nm = some (.ref C)) (args : PDA X g EX (e :: es) t)
    (nd : (nm == ("__debug__" : Str)) = false := by decide) (st1 : starEach (e :: es) X.env = (false, eval e X.env) :: starEach es X.env := by rfl) (st2 : (backTo pos (starEach es X.env)).any (·.1) = false := by rfl) :
    PDS X g EX (.Raise (some (.Call (.Name nm p) (e :: es) [] pos)) none pos') (sRaise C fs n mkD dd t) := ⟨(L2N.ps_raise hc tk (pmkN R.o iC tI FI room bnd dfl pass0 gl gm args.pa nd st1 st2)).imp fun De σ H h => by
  obtain ⟨A, ρ, DD, S, h, k⟩ := h
  refine ⟨A, ρ, _, _, S, h, fun ds vs A1 H1 x1 das q => ?_, k.cx S⟩
  obtain ⟨q0, q1, q2⟩ := q
  have da := das.app (hd _ _)
  obtain ⟨us, e1, e2, d2⟩ := R.da g.so A1 _ _ q1 da
  refine raiseN R.o R.nf (by rw [da.len]; exact q1) (by rw [das.len]; exact q0) fun d H' sm hn hx => ?_
  rw [e1] at hx
  have x2 := Ext.same x1.good sm
  exact k.ex σ S.e.len ⟨C, fs, _⟩ d A1 H' us ((S.x.trans x1).trans x2) ((S.x.trans x1).fresh hn) hx e2 d2 q2⟩
theorem pds_raise0 (R : Rz X.K C fs n mk mkD) (hc : X.calm = true) (tk : L2N.Takes X (fun c d σ H => EX σ c d H))
    (iC : PySem.W.findIn X.K (.ref C) "__init__" = some (some (.ref fI))) (tI : PySem.W.typeIn X.K (.ref fI) = some (.type "function"))
    (FI : FnOk X.prog X.w X.K X.mg X.base CX0 lv fI fdI psI (spIni X.K C fs n mk)) (room : Room (lv + 1) X.A) (bnd : Binds X.K fdI psI dus) (dfl : Vals dvs dus) (hd : ∀ so A, DaL X.K so A dd dvs) (gl : Gl X nm) (gm : X.mg nm = some (.ref C))
    (nd : (nm == ("__debug__" : Str)) = false := by decide) :
    PDS X g EX (.Raise (some (.Call (.Name nm p) [] [] pos)) none pos') (sRaise C fs n mkD dd lNil) := ⟨(L2N.ps_raise hc tk (pmkN0 R.o iC tI FI room bnd dfl pass0 gl gm nd)).imp fun De σ H h => by
  obtain ⟨A, ρ, DD, S, h, k⟩ := h
  obtain ⟨q0, q1, q2⟩ := h
  have da := hd g.so A
  obtain ⟨us, e1, e2, d2⟩ := R.da g.so A _ _ q1 da
  refine raiseN (xs := []) R.o R.nf (by rw [List.nil_append, da.len]; exact q1) (Nat.zero_le _) fun d H' sm hn hx => ?_
  rw [List.nil_append, e1] at hx
  have x2 := Ext.same S.good sm
  exact k.ex σ S.e.len ⟨C, fs, _⟩ d A H' us (S.x.trans x2) (S.x.fresh hn) hx e2 d2 q2⟩
end
/-! ### try .. except FrameError as e: return g(e) -/
def spXD (K : PySem.W.Frag) (m : XD → (D → Prop) → Prop) (a : Addr) (cls : Value) (d : Option Addr) : Sp := fun vs H Q _ => ∃ so A x dx us Qd, vs = [.ref a] ∧ cls = .ref x.C ∧ d = some dx ∧ Good K so A H ∧ A dx = some (.xd (x.fs.zip us)) ∧ us.length = x.fs.length ∧ DaL K so A x.vs us ∧ m x Qd ∧ Cont K so A H Qd Q
def sTry (i : Nat) (rb : DS) (okC : Addr → Prop) (mX : XD → (D → Prop) → Prop) : DS := fun DD ρ => i < ρ.length ∧ rb { DD with ex := fun x => okC x.C ∧ mX x DD.rt } ρ
section
variable {X : Cx} {g : Gx} {EX : EXT} {pos np p1 p2 p3 p4 pos' : Pos} {x n gn : Str} {i lv : Nat} {CF f : Addr} {fd : FuncData} {ps : List Str} {body : List Stmt} {rb : DS} {mX : XD → (D → Prop) → Prop}
theorem pds_tryE (hs : X.stack = X.env :: X.outer) (hf : X.env.frame = some X.env.locals) (hN : X.N.Nodup) (hi : X.N[i]? = some n) (hln : X.env.kindOf n = some .local) (hc : Names X x (.ref CF))
    (hb : ∀ (W : WX) (pn : List (Addr × Obj)) (xe : Value → Shared → Prop), L2N.Takes (X.tr pn xe) (fun c d σ H => (fun σ c d H => W c d σ H : EXT) σ c d H) → PassesOwn (model X.prog X.w) X.A X.env xe → PDSs (X.tr pn xe) g (fun σ c d H => W c d σ H) body rb)
    (G : FnE X.prog X.w X.K X.mg X.base lv f fd ps (fun q => spXD X.K mX q.1 q.2.cls q.2.dict)) (room : Room lv X.A) (gl : Gl X gn) (gm : X.mg gn = some (.ref f)) (kp : PySem.W.keepIn X.K (.ref f) = true) (bnd : Binds X.K fd ps [])
    (hv : ∀ (a : Addr) (pn : List (Addr × Obj)), PE (X.suite a pn) (.Name n p2) (tVar i))
    (nd : (gn == ("__debug__" : Str)) = false := by decide) (st1 : ∀ (a : Addr) (pn : List (Addr × Obj)), starEach [.Name n p2] (X.suite a pn).env = (false, eval (.Name n p2) (X.suite a pn).env) :: starEach [] (X.suite a pn).env := by intro _ _; rfl) :
    PDS X g EX (.Try body [.ExceptHandler (some (.Name x np)) (some n) [.Return (some (.Call (.Name gn p1) [.Name n p2] [] p3)) p4] pos'] [] [] pos) (sTry i rb (fun C => PySem.W.exmOne X.K (.ref C) (.ref CF) = some true) mX) := by
  have main := L2N.ps_try_as (pos := pos) (pos' := pos') (np := np) (i := i) (tb := fun W => lS X.K g (fun σ c d H => W c d σ H) rb) (ts := fun a cls d => tRet (tCallS (spXD X.K mX a cls d) (fun _ => E0) (tCons (tVar i) tNil))) hs hf hN hi hln hc takesN0
    (fun W pn xe tk po => (hb W pn xe tk po).pss) (fun a oe cls d pn hz hfl => by
      obtain ⟨h1, h2, h3⟩ := hz
      subst h1 h2
      exact pss_one (ps_ret (pos := p4) (pe_callE (X := X.suite a ((a, oe) :: pn)) (p := p1) (pos := p3) G (L2H.roomH_mark room _) ⟨rfl, hfl.elim fun vs e => ⟨vs, e, h3 vs e⟩⟩ (List.mem_cons_self ..) gl gm kp bnd (pa_cons (hv a _) pa_nil (st1 a _)) nd (st1 a _) rfl)))
  refine ⟨main.imp fun De σ H h => ?_⟩
  obtain ⟨A, ρ, DD, S, ⟨hi2, h⟩, k⟩ := h
  refine ⟨A, ρ, _, S, h, ⟨k.nx, k.rt, k.bk, k.ct, fun σ1 l1 z dx A1 H1 us x1 hn hx hl da q => ?_, k.fr⟩⟩
  refine ⟨true, q.1, fun _ a0 na => ?_, fun e => by cases e⟩
  have nso : g.so ≠ some dx := fun w => by
    obtain ⟨_, _, _, _, _, _, _, _, h5, _⟩ := x1.good.st dx w
    rw [hx] at h5
    cases h5
  obtain ⟨A2, y, sb, hA⟩ : ∃ A2, Ext X.K g.so g.Ai g.Hi A2 H1 ∧ Sub A1 A2 ∧ A2 dx = some (.xd (z.fs.zip us)) := by
    cases e : A1 dx with
    | none => exact ⟨_, x1.frz hn e hx nso, fun b o w => by rw [upd_ne (ne_of_none w e)]; exact w, upd_same⟩
    | some o =>
      have w := x1.good.sub dx o e
      rw [hx] at w
      cases w
      exact ⟨A1, x1, fun _ _ w => w, e⟩
  refine ⟨.ref a0, List.getElem?_set_self (by rw [l1]; exact hi2), g.so, A2, z, dx, us, DD.rt, rfl, rfl, rfl, y.good, hA, hl, DaL.mono sb _ _ da, q.2, fun d v A3 H3 x2 d2 q2 => ?_⟩
  exact k.rt A3 H3 d v (y.trans x2) d2 q2
end
/-! ### fields -/
def mk1 (f : Str) : List V → List (Str × V)
  | [x] => [(f, x)]
  | _ => []
theorem mk1_da {f : Str} {K : PySem.W.Frag} (so : Option Addr) (A : Hp) (ds : List D) (xs : List V) (hl : ds.length = 1) (h : DaL K so A ds xs) : ∃ us, mk1 f xs = [f].zip us ∧ us.length = [f].length ∧ DaL K so A (id ds) us := by
  match ds, hl with
  | [d], _ =>
    obtain ⟨v, rfl, dv⟩ := h.one'
    exact ⟨[v], rfl, rfl, DaL.one dv⟩
def mk3 (f1 f2 f3 : Str) : List V → List (Str × V)
  | [x, y, z] => [(f3, z), (f2, y), (f1, x)]
  | _ => []
def rev3 : List D → List D
  | [x, y, z] => [z, y, x]
  | l => l
theorem mk3_da {f1 f2 f3 : Str} {K : PySem.W.Frag} (so : Option Addr) (A : Hp) (ds : List D) (xs : List V) (hl : ds.length = 3) (h : DaL K so A ds xs) : ∃ us, mk3 f1 f2 f3 xs = [f3, f2, f1].zip us ∧ us.length = [f3, f2, f1].length ∧ DaL K so A (rev3 ds) us := by
  match ds, hl with
  | [d1, d2, d3], _ =>
    obtain ⟨v, r, rfl, dv, h2⟩ := h
    obtain ⟨u, w, rfl, du, dw⟩ := h2.two'
    exact ⟨[w, u, v], rfl, rfl, w, [u, v], rfl, dw, u, [v], rfl, du, DaL.one dv⟩
/-! ### the store -/
theorem StoOk.store {K : PySem.W.Frag} {so : Option Addr} {A H : Hp} {s : Addr} (gd : Good K so A H) (e : so = some s) : Store K H s := by
  obtain ⟨h1, L, ns, p, a, b, c, d, h2, h3, q1, q2, q3, q4, q5, q6⟩ := gd.st s e
  refine ⟨L, ns, p, a, b, c, d, ⟨h2, fun z => ?_, .inl (.inl (gd.sub _ _ h3)), q1, q2, q3, q4, q5, q6⟩⟩
  rw [z, h1] at h3
  cases h3
theorem Ext.store {K : PySem.W.Frag} {so : Option Addr} {A H H' : Hp} {s : Addr} (gd : Good K so A H) (e : so = some s) (x : Sx s H H') (st : Store K H' s) : Ext K so A H A H' := by
  refine ⟨⟨fun b o h => ?_, fun s' e' => ?_⟩, fun _ _ h => h, fun b o n h => ?_, fun _ _ h => .inl h⟩
  · have n : b ≠ s := fun z => by
      rw [z, (gd.st s e).1] at h
      cases h
    exact x.kp b o n (gd.sub b o h)
  · rw [e] at e'
    cases e'
    obtain ⟨h1, L, ns, p, a, b, c, d, h2, h3, q⟩ := gd.st s e
    obtain ⟨ys, h4⟩ := x.ce L _ h2
    obtain ⟨L', ns', p', a', b', c', d', z⟩ := st
    have z1 := z.at_
    rw [h4] at z1
    cases z1
    exact ⟨h1, L, ns, p', a', b', c', d', h4, h3, z.p0, z.a0, z.b0, z.c0, z.c1, q.2.2.2.2.2⟩
  · exact x.kp b o (fun z => n (by rw [e, z])) h
/-- a draw -/
def mTake : DF := fun ds Q _ => match ds with
  | [.sto, .int many] => many < BIG ∧ ∀ r : Int, 0 ≤ r → (r = 0 ∨ r < many) → Q (.int r)
  | _ => False
end My
namespace My
open PySem PySem.Spec PyProof.Rows L2
/-! ### a list's end, and list comprehensions, while an exception is handled -/
section
variable {prog : Program} {w : World} {A : Around} {E : Value → Shared → Prop} {s : Shared}
theorem list_end_hot {it l z : Addr} {i : Nat} {items : Array Value} {Q : Option Value → Shared → Prop} (hot : HotX.HotAt A z s.heap) (nz : z ≠ it) (ti : s.heap.IsListIter it l i) (tl : s.heap.IsList l items) (e : items[i]? = none)
    (q : ∀ h', (∀ b o, b ≠ it → s.heap.get? b = some o → h'.get? b = some o) → Q none { s with heap := h' }) : wpAny (model prog w) A (pyNext (.ref it)) Q E s := by
  obtain ⟨u, gu, cu, du⟩ := id ti
  obtain ⟨ul, gl, _, nl, dl⟩ := tl
  obtain ⟨hh, o1, vs1, g1, d1, c1⟩ := hot
  unfold pyNext
  refine wpAny_bind (wpAny_attempt (wpAny_callSpecial?_slot (name := Str.ofString "__next__") ti.typeIs slot_listiter_next (wpAny_call_entry slot_listiter_next ti.typeIs entry_listiter_next ?_ (args_listiter_next _))))
  show wpAny _ A.in1 (field (.ref it) 0 >>= _) _ _ s
  refine wpAny_bind (wpAny_field gu du (x := Value.ref l) rfl ?_)
  rw [if_neg (show ¬ (Value.ref l == Value.none) = true by exact Bool.false_ne_true)]
  refine wpAny_bind (wpAny_field gu du (x := Value.int i 0) rfl (wpAny_bind (wpAny_seqItems gl dl ?_)))
  simp only [e, Int.toNat_natCast]
  refine wpAny_bind (wpAny_rule (wpAny_bind (wpAny_setField gu du (by simp) ?_)))
  generalize hk : s.heap.update it (Obj.mapFields fun x => x.setIfInBounds 0 Value.none) = h1
  have kp : ∀ b o, b ≠ it → s.heap.get? b = some o → h1.get? b = some o := fun b o n g => by
    rw [← hk, Heap.get?_update_other _ _ (Ne.symm n)]
    exact g
  have g2 := kp z o1 nz g1
  unfold Builtin.SmallTypes.stopIteration
  refine wpAny_bind ?_
  simp only [newTuple, newExc]
  refine wpAny_bind (wpAny_newObj_type (wpAny_bind (m := firstArgMember _ _) (wpAny_of_eq (a := Value.none) (by first | rfl | (simp only [firstArgMember]; rfl)) (wpAny_newObj_type ?_ (by size_fits)))) (by size_fits))
  refine HotX.raiseNew_hot ⟨hh, o1, vs1, Heap.get?_push_of_some _ (Heap.get?_push_of_some _ g2), d1, c1⟩ (Nat.ne_of_lt (Heap.lt_size (Heap.get?_push_of_some _ g2))) (Heap.get?_push_size _ rfl) rfl (by first | (simp; done) | (simp; omega)) ?_
  refine wpAny_bind (wpAny_isInstance (T := "StopIteration") (b := true) ⟨_, Heap.get?_update_self _ (Heap.get?_push_size _ rfl) rfl, rfl⟩ isSubtype_stop (wpAny_pure (q _ fun b o n g => ?_)))
  have g3 := kp b o n g
  rw [Heap.get?_update_other _ _ (Nat.ne_of_gt (Heap.lt_size (Heap.get?_push_of_some _ g3)))]
  exact Heap.get?_push_of_some _ (Heap.get?_push_of_some _ g3)
end
section
variable {X : Cx} {pins : List (Addr × Obj)} {σ : L2.St} {H : Hp} {s : Shared} {Q : VK} {elt tg iter : Expr} {ifs : List Expr} {scope : Scope} {own : List (Str × Nat)} {pos : Pos} {g : TG} {tt : TT} {te : TE}
theorem lc_rest {a it : Addr} {use : Option (Value → Sem Unit)} {Qf : Value → Shared → Prop} (hot : L2H.HotC X) (hN : X.N.Nodup) (I : Inv X pins σ H s) (ti : s.heap.IsListIter it a 0) (fi : FpOk X pins H it) (ok : BlkOk X.N X.env.scope scope own)
    (hg : ∀ (s : Shared) (H : Hp) (C : Addr) (cl : List (Str × Addr)) (fp : List Addr), PG (X.blk s H scope (compEnvC scope cl C X.env) fp) tg g)
    (ht : ∀ (s : Shared) (H : Hp) (C : Addr) (cl : List (Str × Addr)) (fp : List Addr), PTs (X.blk s H scope (compEnvC scope cl C X.env) fp) ifs tt)
    (he : ∀ (s : Shared) (H : Hp) (C : Addr) (cl : List (Str × Addr)) (fp : List Addr), PE (X.blk s H scope (compEnvC scope cl C X.env) fp) elt te)
    (q : ∀ D, H D = none → ∃ W : Nat → Nat → Hp → Prop, (∃ m, W 0 m (upd H D (.lst []))) ∧ ∀ i m H, W i m H → ((Itl X.K a).stop i H ∧ Q (.ref D) H) ∨
      ((Itl X.K a).go i H ∧ ∃ Nx : Hp → Prop, (∀ H', Nx H' → ∃ m', m' < m ∧ W (i + 1) m' H') ∧ ∀ x H', (Itl X.K a).yld i H x H' → g x (wipe σ (own.map (·.2))) H' fun σ2 H2 => wipe σ2 (own.map (·.2)) = wipe σ (own.map (·.2)) ∧
        tt σ2 H2 fun b H3 => if b = true then te σ2 H3 fun y H4 => ∃ acc, H4 D = some (.lst acc) ∧ acc.length < sizeLine ∧ Nx (upd H4 D (.lst (acc ++ [y]))) else Nx H3))
    (fit : ∀ D C s' m H', Inv X pins σ H' s' → Q (.ref D) H' → s'.heap.Ns C m → FpOk X pins H' C → compPost (model X.prog X.w) X.A X.xe use Qf (.ref D) C (.ok .next) s') :
    wpAny (model X.prog X.w) X.A (newList []) (fun acc s3 => wpAny (model X.prog X.w) X.A (newFunctionEnv scope X.env.globals (cloFrom X.env.cells scope.names []) [] X.env.qual none .none (some X.env)) (fun cenv s4 =>
      codeAny (model X.prog X.w) X.A (.compStart (.ListComp elt [⟨tg, iter, ifs, 0⟩] scope pos) 0 (.ref it) acc { cenv with scope := relabel scope X.env })
        (compPost (model X.prog X.w) X.A X.xe use Qf acc cenv.locals) s4) X.xe s3) X.xe s := by
  refine wpAny_newObj_type (newEnv_comp ?_) (show (0 : Nat) ≤ sizeLine by decide)
  obtain ⟨D, eD⟩ : ∃ D, s.heap.objs.size = D := ⟨_, rfl⟩
  rw [eD]
  have nD : H D = none := I.hok.fresh (Nat.le_of_eq eD)
  obtain ⟨W, ⟨m0, w0⟩, turn⟩ := q D nD
  obtain ⟨ou, gu, cu, du⟩ := id ti
  have lit : it < s.heap.objs.size := Heap.lt_size gu
  generalize e3 : ({ s with heap := s.heap.push { cls := .type "list", data := .seq ([] : List Value).toArray } } : Shared) = s3
  have h3 : s3.heap = s.heap.push { cls := .type "list", data := .seq ([] : List Value).toArray } := e3 ▸ rfl
  have I3 : Inv X pins σ (upd H D (.lst [])) s3 := by
    rw [← e3]
    exact I.laid (t' := s.toks) (fun b o z => Heap.get?_push_of_some _ z) (Nat.le_of_eq eD) ⟨Nat.zero_le _, [], 0, .nil, by rw [← eD]; exact Heap.get?_push_size _ rfl⟩
  have fi3 : FpOk X pins (upd H D (.lst [])) it := ⟨by rw [upd_ne (by rw [← eD]; exact Nat.ne_of_lt lit)]; exact fi.1, fi.2⟩
  have ti3 : s3.heap.IsListIter it a 0 := ⟨ou, by rw [h3]; exact Heap.get?_push_of_some _ gu, cu, du⟩
  have I4 := block_start (fp := [it]) I3 ok hN fun b hb => by
    rw [List.mem_singleton.mp hb]
    exact ⟨fi3, by rw [h3, Heap.size_push]; exact Nat.lt_succ_of_lt lit⟩
  obtain ⟨cl, ecl⟩ : ∃ cl, cellsFrom (s3.heap.objs.size + 1) scope.names (cloFrom X.env.cells scope.names []) = cl := ⟨_, rfl⟩
  show codeAny _ _ (.compStart (.ListComp elt [⟨tg, iter, ifs, 0⟩] scope pos) 0 (.ref it) (.ref D) (compEnvC scope (cellsFrom (s3.heap.objs.size + 1) scope.names (cloFrom X.env.cells scope.names [])) s3.heap.objs.size X.env))
    (compPost (model X.prog X.w) X.A X.xe use Qf (.ref D) s3.heap.objs.size) { s3 with heap := pushCells (s3.heap.push { cls := .type "dict", data := .dict #[] }) scope.names }
  rw [ecl] at I4 ⊢
  have pg := hg s3 (upd H D (.lst [])) s3.heap.objs.size cl [it]
  have pt := ht s3 (upd H D (.lst [])) s3.heap.objs.size cl [it]
  have pe := he s3 (upd H D (.lst [])) s3.heap.objs.size cl [it]
  have ti4 : Heap.IsListIter (pushCells (s3.heap.push { cls := .type "dict", data := .dict #[] }) scope.names) it a 0 := ⟨ou, pushCells_keeps _ _ _ _ (Heap.get?_push_of_some _ (by rw [h3]; exact Heap.get?_push_of_some _ gu)), cu, du⟩
  -- the exception that is handled
  obtain ⟨⟨z, zo⟩, ⟨hh, zv, dz, cz⟩, hz⟩ := hot
  obtain ⟨gz, nz, nzL, nzF, _⟩ := I3.pin (z, zo) (List.mem_append_left _ hz)
  have zit : z ≠ it := fi.2.2.2.2.2 (z, zo) (List.mem_append_left _ hz)
  have zst : z ∉ frs X.stack := fun hm => (List.mem_cons.mp (I3.stkSub z hm)).elim nzL nzF
  generalize hce : compEnvC scope cl s3.heap.objs.size X.env = ce at I4 pg pt pe ⊢
  have cL : ce.locals = s3.heap.objs.size := by subst hce; rfl
  generalize hH3 : upd H D (.lst []) = H3 at I3 I4 pg pt pe w0 fi3 nz
  generalize hs4 : ({ s3 with heap := pushCells (s3.heap.push { cls := .type "dict", data := .dict #[] }) scope.names } : Shared) = s4 at I4 ⊢
  have ti4 : s4.heap.IsListIter it a 0 := by
    rw [← hs4]
    exact ti4
  have fpo : ∀ {σ' : L2.St} {H' : Hp} {s' : Shared}, Inv (X.blk s3 H3 scope ce [it]) [] σ' H' s' → H' it = none → FpOk (X.blk s3 H3 scope ce [it]) [] H' it := fun {σ' H' s'} J n =>
    have m : it ∈ [it] := List.mem_singleton.mpr rfl
    ⟨n, (J.ok.exf it m).1, J.ok.exfs it m, .inl m, fun x c e => (J.ok.exf it m).2 x c e, fun p hp => by cases hp⟩
  have loop : codeAny (model X.prog X.w) X.A (.compLoop (.ListComp elt [⟨tg, iter, ifs, 0⟩] scope pos) 0 (.ref it) (.ref D) ce) (compPost (model X.prog X.w) X.A X.xe use Qf (.ref D) s3.heap.objs.size) s4 := by
    refine compLoop_any (fun n s' => ∃ i H', Inv (X.blk s3 H3 scope ce [it]) [] (wipe σ (own.map (·.2))) H' s' ∧ s'.heap.IsListIter it a i ∧ H' it = none ∧ W i n H') ?_ m0 ⟨0, H3, I4, ti4, fi3.1, w0⟩
    rintro n s5 ⟨i, H5, I5, ti5, n5, w5⟩
    obtain ⟨f0, f1, f2, f3, f4, f5⟩ := fpo I5 n5
    rcases turn i n H5 w5 with ⟨⟨xs, hq, hx⟩, qq⟩ | ⟨⟨xs, x, hq, hx⟩, Nx, hNx, step⟩
    · obtain ⟨its, rv, p, hz5⟩ := I5.list hq
      have hl := rv.length
      have g5 : s5.heap.get? z = some zo := I5.base.keep z zo gz nz zst fun hm => zit (List.mem_singleton.mp hm)
      refine list_end_hot ⟨hh, zo, zv, g5, dz, cz⟩ zit ti5 p.isList (by simp; omega) fun h' kb => ?_
      have I6 : Inv (X.blk s3 H3 scope ce [it]) [] (wipe σ (own.map (·.2))) H5 { s5 with heap := h' } := I5.turned (t' := s5.toks) kb f0 f1 f3 f4 f5
      have I7 : Inv X pins σ H5 { s5 with heap := h' } := I3.call' (ch := [it]) I6.os I6.base I6.hok I6.bare fun b hb => by
        rw [List.mem_singleton.mp hb]
        exact ⟨fi3.2.2.2.1, fi3.2.1, fi3.2.2.2.2.1, fi3.2.2.2.2.2⟩
      have nC : H5 s3.heap.objs.size = none := by
        have y : H5 ce.locals = none := I6.free
        rw [cL] at y
        exact y
      obtain ⟨m, hn, _⟩ := I6.loc
      have hn : Heap.Ns h' ce.locals m := hn
      rw [cL] at hn
      exact fit D s3.heap.objs.size _ m H5 I7 qq hn (I3.fpOk (Nat.le_refl _) nC)
    · obtain ⟨its, rv, p, hz5⟩ := I5.list hq
      obtain ⟨u, hu, ru⟩ := rv.get hx
      refine wpAny_pyNext_list_item ti5 p.isList (x := u) (by simpa using hu) fun h' ti6 sb => ?_
      have I6 : Inv (X.blk s3 H3 scope ce [it]) [] (wipe σ (own.map (·.2))) H5 { s5 with heap := h' } := I5.turned (t' := s5.toks) (fun b o hb e => (sb.2 b hb).trans e) f0 f1 f3 f4 f5
      obtain ⟨o6, g6, k6, d6⟩ := id ti6
      have ob : ∀ b ∈ [it], ∃ o, h'.get? b = some o ∧ ∀ v, o.data ≠ .cell v := fun b hb => by
        rw [List.mem_singleton.mp hb]
        exact ⟨o6, g6, fun v y => by rw [d6] at y; cases y⟩
      have I7 := I6.pinned (fp := [it]) (fun b hb => by rw [List.mem_singleton.mp hb]; exact fpo I6 n5) ob
      refine go_of (s := { s5 with heap := h' }) g6 k6 d6 (by decide) ?_
      refine thnF (pg.run _ _ _ H5 x u _ I7 ru (step x H5 ⟨rfl, fun ys hy => by rw [I5.list_inj hy hq]; exact hx⟩)) fun _ s8 ⟨σ8, H8, I8, hw8, q8⟩ => ?_
      refine thnF (pt.run _ s8 σ8 H8 _ I8 q8) fun b s9 ⟨H9, I9, q9⟩ => ?_
      have fin : ∀ {s' : Shared} {H' : Hp}, Inv (X.blk s3 H3 scope ce [it]) ([] ++ pinsAt [it] h') σ8 H' s' → Nx H' → ∃ m, m < n ∧ ∃ i H', Inv (X.blk s3 H3 scope ce [it]) [] (wipe σ (own.map (·.2))) H' s' ∧ s'.heap.IsListIter it a i ∧ H' it = none ∧ W i m H' := fun {s' H'} J nx => by
        obtain ⟨m', hm, w'⟩ := hNx H' nx
        obtain ⟨p1, p2, _⟩ := J.pin (it, o6) (List.mem_append_right _ (List.mem_append_right _ (mem_pinsAt (List.mem_singleton.mpr rfl) g6)))
        refine ⟨m', hm, i + 1, H', J.unpinned.weak (by rw [← wipe_length σ8 (own.map (·.2)), hw8]) (fun j v e => ?_), ⟨o6, p1, k6, d6⟩, p2, w'⟩
        rw [← hw8] at e
        exact (wipe_some e).1
      cases b with
      | false => exact fin I9 (by simpa using q9)
      | true =>
        have q9 := outT q9
        refine thnF (pe.run _ s9 σ8 H9 _ I9 q9) fun y s10 ⟨yv, H10, I10, r10, acc, hD10, hz10, nx⟩ => ?_
        exact app_ok (X := X.blk s3 H3 scope ce [it]) I10 hD10 hz10 r10 fun s11 I11 => fin I11 nx
  exact codeAny_compStart_list loop (wpAny_pyIter_listiter ti4 loop)
end
section
variable {X : Cx} {elt tg iter : Expr} {ifs : List Expr} {scope : Scope} {own : List (Str × Nat)} {pos : Pos} {g : TG} {tt : TT} {te ti : TE}
theorem lc_hot {pins : List (Addr × Obj)} {s : Shared} {σ : L2.St} {H : Hp} {Q : VK} {pos' : Pos} {use : Option (Value → Sem Unit)} {Qf : Value → Shared → Prop} (hot : L2H.HotC X) (hN : X.N.Nodup) (I : Inv X pins σ H s) (hi : PE X iter ti) (ok : BlkOk X.N X.env.scope scope own)
    (hg : ∀ (s : Shared) (H : Hp) (C : Addr) (cl : List (Str × Addr)) (fp : List Addr), PG (X.blk s H scope (compEnvC scope cl C X.env) fp) tg g)
    (ht : ∀ (s : Shared) (H : Hp) (C : Addr) (cl : List (Str × Addr)) (fp : List Addr), PTs (X.blk s H scope (compEnvC scope cl C X.env) fp) ifs tt)
    (he : ∀ (s : Shared) (H : Hp) (C : Addr) (cl : List (Str × Addr)) (fp : List Addr), PE (X.blk s H scope (compEnvC scope cl C X.env) fp) elt te) (hs : ∀ x, foldedSetIterable iter X.env x = pure x)
    (rd : tLc (iList X.K ti) g tt te (own.map (·.2)) σ H Q)
    (fit : ∀ D C s' m H', Inv X pins σ H' s' → Q (.ref D) H' → s'.heap.Ns C m → FpOk X pins H' C → compPost (model X.prog X.w) X.A X.xe use Qf (.ref D) C (.ok .next) s') :
    wpAny (model X.prog X.w) X.A (comprehension (.ListComp elt [⟨tg, iter, ifs, 0⟩] scope pos) scope X.env pos' (newList []) false (eval iter X.env) use) Qf X.xe s := by
  refine wpAny_comprehension_free (use := use) rfl hs (closure_ok fun y hy e => (ok.free y hy e).elim (fun k => I.ok.has _ (.inl k)) fun k => I.ok.has _ (.inr k)) ok.kind (fun y hy e => by rw [ok.uniq y hy, e]) (thn (hi.run pins s σ H _ I rd) fun xv s1 got => ?_)
  obtain ⟨x, H1, I1, rx, a, ex, ⟨xs, hq⟩, q⟩ := got
  subst ex
  cases (show xv = Value.ref a from rx)
  obtain ⟨its, rv, pl, hz⟩ := I1.list hq
  refine wpAny_pyIter_list pl.isList (lc_rest hot hN (I1.kept (t' := s1.toks) fun b o e => Heap.get?_push_of_some _ e) ⟨_, Heap.get?_push_size _ rfl, rfl, rfl⟩ ?_ ok hg ht he q fit)
  exact I1.fpOk (Nat.le_refl _) (I1.hok.fresh (Nat.le_refl _))
theorem pe_lcH (hot : L2H.HotC X) (hN : X.N.Nodup) (hi : PE X iter ti) (ok : BlkOk X.N X.env.scope scope own)
    (hg : ∀ (s : Shared) (H : Hp) (C : Addr) (cl : List (Str × Addr)) (fp : List Addr), PG (X.blk s H scope (compEnvC scope cl C X.env) fp) tg g)
    (ht : ∀ (s : Shared) (H : Hp) (C : Addr) (cl : List (Str × Addr)) (fp : List Addr), PTs (X.blk s H scope (compEnvC scope cl C X.env) fp) ifs tt)
    (he : ∀ (s : Shared) (H : Hp) (C : Addr) (cl : List (Str × Addr)) (fp : List Addr), PE (X.blk s H scope (compEnvC scope cl C X.env) fp) elt te) (hs : ∀ x, foldedSetIterable iter X.env x = pure x) :
    PE X (.ListComp elt [⟨tg, iter, ifs, 0⟩] scope pos) (tLc (iList X.K ti) g tt te (own.map (·.2))) := by
  refine ⟨fun pins s σ H Q I rd => ?_⟩
  rw [eval_ListComp]
  refine lc_hot hot hN I hi ok hg ht he hs rd fun D C s' m H' J q hn f => ⟨m, hn, fun h8 sb => ?_⟩
  obtain ⟨c0, c1, c2, c3, c4, c5⟩ := f
  exact ⟨.ref D, H', J.turned (t' := s'.toks) (fun b o hb e => (sb.2 b hb).trans e) c0 c1 c3 c4 c5, rfl, q⟩
theorem ps_setLcH {i : Nat} {y : Str} {py spos : Pos} (hot : L2H.HotC X) (hN : X.N.Nodup) (hy : X.N[i]? = some y) (hyl : X.env.scope.names.lookup y = some .local)
    (hsw : swapsWith (.ListComp elt [⟨tg, iter, ifs, 0⟩] scope pos) (some (.Name y py)) spos.line X.env = pure true) (hi : PE X iter ti) (ok : BlkOk X.N X.env.scope scope own)
    (hg : ∀ (s : Shared) (H : Hp) (C : Addr) (cl : List (Str × Addr)) (fp : List Addr), PG (X.blk s H scope (compEnvC scope cl C X.env) fp) tg g)
    (ht : ∀ (s : Shared) (H : Hp) (C : Addr) (cl : List (Str × Addr)) (fp : List Addr), PTs (X.blk s H scope (compEnvC scope cl C X.env) fp) ifs tt)
    (he : ∀ (s : Shared) (H : Hp) (C : Addr) (cl : List (Str × Addr)) (fp : List Addr), PE (X.blk s H scope (compEnvC scope cl C X.env) fp) elt te) (hs : ∀ x, foldedSetIterable iter X.env x = pure x) :
    PS X (.Assign [.Name y py] (.ListComp elt [⟨tg, iter, ifs, 0⟩] scope pos) spos) (tAsg (tLc (iList X.K ti) g tt te (own.map (·.2))) (gName i)) := by
  refine ⟨fun pins s σ H D I rd => ?_⟩
  rw [exec_Assign_Name_used _ _ _ _ hsw]
  refine wpAny_bind (wpAny_standAt (wpAny_bind ?_))
  show wpAny _ X.A (do
    let _ ← comprehension (.ListComp elt [⟨tg, iter, ifs, 0⟩] scope pos) scope X.env (firstIterPos [⟨tg, iter, ifs, 0⟩] pos) (newList []) false (eval iter X.env) (some (assign (.Name y py) X.env))) _ _ s
  have rd : tLc (iList X.K ti) g tt te (own.map (·.2)) σ H (fun x H1 => gName i x σ H1 D.nx) := rd
  refine wpAny_bind (thn (lc_hot (Qf := fun _ s' => SP X pins D .next s') hot hN I hi ok hg ht he hs rd fun L C s' m H' J q hn f => ?_) fun _ s' hq => wpAny_pure (wpAny_pure hq))
  show wpAny _ _ (assign (.Name y py) X.env (Value.ref L)) _ _ s'
  obtain ⟨c0, c1, c2, c3, c4, c5⟩ := f
  refine wpAny_assign_Name (store_ok2 (v := V.ref L) J hN hy (.inl hyl) rfl (fun s2 I2 ⟨a, sb, ha⟩ => ?_) (.inr hyl))
  have nC : C ≠ a := ha.elim (fun z => by rw [z]; exact c1) fun z e => c4 y a z e.symm
  exact ⟨m, hn.sameBut sb nC, fun h3 sb3 => ⟨_, H', I2.turned (t' := s2.toks) (fun b o hb e => (sb3.2 b hb).trans e) c0 c1 c3 c4 c5, q⟩⟩
end
section
variable {X : Cx} {g : Gx} {EX : EXT} {tg iter elt : Expr} {ifs : List Expr} {scope : Scope} {own : List (Str × Nat)} {pos : Pos} {gr : DG} {tt : DT} {te r : DE}
theorem iL_list {σ : L2.St} {H : Hp} {R : It → Hp → Prop} (h : lI X.K g EX (iL r) σ H R) : iList X.K (lE X.K g EX r) σ H R := by
  obtain ⟨A, ρ, Qd, Ed, S, q, cx, k⟩ := h
  refine ⟨A, ρ, _, Ed, S, q, fun d v A1 H1 x1 da q => ?_, cx⟩
  have q : onL d Qd := q
  unfold onL at q
  split at q
  · obtain ⟨p, xs, rfl, hs, qa⟩ := da
    exact ⟨p, rfl, ⟨xs, SqL.of (x1.good.sub _ _ hs)⟩, k _ _ A1 H1 x1 (turns_list (SqL.of hs) qa) q⟩
  · exact q.elim
/-- name = [..], owned, while an exception is handled -/
theorem pds_setLcH {i : Nat} {y : Str} {py spos : Pos} (hot : L2H.HotC X) (hN : X.N.Nodup) (hy : X.N[i]? = some y) (hyl : X.env.scope.names.lookup y = some .local)
    (hsw : swapsWith (.ListComp elt [⟨tg, iter, ifs, 0⟩] scope pos) (some (.Name y py)) spos.line X.env = pure true) (hi : PD X g EX iter r) (ok : BlkOk X.N X.env.scope scope own)
    (hg : ∀ (s : Shared) (H : Hp) (C : Addr) (cl : List (Str × Addr)) (fp : List Addr), PDGw (X.blk s H scope (compEnvC scope cl C X.env) fp) g (own.map (·.2)) tg gr)
    (ht : ∀ (s : Shared) (H : Hp) (C : Addr) (cl : List (Str × Addr)) (fp : List Addr), PDTs (X.blk s H scope (compEnvC scope cl C X.env) fp) g EXF ifs tt)
    (he : ∀ (s : Shared) (H : Hp) (C : Addr) (cl : List (Str × Addr)) (fp : List Addr), PD (X.blk s H scope (compEnvC scope cl C X.env) fp) g EXF elt te)
    (hs : ∀ x, foldedSetIterable iter X.env x = pure x := by intro _; rfl) :
    PDS X g EX (.Assign [.Name y py] (.ListComp elt [⟨tg, iter, ifs, 0⟩] scope pos) spos) (sSetN i (nComp (iL r) gr tt te (own.map (·.2)))) :=
  ⟨(ps_setLcH (i := i) (te := lE X.K g EXF te) (tt := lT X.K g EXF tt) hot hN hy hyl hsw hi.pe ok (fun s H C cl fp => (hg s H C cl fp).pg) (fun s H C cl fp => (ht s H C cl fp).pt) (fun s H C cl fp => (he s H C cl fp).pe) hs).imp fun De σ H h => by
  obtain ⟨A, ρ, DD, S, h, k⟩ := h
  have h2 : lN X.K g EX (nComp (iL r) gr tt te (own.map (·.2))) σ H (fun x H1 => gName i x σ H1 De.nx) := ⟨A, ρ, _, _, S, h, fun l xs p A1 H1 x1 hp da q => k.nx _ _ _ _ ((S.ext x1).setOw hp da) (List.length_set ..) x1.mono q, k.cx S⟩
  exact iL_list (lcD h2)⟩
end
end My
namespace My
open PySem PySem.Spec PyProof.Rows L2
/-! ### the exception that is handled, over data -/
theorem zip_look {K : PySem.W.Frag} {so : Option Addr} {A : Hp} {n : Str} {d : D} : ∀ {fs : List Str} {vs : List D} {us : List V}, DaL K so A vs us → (fs.zip vs).lookup n = some d → ∃ v, (fs.zip us).lookup n = some v ∧ Da K so A d v
  | [], _, _, _, e => by cases e
  | _ :: _, [], _, _, e => by cases e
  | f :: fs, c :: vs, us, q, e => by
    obtain ⟨v, r, e1, h1, h2⟩ := q
    subst e1
    rw [List.zip_cons_cons, List.lookup_cons] at e ⊢
    cases hb : n == f with
    | true =>
      rw [hb] at e
      cases e
      exact ⟨v, rfl, h1⟩
    | false =>
      rw [hb] at e
      exact zip_look h2 e
section
variable {X : Cx} {g : Gx} {EX : EXT} {e c : Expr} {ra : DE} {pos p : Pos} {a : Addr} {oe : Obj} {x : XD} {dx : Addr} {us : List V}
/-- what is known of the exception -/
structure XK1 (X : Cx) (g : Gx) (a : Addr) (oe : Obj) (x : XD) (dx : Addr) (us : List V) : Prop where
  pn : (a, oe) ∈ X.pn
  hot : L2H.Hot1 X.A (a, oe)
  cls : oe.cls = .ref x.C
  dict : oe.dict = some dx
  at_ : g.Ai dx = some (.xd (x.fs.zip us))
  len : us.length = x.fs.length
  da : DaL X.K g.so g.Ai x.vs us
theorem XK1.fl (k : XK1 X g a oe x dx us) : ∃ vs, oe.data = .fields vs := k.hot.2.imp fun _ z => z.1
theorem XK1.hc (k : XK1 X g a oe x dx us) : L2H.HotC X := ⟨(a, oe), k.hot, k.pn⟩
def dIsP (K : PySem.W.Frag) (x : XD) (a : Addr) (cv : Value) (ra : DE) : DE := fun ρ Q E => ra ρ (fun d => d = .exc a ∧ XC K x.C ∧ ∃ b, PySem.W.kitOne K (.ref x.C) cv = some b ∧ Q (.bl b)) E
theorem pd_isP {cc : V} {cv : Value} (k : XK1 X g a oe x dx us) (hg : Gl X "isinstance") (hm : X.mg "isinstance" = none) (ha : PD X g EX e ra) (hb : PE X c (tC cc)) (hc : ClsV cc cv)
    (he : starEach [e, c] X.env = (false, eval e X.env) :: starEach [c] X.env := by rfl) (hs : starEach [c] X.env = (false, eval c X.env) :: starEach [] X.env := by rfl) (hpl : (backTo pos (starEach [c] X.env)).any (·.1) = false := by rfl) :
    PD X g EX (.Call (.Name "isinstance" p) [e, c] [] pos) (dIsP X.K x a cv ra) :=
  ⟨(pe_callB (c_isP k.pn ⟨k.cls, k.dict⟩ k.fl) hg hm bt_isinstance (pa_cons ha.pe (pa_cons hb pa_nil hs) he) (by decide) (by decide) he hpl).imp fun σ H Q h => by
  obtain ⟨A, ρ, Qd, Ed, S, h, c, cx⟩ := h
  refine ⟨A, ρ, _, Ed, S, h, fun d v A1 H1 x1 da q => ?_, cx⟩
  obtain ⟨rfl, xc, b, kb, q⟩ := q
  have da : v = _ := da
  subst da
  exact ⟨x.C, dx, _, _, cv, b, rfl, rfl, xc, rfl, x1.good.sub _ _ (x1.mono _ _ (S.x.mono _ _ k.at_)), hc, kb, (c.ext x1).nowB x1.good q⟩⟩
def dXg (K : PySem.W.Frag) (x : XD) (a : Addr) (n : Str) (ra : DE) : DE := fun ρ Q E => ra ρ (fun d => d = .exc a ∧ XC K x.C ∧ PySem.W.findIn K (.ref x.C) n = some none ∧ ∃ d', (x.fs.zip x.vs).lookup n = some d' ∧ Q d') E
theorem pd_xg {n : Str} (k : XK1 X g a oe x dx us) (he : PD X g EX e ra) (hb : attributeBase e n X.env (eval e X.env) = eval e X.env := by rfl) : PD X g EX (.Attribute e n pos) (dXg X.K x a n ra) :=
  ⟨(pe_xg k.pn ⟨k.cls, k.dict⟩ k.fl he.pe hb).imp fun σ H Q h => by
  obtain ⟨A, ρ, Qd, Ed, S, h, c, cx⟩ := h
  refine ⟨A, ρ, _, Ed, S, h, fun d v A1 H1 x1 da q => ?_, cx⟩
  obtain ⟨rfl, xc, nf, d', lk, q⟩ := q
  have da : v = _ := da
  subst da
  have x2 := S.x.trans x1
  obtain ⟨w, lw, dw⟩ := zip_look (x2.daL k.da) lk
  exact ⟨rfl, x.C, dx, _, w, rfl, xc, nf, rfl, x1.good.sub _ _ (x2.mono _ _ k.at_), lw, (c.ext x1).now x1.good dw q⟩⟩
def dCallE (a : Addr) (x : XD) (m : XD → (D → Prop) → Prop) (ra : DE) : DE := fun ρ Q E => ra ρ (fun d => d = .exc a ∧ m x Q) E
theorem pd_callE {lv : Nat} {f : Addr} {fd : FuncData} {ps : List Str} {nm : Str} {m : XD → (D → Prop) → Prop} (k : XK1 X g a oe x dx us) (G : FnE X.prog X.w X.K X.mg X.base lv f fd ps (fun q => spXD X.K m q.1 q.2.cls q.2.dict)) (room : L2H.RoomH lv X.A)
    (gl : Gl X nm) (gm : X.mg nm = some (.ref f)) (kp : PySem.W.keepIn X.K (.ref f) = true) (bnd : Binds X.K fd ps []) (he : PD X g EX e ra) (nd : (nm == ("__debug__" : Str)) = false := by decide)
    (st1 : starEach [e] X.env = (false, eval e X.env) :: starEach [] X.env := by rfl) (st2 : (backTo pos (starEach [] X.env)).any (·.1) = false := by rfl) : PD X g EX (.Call (.Name nm p) [e] [] pos) (dCallE a x m ra) :=
  ⟨(pe_callE G room k.hot k.pn gl gm kp bnd (pa_cons he.pe pa_nil st1) nd st1 st2).imp fun σ H Q h => by
  obtain ⟨A, ρ, Qd, Ed, S, h, c, cx⟩ := h
  refine ⟨A, ρ, _, Ed, S, h, fun d v A1 H1 x1 da q => ?_, cx⟩
  obtain ⟨rfl, q⟩ := q
  have da : v = _ := da
  subst da
  have x2 := S.x.trans x1
  exact ⟨g.so, A1, x, dx, us, Qd, rfl, k.cls, k.dict, x1.good, x2.mono _ _ k.at_, k.len, x2.daL k.da, q, c.ext x1⟩⟩
end
section
variable {P : Program} {w : World} {K : PySem.W.Frag} {mg : Str → Option Value} {base : Heap}
theorem Df.okED {y : Str} {st : Stmt} {N : List Str} {en : Str} {lv : Nat} {m : XD → (D → Prop) → Prop} (D : Df K mg y st [en]) (S : FnScope N [en] (defScope st))
    (body : ∀ (q : Addr × Obj) (cdv : Value) (A : Around) (outer : List PySem.Env) (s : Shared) (H : Hp) (E : XK) (so : Option Addr) (A0 : Hp) (x : XD) (dx : Addr) (us : List V), L2H.RoomH lv (A.deeper (envOfC y (defScope st) s.heap.objs.size D.f cdv)) →
      XK1 (L2H.cxH CX0 P w K mg base N y (defScope st) D.f cdv A outer s H E q).nox ⟨so, A0, H⟩ q.1 q.2 x dx us →
      ∃ r, PDSs (L2H.cxH CX0 P w K mg base N y (defScope st) D.f cdv A outer s H E q).nox ⟨so, A0, H⟩ EXF (defBody st) r ∧ ∀ Qd, m x Qd → r ⟨fun _ => Qd .non, Qd, fun _ => False, fun _ => False, fun _ => False, False⟩ (startD N [.exc q.1])) :
    FnE P w K mg base (lv + 1) D.f D.fd [en] (fun q => spXD K m q.1 q.2.cls q.2.dict) := by
  refine D.okE S (fun q vs H Q E h => ?_) fun q cdv A outer s H vs Q E hot room h => ?_
  · obtain ⟨_, _, _, _, _, _, rfl, _⟩ := h
    rfl
  · obtain ⟨so, A0, x, dx, us, Qd, rfl, hc, hd, gd, ea, hl, da, hm, c⟩ := h
    obtain ⟨r, hr, k⟩ := body q cdv A outer s H E so A0 x dx us room ⟨List.mem_singleton.mpr rfl, hot, hc, hd, ea, hl, da⟩
    refine ⟨_, hr.pss, A0, startD N [.exc q.1], ⟨fun _ => Qd .non, Qd, fun _ => False, fun _ => False, fun _ => False, False⟩, ⟨Ext.refl gd, startOk gd (DaL.one rfl)⟩, k Qd hm, ⟨fun A1 H1 σ ρ S1 _ _ q => ?_, fun A1 H1 d v x1 d1 q => c d v A1 H1 x1 d1 q, fun _ _ _ _ _ _ _ q => q.elim, fun _ _ _ _ _ _ _ q => q.elim, fun σ _ => ?_, fun z => z.elim⟩⟩
    · exact c .non .non A1 H1 S1.x rfl q
    · exact fun _ _ _ _ _ _ _ _ _ _ q => q.elim
end
end My
namespace My
open PySem PySem.Spec PyProof.Rows L2
/-! ### exceptions made by hand, kept as values -/
def tMkV (C : Addr) (sp : Sp) (dvs : List V) (ta : TA) : TE := fun σ H Q => ta σ H fun vs H1 => vs.length ≤ 1000 ∧ ∀ a, H1 a = none → sp (.ref a :: (vs ++ dvs)) (upd H1 a (exo a C none)) (fun v H2 => v = .non ∧ Q (.ref a) H2) (fun _ _ _ => False)
section
variable {X : Cx}
theorem pe_mkV {CXc : CXT} {nm : Str} {C fI : Addr} {lv : Nat} {fdI : FuncData} {psI : List Str} {spI : Sp} {ds : List Value} {dvs : List V} {e : Expr} {es : List Expr} {ta : TA} {p pos : Pos} (T : OexC X.K C)
    (iC : PySem.W.findIn X.K (.ref C) "__init__" = some (some (.ref fI))) (tI : PySem.W.typeIn X.K (.ref fI) = some (.type "function"))
    (FI : FnOk X.prog X.w X.K X.mg X.base CXc lv fI fdI psI spI) (room : Room (lv + 1) X.A) (bnd : Binds X.K fdI psI ds) (dfl : Vals dvs ds) (px : Passes CXc X (fun _ _ _ => False)) (gl : Gl X nm) (gm : X.mg nm = some (.ref C)) (args : PA X (e :: es) ta)
    (nd : (nm == ("__debug__" : Str)) = false := by decide) (st1 : starEach (e :: es) X.env = (false, eval e X.env) :: starEach es X.env := by rfl) (st2 : (backTo pos (starEach es X.env)).any (·.1) = false := by rfl) :
    PE X (.Call (.Name nm p) (e :: es) [] pos) (tMkV C spI dvs ta) := by
  refine ⟨fun pins s σ H Q I rd => ?_⟩
  have T' := T.cls
  obtain ⟨n0, n1, n2, n3, n4, n5, n6, n7, n8, n9, j0, j1, j2, j3, j5, lkC, rfs⟩ := T'
  refine wpAny_Call_Name_kw (ld_glob I gl gm ?_ nd)
  refine PySem.W.callWith_K (h₀ := X.base) I.ok.mod.kin T.kC (thn (args.run pos pins s σ H _ I rd) fun us s1 hh => ?_) st1 st2
  obtain ⟨vs, H1, I1, rel, sz, rd1⟩ := hh
  refine ⟨I1.kIn, ?_⟩
  show wpAny _ _ (call (.ref C) us) _ _ _
  obtain ⟨hp, gn, dr, tk, os⟩ := s1
  generalize en : hp.objs.size + 1 = nx at *
  have le : hp.objs.size ≤ nx := by omega
  have rd2 := rd1 nx (I1.hok.fresh le)
  have there : ((hp.push (PySem.W.kdv_tup us)).push (PySem.HandSPX.excO C hp.objs.size)).get? nx = some (PySem.HandSPX.excO C hp.objs.size) := by
    rw [← en]
    heap_get
  have I2 := I1.laid (t' := tk) (a := nx) (o := exo nx C none) (h' := (hp.push (PySem.W.kdv_tup us)).push (PySem.HandSPX.excO C hp.objs.size)) (fun b o z => Heap.get?_push_of_some _ (Heap.get?_push_of_some _ z)) le (exo_ok there)
  have rel2 : Vals (V.ref nx :: (vs ++ dvs)) (Value.ref nx :: (us ++ ds)) := .cons rfl (rel.append dfl)
  have hlen : (Value.ref nx :: us ++ ds).length = psI.length := by
    have q := rel2.length
    rw [FI.len _ _ _ _ rd2] at q
    exact q.symm
  have few : us.length ≤ sizeLine := by
    have q := Paired.length rel
    rw [← q, sizeLine_eq]
    omega
  refine wpAny_call ?_
  refine PySem.HandSPX.call_own F.excBase_ValueError (fun Y => PySem.HandSPX.refsVE_contains Y n4 rfs) (I1.kIn _ _ lkC) (PySem.W.looks_findIn I1.kIn iC) (fun self => PySem.W.bind_fn I1.kIn self tI) few ?_
  rw [en]
  refine codeAny_mono (FI.run _ X.stack _ _ ⟨Value.ref nx :: us, []⟩ (Value.ref nx :: (us ++ ds)) _ _ (fun _ _ _ => False) (room.make C us []) (I2.env0.make C us []) (bnd _ (Value.ref nx :: us) I2.kIn hlen) rel2 rd2) fun r s' back => ?_
  cases r with
  | error er => exact px pins σ _ _ er s' I2 back
  | ok fl =>
    cases fl with
    | next => exact back.elim
    | brk => exact back.elim
    | cont => exact back.elim
    | ret u =>
      obtain ⟨v, H2, J, rv, ev, q2⟩ := I2.after back
      subst ev
      exact ⟨rv, .ref nx, H2, J, rfl, q2⟩
theorem pe_mkV0 {CXc : CXT} {nm : Str} {C fI : Addr} {lv : Nat} {fdI : FuncData} {psI : List Str} {spI : Sp} {ds : List Value} {dvs : List V} {p pos : Pos} (T : OexC X.K C)
    (iC : PySem.W.findIn X.K (.ref C) "__init__" = some (some (.ref fI))) (tI : PySem.W.typeIn X.K (.ref fI) = some (.type "function"))
    (FI : FnOk X.prog X.w X.K X.mg X.base CXc lv fI fdI psI spI) (room : Room (lv + 1) X.A) (bnd : Binds X.K fdI psI ds) (dfl : Vals dvs ds) (px : Passes CXc X (fun _ _ _ => False)) (gl : Gl X nm) (gm : X.mg nm = some (.ref C))
    (nd : (nm == ("__debug__" : Str)) = false := by decide) :
    PE X (.Call (.Name nm p) [] [] pos) (tMkV C spI dvs tNil) := by
  refine ⟨fun pins s σ H Q I rd => ?_⟩
  have T' := T.cls
  obtain ⟨n0, n1, n2, n3, n4, n5, n6, n7, n8, n9, j0, j1, j2, j3, j5, lkC, rfs⟩ := T'
  refine wpAny_Call_Name_kw (ld_glob I gl gm ?_ nd)
  refine PySem.W.callWith_K0 I.kIn T.kC ?_
  show wpAny _ _ (call (.ref C) []) _ _ _
  obtain ⟨hp, gn, dr, tk, os⟩ := s
  have I1 := I
  generalize en : hp.objs.size + 1 = nx at *
  have le : hp.objs.size ≤ nx := by omega
  have rd2 := rd.2 nx (I1.hok.fresh le)
  have there : ((hp.push (PySem.W.kdv_tup [])).push (PySem.HandSPX.excO C hp.objs.size)).get? nx = some (PySem.HandSPX.excO C hp.objs.size) := by
    rw [← en]
    heap_get
  have I2 := I1.laid (t' := tk) (a := nx) (o := exo nx C none) (h' := (hp.push (PySem.W.kdv_tup [])).push (PySem.HandSPX.excO C hp.objs.size)) (fun b o z => Heap.get?_push_of_some _ (Heap.get?_push_of_some _ z)) le (exo_ok there)
  have rel2 : Vals (V.ref nx :: dvs) (Value.ref nx :: ds) := .cons rfl dfl
  have rd2 : spI (V.ref nx :: dvs) _ _ _ := rd2
  have hlen : ([Value.ref nx] ++ ds).length = psI.length := by
    have q := rel2.length
    rw [FI.len _ _ _ _ rd2] at q
    exact q.symm
  have few : ([] : List Value).length ≤ sizeLine := by
    rw [sizeLine_eq]
    exact Nat.zero_le _
  refine wpAny_call ?_
  refine PySem.HandSPX.call_own F.excBase_ValueError (fun Y => PySem.HandSPX.refsVE_contains Y n4 rfs) (I1.kIn _ _ lkC) (PySem.W.looks_findIn I1.kIn iC) (fun self => PySem.W.bind_fn I1.kIn self tI) few ?_
  rw [en]
  refine codeAny_mono (FI.run _ X.stack _ _ ⟨[Value.ref nx], []⟩ (Value.ref nx :: ds) _ _ (fun _ _ _ => False) (room.make C [] []) (I2.env0.make C [] []) (bnd _ [Value.ref nx] I2.kIn hlen) rel2 rd2) fun r s' back => ?_
  cases r with
  | error er => exact px pins σ _ _ er s' I2 back
  | ok fl =>
    cases fl with
    | next => exact back.elim
    | brk => exact back.elim
    | cont => exact back.elim
    | ret u =>
      obtain ⟨v, H2, J, rv, ev, q2⟩ := I2.after back
      subst ev
      exact ⟨rv, .ref nx, H2, J, rfl, q2⟩
/-- X(), an own exception class without own __init__ -/
theorem pe_mkB {C : Addr} {bmB : List Value} {B newId initId : String} {x : Str} {p pos : Pos} (F : ExcBaseFacts B newId initId bmB) (q : PySem.W.excIn X.K C bmB newId = true) (gC : X.mg x = some (.ref C)) (kC : PySem.W.keepIn X.K (.ref C) = true) (hg : Gl X x) (hdb : (x == ("__debug__" : Str)) = false := by decide) :
    PE X (.Call (.Name x p) [] [] pos) (fun σ H Q => ∀ a, H a = none → Q (.ref a) (upd H a (ExO (.ref C) a))) := by
  refine ⟨fun pins s σ H Q I h => ?_⟩
  refine wpAny_Call_Name_kw (ld_glob I hg gC ?_ hdb)
  refine PySem.W.callWith_K0 I.kIn kC ?_
  show wpAny _ _ (call (.ref C) []) _ _ _
  obtain ⟨bm, N, nm, qn, bs, hdct, sn, sub, ab, col, dd, k0, k1, k2, k3, k5, mN, hC, hN, hni, T⟩ := exc_obj I.kIn q
  refine wpAny_call_exc_subT F T hC hN hni (fun h' a hm => ?_) (by show 0 ≤ sizeLine; rw [sizeLine_eq]; omega)
  have hn : H a = none := I.hok.gone hm.new
  obtain ⟨t, ht, _, _⟩ := hm.there
  exact ⟨.ref a, upd H a (ExO (.ref C) a), I.laidN hm.keeps hm.new hn (exO_ok ht ⟨rfl, rfl⟩ rfl rfl rfl (show 4 < 6 by decide)), rfl, h a hn⟩
/-! ### what may be asked of them -/
theorem err_at {pins : List (Addr × Obj)} {s : Shared} {σ : L2.St} {H : Hp} {a C : Addr} {fs : List Str} {us : List V} (I : Inv X pins σ H s) (h : ErrAt H a C fs us) :
    ∃ (oe : Obj) (od : Option Obj), PySem.W.InstAt s.heap a oe C od := by
  rcases h with ⟨dx, h1, h2, h3⟩ | ⟨h1, h2, h3⟩
  · obtain ⟨t1, ho⟩ := exo_at I.hok h1
    obtain ⟨mA, hns, rel⟩ := exd_at I.hok h2
    obtain ⟨od, ho2, hl⟩ := lookIn_ns hns
    exact ⟨_, some od, ho, rfl, rfl, ho2⟩
  · obtain ⟨⟨oe, vs, ho, hz, hd, _⟩, _, _⟩ := I.hok a _ h3
    exact ⟨oe, none, ho, hz.1, by unfold PySem.W.notCls; rw [hd] <;> rfl, by rw [hz.2]; trivial⟩
def rIsF (K : PySem.W.Frag) : List V → Hp → VK → Prop := fun xs H Q => ∃ (a C : Addr) (fs : List Str) (us : List V) (c : V) (cv : Value) (b : Bool),
  xs = [.ref a, c] ∧ ErrAt H a C fs us ∧ XC K C ∧ ClsV c cv ∧ PySem.W.kitOne K (.ref C) cv = some b ∧ Q (.bl b) H
theorem c_isF : CallR X (.builtin "isinstance") (rIsF X.K) := by
  intro pins s σ H xs us Q I r rd
  obtain ⟨a, C, fs, ws, c, cv, b, ex, ea, T, kc, kb, q⟩ := rd
  subst ex
  obtain ⟨u1, u2, rfl, r1, r2⟩ := vals2 r
  cases (show u1 = Value.ref a from r1)
  have e2 := kc.eq r2
  subst e2
  obtain ⟨oe, od, J⟩ := err_at I ea
  exact PySem.W.kia_one (PySem.W.kitx_exc T.cl T.e.hg T.e.hk T.e.hs T.e.ha T.e.hn T.e.ht T.e.hm) I.kIn J kb (fun z => nomatch z) fun tk => ⟨.bl b, H, I.kept (t' := tk) fun _ _ z => z, rfl, q⟩
def tXf (K : PySem.W.Frag) (n : Str) (te : TE) : TE := fun σ H Q => te σ H fun x H1 => ∃ (a C dx : Addr) (fs : List (Str × V)) (v : V),
  x = .ref a ∧ H1 a = some (exo a C (some dx)) ∧ H1 dx = some (exd dx fs) ∧ XC K C ∧ PySem.W.findIn K (.ref C) n = some none ∧ fs.lookup n = some v ∧ Q v H1
theorem pe_xf {e : Expr} {te : TE} {pos : Pos} {n : Str} (he : PE X e te)
    (hb : attributeBase e n X.env (eval e X.env) = eval e X.env := by rfl) : PE X (.Attribute e n pos) (tXf X.K n te) := by
  refine ⟨fun pins s σ H Q I rd => attr_of hb (thn (he.run pins s σ H _ I rd) fun u s1 hh => ?_)⟩
  obtain ⟨x, H1, I1, rx, a, C, dx, fs, v, ex, h1, h2, T, no, l, q⟩ := hh
  subst ex
  cases (show u = Value.ref a from rx)
  obtain ⟨t1, there⟩ := exo_at I1.hok h1
  obtain ⟨mA, hns, rel⟩ := exd_at I1.hok h2
  obtain ⟨od, ho, hl⟩ := lookIn_ns hns
  obtain ⟨u', hu, ru⟩ := RelO.some_of (v := v) (o := mA n) (by rw [← l]; exact rel n)
  have J : PySem.W.InstAt s1.heap a _ C (some od) := ⟨there, rfl, rfl, ho⟩
  exact HandSPX.exc_get I1.kIn J T.e.hg T.e.hk T.e.hs (PySem.W.findObj_own T.e.hd no rfl (by rw [hl, hu])) (handed_of ru) ⟨v, H1, I1.tok _, ru, q⟩
end
/-! ### the same over data -/
theorem Ext.two {K : PySem.W.Frag} {so : Option Addr} {A H H' : Hp} {a dx : Addr} {o u : HO} (g : Good K so A H) (ha : H a = none) (hd : H dx = none) (ne : dx ≠ a) (h1 : H' a = some o) (h2 : H' dx = some u) (k : ∀ b v, b ≠ a → H b = some v → H' b = some v) :
    Ext K so A H (upd (upd A dx u) a o) H' := by
  have nA : ∀ {b : Addr}, H b = none → A b = none := fun {b} h => by
    cases e : A b with
    | none => rfl
    | some v =>
      rw [g.sub b v e] at h
      cases h
  have up : ∀ {b : Addr} {v : HO}, A b = some v → upd (upd A dx u) a o b = some v := fun {b v} e => by
    rw [upd_ne (ne_of_none e (nA ha)), upd_ne (ne_of_none e (nA hd))]
    exact e
  refine ⟨⟨fun b v e => ?_, fun s e => ?_⟩, fun b v e => up e, fun b v n e => k b v (ne_of_none e ha) e, fun b v e => ?_⟩
  · by_cases z : b = a
    · subst z
      rw [upd_same] at e
      cases e
      exact h1
    · rw [upd_ne z] at e
      by_cases z2 : b = dx
      · subst z2
        rw [upd_same] at e
        cases e
        exact h2
      · rw [upd_ne z2] at e
        have := g.sub b v e
        exact k b v z this
  · obtain ⟨x1, L, ns, p', i, j, c, d, x2, x3, r⟩ := g.st s e
    have n1 := g.ne ha e
    have n2 := g.ne hd e
    exact ⟨by rw [upd_ne (Ne.symm n1), upd_ne (Ne.symm n2)]; exact x1, L, ns, p', i, j, c, d, k s _ (Ne.symm n1) x2, up x3, r⟩
  · by_cases z : b = a
    · subst z
      exact .inr ha
    · rw [upd_ne z] at e
      by_cases z2 : b = dx
      · subst z2
        exact .inr hd
      · rw [upd_ne z2] at e
        exact .inl e
def dMk (C : Addr) (fs : List Str) (n : Nat) (mkD : List D → List D) (dd : List D) (t : DL) : DE := fun ρ Q E => t ρ (fun ds => ds.length ≤ 1000 ∧ (ds ++ dd).length = n ∧ Q (.err C fs (mkD (ds ++ dd)))) E
section
variable {X : Cx} {g : Gx} {EX : EXT} {e c : Expr} {es : List Expr} {ra : DE} {pos p : Pos} {t : DL}
variable {nm : Str} {C fI : Addr} {lv n : Nat} {fdI : FuncData} {psI fs : List Str} {mk : List V → List (Str × V)} {mkD : List D → List D} {dus : List Value} {dvs : List V} {dd : List D}
theorem mk_core (R : Rz X.K C fs n mk mkD) (hd : ∀ so A, DaL X.K so A dd dvs) {A1 H1 : Hp} {ds : List D} {vs : List V} {Qd : D → Prop} {Q : VK} (gd : Good X.K g.so A1 H1) (das : DaL X.K g.so A1 ds vs) (q : ds.length ≤ 1000 ∧ (ds ++ dd).length = n ∧ Qd (.err C fs (mkD (ds ++ dd)))) (c : Cont X.K g.so A1 H1 Qd Q) :
    vs.length ≤ 1000 ∧ ∀ a, H1 a = none → spIni X.K C fs n mk (.ref a :: (vs ++ dvs)) (upd H1 a (exo a C none)) (fun v H2 => v = .non ∧ Q (.ref a) H2) (fun _ _ _ => False) := by
  obtain ⟨q0, q1, q2⟩ := q
  have da := das.app (hd _ _)
  obtain ⟨us, e1, e2, d2⟩ := R.da g.so A1 _ _ q1 da
  refine ⟨by rw [das.len]; exact q0, fun a ha => ⟨a, vs ++ dvs, rfl, by rw [da.len]; exact q1, R.o, R.nf, upd_same, fun dx H' h1 h2 h3 h4 h5 => ⟨rfl, ?_⟩⟩⟩
  rw [e1] at h4
  rw [upd_ne h2] at h1
  have x2 : Ext X.K g.so A1 H1 (upd (upd A1 dx (exd dx (fs.zip us))) a (exo a C (some dx))) H' := Ext.two gd ha h1 h2 h3 h4 fun b v nb hb => h5 b v nb (by rw [upd_ne nb]; exact hb)
  exact c (.err C fs _) (.ref a) _ H' x2 ⟨a, us, rfl, .inl ⟨dx, upd_same, by rw [upd_ne h2]; exact upd_same, e2⟩, DaL.mono x2.mono _ _ d2⟩ q2
theorem pd_mk (R : Rz X.K C fs n mk mkD) (iC : PySem.W.findIn X.K (.ref C) "__init__" = some (some (.ref fI))) (tI : PySem.W.typeIn X.K (.ref fI) = some (.type "function"))
    (FI : FnOk X.prog X.w X.K X.mg X.base CX0 lv fI fdI psI (spIni X.K C fs n mk)) (room : Room (lv + 1) X.A) (bnd : Binds X.K fdI psI dus) (dfl : Vals dvs dus) (hd : ∀ so A, DaL X.K so A dd dvs) (gl : Gl X nm) (gm : X.mg nm = some (.ref C)) (args : PDA X g EX (e :: es) t)
    (nd : (nm == ("__debug__" : Str)) = false := by decide) (st1 : starEach (e :: es) X.env = (false, eval e X.env) :: starEach es X.env := by rfl) (st2 : (backTo pos (starEach es X.env)).any (·.1) = false := by rfl) :
    PD X g EX (.Call (.Name nm p) (e :: es) [] pos) (dMk C fs n mkD dd t) := ⟨(pe_mkV R.o iC tI FI room bnd dfl pass0 gl gm args.pa nd st1 st2).imp fun σ H Q h => by
  obtain ⟨A, ρ, Qd, Ed, S, h, c, cx⟩ := h
  refine ⟨A, ρ, _, _, S, h, fun ds vs A1 H1 x1 das q => ?_, cx⟩
  exact mk_core R hd x1.good das q (c.ext x1)⟩
theorem pd_mk0 (R : Rz X.K C fs n mk mkD) (iC : PySem.W.findIn X.K (.ref C) "__init__" = some (some (.ref fI))) (tI : PySem.W.typeIn X.K (.ref fI) = some (.type "function"))
    (FI : FnOk X.prog X.w X.K X.mg X.base CX0 lv fI fdI psI (spIni X.K C fs n mk)) (room : Room (lv + 1) X.A) (bnd : Binds X.K fdI psI dus) (dfl : Vals dvs dus) (hd : ∀ so A, DaL X.K so A dd dvs) (gl : Gl X nm) (gm : X.mg nm = some (.ref C))
    (nd : (nm == ("__debug__" : Str)) = false := by decide) :
    PD X g EX (.Call (.Name nm p) [] [] pos) (dMk C fs n mkD dd lNil) := ⟨(pe_mkV0 R.o iC tI FI room bnd dfl pass0 gl gm nd).imp fun σ H Q h => by
  obtain ⟨A, ρ, Qd, Ed, S, h, c, cx⟩ := h
  exact mk_core (ds := []) (vs := []) R hd S.good rfl h c⟩
def dMkB (C : Addr) : DE := fun _ Q _ => Q (.err C [] [])
theorem pd_mkB {bmB : List Value} {B newId initId : String} (F : ExcBaseFacts B newId initId bmB) (q : PySem.W.excIn X.K C bmB newId = true) (gC : X.mg nm = some (.ref C)) (kC : PySem.W.keepIn X.K (.ref C) = true) (hg : Gl X nm) (hdb : (nm == ("__debug__" : Str)) = false := by decide) :
    PD X g EX (.Call (.Name nm p) [] [] pos) (dMkB C) := ⟨(pe_mkB F q gC kC hg hdb).imp fun σ H Q h => by
  obtain ⟨A, ρ, Qd, Ed, S, h, c, cx⟩ := h
  intro a ha
  have y := Ext.laid (o := ExO (.ref C) a) S.good ha
  exact c (.err C [] []) (.ref a) _ _ y ⟨a, [], rfl, .inr ⟨rfl, rfl, upd_same⟩, rfl⟩ h⟩
/-- the data is an exception of such a class -/
def onX (d : D) (Q : Addr → List Str → List D → Prop) : Prop := match d with
  | .err C fs vs => Q C fs vs
  | _ => False
def dIsF (K : PySem.W.Frag) (cv : Value) (ra : DE) : DE := fun ρ Q E => ra ρ (fun d => onX d fun C _ _ => XC K C ∧ ∃ b, PySem.W.kitOne K (.ref C) cv = some b ∧ Q (.bl b)) E
theorem pd_isF {cc : V} {cv : Value} (hg : Gl X "isinstance") (hm : X.mg "isinstance" = none) (ha : PD X g EX e ra) (hb : PE X c (tC cc)) (hc : ClsV cc cv)
    (he : starEach [e, c] X.env = (false, eval e X.env) :: starEach [c] X.env := by rfl) (hs : starEach [c] X.env = (false, eval c X.env) :: starEach [] X.env := by rfl) (hpl : (backTo pos (starEach [c] X.env)).any (·.1) = false := by rfl) :
    PD X g EX (.Call (.Name "isinstance" p) [e, c] [] pos) (dIsF X.K cv ra) :=
  ⟨(pe_callB c_isF hg hm bt_isinstance (pa_cons ha.pe (pa_cons hb pa_nil hs) he) (by decide) (by decide) he hpl).imp fun σ H Q h => by
  obtain ⟨A, ρ, Qd, Ed, S, h, c, cx⟩ := h
  refine ⟨A, ρ, _, Ed, S, h, fun d v A1 H1 x1 da q => ?_, cx⟩
  have q : onX d _ := q
  unfold onX at q
  split at q
  · obtain ⟨a, us, rfl, ea, _⟩ := da
    obtain ⟨xc, b, kb, q⟩ := q
    exact ⟨a, _, _, us, _, cv, b, rfl, Sub.err x1.good.sub ea, xc, hc, kb, (c.ext x1).nowB x1.good q⟩
  · exact q.elim⟩
def dXf (K : PySem.W.Frag) (n : Str) (ra : DE) : DE := fun ρ Q E => ra ρ (fun d => onX d fun C fs vs => XC K C ∧ PySem.W.findIn K (.ref C) n = some none ∧ ∃ d', (fs.zip vs).lookup n = some d' ∧ Q d') E
theorem pd_xf {n : Str} (he : PD X g EX e ra) (hb : attributeBase e n X.env (eval e X.env) = eval e X.env := by rfl) : PD X g EX (.Attribute e n pos) (dXf X.K n ra) := ⟨(pe_xf he.pe hb).imp fun σ H Q h => by
  obtain ⟨A, ρ, Qd, Ed, S, h, c, cx⟩ := h
  refine ⟨A, ρ, _, Ed, S, h, fun d v A1 H1 x1 da q => ?_, cx⟩
  have q : onX d _ := q
  unfold onX at q
  split at q
  · obtain ⟨a, us, rfl, ea, dl⟩ := da
    obtain ⟨xc, no, d', l, q⟩ := q
    obtain ⟨v, l2, dv⟩ := zip_look dl l
    rcases ea with ⟨dx, h1, h2, h3⟩ | ⟨rfl, h2, h3⟩
    · exact ⟨a, _, dx, _, v, rfl, x1.good.sub _ _ h1, x1.good.sub _ _ h2, xc, no, l2, (c.ext x1).now x1.good dv q⟩
    · cases l
  · exact q.elim⟩
/-! ### bits -/
theorem ol_shl {K : PySem.W.Frag} : OpL K (rI CShl fun i j => .int (i * 2 ^ j.toNat)) (ddI CShl fun i j => .int (i * 2 ^ j.toNat)) := ol_I fun _ _ _ _ => rfl
def CPowW (i j : Int) : Prop := 0 ≤ j ∧ (Builtin.Int.intBits i : Int) * j ≤ 2 ^ 27
theorem op_powW : OpR X (binaryOp .Pow) (rI CPowW fun i j => .int (i ^ j.toNat)) := opI fun _ _ _ _ _ _ _ hc q => pow_int hc.1 hc.2 q
theorem ol_powW {K : PySem.W.Frag} : OpL K (rI CPowW fun i j => .int (i ^ j.toNat)) (ddI CPowW fun i j => .int (i ^ j.toNat)) := ol_I fun _ _ _ _ => rfl
def ddBits (d : D) (Q : D → Prop) : Prop := match d with
  | .int i => Q (.int (Builtin.Int.intBits i : Nat))
  | _ => False
theorem pd_bits {apos : Pos} (ha : PD X g EX e ra) (hbase : attributeBase e "bit_length" X.env (eval e X.env) = eval e X.env := by rfl) (hline : (apos.endLine == pos.line) = true := by rfl) : PD X g EX (.Call (.Attribute e "bit_length" apos) [] [] pos) (dUn ddBits ra) := ⟨(pe_bits ha.pe hbase hline).imp fun σ H Q h => by
  obtain ⟨A, ρ, Qd, Ed, S, h, c, cx⟩ := h
  refine ⟨A, ρ, _, Ed, S, h, fun d v A1 H1 x1 da q => ?_, cx⟩
  have q : ddBits d Qd := q
  unfold ddBits at q
  split at q
  · exact ⟨_, da, c (.int _) _ A1 H1 x1 rfl q⟩
  · exact q.elim⟩
end
end My
namespace My
open PySem PySem.Spec PyProof.Rows L2
/-- an own exception class of the top -/
structure Xc (K : PySem.W.Frag) (mg : Str → Option Value) (x : Str) where
  C : Addr
  g : mg x = some (.ref C)
  o : OexC K C
  x : XC K C
structure Xg (mg : Str → Option Value) (x : Str) where
  C : Addr
  g : mg x = some (.ref C)
/-- the base class that has no __init__ -/
structure Xf (K : PySem.W.Frag) (mg : Str → Option Value) (x : Str) where
  C : Addr
  g : mg x = some (.ref C)
  x : XC K C
  q : PySem.W.excIn K C PySem.HandSPX.veTail "ValueError.__new__" = true
  k : PySem.W.keepIn K (.ref C) = true
/-- the class i is below the class j (the order of the classes is the printed one) -/
def subI (i j : Nat) : Bool := (j == 0) || (j == i) || ((j == 7) && decide (8 ≤ i))
/-- the __init__ of the class at C; dvs its defaults -/
structure Mi (K : PySem.W.Frag) (C : Addr) (q : Str) (st : Stmt) (ps : List Str) (dvs : List V) where
  f : Addr
  fd : FuncData
  F : FunD K "__init__" q (defArgs st) (defBody st) (defScope st) dvs [] f fd
  b : Binds K fd ps []
  dus : List Value
  vd : Vals dvs dus
  bd : Binds K fd ps dus
  i : PySem.W.findIn K (.ref C) "__init__" = some (some (.ref f))
  t : PySem.W.typeIn K (.ref f) = some (.type "function")
/-- a def of the top with defaults -/
structure Dd (K : PySem.W.Frag) (mg : Str → Option Value) (x : Str) (st : Stmt) (ps : List Str) (dvs : List V) where
  f : Addr
  fd : FuncData
  F : FunD K x x (defArgs st) (defBody st) (defScope st) dvs [] f fd
  b : Binds K fd ps []
  dus : List Value
  vd : Vals dvs dus
  bd : Binds K fd ps dus
  g : mg x = some (.ref f)
/-- a def of the top with keyword-only parameters: n positional ones, the names ks, their defaults dvs -/
structure Dk (K : PySem.W.Frag) (mg : Str → Option Value) (x : Str) (st : Stmt) (ps : List Str) (n : Nat) (ks : List Str) (dvs : List V) where
  f : Addr
  fd : FuncData
  F : FunD K x x (defArgs st) (defBody st) (defScope st) [] (ks.zip dvs) f fd
  dus : List Value
  vd : Vals dvs dus
  bd : Binds K fd ps dus
  kb : KBn K fd ps n ks (fun us ws => us ++ ws) (fun vs zs => vs ++ zs)
  g : mg x = some (.ref f)
section
variable {P : Program} {w : World} {K : PySem.W.Frag} {mg : Str → Option Value} {base : Heap}
theorem Dd.okD {x : Str} {st : Stmt} {N ps : List Str} {lv : Nat} {m : DF} {dvs : List V} (D : Dd K mg x st ps dvs) (S : FnScope N ps (defScope st))
    (body : ∀ (cdv : Value) (A : Around) (outer : List PySem.Env) (s : Shared) (H : Hp) (E : XK) (so : Option Addr) (A0 : Hp), Room lv (A.deeper (envOfC x (defScope st) s.heap.objs.size D.f cdv)) →
      L2N.Takes (cxOf (L2N.CX P w) P w K mg base N x (defScope st) D.f cdv A outer s H E) (fun c d _ H => E c d H) →
      PassesOwn (model P w) (A.deeper (envOfC x (defScope st) s.heap.objs.size D.f cdv)) (envOfC x (defScope st) s.heap.objs.size D.f cdv) (cxOf (L2N.CX P w) P w K mg base N x (defScope st) D.f cdv A outer s H E).xe →
      ∃ r, PDSs (cxOf (L2N.CX P w) P w K mg base N x (defScope st) D.f cdv A outer s H E) ⟨so, A0, H⟩ (fun _ => E) (defBody st) r ∧
        ∀ ds Qd Ed, ds.length = ps.length → m ds Qd Ed → r ⟨fun _ => Qd .non, Qd, fun _ => False, fun _ => False, Ed, False⟩ (startD N ds)) :
    FnOk P w K mg base (L2N.CX P w) (lv + 1) D.f D.fd ps (spD K ps.length m) := by
  refine D.F.ok S spD_len fun cdv A outer s H vs Q E room rd => ?_
  obtain ⟨so, A0, ds, Qd, Ed, gd, hl, da, h, c, cx⟩ := rd
  obtain ⟨r, hr, k⟩ := body cdv A outer s H E so A0 room (L2N.takes_of rfl rfl rfl rfl) PassesOwn.leaving
  refine ⟨_, hr.pss, A0, startD N ds, ⟨fun _ => Qd .non, Qd, fun _ => False, fun _ => False, Ed, False⟩, ⟨Ext.refl gd, startOk gd da⟩, k ds Qd Ed hl h, ⟨fun A1 H1 σ ρ S1 _ _ q => ?_, fun A1 H1 d v x1 d1 q => c d v A1 H1 x1 d1 q, fun _ _ _ _ _ _ _ q => q.elim, fun _ _ _ _ _ _ _ q => q.elim, fun σ _ => cx, fun z => z.elim⟩⟩
  exact c .non .non A1 H1 S1.x rfl q
theorem Dk.okD {x : Str} {st : Stmt} {N ps : List Str} {lv : Nat} {m : DF} {n : Nat} {ks : List Str} {dvs : List V} (D : Dk K mg x st ps n ks dvs) (S : FnScope N ps (defScope st))
    (body : ∀ (cdv : Value) (A : Around) (outer : List PySem.Env) (s : Shared) (H : Hp) (E : XK) (so : Option Addr) (A0 : Hp), Room lv (A.deeper (envOfC x (defScope st) s.heap.objs.size D.f cdv)) →
      L2N.Takes (cxOf (L2N.CX P w) P w K mg base N x (defScope st) D.f cdv A outer s H E) (fun c d _ H => E c d H) →
      PassesOwn (model P w) (A.deeper (envOfC x (defScope st) s.heap.objs.size D.f cdv)) (envOfC x (defScope st) s.heap.objs.size D.f cdv) (cxOf (L2N.CX P w) P w K mg base N x (defScope st) D.f cdv A outer s H E).xe →
      ∃ r, PDSs (cxOf (L2N.CX P w) P w K mg base N x (defScope st) D.f cdv A outer s H E) ⟨so, A0, H⟩ (fun _ => E) (defBody st) r ∧
        ∀ ds Qd Ed, ds.length = ps.length → m ds Qd Ed → r ⟨fun _ => Qd .non, Qd, fun _ => False, fun _ => False, Ed, False⟩ (startD N ds)) :
    FnOk P w K mg base (L2N.CX P w) (lv + 1) D.f D.fd ps (spD K ps.length m) := by
  refine D.F.ok S spD_len fun cdv A outer s H vs Q E room rd => ?_
  obtain ⟨so, A0, ds, Qd, Ed, gd, hl, da, h, c, cx⟩ := rd
  obtain ⟨r, hr, k⟩ := body cdv A outer s H E so A0 room (L2N.takes_of rfl rfl rfl rfl) PassesOwn.leaving
  refine ⟨_, hr.pss, A0, startD N ds, ⟨fun _ => Qd .non, Qd, fun _ => False, fun _ => False, Ed, False⟩, ⟨Ext.refl gd, startOk gd da⟩, k ds Qd Ed hl h, ⟨fun A1 H1 σ ρ S1 _ _ q => ?_, fun A1 H1 d v x1 d1 q => c d v A1 H1 x1 d1 q, fun _ _ _ _ _ _ _ q => q.elim, fun _ _ _ _ _ _ _ q => q.elim, fun σ _ => cx, fun z => z.elim⟩⟩
  exact c .non .non A1 H1 S1.x rfl q
/-- an __init__ that keeps its one value -/
theorem Mi.ok1 {q : Str} {st : Stmt} {C : Addr} {dvs : List V} {f : Str} (I : Mi K C q st ["self", f] dvs) (S : FnScope ["self", f] ["self", f] (defScope st))
    (body : ∀ (cdv : Value) (A : Around) (outer : List PySem.Env) (s : Shared) (H : Hp) (E : XK), PSs (cxOf CX0 P w K mg base ["self", f] q (defScope st) I.f cdv A outer s H E) (defBody st) (tOst K f (tVar 0) (tVar 1))) :
    FnOk P w K mg base CX0 1 I.f I.fd ["self", f] (spIni K C [f] 1 (mk1 f)) := by
  refine I.F.ok S (fun vs H Q E h => ?_) fun cdv A outer s H vs Q E room h => ?_
  · obtain ⟨a, xs, rfl, hl, _⟩ := h
    show xs.length + 1 = 2
    rw [hl]
  · obtain ⟨a, xs, rfl, hl, o, n, ea, k⟩ := h
    match xs, hl with
    | [x], _ =>
      refine ⟨_, body cdv A outer s H E, g_ost ?_⟩
      refine ⟨x, rfl, .ref a, rfl, a, C, rfl, o, n f (by simp), .inl ⟨ea, fun dx n1 n2 => ?_⟩⟩
      exact k dx _ n1 n2 upd_same (by rw [upd_ne n2, upd_same]; rfl) fun b u nb hb => by rw [upd_ne nb, upd_ne (ne_of_none hb n1)]; exact hb
end
structure Txt (K : PySem.W.Frag) (mg : Str → Option Value) where
  dis_whole : Df K mg "is_whole" (topS 12) ["value"]
  ddivisor : Df K mg "divisor" (topS 13) ["one", "other"]
  dlowest : Df K mg "lowest" (topS 14) ["top", "bottom"]
  dsign_of : Df K mg "sign_of" (topS 15) ["number"]
  dfloor_root : Df K mg "floor_root" (topS 16) ["number"]
  dneed_ratio : Df K mg "need_ratio" (topS 17) ["value", "argument"]
  dneed_two : Df K mg "need_two" (topS 18) ["one", "other"]
  dis_ratio : Df K mg "is_ratio" (topS 19) ["value"]
  dadd : Df K mg "add" (topS 20) ["one", "other"]
  dsubtract : Df K mg "subtract" (topS 21) ["one", "other"]
  dmultiply : Df K mg "multiply" (topS 22) ["one", "other"]
  ddivide : Df K mg "divide" (topS 23) ["one", "other"]
  dsign : Df K mg "sign" (topS 24) ["one"]
  droot : Df K mg "root" (topS 25) ["one"]
  droot_sign : Df K mg "root_sign" (topS 26) ["plain", "factor", "under"]
  dis_point : Df K mg "is_point" (topS 30) ["value"]
  dpoint_sum : Df K mg "point_sum" (topS 31) ["one", "other"]
  dpoint_gap : Df K mg "point_gap" (topS 32) ["one", "other"]
  dpoint_times : Df K mg "point_times" (topS 33) ["point", "factor"]
  dpoint_dot : Df K mg "point_dot" (topS 34) ["one", "other"]
  dpoint_cross : Df K mg "point_cross" (topS 35) ["one", "other"]
  dpoint_square : Df K mg "point_square" (topS 36) ["point"]
  dis_positive : Df K mg "is_positive" (topS 38) ["value"]
  dis_side : Df K mg "is_side" (topS 39) ["value"]
  dis_spot : Df K mg "is_spot" (topS 40) ["value"]
  dcheck_point : Df K mg "check_point" (topS 41) ["value", "argument"]
  dcheck_positive : Df K mg "check_positive" (topS 42) ["value", "argument"]
  dspot_at : Df K mg "spot_at" (topS 43) ["base", "lean", "under"]
  dmeet_line : Dk K mg "meet_line" (topS 44) ["place", "direction", "centre", "squared", "side"] 4 ["side"] [.int 1]
  dspot_parts : Df K mg "spot_parts" (topS 45) ["spot"]
  dside_of : Df K mg "side_of" (topS 46) ["spot", "one", "other"]
  ddistance_sign : Df K mg "distance_sign" (topS 47) ["spot", "centre", "squared"]
  dstore : Df K mg "_law_store" (topS 49) ["script"]
  dtake : Df K mg "_law_take" (topS 50) ["store", "many"]
  dedge : Df K mg "_law_edge" (topS 51) ["store", "many"]
  dbetween : Df K mg "_law_between" (topS 52) ["store", "low", "high"]
  dmixed : Df K mg "_law_mixed" (topS 53) ["store", "items"]
  dlow : Df K mg "_law_low" (topS 54) ["up", "down"]
  dplus : Df K mg "_law_plus" (topS 55) ["one", "two"]
  dminus : Df K mg "_law_minus" (topS 56) ["one", "two"]
  dtimes : Df K mg "_law_times" (topS 57) ["one", "two"]
  dover : Df K mg "_law_over" (topS 58) ["one", "two"]
  dneg : Df K mg "_law_neg" (topS 59) ["one"]
  dsgn : Df K mg "_law_sgn" (topS 60) ["one"]
  dcmp : Df K mg "_law_cmp" (topS 61) ["one", "two"]
  dpadd : Df K mg "_law_padd" (topS 62) ["one", "two"]
  dpsub : Df K mg "_law_psub" (topS 63) ["one", "two"]
  dpmul : Df K mg "_law_pmul" (topS 64) ["by", "one"]
  dpdot : Df K mg "_law_pdot" (topS 65) ["one", "two"]
  dpcross : Df K mg "_law_pcross" (topS 66) ["one", "two"]
  dpleft : Df K mg "_law_pleft" (topS 67) ["one"]
  dpsq : Df K mg "_law_psq" (topS 68) ["one"]
  dpzero : Df K mg "_law_pzero" (topS 69) ["one"]
  dsmall : Df K mg "_law_small" (topS 70) ["store"]
  dpositive : Df K mg "_law_positive" (topS 71) ["store"]
  dpoint : Df K mg "_law_point" (topS 72) ["store"]
  ddirection : Df K mg "_law_direction" (topS 73) ["store"]
  dnot_ratio : Df K mg "_law_not_ratio" (topS 74) ["store", "none_too"]
  dnot_point : Df K mg "_law_not_point" (topS 75) ["store"]
  dnot_direction : Df K mg "_law_not_direction" (topS 76) ["store"]
  dis_int : Df K mg "_law_is_int" (topS 77) ["thing"]
  dlis_ratio : Df K mg "_law_is_ratio" (topS 78) ["thing"]
  dlis_point : Df K mg "_law_is_point" (topS 79) ["thing"]
  dis_word : Df K mg "_law_is_word" (topS 80) ["thing", "word", "many"]
  dwhole_root : Df K mg "_law_whole_root" (topS 81) ["number"]
  dlroot : Df K mg "_law_root" (topS 82) ["one"]
  dlroot_sign : Df K mg "_law_root_sign" (topS 83) ["plain", "factor", "under"]
  dlspot_parts : Df K mg "_law_spot_parts" (topS 84) ["spot"]
  dspot_apart : Df K mg "_law_spot_apart" (topS 85) ["spot", "middle", "squared_by"]
  dline_circle : Df K mg "_law_line_circle" (topS 86) ["store"]
  dlike : Df K mg "_law_like" (topS 87) ["got", "due"]
  dlong : Df K mg "_law_long" (topS 88) ["store"]
  dwide_line : Df K mg "_law_wide_line" (topS 89) ["store"]
  dgap : Df K mg "_law_gap" (topS 90) ["base", "along", "middle"]
  ddrawn : Df K mg "_law_drawn" (topS 91) ["store"]
  don_line : Df K mg "_law_on_line" (topS 92) ["base", "along", "spot"]
  dright : Df K mg "_law_right" (topS 93) ["base", "along", "middle", "by", "way", "told"]
  dspot_right : Df K mg "_law_spot_right" (topS 94) ["store", "asked", "way", "spot"]
  dfailed : Df K mg "_law_failed" (topS 95) ["e"]
  dcall : Df K mg "_law_call" (topS 96) ["which", "asked"]
  dbad_size : Df K mg "_law_bad_size" (topS 97) ["store"]
  dbad_spot : Df K mg "_law_bad_spot" (topS 98) ["store"]
  drefusals : Df K mg "_law_refusals" (topS 99) ["store", "asked", "spot"]
  dlaw : Df K mg "law" (topS 100) ["script"]
  m_sorted : mg "sorted" = none
  m_reversed : mg "reversed" = none
  m_len : mg "len" = none
  m_max : mg "max" = none
  m_min : mg "min" = none
  m_abs : mg "abs" = none
  m_int : mg "int" = none
  m_str : mg "str" = none
  m_bool : mg "bool" = none
  m_list : mg "list" = none
  m_tuple : mg "tuple" = none
  m_dict : mg "dict" = none
  m_isinstance : mg "isinstance" = none
  m_range : mg "range" = none
  m_all : mg "all" = none
  m_ValueError : mg "ValueError" = none
  dig : NoDig K
  aZERO_RATIO : Addr
  kZERO_RATIO : mg "ZERO_RATIO" = some (.ref aZERO_RATIO)
  vZERO_RATIO : ∀ so A, Da K so A (.tup [.int 0, .int 1]) (.ref aZERO_RATIO)
  aORIGIN : Addr
  kORIGIN : mg "ORIGIN" = some (.ref aORIGIN)
  vORIGIN : ∀ so A, Da K so A (.tup [.tup [.int 0, .int 1], .tup [.int 0, .int 1]]) (.ref aORIGIN)
  cFrameError : Xg mg "FrameError"
  cWrongKind : Xc K mg "WrongKind"
  cOutOfBounds : Xg mg "OutOfBounds"
  cRepeatedName : Xg mg "RepeatedName"
  cUnknownName : Xg mg "UnknownName"
  cUnfitError : Xg mg "UnfitError"
  cZeroDivisor : Xg mg "ZeroDivisor"
  cNegativeRoot : Xg mg "NegativeRoot"
  cUnsafe : Xg mg "Unsafe"
  cBadText : Xg mg "BadText"
  iWrongKind : Mi K cWrongKind.C "WrongKind.__init__" (inClass (topS 2) 0) ["self", "argument"] []
  zWrongKind : Rz K cWrongKind.C ["argument"] 1 (mk1 "argument") id
  kWrongKind_WrongKind : PySem.W.kitOne K (.ref cWrongKind.C) (.ref cWrongKind.C) = some true
  kWrongKind_OutOfBounds : PySem.W.kitOne K (.ref cWrongKind.C) (.ref cOutOfBounds.C) = some false
  kWrongKind_RepeatedName : PySem.W.kitOne K (.ref cWrongKind.C) (.ref cRepeatedName.C) = some false
  kWrongKind_UnknownName : PySem.W.kitOne K (.ref cWrongKind.C) (.ref cUnknownName.C) = some false
  kWrongKind_UnfitError : PySem.W.kitOne K (.ref cWrongKind.C) (.ref cUnfitError.C) = some false
  kWrongKind_Unsafe : PySem.W.kitOne K (.ref cWrongKind.C) (.ref cUnsafe.C) = some false
  kWrongKind_BadText : PySem.W.kitOne K (.ref cWrongKind.C) (.ref cBadText.C) = some false
  kWrongKind_ValueError : PySem.W.kitOne K (.ref cWrongKind.C) (.type "ValueError") = some true
  xWrongKind : PySem.W.exmOne K (.ref cWrongKind.C) (.ref cFrameError.C) = some true

end My
namespace My
open PySem PySem.Spec PyProof.Rows L2
local macro_rules | `(tactic| walk_at "arith") => `(tactic| first
  | (with_reducible show _ ≠ _; omega)
  | (unfold CMul; omega)
  | (unfold CPow; omega)
  | (unfold CPow; decide)
  | exact wide_div (b := 100) (by decide) (by decide) (by decide) (by decide))
local macro_rules | `(tactic| walk_at "go") => `(tactic| repeat (first
  | with_reducible refine g_seq ?_
  | with_reducible refine g_asg ?_
  | with_reducible refine g_name ?_
  | with_reducible refine g_sub ?_
  | with_reducible refine g_ret ?_
  | with_reducible refine g_drop ?_
  | ((with_reducible refine g_next ?_); dsimp only)
  | with_reducible refine g_if ?_
  | with_reducible refine g_var rfl ?_
  | with_reducible refine g_c ?_
  | with_reducible refine g_op ?_
  | with_reducible refine g_un ?_
  | with_reducible refine g_I0 ?_
  | with_reducible refine g_U ?_
  | with_reducible refine g_eq rfl ?_
  | with_reducible refine g_test ?_
  | with_reducible refine g_bl ?_
  | with_reducible refine iteF ?_
  | with_reducible refine iteT ?_
  | ((with_reducible apply g_iteT); (case e => rfl))
  | ((with_reducible apply g_iteF); (case e => rfl))
  | with_reducible refine g_int1 ?_
  | with_reducible refine g_max2 ?_
  | with_reducible refine g_min2 ?_
  | with_reducible refine g_isN ?_
  | with_reducible refine g_notN ?_
  | ((with_reducible apply g_lenL); (case hs => assumption))
  | ((with_reducible apply g_ixL); (case hs => exact SqL.of (by assumption)); (case ha => rfl))
  | with_reducible refine g_pow9 ?_
  | with_reducible refine g_pow18 ?_
  | ((with_reducible apply g_I); (case c => walk_at "arith"))
  | ((with_reducible apply g_st); (case hs => assumption); (case hL => assumption); (case ne => assumption); (case x0 => assumption); (case hj => rfl); (case j0 => decide); intro _ _ _ _)
  | with_reducible refine g_and ?_
  | with_reducible refine g_or ?_
  | with_reducible refine g_not ?_
  | with_reducible refine g_nil ?_
  | with_reducible refine g_cons ?_
  | with_reducible refine g_callB ?_
  | with_reducible refine g_call ?_
  | with_reducible refine g_tup ?_
  | with_reducible refine g_lst ?_
  | with_reducible refine g_andV ?_
  | with_reducible refine g_orV ?_
  | with_reducible refine g_notV ?_
  | with_reducible refine g_tB ?_
  | with_reducible refine g_ne rfl ?_
  | with_reducible refine g_abs ?_
  | with_reducible refine g_isB ?_
  | with_reducible refine g_for ?_
  | with_reducible refine g_rng1 ?_
  | with_reducible refine g_rng2 ?_
  | with_reducible refine g_iList ?_
  | ((with_reducible refine g_break ?_); dsimp only)
  | ((with_reducible refine g_cont ?_); dsimp only)
  | with_reducible refine g_retN ?_
  | ((with_reducible apply isi_go (T := "int")); (case h => assumption); (case hb => exact k_int_ _))
  | ((with_reducible apply isi_go (T := "str")); (case h => assumption); (case hb => exact k_str_ _))
  | ((with_reducible apply isi_go (T := "bool")); (case h => assumption); (case hb => exact k_bool_ _))
  | ((with_reducible apply isi_go (T := "list")); (case h => assumption); (case hb => exact k_list_ _))
  | ((with_reducible apply isi_go (T := "tuple")); (case h => assumption); (case hb => exact k_tuple_ _))
  | ((with_reducible apply isi_go (T := "dict")); (case h => assumption); (case hb => exact k_dict_ _))
  | with_reducible refine g_intb ?_))

abbrev s_take : Stmt := topS 50
abbrev N_take : List Str := ["store", "many", "cell", "got", "once", "twice"]
abbrev P_take : List Str := ["store", "many"]
theorem sc_take : FnScope N_take P_take (defScope s_take) := ⟨rfl, rfl, rfl, by decide +kernel, rfl, by decide +kernel, by decide +kernel⟩

def BN : Nat → Int
  | 0 => 1000000000
  | n + 1 => 1000000000 * (BN n - 1)
def spTakeN (K : PySem.W.Frag) : Nat → Sp
  | 0 => fun _ _ _ _ => False
  | n + 1 => spTake K (BN n)
theorem fmod0 {x m : Int} (h : 0 < m) : 0 ≤ x.fmod m := by
  rw [Int.fmod_eq_emod_of_nonneg _ (by omega)]
  exact Int.emod_nonneg _ (by omega)
theorem fmod1 {x m : Int} (h : 0 < m) : x.fmod m < m := by
  rw [Int.fmod_eq_emod_of_nonneg _ (by omega)]
  exact Int.emod_lt_of_pos _ h
theorem fmod_lt {x m : Int} {n : Nat} (h : 0 < m) (hm : m ≤ 2 ^ n) : (x.fmod m).natAbs < 2 ^ n := by
  have h0 := fmod0 (x := x) h
  have h1 := fmod1 (x := x) h
  have : ((x.fmod m).natAbs : Int) < (2 : Int) ^ n := by omega
  exact_mod_cast this
theorem BN_ge (n : Nat) : 1000000000 ≤ BN n := by
  induction n with
  | zero => exact Int.le_refl _
  | succ n ih =>
    have e : BN (n + 1) = 1000000000 * (BN n - 1) := rfl
    omega
section
variable {P : Program} {w : World} {K : PySem.W.Frag} {mg : Str → Option Value} {base : Heap}
theorem ok_take (T : Txt K mg) (n : Nat) : FnOk P w K mg base CX0 n T.dtake.f T.dtake.fd P_take (spTakeN K n) := by
  induction n with
  | zero => exact ⟨fun _ _ _ _ h => h.elim, fun _ _ _ _ _ _ _ _ _ _ _ _ _ h => h.elim⟩
  | succ n G_take =>
    refine T.dtake.F.ok sc_take (fun vs H Q E h => ?_) (fun cdv A outer s H vs Q E hr h => ?_)
    · obtain ⟨s, many, rfl, _⟩ := h
      rfl
    · obtain ⟨s, many, rfl, hst, hB, hW, k⟩ := h
      refine ⟨_, (pss_cons (ps_if (pt_cmpR op_lt (pv 1) pe_int (nomark _))
        (pss_one (ps_ret pe_int))
        pss_nil)
      (pss_cons (ps_asg (pe_op op_add (pe_ix ix_list (pv 0) pe_int (fun _ _ => rfl)) pe_int) (pg_sub (pv 0) pe_int set_list))
      (Evl.pss_cut (ps_if (PW.pt (pw_and (pt_cmpR op_eq (pe_ix ix_list (pv 0) pe_int (fun _ _ => rfl)) pe_int (nomark _)) (pw_and (pt_cmpR op_eq (pe_ix ix_list (pv 0) pe_int (fun _ _ => rfl)) pe_int (nomark _)) (pw_and1 (pt_cmpR op_lt (pe_ix ix_list (pv 0) pe_int (fun _ _ => rfl)) (pe_callB c_len (by rfl) T.m_len bt_len (pa_cons (pe_ix ix_list (pv 0) pe_int (fun _ _ => rfl)) pa_nil)) (nomark _))))))
        (pss_cons (ps_set (i := 2) sc_take.nd rfl (by first | exact .inl rfl | exact .inr rfl) (pe_callTy c_int1 (by rfl) T.m_int bt_int (pa_cons (pe_ix ix_list (pe_ix ix_list (pv 0) pe_int (fun _ _ => rfl)) (pe_ix ix_list (pv 0) pe_int (fun _ _ => rfl)) (fun _ _ => rfl)) pa_nil)))
        (pss_cons (ps_asg (pe_op op_add (pe_ix ix_list (pv 0) pe_int (fun _ _ => rfl)) pe_int) (pg_sub (pv 0) pe_int set_list))
        (pss_cons (ps_asg (pe_op op_modN (pe_callTy c_int1 (by rfl) T.m_int bt_int (pa_cons (pe_op op_add (pe_op op_add (pe_op op_mul (pe_ix ix_list (pv 0) pe_int (fun _ _ => rfl)) pe_int) (pv 2)) pe_int) pa_nil)) pe_int) (pg_sub (pv 0) pe_int set_list))
        (pss_one (ps_if (pt_cmpR op_ge (pe_callB (c_max2 rfl) (by rfl) T.m_max bt_max (pa_cons (pv 2) (pa_cons (pe_un un_neg (pv 2)) pa_nil))) (pe_op op_pow pe_int pe_int) (nomark _))
          (pss_one (ps_asg (pe_callB (c_max2 rfl) (by rfl) T.m_max bt_max (pa_cons (pv 2) (pa_cons (pe_un un_neg (pv 2)) pa_nil))) (pg_sub (pv 0) pe_int set_list)))
          (pss_one (ps_asg pe_int (pg_sub (pv 0) pe_int set_list))))))))
        pss_nil)
      (pss_cons (ps_if (pt_cmpR op_gt (pe_ix ix_list (pv 0) pe_int (fun _ _ => rfl)) pe_int (nomark _))
        (pss_cons (ps_set (i := 3) sc_take.nd rfl (by first | exact .inl rfl | exact .inr rfl) (pe_op op_modN (pe_callTy c_int1 (by rfl) T.m_int bt_int (pa_cons (pe_ix ix_list (pv 0) pe_int (fun _ _ => rfl)) pa_nil)) (pv 1)))
        (pss_cons (ps_asg (pe_op op_fdivW (pe_ix ix_list (pv 0) pe_int (fun _ _ => rfl)) (pv 1)) (pg_sub (pv 0) pe_int set_list))
        (pss_one (ps_ret (pv 3)))))
        pss_nil)
      (pss_cons (ps_if (pt_cmpR op_gt (pv 1) (pe_op op_pow pe_int pe_int) (nomark _))
        (pss_cons (ps_set (i := 3) sc_take.nd rfl (by first | exact .inl rfl | exact .inr rfl) (pe_call G_take (hr.mono (by omega)) rfl T.dtake.g T.dtake.F.kp T.dtake.b .nil pass0 (pa_cons (pv 0) (pa_cons (pe_op op_pow pe_int pe_int) pa_nil))))
        (pss_one (ps_ret (pe_op op_modN (pe_callTy c_int1 (by rfl) T.m_int bt_int (pa_cons (pe_op op_add (pv 3) (pe_op op_mul (pe_op op_pow pe_int pe_int) (pe_call G_take (hr.mono (by omega)) rfl T.dtake.g T.dtake.F.kp T.dtake.b .nil pass0 (pa_cons (pv 0) (pa_cons (pe_op op_add (pe_op op_fdivW (pv 1) (pe_op op_pow pe_int pe_int)) pe_int) pa_nil))))) pa_nil)) (pv 1)))))
        pss_nil)
      (pss_cons (ps_asg (pe_callB (c_max2 rfl) (by rfl) T.m_max bt_max (pa_cons pe_int (pa_cons (pe_op op_sub (pe_ix ix_list (pv 0) pe_int (fun _ _ => rfl)) pe_int) pa_nil))) (pg_sub (pv 0) pe_int set_list))
      (pss_cons (ps_set (i := 4) sc_take.nd rfl (by first | exact .inl rfl | exact .inr rfl) (pe_op op_add (pe_op op_add (pe_op op_mul (pe_ix ix_list (pv 0) pe_int (fun _ _ => rfl)) pe_int) (pe_op op_mul (pe_ix ix_list (pv 0) pe_int (fun _ _ => rfl)) pe_int)) pe_int))
      (pss_cons (ps_set (i := 4) sc_take.nd rfl (by first | exact .inl rfl | exact .inr rfl) (pe_op op_modN (pe_callTy c_int1 (by rfl) T.m_int bt_int (pa_cons (pv 4) pa_nil)) pe_int))
      (pss_cons (ps_asg (pv 4) (pg_sub (pv 0) pe_int set_list))
      (pss_cons (ps_set (i := 5) sc_take.nd rfl (by first | exact .inl rfl | exact .inr rfl) (pe_op op_modN (pe_callTy c_int1 (by rfl) T.m_int bt_int (pa_cons (pe_op op_add (pe_op op_add (pe_op op_mulW (pv 4) (pv 4)) (pe_op op_fdivW (pv 4) pe_int)) (pe_ix ix_list (pv 0) pe_int (fun _ _ => rfl))) pa_nil)) pe_int))
      (pss_one (ps_ret (pe_op op_modN (pe_callTy c_int1 (by rfl) T.m_int bt_int (pa_cons (pe_op op_fdivW (pv 5) pe_int) pa_nil)) (pv 1)))))))))))))), ?_⟩
      obtain ⟨L, ns, p, a, b, c, d, hs, ne, hL, p0, a0, b0, c0, c1, len⟩ := hst
      have x0 := Sx.refl s H
      dsimp only [cxOf, Cx.nox, Cx.wish]
      walk_at "go"
      refine g_ite (fun h => ?_) (fun h => ?_)
      · walk_at "go"
        exact k 0 H (Int.le_refl _) (.inl rfl) x0 ⟨L, ns, p, a, b, c, d, hs, ne, hL, p0, a0, b0, c0, c1, len⟩
      have hm : 2 ≤ many := by
        have := of_decide_eq_false h
        omega
      walk_at "go"
      refine g_cut (Mid := fun σ' H' => ∃ v p a b c d, σ' = [some (.ref s), some (.int many), v, none, none, none] ∧ StOk K H' s L ns p a b c d ∧ Sx s H H') ?_ ?_
      · walk_at "go"
        refine g_ite (fun h1 => ?_) (fun h1 => ?_)
        · walk_at "go"
          refine g_ite (fun h2 => ?_) (fun h2 => ?_)
          · walk_at "go"
            refine g_ite (fun h3 => ?_) (fun h3 => ?_)
            · walk_at "go"
              have hp : p < ns.length := by
                have := of_decide_eq_true h3
                rw [List.length_map] at this
                exact this
              refine g_ixL (by assumption) (atI_map V.int ns p 0 p0 hp) ?_
              walk_at "go"
              refine g_ite (fun h4 => ?_) (fun h4 => ?_)
              · walk_at "go"
                exact ⟨_, p + 1, _, b, _, _, rfl, ⟨by assumption, ne, by assumption, by omega, by have := of_decide_eq_true h4; omega, b0, by exact fmod0 (by decide), by exact fmod1 (by decide), len⟩, by assumption⟩
              · walk_at "go"
                exact ⟨_, p + 1, a, _, _, _, rfl, ⟨by assumption, ne, by assumption, by omega, a0, by decide, by exact fmod0 (by decide), by exact fmod1 (by decide), len⟩, by assumption⟩
            · walk_at "go"
              exact ⟨_, p, a, b, c, _, rfl, ⟨by assumption, ne, by assumption, p0, a0, b0, c0, c1, len⟩, by assumption⟩
          · walk_at "go"
            exact ⟨_, p, a, b, c, _, rfl, ⟨by assumption, ne, by assumption, p0, a0, b0, c0, c1, len⟩, by assumption⟩
        · walk_at "go"
          exact ⟨_, p, a, b, c, _, rfl, ⟨by assumption, ne, by assumption, p0, a0, b0, c0, c1, len⟩, by assumption⟩
      · rintro σ' H' ⟨v, p, a, b, c, d, rfl, ⟨hs, ne, hL, p0, a0, b0, c0, c1, len⟩, x0⟩
        walk_at "go"
        refine g_ite (fun h5 => ?_) (fun h5 => ?_)
        · walk_at "go"
          refine g_I (big_div (by omega) hW) ?_
          walk_at "go"
          refine k _ _ (fmod0 (by omega)) (.inr (fmod1 (by omega))) (by assumption) ⟨L, ns, p, _, b, c, d, ⟨by assumption, ne, by assumption, p0, ?_, b0, c0, c1, len⟩⟩
          exact Int.ediv_nonneg (by have := of_decide_eq_true h5; omega) (by omega)
        walk_at "go"
        refine g_ite (fun h6 => ?_) (fun h6 => ?_)
        · have hbig := of_decide_eq_true h6
          cases n with
          | zero =>
            exfalso
            have : BN 0 = 1000000000 := rfl
            omega
          | succ m =>
            have eB : BN (m + 1) = 1000000000 * (BN m - 1) := rfl
            have eG := BN_ge m
            walk_at "go"
            refine ⟨s, _, rfl, ⟨L, ns, p, a, b, c, d, hs, ne, hL, p0, a0, b0, c0, c1, len⟩, by omega, by unfold BIG; omega, fun r H1 r0 r1 x1 st1 => ?_⟩
            walk_at "go"
            refine ⟨s, _, rfl, st1, by omega, by omega, fun r2 H2 r20 r21 x2 st2 => ?_⟩
            walk_at "go"
            exact k _ _ (fmod0 (by omega)) (.inr (fmod1 (by omega))) ((x0.trans x1).trans x2) st2
        walk_at "go"
        refine g_I (wide_mul (a := 61) (b := 61) (fmod_lt (by decide) (by decide)) (fmod_lt (by decide) (by decide)) (by decide) (by decide) (by decide)) ?_
        walk_at "go"
        refine k _ _ (fmod0 (by omega)) (.inr (fmod1 (by omega))) (by assumption) ⟨L, ns, p, a, _, _, d, ⟨by assumption, ne, by assumption, p0, a0, ?_, by exact fmod0 (by decide), by exact fmod1 (by decide), len⟩⟩
        split <;> omega
end
end My
namespace My
open PySem PySem.Spec PyProof.Rows L2
local macro_rules | `(tactic| walk_at "arith") => `(tactic| first
  | (with_reducible show _ ≠ _; omega)
  | (unfold CMul; omega)
  | (unfold CPow; omega)
  | (unfold CPow; decide)
  | exact wide_div (b := 100) (by decide) (by decide) (by decide) (by decide))
local macro_rules | `(tactic| walk_at "go") => `(tactic| repeat (first
  | with_reducible refine g_seq ?_
  | with_reducible refine g_asg ?_
  | with_reducible refine g_name ?_
  | with_reducible refine g_sub ?_
  | with_reducible refine g_ret ?_
  | with_reducible refine g_drop ?_
  | ((with_reducible refine g_next ?_); dsimp only)
  | with_reducible refine g_if ?_
  | with_reducible refine g_var rfl ?_
  | with_reducible refine g_c ?_
  | with_reducible refine g_op ?_
  | with_reducible refine g_un ?_
  | with_reducible refine g_I0 ?_
  | with_reducible refine g_U ?_
  | with_reducible refine g_eq rfl ?_
  | with_reducible refine g_test ?_
  | with_reducible refine g_bl ?_
  | with_reducible refine iteF ?_
  | with_reducible refine iteT ?_
  | ((with_reducible apply g_iteT); (case e => rfl))
  | ((with_reducible apply g_iteF); (case e => rfl))
  | with_reducible refine g_int1 ?_
  | with_reducible refine g_max2 ?_
  | with_reducible refine g_min2 ?_
  | with_reducible refine g_isN ?_
  | with_reducible refine g_notN ?_
  | ((with_reducible apply g_lenL); (case hs => assumption))
  | ((with_reducible apply g_ixL); (case hs => exact SqL.of (by assumption)); (case ha => rfl))
  | with_reducible refine g_pow9 ?_
  | with_reducible refine g_pow18 ?_
  | ((with_reducible apply g_I); (case c => walk_at "arith"))
  | ((with_reducible apply g_st); (case hs => assumption); (case hL => assumption); (case ne => assumption); (case x0 => assumption); (case hj => rfl); (case j0 => decide); intro _ _ _ _)
  | with_reducible refine g_and ?_
  | with_reducible refine g_or ?_
  | with_reducible refine g_not ?_
  | with_reducible refine g_nil ?_
  | with_reducible refine g_cons ?_
  | with_reducible refine g_callB ?_
  | with_reducible refine g_call ?_
  | with_reducible refine g_tup ?_
  | with_reducible refine g_lst ?_
  | with_reducible refine g_andV ?_
  | with_reducible refine g_orV ?_
  | with_reducible refine g_notV ?_
  | with_reducible refine g_tB ?_
  | with_reducible refine g_ne rfl ?_
  | with_reducible refine g_abs ?_
  | with_reducible refine g_isB ?_
  | with_reducible refine g_for ?_
  | with_reducible refine g_rng1 ?_
  | with_reducible refine g_rng2 ?_
  | with_reducible refine g_iList ?_
  | ((with_reducible refine g_break ?_); dsimp only)
  | ((with_reducible refine g_cont ?_); dsimp only)
  | with_reducible refine g_retN ?_
  | ((with_reducible apply isi_go (T := "int")); (case h => assumption); (case hb => exact k_int_ _))
  | ((with_reducible apply isi_go (T := "str")); (case h => assumption); (case hb => exact k_str_ _))
  | ((with_reducible apply isi_go (T := "bool")); (case h => assumption); (case hb => exact k_bool_ _))
  | ((with_reducible apply isi_go (T := "list")); (case h => assumption); (case hb => exact k_list_ _))
  | ((with_reducible apply isi_go (T := "tuple")); (case h => assumption); (case hb => exact k_tuple_ _))
  | ((with_reducible apply isi_go (T := "dict")); (case h => assumption); (case hb => exact k_dict_ _))
  | with_reducible refine g_intb ?_))

theorem fn_weak {P : Program} {w : World} {K : PySem.W.Frag} {mg : Str → Option Value} {base : Heap} {CX : CXT} {k : Nat} {f : Addr} {fd : FuncData} {ps : List Str} {sp sp' : Sp} (F : FnOk P w K mg base CX k f fd ps sp) (h : ∀ vs H Q E, sp' vs H Q E → sp vs H Q E) : FnOk P w K mg base CX k f fd ps sp' :=
  ⟨fun vs H Q E z => F.len vs H Q E (h vs H Q E z), fun A outer s H args us vs Q E a b c d e => F.run A outer s H args us vs Q E a b c d (h vs H Q E e)⟩
theorem big_of {m : Int} (h : m ≤ 1000000000) : m < BIG := by
  have : (1000000000 : Int) < BIG := by decide +kernel
  omega
theorem BN_big : BIG ≤ BN 170 := by decide +kernel
def spTakeB (K : PySem.W.Frag) : Sp := fun vs H Q _ => ∃ (s : Addr) (many : Int), vs = [.ref s, .int many] ∧ Store K H s ∧ many < BIG ∧
  ∀ (r : Int) (H' : Hp), 0 ≤ r → (r = 0 ∨ r < many) → Sx s H H' → Store K H' s → Q (.int r) H'
theorem take_go {K : PySem.W.Frag} {H : Hp} {s : Addr} {many : Int} {Q : VK} {E : XK} (st : Store K H s) (hm : many < BIG)
    (k : ∀ (r : Int) (H' : Hp), 0 ≤ r → (r = 0 ∨ r < many) → Sx s H H' → Store K H' s → Q (.int r) H') : spTakeB K [.ref s, .int many] H Q E := ⟨s, many, rfl, st, hm, k⟩
def spBetween (K : PySem.W.Frag) : Sp := fun vs H Q _ => ∃ (s : Addr) (low high : Int), vs = [.ref s, .int low, .int high] ∧ Store K H s ∧ low ≤ high ∧ high - low < 1000000000 ∧
  ∀ (r : Int) (H' : Hp), low ≤ r → r ≤ high → Sx s H H' → Store K H' s → Q (.int r) H'
def spTens : Sp := fun vs H Q _ => ∃ (n : Nat), vs = [.int n] ∧ n ≤ 1000 ∧ Q (.int (10 ^ n)) H
def spInteger (K : PySem.W.Frag) : Sp := fun vs H Q _ => ∃ (s : Addr) (figures : Int), vs = [.ref s, .int figures] ∧ Store K H s ∧ 0 ≤ figures ∧ figures ≤ 1000 ∧
  ∀ (r : Int) (H' : Hp), -(10 ^ 1000) < r → r < 10 ^ 1000 → Sx s H H' → Store K H' s → Q (.int r) H'
def spStore (K : PySem.W.Frag) : Sp := fun vs H Q _ => ∃ (a : Addr) (ns : List Int), vs = [.ref a] ∧ SqL K H a (ns.map V.int) ∧ ns.length ≤ 63 ∧
  ∀ (s : Addr) (H' : Hp), H s = none → Same H H' → Store K H' s → Q (.ref s) H'
abbrev s_store : Stmt := topS 49
abbrev N_store : List Str := ["script"]
abbrev P_store : List Str := ["script"]
theorem sc_store : FnScope N_store P_store (defScope s_store) := ⟨rfl, rfl, rfl, by decide +kernel, rfl, by decide +kernel, by decide +kernel⟩

abbrev s_edge : Stmt := topS 51
abbrev N_edge : List Str := ["store", "many"]
abbrev P_edge : List Str := ["store", "many"]
theorem sc_edge : FnScope N_edge P_edge (defScope s_edge) := ⟨rfl, rfl, rfl, by decide +kernel, rfl, by decide +kernel, by decide +kernel⟩

abbrev s_between : Stmt := topS 52
abbrev N_between : List Str := ["store", "low", "high"]
abbrev P_between : List Str := ["store", "low", "high"]
theorem sc_between : FnScope N_between P_between (defScope s_between) := ⟨rfl, rfl, rfl, by decide +kernel, rfl, by decide +kernel, by decide +kernel⟩

/-! ### "1" and zeros -/
theorem foldl_rep {α : Type} (xs : Array α) (n : Nat) : ((List.replicate n xs).foldl (· ++ ·) (#[] : Array α)).toList = (List.replicate n xs.toList).flatten := by
  have h : ∀ (n : Nat) (acc : Array α), ((List.replicate n xs).foldl (· ++ ·) acc).toList = acc.toList ++ (List.replicate n xs.toList).flatten := by
    intro n
    induction n with
    | zero => intro acc; simp
    | succ n ih =>
      intro acc
      rw [List.replicate_succ, List.foldl_cons, ih, Array.toList_append, List.replicate_succ, List.flatten_cons, List.append_assoc]
  rw [h n #[]]
  rfl
theorem mul_list (z : Str) (n : Nat) : (PySem.Txt.mul z n).cps.toList = (List.replicate n z.cps.toList).flatten := by
  unfold PySem.Txt.mul
  by_cases h : (n : Int) < 1
  · have e : n = 0 := by omega
    subst e
    rfl
  · rw [if_neg h]
    by_cases h2 : ((n : Int) == 1 || z.length == 0) = true
    · rw [if_pos h2]
      rcases Bool.or_eq_true_iff.mp h2 with h3 | h3
      · have e : n = 1 := by
          have := beq_iff_eq.mp h3
          omega
        subst e
        simp
      · have e : z.cps.toList = [] := by
          have h4 : z.cps.size = 0 := beq_iff_eq.mp h3
          exact List.eq_nil_of_length_eq_zero (by rw [Array.length_toList]; exact h4)
        rw [e]
        simp
    · rw [if_neg h2]
      rw [show ((n : Int)).toNat = n from rfl]
      exact foldl_rep z.cps n
theorem rep_one (c n : Nat) : (List.replicate n [c]).flatten = List.replicate n c := by
  induction n with
  | zero => rfl
  | succ n ih => rw [List.replicate_succ, List.flatten_cons, ih]; rfl
theorem str_app (x y : Str) : (x ++ y).cps.toList = x.cps.toList ++ y.cps.toList := Array.toList_append
theorem one_zeros (n : Nat) : (("1" : Str) ++ PySem.Txt.mul "0" n).cps.toList = 49 :: List.replicate n 48 := by
  rw [str_app, mul_list]
  have e1 : ("1" : Str).cps.toList = [49] := by decide +kernel
  have e0 : ("0" : Str).cps.toList = [48] := by decide +kernel
  rw [e1, e0, rep_one]
  rfl
theorem val_zeros (n a : Nat) : (List.replicate n 48).foldl (fun acc c => acc * 10 + (c - 48)) a = a * 10 ^ n := by
  induction n generalizing a with
  | zero => simp
  | succ n ih =>
    rw [List.replicate_succ, List.foldl_cons, ih, Nat.pow_succ]
    show (a * 10 + 0) * 10 ^ n = a * (10 ^ n * 10)
    rw [Nat.add_zero, Nat.mul_assoc, Nat.mul_comm 10]
theorem digs_zeros (n : Nat) : PySem.NumText.AllDigits (49 :: List.replicate n 48) := by
  intro c hc
  rcases List.mem_cons.mp hc with e | h
  · subst e
    decide
  · have e := (List.mem_replicate.mp h).2
    subst e
    decide
theorem str_len (x : Str) : x.length = x.cps.toList.length := by rw [Array.length_toList]; rfl
theorem tens_read (n : Nat) (h : n ≤ 1000) : PySem.intText? (("1" : Str) ++ PySem.Txt.mul "0" n) = some ((10 ^ n : Nat) : Int) := by
  have e := one_zeros n
  have l : (("1" : Str) ++ PySem.Txt.mul "0" n).length ≤ 4300 := by
    rw [str_len, e]
    simp
    omega
  rw [PySem.intText_digits (by rw [e]; exact digs_zeros n) (by rw [e]; exact List.cons_ne_nil _ _) l, e]
  have v : PySem.NumText.digitsVal (49 :: List.replicate n 48) = 10 ^ n := by
    show (List.replicate n 48).foldl (fun acc c => acc * 10 + (c - 48)) 1 = 10 ^ n
    rw [val_zeros, Nat.one_mul]
  rw [v]
theorem seen_digits (x : Str) (h : PySem.NumText.AllDigits x.cps.toList) : (PySem.numSeenOf x).length = x.length := by
  have ha : x.cps.all (· < 128) = true := by
    rw [← Array.all_toList, List.all_eq_true]
    intro c hc
    have := h c hc
    exact decide_eq_true (by omega)
  have e : PySem.numTextOf x = x.cps.toList := if_pos ha
  have t : ∀ l : List Nat, PySem.NumText.AllDigits l → l.takeWhile (· != 0) = l := by
    intro l
    induction l with
    | nil => intro _; rfl
    | cons c r ih =>
      intro hl
      have hc := hl.head
      rw [List.takeWhile_cons, if_pos (by simp; omega), ih hl.tail]
  show ((PySem.numTextOf x).takeWhile (· != 0)).length = x.length
  rw [e, t _ h, str_len]
theorem ten_le {n m : Nat} (h : n ≤ m) : (10 : Int) ^ n ≤ 10 ^ m := by
  have := Nat.pow_le_pow_right (show 0 < 10 by decide) h
  exact_mod_cast this
theorem ten_lt {n m : Nat} (h : n < m) : (10 : Int) ^ n < 10 ^ m := by
  have := Nat.pow_lt_pow_right (show 1 < 10 by decide) h
  exact_mod_cast this
theorem ten_pos (n : Nat) : (1 : Int) ≤ 10 ^ n := by
  have := Nat.pow_pos (n := n) (show 0 < 10 by decide)
  have h : (1 : Nat) ≤ 10 ^ n := this
  exact_mod_cast h
theorem ten_big : (10 : Int) ^ 1000 < BIG := by decide +kernel
section
variable {P : Program} {w : World} {K : PySem.W.Frag} {mg : Str → Option Value} {base : Heap}
theorem ok_takeB (T : Txt K mg) : FnOk P w K mg base CX0 171 T.dtake.f T.dtake.fd P_take (spTakeB K) :=
  fn_weak (ok_take (P := P) (w := w) (base := base) T 171) fun vs H Q E h => by
    obtain ⟨s, many, e, st, hm, k⟩ := h
    exact ⟨s, many, e, st, Int.le_of_lt (Int.lt_of_lt_of_le hm BN_big), hm, k⟩
theorem ok_store (T : Txt K mg) : FnOk P w K mg base CX0 1 T.dstore.f T.dstore.fd P_store (spStore K) := by
  refine T.dstore.F.ok sc_store (fun vs H Q E h => ?_) (fun cdv A outer s H vs Q E hr h => ?_)
  · obtain ⟨a, ns, rfl, _⟩ := h
    rfl
  · obtain ⟨a, ns, rfl, hq, hl, k⟩ := h
    refine ⟨_, (pss_one (ps_ret (pe_lst (pa_cons (pe_callTy c_list (by rfl) T.m_list bt_list (pa_cons (pv 0) pa_nil)) (pa_cons pe_int (pa_cons pe_int (pa_cons pe_int (pa_cons pe_int (pa_cons pe_int pa_nil))))))))), ?_⟩
    try dsimp only [cxOf, Cx.nox, Cx.wish]
    walk_at "go"
    refine ⟨a, _, rfl, .inl hq, fun L hL => ?_⟩
    walk_at "go"
    refine ⟨by show 6 ≤ sizeLine; decide, fun p hp => ?_⟩
    have nLp : L ≠ p := fun e => by
      rw [← e, upd_same] at hp
      cases hp
    have sL : Same H (upd H L (.lst (ns.map V.int))) := same_new hL
    refine k p _ (sL.free hp) (sL.trans (same_new hp)) ⟨L, ns, 0, 0, 0, 0, 0, ⟨upd_same, nLp, ?_, by decide, by decide, by decide, by decide, by decide, hl⟩⟩
    exact .inl (.inl (by rw [upd_ne nLp, upd_same]))
theorem ok_edge (T : Txt K mg) : FnOk P w K mg base CX0 172 T.dedge.f T.dedge.fd P_edge (spTakeB K) := by
  have G_take : FnOk P w K mg base CX0 171 T.dtake.f T.dtake.fd P_take (spTakeB K) := ok_takeB T
  refine T.dedge.F.ok sc_edge (fun vs H Q E h => ?_) (fun cdv A outer s_ H vs Q E hr h => ?_)
  · obtain ⟨s, many, rfl, _⟩ := h
    rfl
  · obtain ⟨s, many, rfl, st, hm, k⟩ := h
    refine ⟨_, (pss_cons (ps_if (pt_cmpR op_lt (pv 1) pe_int (nomark _))
        (pss_one (ps_ret pe_int))
        pss_nil)
      (pss_cons (ps_if (pt_cmpR op_eq (pe_call G_take (hr.mono (by omega)) rfl T.dtake.g T.dtake.F.kp T.dtake.b .nil pass0 (pa_cons (pv 0) (pa_cons pe_int pa_nil))) pe_int (nomark _))
        (pss_one (ps_ret (pe_op op_mulW (pe_op op_sub (pv 1) pe_int) (pe_call G_take (hr.mono (by omega)) rfl T.dtake.g T.dtake.F.kp T.dtake.b .nil pass0 (pa_cons (pv 0) (pa_cons pe_int pa_nil))))))
        pss_nil)
      (pss_one (ps_ret (pe_call G_take (hr.mono (by omega)) rfl T.dtake.g T.dtake.F.kp T.dtake.b .nil pass0 (pa_cons (pv 0) (pa_cons (pv 1) pa_nil))))))), ?_⟩
    try dsimp only [cxOf, Cx.nox, Cx.wish]
    walk_at "go"
    refine g_ite (fun h => ?_) (fun h => ?_)
    · walk_at "go"
      exact k 0 H (Int.le_refl _) (.inl rfl) (Sx.refl s H) st
    have h2 := of_decide_eq_false h
    walk_at "go"
    refine take_go st (big_of (by decide)) fun r H1 r0 r1 x1 st1 => ?_
    walk_at "go"
    refine g_ite (fun h3 => ?_) (fun h3 => ?_)
    · walk_at "go"
      refine take_go st1 (big_of (by decide)) fun r2 H2 r20 r21 x2 st2 => ?_
      have e : r2 = 0 ∨ r2 = 1 := by omega
      have c : CMulW (many - 1) r2 := by
        unfold CMulW
        have b : (many - 1).natAbs.log2 < 5000 := by
          have b1 : (many - 1).natAbs < 2 ^ 5000 := by
            unfold BIG at hm
            omega
          exact PySem.Flt.log2_lt_of (by decide) b1
        have b2 : r2.natAbs.log2 = 0 := by
          rcases e with e | e <;> subst e <;> decide
        omega
      refine g_I c ?_
      walk_at "go"
      refine k _ H2 ?_ ?_ (x1.trans x2) st2
      · rcases e with e | e <;> subst e <;> omega
      · rcases e with e | e <;> subst e <;> omega
    · walk_at "go"
      exact take_go st1 hm fun r2 H2 r20 r21 x2 st2 => k r2 H2 r20 r21 (x1.trans x2) st2
theorem ok_between (T : Txt K mg) : FnOk P w K mg base CX0 173 T.dbetween.f T.dbetween.fd P_between (spBetween K) := by
  have G_edge : FnOk P w K mg base CX0 172 T.dedge.f T.dedge.fd P_edge (spTakeB K) := ok_edge T
  refine T.dbetween.F.ok sc_between (fun vs H Q E h => ?_) (fun cdv A outer s_ H vs Q E hr h => ?_)
  · obtain ⟨s, low, high, rfl, _⟩ := h
    rfl
  · obtain ⟨s, low, high, rfl, st, h1, h2, k⟩ := h
    refine ⟨_, (pss_one (ps_ret (pe_op op_add (pv 1) (pe_call G_edge (hr.mono (by omega)) rfl T.dedge.g T.dedge.F.kp T.dedge.b .nil pass0 (pa_cons (pv 0) (pa_cons (pe_op op_add (pe_op op_sub (pv 2) (pv 1)) pe_int) pa_nil)))))), ?_⟩
    try dsimp only [cxOf, Cx.nox, Cx.wish]
    walk_at "go"
    refine take_go st (big_of (by omega)) fun r H1 r0 r1 x1 st1 => ?_
    walk_at "go"
    exact k _ H1 (by omega) (by omega) x1 st1
end
end My
namespace My
open PySem PySem.Spec PyProof.Rows L2
local macro_rules | `(tactic| walk_at "arith") => `(tactic| first
  | (with_reducible show _ ≠ _; omega)
  | (unfold CMul; omega)
  | (unfold CPow; omega)
  | (unfold CPow; decide)
  | exact wide_div (b := 100) (by decide) (by decide) (by decide) (by decide))
local macro_rules | `(tactic| walk_at "go") => `(tactic| repeat (first
  | with_reducible refine g_seq ?_
  | with_reducible refine g_asg ?_
  | with_reducible refine g_name ?_
  | with_reducible refine g_sub ?_
  | with_reducible refine g_ret ?_
  | with_reducible refine g_drop ?_
  | ((with_reducible refine g_next ?_); dsimp only)
  | with_reducible refine g_if ?_
  | with_reducible refine g_var rfl ?_
  | with_reducible refine g_c ?_
  | with_reducible refine g_op ?_
  | with_reducible refine g_un ?_
  | with_reducible refine g_I0 ?_
  | with_reducible refine g_U ?_
  | with_reducible refine g_eq rfl ?_
  | with_reducible refine g_test ?_
  | with_reducible refine g_bl ?_
  | with_reducible refine iteF ?_
  | with_reducible refine iteT ?_
  | ((with_reducible apply g_iteT); (case e => rfl))
  | ((with_reducible apply g_iteF); (case e => rfl))
  | with_reducible refine g_int1 ?_
  | with_reducible refine g_max2 ?_
  | with_reducible refine g_min2 ?_
  | with_reducible refine g_isN ?_
  | with_reducible refine g_notN ?_
  | ((with_reducible apply g_lenL); (case hs => assumption))
  | ((with_reducible apply g_ixL); (case hs => exact SqL.of (by assumption)); (case ha => rfl))
  | with_reducible refine g_pow9 ?_
  | with_reducible refine g_pow18 ?_
  | ((with_reducible apply g_I); (case c => walk_at "arith"))
  | ((with_reducible apply g_st); (case hs => assumption); (case hL => assumption); (case ne => assumption); (case x0 => assumption); (case hj => rfl); (case j0 => decide); intro _ _ _ _)
  | with_reducible refine g_and ?_
  | with_reducible refine g_or ?_
  | with_reducible refine g_not ?_
  | with_reducible refine g_nil ?_
  | with_reducible refine g_cons ?_
  | with_reducible refine g_callB ?_
  | with_reducible refine g_call ?_
  | with_reducible refine g_tup ?_
  | with_reducible refine g_lst ?_
  | with_reducible refine g_andV ?_
  | with_reducible refine g_orV ?_
  | with_reducible refine g_notV ?_
  | with_reducible refine g_tB ?_
  | with_reducible refine g_ne rfl ?_
  | with_reducible refine g_abs ?_
  | with_reducible refine g_isB ?_
  | with_reducible refine g_for ?_
  | with_reducible refine g_rng1 ?_
  | with_reducible refine g_rng2 ?_
  | with_reducible refine g_iList ?_
  | ((with_reducible refine g_break ?_); dsimp only)
  | ((with_reducible refine g_cont ?_); dsimp only)
  | with_reducible refine g_retN ?_
  | ((with_reducible apply isi_go (T := "int")); (case h => assumption); (case hb => exact k_int_ _))
  | ((with_reducible apply isi_go (T := "str")); (case h => assumption); (case hb => exact k_str_ _))
  | ((with_reducible apply isi_go (T := "bool")); (case h => assumption); (case hb => exact k_bool_ _))
  | ((with_reducible apply isi_go (T := "list")); (case h => assumption); (case hb => exact k_list_ _))
  | ((with_reducible apply isi_go (T := "tuple")); (case h => assumption); (case hb => exact k_tuple_ _))
  | ((with_reducible apply isi_go (T := "dict")); (case h => assumption); (case hb => exact k_dict_ _))
  | with_reducible refine g_intb ?_))

/-! ### what the law alone needs: the store laid, lists thawed -/
def spStoreL (K : PySem.W.Frag) : Sp := fun vs H Q _ => ∃ (a : Addr) (ns : List Int), vs = [.ref a] ∧ SqL K H a (ns.map V.int) ∧ ns.length ≤ 63 ∧
  ∀ (L s : Addr) (H' : Hp), L ≠ s → H' s = some (.lst (StL L 0 0 0 0 0)) → H' L = some (.lst (ns.map V.int)) → Q (.ref s) H'
section
variable {P : Program} {w : World} {K : PySem.W.Frag} {mg : Str → Option Value} {base : Heap}
theorem ok_storeL (T : Txt K mg) : FnOk P w K mg base CX0 1 T.dstore.f T.dstore.fd P_store (spStoreL K) := by
  refine T.dstore.F.ok sc_store (fun vs H Q E h => ?_) (fun cdv A outer s H vs Q E hr h => ?_)
  · obtain ⟨a, ns, rfl, _⟩ := h
    rfl
  · obtain ⟨a, ns, rfl, hq, hl, k⟩ := h
    refine ⟨_, (pss_one (ps_ret (pe_lst (pa_cons (pe_callTy c_list (by rfl) T.m_list bt_list (pa_cons (pv 0) pa_nil)) (pa_cons pe_int (pa_cons pe_int (pa_cons pe_int (pa_cons pe_int (pa_cons pe_int pa_nil))))))))), ?_⟩
    try dsimp only [cxOf, Cx.nox, Cx.wish]
    walk_at "go"
    refine ⟨a, _, rfl, .inl hq, fun L hL => ?_⟩
    walk_at "go"
    refine ⟨by show 6 ≤ sizeLine; decide, fun p hp => ?_⟩
    have nLp : L ≠ p := fun e => by
      rw [← e, upd_same] at hp
      cases hp
    exact k L p _ nLp upd_same (by rw [upd_ne nLp, upd_same])
end
mutual
/-- no list within -/
def lfD : D → Bool
  | .non => true
  | .bl _ => true
  | .int _ => true
  | .str _ => true
  | .tup l => lfL l
  | _ => false
def lfL : List D → Bool
  | [] => true
  | d :: l => lfD d && lfL l
end
def noL (A : Hp) : Hp := fun b => match A b with
  | some (.lst _) => none
  | o => o
theorem noL_sub {A : Hp} {b : Addr} {o : HO} (h : noL A b = some o) : A b = some o := by
  unfold noL at h
  split at h
  · cases h
  · exact h
theorem noL_of {A : Hp} {b : Addr} {o : HO} (h : A b = some o) (n : ∀ xs, o ≠ .lst xs) : noL A b = some o := by
  unfold noL
  rw [h]
  cases o <;> first | rfl | exact absurd rfl (n _)
theorem noL_lst {A : Hp} {b : Addr} {xs : List V} (h : A b = some (.lst xs)) : noL A b = none := by
  unfold noL
  rw [h]
mutual
theorem Da.noL {K : PySem.W.Frag} {so so' : Option Addr} {A : Hp} : ∀ (d : D) (v : V), lfD d = true → Da K so A d v → Da K so' (noL A) d v
  | .non, _, _, h => h
  | .bl _, _, _, h => h
  | .int _, _, _, h => h
  | .str _, _, _, h => h
  | .tup l, _, e, ⟨a, xs, e1, h, q⟩ => by
    refine ⟨a, xs, e1, ?_, DaL.noL l xs e q⟩
    rcases h with (h | ⟨o, h⟩) | h
    · exact .inl (.inl (noL_of h (fun xs z => by cases z)))
    · exact .inl (.inr ⟨o, noL_of h (fun xs z => by cases z)⟩)
    · exact .inr h
  | .lst _, _, e, _ => by cases e
  | .dct _ _, _, e, _ => by cases e
  | .ins _ _ _, _, e, _ => by cases e
  | .scr _, _, e, _ => by cases e
  | .sto, _, e, _ => by cases e
  | .exc _, _, e, _ => by cases e
  | .err _ _ _, _, e, _ => by cases e
theorem DaL.noL {K : PySem.W.Frag} {so so' : Option Addr} {A : Hp} : ∀ (l : List D) (xs : List V), lfL l = true → DaL K so A l xs → DaL K so' (noL A) l xs
  | [], _, _, h => h
  | d :: l, _, e, ⟨v, r, e1, h, q⟩ => by
    have e : (lfD d && lfL l) = true := e
    rw [Bool.and_eq_true] at e
    exact ⟨v, r, e1, Da.noL d v e.1 h, DaL.noL l r e.2 q⟩
end
def thawS : Sl → Sl
  | .fr d => if lfD d = true then .fr d else .no
  | _ => .no
def thawD (i : Nat) (l : List D) (ρ : DEnv) : DEnv := (ρ.map thawS).set i (.ow l)
def lawEnds : DEnds := ⟨fun _ => False, fun d => d = .bl true, fun _ => False, fun _ => False, fun _ => False, True⟩
def sThaw (i : Nat) (r : DS) : DS := fun DD ρ => DD.fr ∧ ∃ l, ρ[i]? = some (.fr (.lst l)) ∧ lfL l = true ∧ r lawEnds (thawD i l ρ)
section
variable {X : Cx} {g : Gx} {EX : EXT} {rest : List Stmt} {r : DS}
theorem lawEnds_ok {g : Gx} {n : Nat} {B : Hp} {De : Ends} (h : ∀ H, De.rt (.bl true) H) : EndsOk X.K g EX n B lawEnds De :=
  ⟨fun _ _ _ _ _ _ _ q => q.elim, fun A H d v x da q => by
    have q : d = .bl true := q
    subst q
    have da : v = _ := da
    subst da
    exact h H, fun _ _ _ _ _ _ _ q => q.elim, fun _ _ _ _ _ _ _ q => q.elim, fun _ _ _ _ _ _ _ _ _ _ _ _ q => q.elim, fun _ => h⟩
theorem pds_thaw (i : Nat) (h : ∀ g', PDSs X g' EX rest r) : PDSs X g EX rest (sThaw i r) := by
  refine ⟨⟨fun pins s σ H De I q => ?_⟩⟩
  obtain ⟨A, ρ, DD, S, ⟨hf, l, hi, hl, q⟩, k⟩ := q
  obtain ⟨o, so, v, ev, a, xs, e2, ha, da⟩ := S.e.ok i _ hi
  subst ev e2
  have g1 : Good X.K none (noL A) H := ⟨fun b o e => S.good.sub b o (noL_sub e), fun s e => by cases e⟩
  have x1 : Ext X.K none (noL A) (noL A) (noL A) H := ⟨g1, fun _ _ e => e, fun b o _ e => g1.sub b o e, fun b o e => .inl e⟩
  refine (h ⟨none, noL A, noL A⟩).pss.run pins s σ H De I ⟨noL A, thawD i l ρ, lawEnds, ⟨x1, ?_⟩, q, lawEnds_ok (k.fr hf)⟩
  refine ⟨by rw [thawD, List.length_set, List.length_map]; exact S.e.len, fun j sl e => ?_, fun j1 j2 sl1 sl2 b n e1 e2 o1 o2 _ _ => ?_⟩
  · by_cases hj : i = j
    · subst hj
      have hlt : i < ρ.length := (List.getElem?_eq_some_iff.mp hi).1
      rw [thawD, List.getElem?_set_self (by rw [List.length_map]; exact hlt)] at e
      cases e
      exact ⟨_, so, a, xs, rfl, S.x.good.sub _ _ ha, noL_lst ha, noL_lst ha, (fun z => by cases z), DaL.noL l xs hl da⟩
    · rw [thawD, List.getElem?_set_ne hj, List.getElem?_map] at e
      cases e0 : ρ[j]? with
      | none =>
        rw [e0] at e
        cases e
      | some sl0 =>
        rw [e0] at e
        cases e
        obtain ⟨o, so2, h2⟩ := S.e.ok j sl0 e0
        refine ⟨o, so2, ?_⟩
        cases sl0 with
        | fr d =>
          show SlOk X.K none (My.noL A) (My.noL A) H (if lfD d = true then .fr d else .no) o
          split
          · rename_i hd
            obtain ⟨u, eu, du⟩ := h2
            exact ⟨u, eu, Da.noL d u hd du⟩
          · trivial
        | _ => exact trivial
  · have own : ∀ (j : Nat) (sl : Sl), (thawD i l ρ)[j]? = some sl → sl.own = true → i = j := fun j sl e o => by
      by_cases hj : i = j
      · exact hj
      · rw [thawD, List.getElem?_set_ne hj, List.getElem?_map] at e
        cases e0 : ρ[j]? with
        | none =>
          rw [e0] at e
          cases e
        | some sl0 =>
          rw [e0] at e
          cases e
          cases sl0 with
          | fr d =>
            have o : (if lfD d = true then Sl.fr d else Sl.no).own = true := o
            split at o <;> cases o
          | _ => cases o
    exact n ((own _ _ e1 o1).symm.trans (own _ _ e2 o2))
def onlyAt (H : Hp) (L : Addr) : Hp := fun b => if b = L then H L else none
theorem onlyAt_sub {H : Hp} {L b : Addr} {o : HO} (e : onlyAt H L b = some o) : H b = some o := by
  unfold onlyAt at e
  by_cases z : b = L
  · rw [if_pos z] at e
    rw [z]
    exact e
  · rw [if_neg z] at e
    cases e
theorem onlyAt_at {H : Hp} {L : Addr} : onlyAt H L L = H L := if_pos rfl
theorem onlyAt_ne {H : Hp} {L b : Addr} (n : b ≠ L) : onlyAt H L b = none := if_neg n
/-- the store is laid: nothing else is looked at behind it -/
def sStore (i : Nat) (r : DS) : DS := fun DD ρ => DD.fr ∧ i < ρ.length ∧ ∃ ns : List Int, ρ[0]? = some (.fr (.scr ns)) ∧ ns.length ≤ 63 ∧ r lawEnds ((ρ.map fun _ => Sl.no).set i (.fr .sto))
theorem pds_storeL {i lv : Nat} {y x : Str} {py p pos spos : Pos} {o : Expr} {f : Addr} {fd : FuncData} {ps : List Str} (F : FnOk X.prog X.w X.K X.mg X.base CX0 lv f fd ps (spStoreL X.K)) (hr : Room lv X.A) (hg : Gl X x) (hm : X.mg x = some (.ref f)) (hk : PySem.W.keepIn X.K (.ref f) = true) (hb : Binds X.K fd ps [])
    (ho : PE X o (tVar 0)) (hN : X.N.Nodup) (hi : X.N[i]? = some y) (hx : Loc X.env.scope y) (h : ∀ g', PDSs X g' EX rest r) (hs1 : starEach [o] X.env = (false, eval o X.env) :: starEach [] X.env) (hsw : swapsWith (.Call (.Name x p) [o] [] pos) (some (.Name y py)) spos.line X.env = pure false)
    (hf : X.fn y = true ∨ X.env.scope.names.lookup y = some .local) (nd : (x == ("__debug__" : Str)) = false := by decide) : PDSs X g EX (.Assign [.Name y py] (.Call (.Name x p) [o] [] pos) spos :: rest) (sStore i r) := by
  have h2 : PSs X rest (fun De σ H => ∃ g', lS X.K g' EX r De σ H) := ⟨fun pins s σ H De I ⟨g', q⟩ => (h g').pss.run pins s σ H De I q⟩
  refine ⟨(pss_cons (ps_set (pos := spos) hN hi hx (pe_callS F hr hg hm hk hb (fun σ => pass00 EX σ) (pa_cons ho pa_nil hs1) nd hs1 rfl) hsw hf) h2).imp fun De σ H q => ?_⟩
  obtain ⟨A, ρ, DD, S, ⟨hfr, hlt, ns, h0, hl, q⟩, k⟩ := q
  obtain ⟨o, so, v, ev, a, e2, hq⟩ := S.e.ok 0 _ h0
  subst ev e2
  refine ⟨_, so, a, ns, rfl, Sub.sqL S.good.sub hq, hl, fun L s H' ne h1 h2 => ?_⟩
  refine ⟨⟨some s, onlyAt H' L, H'⟩, onlyAt H' L, _, lawEnds, ⟨Ext.refl ⟨fun b o e => ?_, fun s' e => ?_⟩, ?_⟩, q, lawEnds_ok (k.fr hfr)⟩
  · exact onlyAt_sub e
  · cases e
    exact ⟨onlyAt_ne (Ne.symm ne), L, ns, 0, 0, 0, 0, 0, h1, onlyAt_at.trans h2, by decide, by decide, by decide, by decide, by decide, hl⟩
  · have hls := S.e.len
    refine ⟨by rw [List.length_set, List.length_set, List.length_map]; exact hls, fun j sl e => ?_, fun j1 j2 sl1 sl2 b n e1 e2 o1 o2 _ _ => ?_⟩
    · by_cases hj : i = j
      · subst hj
        rw [List.getElem?_set_self (by rw [List.length_map]; exact hlt)] at e
        cases e
        exact ⟨_, List.getElem?_set_self (by rw [hls]; exact hlt), .ref s, rfl, s, rfl, rfl⟩
      · rw [List.getElem?_set_ne hj, List.getElem?_map] at e
        rw [List.getElem?_set_ne hj]
        cases e0 : ρ[j]? with
        | none =>
          rw [e0] at e
          cases e
        | some sl0 =>
          rw [e0] at e
          cases e
          obtain ⟨o, so2, _⟩ := S.e.ok j sl0 e0
          exact ⟨o, so2, trivial⟩
    · have own : ∀ (j : Nat) (sl : Sl), ((ρ.map fun _ => Sl.no).set i (.fr .sto))[j]? = some sl → sl.own = true → False := fun j sl e o => by
        by_cases hj : i = j
        · subst hj
          rw [List.getElem?_set_self (by rw [List.length_map]; exact hlt)] at e
          cases e
          cases o
        · rw [List.getElem?_set_ne hj, List.getElem?_map] at e
          cases e0 : ρ[j]? with
          | none =>
            rw [e0] at e
            cases e
          | some sl0 =>
            rw [e0] at e
            cases e
            cases o
      exact (own _ _ e1 o1).elim
end
/-! ### the law's promise -/
def spLaw (K : PySem.W.Frag) : Sp := fun vs H Q _ => ∃ (a : Addr) (ns : List Int), vs = [.ref a] ∧ SqL K H a (ns.map V.int) ∧ ns.length ≤ 63 ∧ ∀ H', Q (.bl true) H'
section
variable {P : Program} {w : World} {K : PySem.W.Frag} {mg : Str → Option Value} {base : Heap}
theorem Df.okLaw {y : Str} {st : Stmt} {N : List Str} {pn : Str} {lv : Nat} (D : Df K mg y st [pn]) (S : FnScope N [pn] (defScope st))
    (body : ∀ (cdv : Value) (A : Around) (outer : List PySem.Env) (s : Shared) (H : Hp) (E : XK) (g : Gx), Room lv (A.deeper (envOfC y (defScope st) s.heap.objs.size D.f cdv)) →
      L2N.Takes (cxOf (L2N.CX P w) P w K mg base N y (defScope st) D.f cdv A outer s H E) (fun c d _ H => E c d H) →
      PassesOwn (model P w) (A.deeper (envOfC y (defScope st) s.heap.objs.size D.f cdv)) (envOfC y (defScope st) s.heap.objs.size D.f cdv) (cxOf (L2N.CX P w) P w K mg base N y (defScope st) D.f cdv A outer s H E).xe →
      ∃ r, PDSs (cxOf (L2N.CX P w) P w K mg base N y (defScope st) D.f cdv A outer s H E) g (fun _ => E) (defBody st) r ∧ ∀ ns : List Int, ns.length ≤ 63 → r lawEnds (startD N [.scr ns])) :
    FnOk P w K mg base (L2N.CX P w) (lv + 1) D.f D.fd [pn] (spLaw K) := by
  refine D.okN S (fun vs H Q E h => ?_) fun cdv A outer s H vs Q E room h => ?_
  · obtain ⟨_, _, rfl, _⟩ := h
    rfl
  · obtain ⟨a, ns, rfl, hq, hl, k⟩ := h
    obtain ⟨r, hr, kr⟩ := body cdv A outer s H E ⟨none, H, H⟩ room (L2N.takes_of rfl rfl rfl rfl) PassesOwn.leaving
    have gd : Good K none H H := ⟨fun _ _ e => e, fun s e => by cases e⟩
    exact ⟨_, hr.pss, H, startD N [.scr ns], lawEnds, ⟨Ext.refl gd, startOk gd (DaL.one ⟨a, rfl, hq⟩)⟩, kr ns hl, lawEnds_ok k⟩
end
end My
namespace My
open PySem PySem.Spec PyProof.Rows L2
/-! ### a call that lays a new list: it is owned by the caller -/
def tupH : List D → Bool
  | .tup _ :: _ => true
  | _ => false
theorem tupH_ints {K : PySem.W.Frag} {so : Option Addr} {A : Hp} {l : List D} {ns : List Int} (h : tupH l = true) (dl : DaL K so A l (ns.map V.int)) : False := by
  match l, h with
  | .tup t :: l', _ =>
    obtain ⟨v, r, e, dv, _⟩ := dl
    obtain ⟨a, xs, e1, _⟩ := dv
    subst e1
    cases ns with
    | nil => cases e
    | cons n ns => cases e
/-- the heap A, and behind it what the call froze, but for p -/
def under (A A' : Hp) (p : Addr) : Hp := fun b => match A b with
  | some o => some o
  | none => if b = p then none else A' b
def cutAt (H : Hp) (p : Addr) : Hp := fun b => if b = p then none else H b
theorem cutAt_eq {H : Hp} {p : Addr} {o : HO} (h : H p = some o) : upd (cutAt H p) p o = H := by
  funext b
  unfold upd cutAt
  by_cases e : b = p
  · subst e
    simp [h]
  · simp [e]
theorem cutAt_ne {H : Hp} {p b : Addr} (n : b ≠ p) : cutAt H p b = H b := if_neg n
def nCallF (m : DF) (i : Nat) : DL := fun ρ Q _ => ρ[i]? = some (.fr .sto) ∧ m [.sto] (fun d => ∃ l, d = .lst l ∧ tupH l = true ∧ lfL l = true ∧ Q l) (fun _ => False)
section
variable {X : Cx} {g : Gx} {EX : EXT} {e : Expr} {pos p : Pos} {lv : Nat} {f : Addr} {fd : FuncData} {ps : List Str} {m : DF} {x : Str} {CX : CXT} {i : Nat}
theorem pdn_callF (F : FnOk X.prog X.w X.K X.mg X.base CX lv f fd ps (spD X.K 1 m)) (hr : Room lv X.A) (hg : Gl X x) (hm : X.mg x = some (.ref f)) (hk : PySem.W.keepIn X.K (.ref f) = true) (hb : Binds X.K fd ps []) (hx : ∀ σ, PassesAt CX X σ (EX σ))
    (hv : PD X g EX e (dVar i)) (hdb : (x == ("__debug__" : Str)) = false := by decide) (he : starEach [e] X.env = (false, eval e X.env) :: starEach [] X.env := by rfl) (hpl : (backTo pos (starEach [] X.env)).any (·.1) = false := by rfl) :
    PDN X g EX (.Call (.Name x p) [e] [] pos) (nCallF m i) := ⟨(pe_callS F hr hg hm hk hb hx (pda_cons hv pda_nil he).pa hdb he hpl).imp fun σ H Q h => by
  obtain ⟨A, ρ, Qd, Ed, S, ⟨hi, h⟩, c, cx⟩ := h
  refine ⟨A, ρ, fun ds => ds = [.sto], Ed, S, ?_, fun ds vs A1 H1 x1 das q => ?_, cx⟩
  · show rdS ρ[i]? _
    rw [hi]
    rfl
  subst q
  obtain ⟨v, rfl, s, rfl, es⟩ := das.one'
  have g1 := x1.good
  obtain ⟨na, L, ns, p0, a0, b0, c0, d0, hs, hL, q1, q2, q3, q4, q5, q6⟩ := g1.st s es
  have sL : L ≠ s := fun z => by
    rw [z, na] at hL
    cases hL
  have g0 : Good X.K g.so (onlyAt A1 L) H1 := ⟨fun b o e => g1.sub b o (onlyAt_sub e), fun s' e' => by
    rw [es] at e'
    cases e'
    exact ⟨onlyAt_ne (Ne.symm sL), L, ns, p0, a0, b0, c0, d0, hs, onlyAt_at.trans hL, q1, q2, q3, q4, q5, q6⟩⟩
  refine ⟨g.so, onlyAt A1 L, [.sto], _, (fun _ => False), g0, rfl, ⟨_, _, rfl, ⟨s, rfl, es⟩, rfl⟩, h, fun d v A' H' x da q => ?_, fun _ _ _ _ _ _ _ _ _ _ z => z.elim⟩
  obtain ⟨l, rfl, ht, hl, q⟩ := q
  obtain ⟨pp, xs, rfl, hp, dl⟩ := da
  have hL' : A' L = some (.lst (ns.map V.int)) := x.mono _ _ (onlyAt_at.trans hL)
  have nt : ∀ {b : Addr} {ms : List Int}, A' b = some (.lst (ms.map V.int)) → b ≠ pp := fun hb z => by
    rw [z, hp] at hb
    cases hb
    exact tupH_ints ht dl
  have pL : L ≠ pp := nt hL'
  have hp0 : H1 pp = none := by
    rcases x.new pp _ hp with z | z
    · rw [onlyAt_ne (Ne.symm pL)] at z
      cases z
    · exact z
  have ap0 : A1 pp = none := by
    cases z : A1 pp with
    | none => rfl
    | some o =>
      rw [g1.sub _ _ z] at hp0
      cases hp0
  have keep : ∀ b o, A1 b = some o → H' b = some o ∧ b ≠ pp := fun b o e => by
    refine ⟨x.kept b o (fun z => ?_) (g1.sub _ _ e), fun z => ?_⟩
    · rw [es] at z
      cases z
      rw [na] at e
      cases e
    · rw [z, ap0] at e
      cases e
  have und : ∀ b o, A' b = some o → b ≠ pp → under A1 A' pp b = some o := fun b o e n => by
    unfold under
    cases z : A1 b with
    | none => simp [n, e]
    | some o' =>
      have := (keep b o' z).1
      rw [x.good.sub b o e] at this
      cases this
      rfl
  have und1 : ∀ b o, A1 b = some o → under A1 A' pp b = some o := fun b o e => by
    unfold under
    rw [e]
  have und2 : ∀ b o, under A1 A' pp b = some o → A1 b = some o ∨ (A' b = some o ∧ b ≠ pp) := fun b o e => by
    unfold under at e
    cases z : A1 b with
    | some o' =>
      rw [z] at e
      cases e
      exact .inl rfl
    | none =>
      rw [z] at e
      dsimp only at e
      split at e
      · cases e
      · rename_i n
        exact .inr ⟨e, n⟩
  have y : Ext X.K g.so A1 H1 (under A1 A' pp) (cutAt H' pp) := by
    refine ⟨⟨fun b o e => ?_, fun s' e' => ?_⟩, und1, fun b o n e => ?_, fun b o e => ?_⟩
    · rcases und2 b o e with z | ⟨z, n⟩
      · obtain ⟨k1, k2⟩ := keep b o z
        rw [cutAt_ne k2]
        exact k1
      · rw [cutAt_ne n]
        exact x.good.sub _ _ z
    · rw [es] at e'
      cases e'
      obtain ⟨nb, L', ns', p1, a1, b1, c1, d1, hs', hL2, r1, r2, r3, r4, r5, r6⟩ := x.good.st s es
      have sp : s ≠ pp := fun z => by
        rw [← z, hs] at hp0
        cases hp0
      refine ⟨?_, L', ns', p1, a1, b1, c1, d1, by rw [cutAt_ne sp]; exact hs', und _ _ hL2 (nt hL2), r1, r2, r3, r4, r5, r6⟩
      unfold under
      rw [na]
      simp [sp, nb]
    · have n2 : b ≠ pp := fun z => by
        rw [z, hp0] at e
        cases e
      rw [cutAt_ne n2]
      exact x.kept b o n e
    · rcases und2 b o e with z | ⟨z, n⟩
      · exact .inl z
      · rcases x.new b o z with k | k
        · exact .inl (onlyAt_sub k)
        · exact .inr k
  have hpH : H' pp = some (.lst xs) := x.good.sub _ _ hp
  have fin := (c.ext x1) l xs pp (under A1 A' pp) (cutAt H' pp) y (if_pos rfl) (DaL.mono (fun b o e => und b o (noL_sub e) (fun z => by
    rw [z, noL_lst hp] at e
    cases e)) l xs (DaL.noL (so' := g.so) l xs hl dl)) q
  rw [cutAt_eq hpH] at fin
  exact fin⟩
end
end My
namespace My
open PySem PySem.Spec PyProof.Rows L2 RT
/-! ### list(reversed(x)), x a list -/
section
variable {prog : Program} {w : World} {A : Around} {E : Value → Shared → Prop} {s : Shared}
theorem ext_rev {R : Result → Shared → Prop} {it l S : Addr} {items : Array Value} {res : Value} {c0 : Nat} (hh : A.handled = none) (hit : s.heap.IsRevIter it l ((items.size : Int) - 1)) (hl : s.heap.IsList l items) (nli : l ≠ it) (nSi : S ≠ it) (nSl : S ≠ l)
    (hn : items.size ≤ sizeLine) (hS : s.heap.get? S = some { cls := .type "list", data := .seq #[] c0 })
    (hR : ∀ h' tk acc c', (∀ b o, b ≠ S → b ≠ it → s.heap.get? b = some o → h'.get? b = some o) → h'.get? S = some { cls := .type "list", dict := none, data := .seq acc c', slots := #[] } →
      ItemsOf (fun i v => items[items.size - 1 - i]? = some v) acc items.size → R (.ok (.ret res)) { s with heap := h', toks := tk }) :
    wpAny (model prog w) A.in1 (Builtin.List.listExtendWith (.ref S) (.ref it) res)
      (fun fin s' => match fin with | .done f => R (.ok f) s' | .again c' => c'.quiet = true ∧ codeAny (model prog w) A c' R s') (fun e s' => R (.error e) s') s := by
  have Wk := (Walks.listRev (prog := prog) (w := w) (A := A.in1) hh it l nli items).toS
  have nf : S ∉ [it, l] := fun z => by
    rcases List.mem_cons.mp z with e | z
    · exact nSi e
    · exact nSl (List.mem_singleton.mp z)
  have tI : s.TypeIs (.ref it) "list_reverseiterator" := Heap.IsRevIter.typeIs (s := s) hit
  have no : Builtin.List.listSameRef (.ref S) (.ref it) = false := by simp [Builtin.List.listSameRef, nSi]
  unfold Builtin.List.listExtendWith
  refine wpAny_bind (wpAny_typeOf tI ?_)
  rw [if_neg (by rw [no]; decide)]
  refine wpAny_bind (wpAny_pyIter_revIter (s := s) hit (wpAny_bind (wpAny_holding ?_)))
  unfold Builtin.List.listLengthHint
  refine wpAny_bind (wpAny_specialOf tI nolen_lri ?_)
  show wpAny _ A.in1 (specialOf (.ref it) (Str.ofString "__length_hint__") >>= _) _ _ _
  refine wpAny_bind (wpAny_specialOf tI hint_lri ?_)
  generalize hid : ("list_reverseiterator.__length_hint__" : String) = idx
  wp_delta
  have sp : splitId idx = some ("list_reverseiterator", "__length_hint__") := by
    subst hid
    decide +kernel
  rw [sp]
  subst hid
  refine wpAny_bind (wpAny_isInstance (b := true) tI (by rw [isSubtype_type]; kernel_rfl) (wpAny_pure ?_))
  rw [if_neg (by decide)]
  have z0 : ((items.size : Nat) : Int) - 1 - ((0 : Nat) : Int) = (items.size : Int) - 1 := by omega
  refine wpAny_pure ⟨plainId_quiet F.plain_extend_loop _, ?_⟩
  refine codeAny_extend_loopS Wk hn _ nf _ items.size 0 _ _ _ rfl (Nat.zero_le _) ⟨Nat.zero_le _, by rw [z0]; exact hit, hl⟩ hS (ItemsOf.nil _) fun s' acc' c' hm hS' hacc => ?_
  rw [Moved.eq_with hm]
  refine hR s'.heap s'.toks acc' c' (fun b o nS nI e => hm.heap b o (fun z => ?_) e) hS' hacc
  rcases List.mem_cons.mp z with e | z
  · exact nS e
  · exact nI (List.mem_singleton.mp z)
theorem init_rev {R : Result → Shared → Prop} {it l S : Addr} {items : Array Value} (hh : A.handled = none) (hit : s.heap.IsRevIter it l ((items.size : Int) - 1)) (hl : s.heap.IsList l items) (nli : l ≠ it) (nSi : S ≠ it) (nSl : S ≠ l)
    (hn : items.size ≤ sizeLine) (hS : s.heap.get? S = some { cls := .type "list", data := .seq #[] })
    (hR : ∀ h' tk acc c', (∀ b o, b ≠ S → b ≠ it → s.heap.get? b = some o → h'.get? b = some o) → h'.get? S = some { cls := .type "list", dict := none, data := .seq acc c', slots := #[] } →
      ItemsOf (fun i v => items[items.size - 1 - i]? = some v) acc items.size → R (.ok (.ret .none)) { s with heap := h', toks := tk }) :
    wpAny (model prog w) A.in1 (Builtin.«list.__init__» ⟨[.ref S, .ref it], []⟩)
      (fun fin s' => match fin with | .done f => R (.ok f) s' | .again c' => c'.quiet = true ∧ codeAny (model prog w) A c' R s') (fun e s' => R (.error e) s') s := by
  show wpAny _ _ (do let old ← Builtin.List.listItems (.ref S); Builtin.List.listUpdate (.ref S) (fun _ => #[]); letGo old.toList.reverse
                     Builtin.List.listExtendWith (.ref S) (.ref it) .none) _ _ s
  unfold Builtin.List.listItems
  refine wpAny_bind (wpAny_bind (wpAny_seqItems hS rfl (wpAny_pure ?_)))
  show wpAny _ _ (updateSeq S (fun _ => #[]) >>= fun _ => (letGo (#[] : Array Value).toList.reverse >>= fun _ => Builtin.List.listExtendWith (.ref S) (.ref it) .none)) _ _ s
  refine wpAny_bind (wpAny_updateSeq hS rfl (wpAny_bind (wpAny_letGo ?_)))
  have S2 := Heap.get?_update_self (Obj.mapSeq (fun _ => (#[] : Array Value))) hS rfl
  have k : ∀ b o, b ≠ S → s.heap.get? b = some o → (s.heap.update S (Obj.mapSeq (fun _ => (#[] : Array Value)))).get? b = some o := fun b o n e => (Heap.get?_update_other _ _ (Ne.symm n)).trans e
  refine ext_rev hh (hit.at fun o e => k it o (Ne.symm nSi) e) (hl.at fun o e => k l o (Ne.symm nSl) e) nli nSi nSl hn S2 fun h' tk acc c' hk hs hacc => ?_
  exact hR h' tk acc c' (fun b o n1 n2 e => hk b o n1 n2 (k b o n1 e)) hs hacc
theorem call_list_rev {it l : Addr} {items : Array Value} {Q : Value → Shared → Prop} (hh : A.handled = none) (hit : s.heap.IsRevIter it l ((items.size : Int) - 1)) (hl : s.heap.IsList l items) (nli : l ≠ it) (hn : items.size ≤ sizeLine)
    (hQ : ∀ h' tk acc c', (∀ b o, b ≠ it → s.heap.get? b = some o → h'.get? b = some o) → h'.get? s.heap.objs.size = some { cls := .type "list", dict := none, data := .seq acc c', slots := #[] } →
      ItemsOf (fun i v => items[items.size - 1 - i]? = some v) acc items.size → Q (.ref s.heap.objs.size) { s with heap := h', toks := tk }) :
    wpAny (model prog w) A (call (.type "list") [.ref it]) Q E s := by
  refine callType_codes (Q₁ := fun obj t => obj = .ref s.heap.objs.size ∧ t = { s with heap := s.heap.push { cls := .type "list", data := .seq #[] } }) F.called_list (F.typeCall_list_1 _) F.entry_list_init (code_list_new _ ⟨rfl, rfl⟩) ?_
  rintro obj t ⟨rfl, rfl⟩
  have hS : (s.heap.push { cls := .type "list", data := .seq #[] }).get? s.heap.objs.size = some { cls := .type "list", data := .seq #[] } := Heap.get?_push_size _ rfl
  obtain ⟨o1, e1, _⟩ := id hit
  obtain ⟨o2, e2, _⟩ := id hl
  refine ⟨⟨_, hS, rfl⟩, F.args_list_init_2 _ _, ?_⟩
  refine init_rev (A := A.in1) hh (hit.at fun o e => Heap.get?_push_of_some _ e) (hl.push _) nli (Nat.ne_of_gt (Heap.lt_size e1)) (Nat.ne_of_gt (Heap.lt_size e2)) hn hS fun h' tk acc c' hk hs hacc => ?_
  exact ⟨rfl, hQ h' tk acc c' (fun b o n e => hk b o (Nat.ne_of_lt (Heap.lt_size e)) n (Heap.get?_push_of_some _ e)) hs hacc⟩
end
def tLstRev (K : PySem.W.Frag) (te : TE) : TE := fun σ H Q => te σ H fun v H1 => ∃ (a : Addr) (xs : List V), v = .ref a ∧ SqL K H1 a xs ∧ ∀ q, H1 q = none → Q (.ref q) (upd H1 q (.lst xs.reverse))
theorem pe_lstRev {X : Cx} {e : Expr} {te : TE} {p p2 pos pos2 : Pos} (hc : X.calm = true) (hg : Gl X "list") (hm : X.mg "list" = none) (hg2 : Gl X "reversed") (hm2 : X.mg "reversed" = none) (he : PE X e te)
    (hs : starEach [e] X.env = (false, eval e X.env) :: starEach [] X.env := by rfl)
    (hs2 : starEach [.Call (.Name "reversed" p2) [e] [] pos2] X.env = (false, eval (.Call (.Name "reversed" p2) [e] [] pos2) X.env) :: starEach [] X.env := by rfl) :
    PE X (.Call (.Name "list" p) [.Call (.Name "reversed" p2) [e] [] pos2] [] pos) (tLstRev X.K te) := by
  refine ⟨fun pins s σ H Q I rd => Call_ (ld_blt I hg hm bt_list (PyProof.Rows.callWith_type1 (args_cons ?_ hs2) hs2 rfl))⟩
  refine Call_ (ld_blt I hg2 hm2 PyProof.Rows.boot_reversed (PyProof.Rows.callWith_type1 (args_cons (thn (he.run pins s σ H _ I rd) fun u s1 hh => args_nil ?_) hs) hs rfl))
  obtain ⟨v, H1, I1, r1, a, xs, rfl, hq, q⟩ := hh
  cases (show u = Value.ref a from r1)
  obtain ⟨its, rv, pl, hz⟩ := I1.list hq
  refine call_reversed_list pl.isList (args_nil ?_)
  generalize er : revObj a ((its.toArray.size : Int) - 1) = ro
  have k0 : ∀ b o, s1.heap.get? b = some o → (s1.heap.push ro).get? b = some o := fun b o e => Heap.get?_push_of_some _ e
  obtain ⟨ol, hol, _⟩ := id pl.isList
  have hne : a ≠ s1.heap.objs.size := Nat.ne_of_lt (Heap.lt_size hol)
  have hn : its.toArray.size ≤ sizeLine := by
    rw [List.size_toArray, ← rv.length]
    exact hz
  refine call_list_rev (it := s1.heap.objs.size) (l := a) (items := its.toArray) (s := { s1 with heap := s1.heap.push ro }) (I1.ok.hd hc) (by rw [← er]; exact ⟨_, Heap.get?_push_size _ rfl, rfl, rfl⟩) (pl.isList.push _) hne hn fun h' tk acc c' hk hs' hi => ?_
  have esz : (s1.heap.push ro).objs.size = s1.heap.objs.size + 1 := Heap.size_push _ _
  rw [esz] at hs' ⊢
  have hp : s1.heap.objs.size ≤ s1.heap.objs.size + 1 := Nat.le_succ _
  have kk : ∀ b o, s1.heap.get? b = some o → h'.get? b = some o := fun b o e => hk b o (Nat.ne_of_lt (Heap.lt_size e)) (k0 b o e)
  refine ⟨.ref (s1.heap.objs.size + 1), upd H1 (s1.heap.objs.size + 1) (.lst xs.reverse), I1.laid (t' := tk) kk hp ?_, rfl, q _ (I1.hok.fresh hp)⟩
  refine ⟨by rw [List.length_reverse]; exact hz, acc.toList, c', vals_rev rv hi, ?_⟩
  rw [Array.toArray_toList]
  exact hs'
end My
namespace My
open PySem PySem.Spec PyProof.Rows L2
/-! ### steps of methods -/
def rJoin (K : PySem.W.Frag) : V → List V → Hp → VK → Prop := fun x xs H Q => ∃ a p, ∃ ys : List Str, x = .str a ∧ xs = [.ref p] ∧ (SqL K H p (ys.map V.str) ∨ SqT K H p (ys.map V.str)) ∧
    (ys.map (·.length)).sum + ys.length * a.length ≤ 16777216 ∧ Q (.str (Txt.join a ys)) H
theorem m_join {X : Cx} : MtR X "str.join" (rJoin X.K) := mt_join
def rSplit : V → List V → Hp → VK → Prop := fun x xs H Q => ∃ a b, x = .str a ∧ xs = [.str b] ∧ (b.length == 0) = false ∧ a.length + 2 ≤ sizeLine ∧ rNewStrs (Txt.split a b) H Q
theorem m_split {X : Cx} : MtR X "str.split" rSplit := mt_split
def rInsert : V → List V → Hp → VK → Prop := fun x vs H Q => ∃ (l : Addr) (xs : List V) (i : Int) (y : V), x = .ref l ∧ vs = [.int i, y] ∧ H l = some (.lst xs) ∧ xs.length < sizeLine ∧ 0 ≤ i ∧ i < 2 ^ 63 ∧
    Q .non (upd H l (.lst (xs.take i.toNat ++ [y] ++ xs.drop i.toNat)))
theorem m_insert {X : Cx} : MtR X "list.insert" rInsert := mt_insert
def rInS : R2 := fun x y H Q => ∃ (c : Nat) (z : Str), x = .str ⟨#[c]⟩ ∧ y = .str z ∧ Q (.bl (decide (c ∈ z.cps.toList))) H
theorem o_inS {X : Cx} : OpR X (compareOp .In) rInS := op_in_sign
section
variable {σ : L2.St} {H : Hp} {Q : VK} {D : Ends} {to te : TE} {t : TA}
theorem g_bm {K : PySem.W.Frag} {T : String} {r : V → List V → Hp → VK → Prop} (h : to σ H fun x H1 => tyV K T x H1 ∧ t σ H1 fun xs H2 => r x xs H2 Q) : tBM K T r to t σ H Q := h
theorem g_tyL {K : PySem.W.Frag} {p : Addr} {xs : List V} {R : Prop} (hs : H p = some (.lst xs)) (h : R) : tyV K "list" (.ref p) H ∧ R := ⟨.inl ⟨rfl, xs, SqL.of hs⟩, h⟩
theorem g_tyS {K : PySem.W.Frag} {z : Str} {R : Prop} (h : R) : tyV K "str" (.str z) H ∧ R := ⟨rfl, h⟩
theorem g_app {l : Addr} {xs : List V} {y : V} (hH : H l = some (.lst xs)) (hz : xs.length < sizeLine) (h : Q .non (upd H l (.lst (xs ++ [y])))) : rAppend (.ref l) [y] H Q := ⟨l, xs, y, rfl, rfl, hH, hz, h⟩
theorem g_list {K : PySem.W.Frag} {p : Addr} {xs : List V} (hs : SqL K H p xs) (h : ∀ l, H l = none → Q (.ref l) (upd H l (.lst xs))) : rListQ K [.ref p] H Q := ⟨p, xs, rfl, .inl hs, h⟩
theorem g_lstRev {K : PySem.W.Frag} (h : te σ H fun v H1 => ∃ (a : Addr) (xs : List V), v = .ref a ∧ SqL K H1 a xs ∧ ∀ q, H1 q = none → Q (.ref q) (upd H1 q (.lst xs.reverse))) : tLstRev K te σ H Q := h
theorem g_sl {r : V → Option Int → Option Int → Hp → VK → Prop} {tl th : TO} (h : te σ H fun x H1 => tl σ H1 fun l H2 => th σ H2 fun u H3 => r x l u H3 Q) : tSl r te tl th σ H Q := h
theorem g_noP {R : Option Int → Hp → Prop} (h : R none H) : tNoPart σ H R := h
theorem g_part {R : Option Int → Hp → Prop} (h : te σ H fun x H1 => ∃ i, x = .int i ∧ R (some i) H1) : tPart te σ H R := h
theorem g_pI {i : Int} {R : Int → Prop} (h : R i) : ∃ j, V.int i = .int j ∧ R j := ⟨i, rfl, h⟩
theorem g_lc {wi : TI} {g : TG} {tt : TT} {vs : List Nat} (h : wi σ H fun J H1 => ∀ D, H1 D = none → ∃ W : Nat → Nat → Hp → Prop, (∃ m, W 0 m (upd H1 D (.lst []))) ∧ ∀ i m H, W i m H →
  (J.stop i H ∧ Q (.ref D) H) ∨ (J.go i H ∧ ∃ Nx : Hp → Prop, (∀ H', Nx H' → ∃ m', m' < m ∧ W (i + 1) m' H') ∧ ∀ x H', J.yld i H x H' → g x (wipe σ vs) H' fun σ2 H2 => wipe σ2 vs = wipe σ vs ∧ tt σ2 H2 fun b H3 =>
    if b = true then te σ2 H3 fun y H4 => ∃ acc, H4 D = some (.lst acc) ∧ acc.length < sizeLine ∧ Nx (upd H4 D (.lst (acc ++ [y]))) else Nx H3)) : tLc wi g tt te vs σ H Q := h
end
theorem idx_ok {i : Int} {n : Nat} (h0 : 0 ≤ i) (h1 : i < n) : seqIndex? i n = some i.toNat := by
  have e : (if i < 0 then i + (n : Int) else i) = i := if_neg (by omega)
  unfold seqIndex?
  simp only [e]
  rw [if_pos (by simp [h0, h1])]
local macro_rules | `(tactic| walk_at "arith") => `(tactic| first
  | (with_reducible show _ ≠ _; omega)
  | (unfold CMul; omega)
  | (unfold CPow; omega)
  | (unfold CPow; decide)
  | exact wide_div (b := 100) (by decide) (by decide) (by decide) (by decide))
local macro_rules | `(tactic| walk_at "go") => `(tactic| repeat (first
  | with_reducible refine g_seq ?_
  | with_reducible refine g_asg ?_
  | with_reducible refine g_name ?_
  | with_reducible refine g_sub ?_
  | with_reducible refine g_ret ?_
  | with_reducible refine g_drop ?_
  | ((with_reducible refine g_next ?_); dsimp only)
  | with_reducible refine g_if ?_
  | with_reducible refine g_var rfl ?_
  | with_reducible refine g_c ?_
  | with_reducible refine g_op ?_
  | with_reducible refine g_un ?_
  | with_reducible refine g_I0 ?_
  | with_reducible refine g_U ?_
  | with_reducible refine g_eq rfl ?_
  | with_reducible refine g_test ?_
  | with_reducible refine g_bl ?_
  | with_reducible refine iteF ?_
  | with_reducible refine iteT ?_
  | ((with_reducible apply g_iteT); (case e => rfl))
  | ((with_reducible apply g_iteF); (case e => rfl))
  | with_reducible refine g_int1 ?_
  | with_reducible refine g_max2 ?_
  | with_reducible refine g_min2 ?_
  | with_reducible refine g_isN ?_
  | with_reducible refine g_notN ?_
  | ((with_reducible apply g_lenL); (case hs => assumption))
  | ((with_reducible apply g_ixL); (case hs => exact SqL.of (by assumption)); (case ha => rfl))
  | with_reducible refine g_pow9 ?_
  | with_reducible refine g_pow18 ?_
  | ((with_reducible apply g_I); (case c => walk_at "arith"))
  | ((with_reducible apply g_st); (case hs => assumption); (case hL => assumption); (case ne => assumption); (case x0 => assumption); (case hj => rfl); (case j0 => decide); intro _ _ _ _)
  | with_reducible refine g_and ?_
  | with_reducible refine g_or ?_
  | with_reducible refine g_not ?_
  | with_reducible refine g_nil ?_
  | with_reducible refine g_cons ?_
  | with_reducible refine g_callB ?_
  | with_reducible refine g_call ?_
  | with_reducible refine g_tup ?_
  | with_reducible refine g_lst ?_
  | with_reducible refine g_andV ?_
  | with_reducible refine g_orV ?_
  | with_reducible refine g_notV ?_
  | with_reducible refine g_tB ?_
  | with_reducible refine g_ne rfl ?_
  | with_reducible refine g_abs ?_
  | with_reducible refine g_isB ?_
  | with_reducible refine g_for ?_
  | with_reducible refine g_rng1 ?_
  | with_reducible refine g_rng2 ?_
  | with_reducible refine g_iList ?_
  | ((with_reducible refine g_break ?_); dsimp only)
  | ((with_reducible refine g_cont ?_); dsimp only)
  | with_reducible refine g_retN ?_
  | ((with_reducible apply isi_go (T := "int")); (case h => assumption); (case hb => exact k_int_ _))
  | ((with_reducible apply isi_go (T := "str")); (case h => assumption); (case hb => exact k_str_ _))
  | ((with_reducible apply isi_go (T := "bool")); (case h => assumption); (case hb => exact k_bool_ _))
  | ((with_reducible apply isi_go (T := "list")); (case h => assumption); (case hb => exact k_list_ _))
  | ((with_reducible apply isi_go (T := "tuple")); (case h => assumption); (case hb => exact k_tuple_ _))
  | ((with_reducible apply isi_go (T := "dict")); (case h => assumption); (case hb => exact k_dict_ _))
  | with_reducible refine g_intb ?_
  | with_reducible refine g_bm ?_
  | with_reducible refine g_tyS ?_
  | ((with_reducible apply g_tyL); (case hs => assumption))
  | with_reducible refine g_lc ?_
  | with_reducible refine g_sl ?_
  | with_reducible refine g_noP ?_
  | with_reducible refine g_part ?_
  | with_reducible refine g_pI ?_))

/-! ### mixed -/
def spMixed (K : PySem.W.Frag) : Sp := fun vs H Q _ => ∃ (s p : Addr) (xs : List V), vs = [.ref s, .ref p] ∧ Store K H s ∧ p ≠ s ∧ H p = some (.lst xs) ∧ xs.length ≤ 100000 ∧
  ∀ (q : Addr) (ys : List V) (H' : Hp), H q = none → H' q = some (.lst ys) → (∀ y ∈ ys, y ∈ xs) → ys.length = xs.length → Sx s H H' → Store K H' s → Q (.ref q) H'
abbrev s_mixed : Stmt := topS 53
abbrev N_mixed : List Str := ["store", "items", "way", "left", "out", "k"]
abbrev P_mixed : List Str := ["store", "items"]
theorem sc_mixed : FnScope N_mixed P_mixed (defScope s_mixed) := ⟨rfl, rfl, rfl, by decide +kernel, rfl, by decide +kernel, by decide +kernel⟩

section
variable {P : Program} {w : World} {K : PySem.W.Frag} {mg : Str → Option Value} {base : Heap}
theorem ok_mixed (T : Txt K mg) : FnOk P w K mg base CX0 172 T.dmixed.f T.dmixed.fd P_mixed (spMixed K) := by
  have G_take : FnOk P w K mg base CX0 171 T.dtake.f T.dtake.fd P_take (spTakeB K) := ok_takeB T
  refine T.dmixed.F.ok sc_mixed (fun vs H Q E h => ?_) (fun cdv A outer s_ H vs Q E hr h => ?_)
  · obtain ⟨s, p, xs, rfl, _⟩ := h
    rfl
  · obtain ⟨s, p, xs, rfl, st, ps, hp, hl, k⟩ := h
    refine ⟨_, (pss_cons (ps_set (i := 2) sc_mixed.nd rfl (by first | exact .inl rfl | exact .inr rfl) (pe_call G_take (hr.mono (by omega)) rfl T.dtake.g T.dtake.F.kp T.dtake.b .nil pass0 (pa_cons (pv 0) (pa_cons pe_int pa_nil))))
      (pss_cons (ps_if (pt_cmpR op_eq (pv 2) pe_int (nomark _))
        (pss_one (ps_ret (pe_callTy c_list (by rfl) T.m_list bt_list (pa_cons (pv 1) pa_nil))))
        pss_nil)
      (pss_cons (ps_if (pt_cmpR op_eq (pv 2) pe_int (nomark _))
        (pss_one (ps_ret (pe_lstRev rfl (by rfl) T.m_list (by rfl) T.m_reversed (pv 1))))
        pss_nil)
      (pss_cons (ps_set (i := 3) sc_mixed.nd rfl (by first | exact .inl rfl | exact .inr rfl) (pe_callTy c_list (by rfl) T.m_list bt_list (pa_cons (pv 1) pa_nil)))
      (pss_cons (ps_set (i := 4) sc_mixed.nd rfl (by first | exact .inl rfl | exact .inr rfl) (pe_lst pa_nil))
      (pss_cons (ps_for PassesOwn.never rfl (pi_range1 rfl T.m_range (pa_cons (pe_callB c_len (by rfl) T.m_len bt_len (pa_cons (pv 1) pa_nil)) pa_nil)) (pg_name (i := 5) sc_mixed.nd rfl (by first | exact .inl rfl | exact .inr rfl))
        (pss_one (ps_expr (pe_bm PySem.F.plainAttrs_list PySem.F.slot_list_append PySem.F.type_list_append mt_append (pv 4) (pa_cons (pe_bm PySem.F.plainAttrs_list PySem.F.slot_list_pop PySem.F.type_list_pop mt_popAt (pv 3) (pa_cons (pe_call G_take (hr.mono (by omega)) rfl T.dtake.g T.dtake.F.kp T.dtake.b .nil pass0 (pa_cons (pv 0) (pa_cons (pe_callB c_len (by rfl) T.m_len bt_len (pa_cons (pv 3) pa_nil)) pa_nil))) pa_nil)) pa_nil)))))
      (pss_one (ps_ret (pv 4))))))))), ?_⟩
    try dsimp only [cxOf, Cx.nox, Cx.wish]
    walk_at "go"
    refine take_go st (big_of (by decide)) fun r H1 r0 r1 x1 st1 => ?_
    have hp1 := x1.kp _ _ ps hp
    walk_at "go"
    refine g_ite (fun h1 => ?_) (fun h1 => ?_)
    · walk_at "go"
      refine g_list (SqL.of hp1) fun l h0 => ?_
      walk_at "go"
      have hl0 := st1.free x1 h0
      exact k l xs _ hl0 upd_same (fun _ h => h) rfl (x1.mut hl0) (st.mut x1 st1 hl0)
    walk_at "go"
    refine g_ite (fun h2 => ?_) (fun h2 => ?_)
    · walk_at "go"
      refine g_lstRev ?_
      walk_at "go"
      refine ⟨p, xs, rfl, SqL.of hp1, fun l h0 => ?_⟩
      have hl0 := st1.free x1 h0
      exact k l xs.reverse _ hl0 upd_same (fun _ h => List.mem_reverse.mp h) List.length_reverse (x1.mut hl0) (st.mut x1 st1 hl0)
    walk_at "go"
    refine g_list (SqL.of hp1) fun l h0 => ?_
    have hl0 := st1.free x1 h0
    have x2 := x1.mut (o := .lst xs) hl0
    have st2 := st.mut (o := .lst xs) x1 st1 hl0
    walk_at "go"
    refine ⟨by decide, fun o h3 => ?_⟩
    have ho0 := st2.free x2 h3
    have x3 := x2.mut (o := .lst []) ho0
    have st3 := st.mut (o := .lst []) x2 st2 ho0
    have nlo : l ≠ o := ne_of_none upd_same h3
    have hl3 : upd (upd H1 l (.lst xs)) o (.lst []) l = some (.lst xs) := by rw [upd_ne nlo, upd_same]
    have ho3 : upd (upd H1 l (.lst xs)) o (.lst []) o = some (.lst []) := upd_same
    generalize upd (upd H1 l (.lst xs)) o (.lst []) = H3 at *
    have hp3 := x3.kp _ _ ps hp
    walk_at "go"
    refine g_lenL (SqL.of hp3) ?_
    walk_at "go"
    refine ⟨_, rfl, by omega, by omega, ?_⟩
    refine for_range (n := xs.length) (fun i σ' H' => ∃ z ls os, σ' = [some (.ref s), some (.ref p), some (.int r), some (.ref l), some (.ref o), z] ∧ H' l = some (.lst ls) ∧ H' o = some (.lst os) ∧ (∀ y ∈ ls, y ∈ xs) ∧ (∀ y ∈ os, y ∈ xs) ∧
      ls.length + i = xs.length ∧ os.length = i ∧ Sx s H H' ∧ Store K H' s) ⟨none, xs, [], rfl, hl3, ho3, fun _ h => h, fun _ h => (nomatch h), rfl, rfl, x3, st3⟩ ?_ ?_
    · rintro i σ' H' hi ⟨z, ls, os, rfl, hls, hos, ml, mo, e1, e2, x4, st4⟩
      walk_at "go"
      refine g_lenL (SqL.of hls) ?_
      walk_at "go"
      refine take_go st4 (big_of (by omega)) fun r H5 r0 r1 x5 st5 => ?_
      have nls : l ≠ s := st.ne hl0
      have nos : o ≠ s := st.ne ho0
      have hls5 := x5.kp _ _ nls hls
      have hos5 := x5.kp _ _ nos hos
      have hr : r.toNat < ls.length := by omega
      walk_at "go"
      refine ⟨l, ls, r, r.toNat, ls[r.toNat], rfl, rfl, hls5, by omega, by omega, idx_ok r0 (by omega), List.getElem?_eq_getElem hr, ?_⟩
      have x6 := (x4.trans x5).mut (o := .lst (ls.eraseIdx r.toNat)) hl0
      have st6 := st.mut (o := .lst (ls.eraseIdx r.toNat)) (x4.trans x5) st5 hl0
      have hos6 : upd H5 l (.lst (ls.eraseIdx r.toNat)) o = some (.lst os) := by rw [upd_ne (Ne.symm nlo)]; exact hos5
      have hls6 : upd H5 l (.lst (ls.eraseIdx r.toNat)) l = some (.lst (ls.eraseIdx r.toNat)) := upd_same
      generalize upd H5 l (.lst (ls.eraseIdx r.toNat)) = H6 at *
      walk_at "go"
      refine g_app hos6 (by rw [sizeLine_eq]; omega) ?_
      walk_at "go"
      refine ⟨_, ls.eraseIdx r.toNat, os ++ [ls[r.toNat]], rfl, by rw [upd_ne nlo]; exact hls6, upd_same, fun y hy => ml y (List.mem_of_mem_eraseIdx hy), fun y hy => ?_, ?_, ?_, x6.mut ho0, st.mut x6 st6 ho0⟩
      · rcases List.mem_append.mp hy with h | h
        · exact mo y h
        · rw [List.mem_singleton.mp h]
          exact ml _ (List.getElem_mem hr)
      · have := List.length_eraseIdx_of_lt hr
        omega
      · rw [List.length_append, e2]
        rfl
    · rintro σ' H' ⟨z, ls, os, rfl, hls, hos, ml, mo, e1, e2, x4, st4⟩
      walk_at "go"
      exact k o os H' ho0 hos mo e2 x4 st4
end
/-! ### the same over data -/
def m_mixed : DF := fun ds Q _ => match ds with
  | [.sto, .lst l] => l.length ≤ 100000 ∧ ∀ l' : List D, l'.length = l.length → (∀ d ∈ l', d ∈ l) → Q (.lst l')
  | _ => False
theorem daL_pick {K : PySem.W.Frag} {so : Option Addr} {A : Hp} : ∀ {l : List D} {xs : List V}, DaL K so A l xs → ∀ y ∈ xs, ∃ d ∈ l, Da K so A d y
  | [], xs, h, y, hy => by
    have h : xs = [] := h
    rw [h] at hy
    cases hy
  | d :: l, xs, ⟨v, r, e, dv, dr⟩, y, hy => by
    rw [e] at hy
    rcases List.mem_cons.mp hy with z | hy
    · rw [z]
      exact ⟨d, List.mem_cons_self .., dv⟩
    · obtain ⟨d', h1, h2⟩ := daL_pick dr y hy
      exact ⟨d', List.mem_cons_of_mem _ h1, h2⟩
theorem daL_from {K : PySem.W.Frag} {so : Option Addr} {A : Hp} {l : List D} : ∀ {ys : List V}, (∀ y ∈ ys, ∃ d ∈ l, Da K so A d y) → ∃ l', DaL K so A l' ys ∧ (∀ d ∈ l', d ∈ l) ∧ l'.length = ys.length
  | [], _ => ⟨[], rfl, fun d h => (by cases h), rfl⟩
  | y :: ys, h => by
    obtain ⟨d, h1, h2⟩ := h y (List.mem_cons_self ..)
    obtain ⟨l', k1, k2, k3⟩ := daL_from fun z hz => h z (List.mem_cons_of_mem _ hz)
    refine ⟨d :: l', ⟨y, ys, rfl, h2, k1⟩, fun e he => ?_, by rw [List.length_cons, List.length_cons, k3]⟩
    rcases List.mem_cons.mp he with rfl | he
    · exact h1
    · exact k2 e he
section
variable {P : Program} {w : World} {K : PySem.W.Frag} {mg : Str → Option Value} {base : Heap}
theorem ok_mixedD (T : Txt K mg) : FnOk P w K mg base (L2N.CX P w) 172 T.dmixed.f T.dmixed.fd P_mixed (spD K 2 m_mixed) := FnOk_cx (ok_mixed T) fun vs H Q E h => by
  obtain ⟨so, A, ds, Qd, Ed, gd, hl, da, m, c, cx⟩ := h
  unfold m_mixed at m
  split at m
  · rename_i l
    obtain ⟨ll, m⟩ := m
    obtain ⟨v, u, rfl, ⟨s, rfl, es⟩, d2⟩ := da.two'
    obtain ⟨p, xs, rfl, hp, dl⟩ := d2
    have pH := gd.sub _ _ hp
    have as := (gd.st s es).1
    refine ⟨s, p, xs, rfl, StoOk.store gd es, fun z => ?_, pH, by rw [dl.len]; exact ll, fun q ys H' h0 h1 h2 h3 x st => ?_⟩
    · rw [z, as] at hp
      cases hp
    obtain ⟨l', k1, k2, k3⟩ := daL_from fun y hy => daL_pick dl y (h2 y hy)
    have y1 := Ext.store gd es x st
    have aq : A q = none := by
      cases z : A q with
      | none => rfl
      | some o =>
        rw [gd.sub _ _ z] at h0
        cases h0
    have sub2 : Sub A (upd A q (.lst ys)) := fun b o e => by
      have n : b ≠ q := fun z => by
        rw [z, aq] at e
        cases e
      rw [upd_ne n]
      exact e
    have hsq : s ≠ q := fun z => by
      obtain ⟨_, L, ns, p0, a0, b0, c0, d0, hs, _⟩ := gd.st s es
      rw [z, h0] at hs
      cases hs
    refine c (.lst l') (.ref q) (upd A q (.lst ys)) H' ⟨⟨fun b o e => ?_, fun s' e' => ?_⟩, sub2, y1.kept, fun b o e => ?_⟩ ⟨q, ys, rfl, upd_same, DaL.mono sub2 l' ys k1⟩ (m l' (by rw [k3, h3, dl.len]) k2)
    · by_cases n : b = q
      · subst n
        rw [upd_same] at e
        cases e
        exact h1
      · rw [upd_ne n] at e
        exact y1.good.sub _ _ e
    · rw [es] at e'
      cases e'
      obtain ⟨n1, L, ns, p0, a0, b0, c0, d0, hs, hL, rest⟩ := y1.good.st s es
      exact ⟨by rw [upd_ne hsq]; exact n1, L, ns, p0, a0, b0, c0, d0, hs, sub2 _ _ hL, rest⟩
    · by_cases n : b = q
      · subst n
        exact .inr h0
      · rw [upd_ne n] at e
        exact .inl e
  · exact m.elim
end
end My
namespace My
open PySem PySem.Spec PyProof.Rows L2
/-! ### equations for the walk -/
theorem atI_0 {α : Type} (a : α) (l : List α) : atI (a :: l) 0 = some a := atI_nat (j := 0) rfl
theorem atI_1 {α : Type} (a b : α) (l : List α) : atI (a :: b :: l) 1 = some b := atI_nat (j := 1) rfl
theorem atI_2 {α : Type} (a b c : α) (l : List α) : atI (a :: b :: c :: l) 2 = some c := atI_nat (j := 2) rfl
theorem ddIx_t0 (a : D) (l : List D) (Q : D → Prop) : ddIx (.tup (a :: l)) (.int 0) Q = Q a := by
  show (∃ d, atI (a :: l) 0 = some d ∧ Q d) = Q a
  rw [atI_0]
  simp
theorem ddIx_t1 (a b : D) (l : List D) (Q : D → Prop) : ddIx (.tup (a :: b :: l)) (.int 1) Q = Q b := by
  show (∃ d, atI (a :: b :: l) 1 = some d ∧ Q d) = Q b
  rw [atI_1]
  simp
theorem ddIx_t2 (a b c : D) (l : List D) (Q : D → Prop) : ddIx (.tup (a :: b :: c :: l)) (.int 2) Q = Q c := by
  show (∃ d, atI (a :: b :: c :: l) 2 = some d ∧ Q d) = Q c
  rw [atI_2]
  simp
theorem ddIx_l0 (a : D) (l : List D) (Q : D → Prop) : ddIx (.lst (a :: l)) (.int 0) Q = Q a := by
  show (∃ d, atI (a :: l) 0 = some d ∧ Q d) = Q a
  rw [atI_0]
  simp
theorem ddIx_l1 (a b : D) (l : List D) (Q : D → Prop) : ddIx (.lst (a :: b :: l)) (.int 1) Q = Q b := by
  show (∃ d, atI (a :: b :: l) 1 = some d ∧ Q d) = Q b
  rw [atI_1]
  simp
theorem atI_3 {α : Type} (a b c d : α) (l : List α) : atI (a :: b :: c :: d :: l) 3 = some d := atI_nat (j := 3) rfl
theorem ddIx_l2 (a b c : D) (l : List D) (Q : D → Prop) : ddIx (.lst (a :: b :: c :: l)) (.int 2) Q = Q c := by
  show (∃ d, atI (a :: b :: c :: l) 2 = some d ∧ Q d) = Q c
  rw [atI_2]
  simp
theorem ddIx_t3 (a b c d : D) (l : List D) (Q : D → Prop) : ddIx (.tup (a :: b :: c :: d :: l)) (.int 3) Q = Q d := by
  show (∃ e, atI (a :: b :: c :: d :: l) 3 = some e ∧ Q e) = Q d
  rw [atI_3]
  simp
theorem ddEq_ii (n : Bool) (i j : Int) (Q : D → Prop) : ddEq n (.int i) (.int j) Q = Q (.bl (n != decide (i = j))) := rfl
theorem ddEq_ss (n : Bool) (i j : Str) (Q : D → Prop) : ddEq n (.str i) (.str j) Q = Q (.bl (n != decide (i = j))) := rfl
theorem ddEq_bb (n : Bool) (i j : Bool) (Q : D → Prop) : ddEq n (.bl i) (.bl j) Q = Q (.bl (n != decide (i = j))) := rfl
/-! ### comprehensions, all, any -/
theorem compL_map {gr : DG} {te : DE} {ρ : DEnv} {Q : List D → Prop} (f : D → D) : ∀ (ds acc : List D), (∀ d ∈ ds, ∀ R : D → Prop, R (f d) → gr d ρ fun ρ2 => te ρ2 R (fun _ => False)) → acc.length + ds.length ≤ sizeLine → Q (acc ++ ds.map f) → compL gr qYes te ρ Q ds acc
  | [], acc, _, _, q => by
    rw [List.map_nil, List.append_nil] at q
    exact q
  | d :: ds, acc, h, hl, q => by
    have h1 := h d (List.mem_cons_self ..)
    rw [List.length_cons] at hl
    have key := h1 (fun y => acc.length < sizeLine ∧ compL gr qYes te ρ Q ds (acc ++ [y])) ⟨by omega, compL_map f ds (acc ++ [f d]) (fun c hc => h c (List.mem_cons_of_mem _ hc)) (by rw [List.length_append, List.length_cons, List.length_nil]; omega) (by rw [List.append_assoc]; exact q)⟩
    show gr d ρ fun ρ2 => qYes ρ2 (fun b => if b = true then _ else _) (fun _ => False)
    unfold qYes
    simp only [if_true]
    exact key
/-- each element is one of P -/
theorem compL_any {gr : DG} {te : DE} {ρ : DEnv} {Q : List D → Prop} (P : D → Prop) : ∀ (ds acc : List D), (∀ d ∈ ds, ∀ R : D → Prop, (∀ x, P x → R x) → gr d ρ fun ρ2 => te ρ2 R (fun _ => False)) → acc.length + ds.length ≤ sizeLine → (∀ l : List D, l.length = ds.length → (∀ x ∈ l, P x) → Q (acc ++ l)) → compL gr qYes te ρ Q ds acc
  | [], acc, _, _, q => by
    have := q [] rfl (fun x hx => by cases hx)
    rw [List.append_nil] at this
    exact this
  | d :: ds, acc, h, hl, q => by
    have h1 := h d (List.mem_cons_self ..)
    rw [List.length_cons] at hl
    have key := h1 (fun y => acc.length < sizeLine ∧ compL gr qYes te ρ Q ds (acc ++ [y])) fun x hx => ⟨by omega, compL_any P ds (acc ++ [x]) (fun c hc => h c (List.mem_cons_of_mem _ hc)) (by rw [List.length_append, List.length_cons, List.length_nil]; omega) (fun l e pl => by
      rw [List.append_assoc]
      exact q (x :: l) (by rw [List.length_cons, List.length_cons, e]) (fun z hz => by
        rcases List.mem_cons.mp hz with rfl | hz
        · exact hx
        · exact pl z hz))⟩
    show gr d ρ fun ρ2 => qYes ρ2 (fun b => if b = true then _ else _) (fun _ => False)
    unfold qYes
    simp only [if_true]
    exact key
theorem rangeD_len (lo : Int) (n : Nat) : (rangeD lo n).length = n := by
  unfold rangeD
  rw [List.length_map, List.length_range]
def ddAll : DCall := fun ds Q => match ds with
  | [.lst l] => ∃ bs : List Bool, l = bs.map D.bl ∧ Q (.bl (bs.all id))
  | _ => False
def ddAny : DCall := fun ds Q => match ds with
  | [.lst l] => ∃ bs : List Bool, l = bs.map D.bl ∧ Q (.bl (bs.any id))
  | _ => False
theorem daL_bls {K : PySem.W.Frag} {so : Option Addr} {A : Hp} : ∀ (bs : List Bool) (vs : List V), DaL K so A (bs.map D.bl) vs → vs = bs.map V.bl
  | [], _, h => h
  | b :: bs, _, ⟨x, r, e, h, q⟩ => by
    have h : x = _ := h
    rw [e, h, daL_bls bs r q]
    rfl
theorem cl_all {K : PySem.W.Frag} : CallL K (rAll K) ddAll := by
  intro so A H ds vs Qd Q gd da q c
  unfold ddAll at q
  split at q
  · obtain ⟨bs, rfl, q⟩ := q
    obtain ⟨v, rfl, a, xs, rfl, hs, qa⟩ := da.one'
    exact ⟨a, bs, rfl, SqL.of (by rw [← daL_bls _ _ qa]; exact gd.sub _ _ hs), c.nowB gd q⟩
  · exact q.elim
theorem cl_any {K : PySem.W.Frag} : CallL K (rAny K) ddAny := by
  intro so A H ds vs Qd Q gd da q c
  unfold ddAny at q
  split at q
  · obtain ⟨bs, rfl, q⟩ := q
    obtain ⟨v, rfl, a, xs, rfl, hs, qa⟩ := da.one'
    exact ⟨a, bs, rfl, SqL.of (by rw [← daL_bls _ _ qa]; exact gd.sub _ _ hs), c.nowB gd q⟩
  · exact q.elim
theorem bt_all : bootBuiltins "all" = some (.builtin "all") := by decide +kernel
theorem bt_any : bootBuiltins "any" = some (.builtin "any") := by decide +kernel
theorem bt_ValueError : bootBuiltins "ValueError" = some (.type "ValueError") := by decide +kernel
end My
namespace My
open PySem PySem.Spec PyProof.Rows L2
local macro_rules | `(tactic| walk_at "dl") => `(tactic| simp only [startD, List.map_cons, List.map_nil, List.length_cons, List.length_nil, List.cons_append, List.nil_append, List.replicate_succ, List.replicate_zero, List.getElem?_cons_zero, List.getElem?_cons_succ, List.set_cons_zero, List.set_cons_succ,
  dVar, rdS, dC, dNew, dOp, onB, qB, dChain, qAnd, qOr, qNot, qTru, truD, dIf, dAnd, dOr, dNot, dUn, ddNeg, lNil, lCons, dTup, nLst, ddI, ddI0, ddAdd, isNonD, isBlD, ddIsN, ddIsB, ddIx_t0, ddIx_t1, ddIx_t2, ddIx_t3, ddIx_l0, ddIx_l1, ddIx_l2, dCB, ddLen, ddInt1, ddAbs, ddMM, ddTuple, nCB, nnList, ddIsi, dCall,
  sSkip, sSeq, sBreak, sCont, sExpr, sRet, sRetN, sIf, sNever, gdName, gdNil, gdCons, gdTup, sAsg, sSetN, sPar, sRaise, sFrz, owS, sApp, sIns, dLenO, dIxO, sTry, sFor, iL, iT, onL, onT, iR1, iR2, nComp, qYes,
  ddEq_ii, ddEq_ss, ddEq_bb, Bool.false_bne, Bool.true_bne, List.append_nil, true_and, and_true, if_true, if_false, Bool.not_true, Bool.not_false, Bool.true_eq_false, Bool.false_eq_true, ite_true, ite_false, id_eq])

/-! ### the greatest common divisor -/
theorem fmod_nat (m n : Nat) (h : 0 < n) : (m : Int).fmod (n : Int) = ((m % n : Nat) : Int) := by
  rw [Int.fmod_eq_emod_of_nonneg _ (by omega)]
  exact (Int.natCast_emod m n).symm
theorem gcd_step (m n : Nat) : Nat.gcd n (m % n) = Nat.gcd m n := by
  rw [Nat.gcd_comm m n, Nat.gcd_rec n m, Nat.gcd_comm]
theorem abs_nat (i : Int) : (if i < 0 then -i else i) = (i.natAbs : Int) := by
  split <;> omega
theorem max_nat (i : Int) : (if -i > i then -i else i) = (i.natAbs : Int) := by
  split <;> omega
def G2 (a b : Int) : Nat := Nat.gcd a.natAbs b.natAbs
theorem log2_mono {a b : Nat} (h : a ≤ b) : a.log2 ≤ b.log2 := by
  by_cases ha : a = 0
  · subst ha
    exact Nat.zero_le _
  · have hb : b ≠ 0 := by omega
    exact (Nat.le_log2 hb).mpr (Nat.le_trans (Nat.log2_self_le ha) h)
/-- the lowest terms of a / b -/
def lowP (a b : Int) : Int := (if b < 0 then -a else a) / (G2 a b : Int)
def lowQ (a b : Int) : Int := (b.natAbs : Int) / (G2 a b : Int)
theorem low_div (a b : Int) (hb : b ≠ 0) : a.fdiv (if b < 0 then -(G2 a b : Int) else G2 a b) = lowP a b ∧ b.fdiv (if b < 0 then -(G2 a b : Int) else G2 a b) = lowQ a b := by
  have hG : 0 < G2 a b := Nat.gcd_pos_of_pos_right _ (by omega)
  obtain ⟨c, hc⟩ : (G2 a b : Int) ∣ a := Int.ofNat_dvd_left.mpr (Nat.gcd_dvd_left _ _)
  obtain ⟨d, hd⟩ : (G2 a b : Int) ∣ b := Int.ofNat_dvd_left.mpr (Nat.gcd_dvd_right _ _)
  unfold lowP lowQ
  generalize G2 a b = g at *
  have gz : (g : Int) ≠ 0 := by omega
  by_cases h : b < 0
  · rw [if_pos h, if_pos h]
    have e1 : a = (-(g : Int)) * (-c) := by rw [hc, Int.neg_mul_neg]
    have e2 : b = (-(g : Int)) * (-d) := by rw [hd, Int.neg_mul_neg]
    have e3 : -a = (g : Int) * (-c) := by rw [hc, Int.mul_neg]
    have e4 : (b.natAbs : Int) = (g : Int) * (-d) := by
      have z : (b.natAbs : Int) = -b := by omega
      rw [z, hd, Int.mul_neg]
    have f1 : a.fdiv (-(g : Int)) = -c := by
      conv => lhs; arg 1; rw [e1]
      exact Int.mul_fdiv_cancel_left _ (by omega)
    have f2 : b.fdiv (-(g : Int)) = -d := by
      conv => lhs; arg 1; rw [e2]
      exact Int.mul_fdiv_cancel_left _ (by omega)
    have f3 : -a / (g : Int) = -c := by
      rw [e3]
      exact Int.mul_ediv_cancel_left _ gz
    have f4 : (b.natAbs : Int) / (g : Int) = -d := by
      rw [e4]
      exact Int.mul_ediv_cancel_left _ gz
    rw [f1, f2, f3, f4]
    exact ⟨rfl, rfl⟩
  · rw [if_neg h, if_neg h]
    have f1 : a.fdiv (g : Int) = c := by
      conv => lhs; arg 1; rw [hc]
      exact Int.mul_fdiv_cancel_left _ gz
    have f2 : b.fdiv (g : Int) = d := by
      conv => lhs; arg 1; rw [hd]
      exact Int.mul_fdiv_cancel_left _ gz
    have f3 : a / (g : Int) = c := by
      conv => lhs; arg 1; rw [hc]
      exact Int.mul_ediv_cancel_left _ gz
    have e4 : (b.natAbs : Int) = b := by omega
    have f4 : (b.natAbs : Int) / (g : Int) = d := by
      rw [e4]
      conv => lhs; arg 1; rw [hd]
      exact Int.mul_ediv_cancel_left _ gz
    rw [f1, f2, f3, f4]
    exact ⟨rfl, rfl⟩
theorem gcd_bits {a b : Int} (hb : b ≠ 0) (hz : b.natAbs.log2 < 9000) (i j : Int) : CDivZ i (if b < 0 then -(G2 a b : Int) else G2 a b) ∧ CDivZ j (if b < 0 then -(G2 a b : Int) else G2 a b) := by
  have hG : 0 < G2 a b := Nat.gcd_pos_of_pos_right _ (by omega)
  have hl : G2 a b ≤ b.natAbs := Nat.gcd_le_right _ (by omega)
  have hz2 : (G2 a b).log2 < 9000 := Nat.lt_of_le_of_lt (log2_mono hl) hz
  have : (if b < 0 then -(G2 a b : Int) else G2 a b) ≠ 0 ∧ (if b < 0 then -(G2 a b : Int) else G2 a b).natAbs = G2 a b := by split <;> omega
  exact ⟨⟨this.1, by rw [this.2]; exact hz2⟩, ⟨this.1, by rw [this.2]; exact hz2⟩⟩
/-! ### what the defs do -/
def isW : D → Bool
  | .int _ => true
  | _ => false
def ratD (a b : Int) : D := .tup [.int a, .int b]
def isRat : D → Bool
  | .tup [.int a, .int b] => decide (1 ≤ b) && decide (G2 a b = 1)
  | _ => false
def sgn (n : Int) : Int := if n > 0 then 1 else if n < 0 then -1 else 0
def m_is_whole : DF := fun ds Q _ => match ds with
  | [d] => plainD d = true ∧ Q (.bl (isW d))
  | _ => False
def m_sign_of : DF := fun ds Q _ => match ds with
  | [.int n] => Q (.int (sgn n))
  | _ => False
def m_divisor : DF := fun ds Q _ => match ds with
  | [.int a, .int b] => Q (.int (G2 a b))
  | _ => False
def m_lowest : DF := fun ds Q _ => match ds with
  | [.int a, .int b] => b ≠ 0 ∧ b.natAbs.log2 < 9000 ∧ Q (ratD (lowP a b) (lowQ a b))
  | _ => False
def m_is_ratio : DF := fun ds Q _ => match ds with
  | [d] => (plainD d = true ∧ ∀ l, d = .tup l → ∀ e ∈ l, plainD e = true) ∧ Q (.bl (isRat d))
  | _ => False
theorem isW_eq (d : D) : (isIn d "int" && !isIn d "bool") = isW d := by
  cases d with
  | bl b => show (("bool" == "int" || "int" == "int") && !("bool" == "bool" || "bool" == "int")) = false; decide +kernel
  | int i => show ("int" == "int" && !("bool" == "int")) = true; decide +kernel
  | str i => show ("int" == "str" && !("bool" == "str")) = false; decide +kernel
  | tup i => show ("int" == "tuple" && !("bool" == "tuple")) = false; decide +kernel
  | lst i => show ("int" == "list" && !("bool" == "list")) = false; decide +kernel
  | dct i _ => show ("int" == "dict" && !("bool" == "dict")) = false; decide +kernel
  | _ => rfl
theorem tup_cases : ∀ d : D, (isIn d "tuple" = false ∧ isRat d = false) ∨ ∃ l, d = .tup l ∧ isIn (.tup l) "tuple" = true
  | .tup l => .inr ⟨l, rfl, by show ("tuple" == "tuple") = true; decide +kernel⟩
  | .non => .inl ⟨rfl, rfl⟩
  | .bl _ => .inl ⟨by show ("tuple" == "bool" || "tuple" == "int") = false; decide +kernel, rfl⟩
  | .int _ => .inl ⟨by show ("tuple" == "int") = false; decide +kernel, rfl⟩
  | .str _ => .inl ⟨by show ("tuple" == "str") = false; decide +kernel, rfl⟩
  | .dct _ _ => .inl ⟨by show ("tuple" == "dict") = false; decide +kernel, rfl⟩
  | .lst _ => .inl ⟨by show ("tuple" == "list") = false; decide +kernel, rfl⟩
  | .ins _ _ _ => .inl ⟨rfl, rfl⟩
  | .scr _ => .inl ⟨rfl, rfl⟩
  | .sto => .inl ⟨rfl, rfl⟩
  | .exc _ => .inl ⟨rfl, rfl⟩
  | .err _ _ _ => .inl ⟨rfl, rfl⟩
theorem rat_no {l : List D} (h : ¬ l.length = 2) : isRat (.tup l) = false := by
  match l, h with
  | [], _ => rfl
  | [d1], _ => cases d1 <;> rfl
  | [d1, d2], h => exact absurd rfl h
  | d1 :: d2 :: d3 :: r, _ =>
    cases d1 <;> first | rfl | (cases d2 <;> rfl)
theorem isW_int {d : D} (h : isW d = true) : ∃ i, d = .int i := by
  cases d <;> first | exact ⟨_, rfl⟩ | cases h
theorem rat_no1 {d1 d2 : D} (h : isW d1 = false) : isRat (.tup [d1, d2]) = false := by
  cases d1 <;> first | rfl | cases h
theorem rat_no2 {d1 d2 : D} (h : isW d2 = false) : isRat (.tup [d1, d2]) = false := by
  cases d1 <;> cases d2 <;> first | rfl | cases h
abbrev s_is_whole : Stmt := topS 12
abbrev N_is_whole : List Str := ["value"]
abbrev P_is_whole : List Str := ["value"]
theorem sc_is_whole : FnScope N_is_whole P_is_whole (defScope s_is_whole) := ⟨rfl, rfl, rfl, by decide +kernel, rfl, by decide +kernel, by decide +kernel⟩

abbrev s_sign_of : Stmt := topS 15
abbrev N_sign_of : List Str := ["number"]
abbrev P_sign_of : List Str := ["number"]
theorem sc_sign_of : FnScope N_sign_of P_sign_of (defScope s_sign_of) := ⟨rfl, rfl, rfl, by decide +kernel, rfl, by decide +kernel, by decide +kernel⟩

abbrev s_divisor : Stmt := topS 13
abbrev N_divisor : List Str := ["one", "other", "first", "second"]
abbrev P_divisor : List Str := ["one", "other"]
theorem sc_divisor : FnScope N_divisor P_divisor (defScope s_divisor) := ⟨rfl, rfl, rfl, by decide +kernel, rfl, by decide +kernel, by decide +kernel⟩

abbrev s_is_ratio : Stmt := topS 19
abbrev N_is_ratio : List Str := ["value", "top", "bottom"]
abbrev P_is_ratio : List Str := ["value"]
theorem sc_is_ratio : FnScope N_is_ratio P_is_ratio (defScope s_is_ratio) := ⟨rfl, rfl, rfl, by decide +kernel, rfl, by decide +kernel, by decide +kernel⟩

section
variable {P : Program} {w : World} {K : PySem.W.Frag} {mg : Str → Option Value} {base : Heap}
theorem ok_is_whole (T : Txt K mg) : FnOk P w K mg base (L2N.CX P w) 1 T.dis_whole.f T.dis_whole.fd P_is_whole (spD K 1 m_is_whole) := by
  refine T.dis_whole.okD sc_is_whole fun cdv A outer s H E so A0 hr tk hp => ⟨_, (pds_one (pds_ret (pd_and (pd_isi (by rfl) T.m_isinstance (pd_var (pv 0)) (pe_bltn (v := .ty "int") (by rfl) T.m_int bt_int rfl) tq_int) (pd_one (pd_not (pd_isi (by rfl) T.m_isinstance (pd_var (pv 0)) (pe_bltn (v := .ty "bool") (by rfl) T.m_bool bt_bool rfl) tq_bool)))))), fun ds Q E hl h => ?_⟩
  match ds, hl with
  | [d], _ =>
    obtain ⟨p, h⟩ := h
    walk_at "dl"
    refine ⟨p, ?_⟩
    rw [← isW_eq] at h
    split
    · rename_i e
      rw [e] at h
      exact ⟨p, h⟩
    · rename_i e
      rw [Bool.not_eq_true] at e
      rw [e] at h
      exact h
theorem ok_sign_of (T : Txt K mg) : FnOk P w K mg base (L2N.CX P w) 1 T.dsign_of.f T.dsign_of.fd P_sign_of (spD K 1 m_sign_of) := by
  refine T.dsign_of.okD sc_sign_of fun cdv A outer s H E so A0 hr tk hp => ⟨_, (pds_cons (pds_if (pdt_cmp op_gt ol_gt (pd_var (pv 0)) pd_int (nomark _))
        (pds_one (pds_ret pd_int))
        pds_nil)
      (pds_cons (pds_if (pdt_cmp op_lt ol_lt (pd_var (pv 0)) pd_int (nomark _))
        (pds_one (pds_ret (pd_neg pd_int)))
        pds_nil)
      (pds_one (pds_ret pd_int)))), fun ds Q E hl h => ?_⟩
  unfold m_sign_of at h
  split at h
  · rename_i n
    unfold sgn at h
    walk_at "dl"
    split
    · rename_i c
      simpa [of_decide_eq_true c] using h
    · rename_i c
      have c : ¬ (0 < n) := by simpa using c
      split
      · rename_i c2
        have c2 : n < 0 := by simpa using c2
        simpa [c, c2] using h
      · rename_i c2
        have c2 : ¬ n < 0 := by simpa using c2
        simpa [c, c2] using h
  · exact h.elim
theorem ok_divisor (T : Txt K mg) : FnOk P w K mg base (L2N.CX P w) 1 T.ddivisor.f T.ddivisor.fd P_divisor (spD K 2 m_divisor) := by
  refine T.ddivisor.okD sc_divisor fun cdv A outer s H E so A0 hr tk hp => ⟨_, (pds_cons (pds_par (i := 2) (j := 3) (by rfl) sc_divisor.nd rfl rfl (by decide) rfl rfl (pda_cons (pd_callB c_abs cl_abs (by rfl) T.m_abs bt_abs (pda_cons (pd_var (pv 0)) pda_nil)) (pda_cons (pd_callB c_abs cl_abs (by rfl) T.m_abs bt_abs (pda_cons (pd_var (pv 1)) pda_nil)) pda_nil)) (by rfl))
      (pds_cons (pds_while hp (pdt_cmp (oo_ne hr.units) ol_ne (pd_var (pv 3)) pd_int (nomark _))
        (pds_one (pds_par (i := 2) (j := 3) (by rfl) sc_divisor.nd rfl rfl (by decide) rfl rfl (pda_cons (pd_var (pv 3)) (pda_cons (pd_op op_modN ol_mod (pd_var (pv 2)) (pd_var (pv 3))) pda_nil)) (by rfl))))
      (pds_one (pds_ret (pd_var (pv 2)))))), fun ds Q E hl h => ?_⟩
  unfold m_divisor at h
  split at h
  · rename_i a b
    walk_at "dl"
    rw [abs_nat, abs_nat]
    refine ⟨fun m ρ => ∃ x : Nat, ρ = [.fr (.int a), .fr (.int b), .fr (.int (x : Int)), .fr (.int (m : Int))] ∧ Nat.gcd x m = G2 a b, ⟨b.natAbs, a.natAbs, rfl, rfl⟩, ?_⟩
    rintro m ρ ⟨x, rfl, hg⟩
    walk_at "dl"
    split
    · rename_i c
      have hm : 0 < m := by
        have : ¬ ((m : Int) = 0) := by simpa using c
        omega
      refine ⟨fun ρ' => ∃ x : Nat, ρ' = [.fr (.int a), .fr (.int b), .fr (.int (m : Int)), .fr (.int (x : Int))] ∧ Nat.gcd m x = G2 a b ∧ x < m, ?_, ?_⟩
      · rintro ρ' ⟨y, e1, e2, e3⟩
        exact ⟨y, e3, m, e1, e2⟩
      · refine ⟨by omega, ?_⟩
        rw [fmod_nat x m hm]
        exact ⟨x % m, rfl, by rw [gcd_step]; exact hg, Nat.mod_lt x hm⟩
    · rename_i c
      have hm : m = 0 := by
        have : ((m : Int) = 0) := by simpa using c
        omega
      subst hm
      rw [Nat.gcd_zero_right] at hg
      rw [hg]
      exact h
  · exact h.elim
theorem ok_is_ratio (T : Txt K mg) : FnOk P w K mg base (L2N.CX P w) 2 T.dis_ratio.f T.dis_ratio.fd P_is_ratio (spD K 1 m_is_ratio) := by
  have G_is_whole : FnOk P w K mg base (L2N.CX P w) 1 T.dis_whole.f T.dis_whole.fd P_is_whole (spD K 1 m_is_whole) := ok_is_whole T
  have G_divisor : FnOk P w K mg base (L2N.CX P w) 1 T.ddivisor.f T.ddivisor.fd P_divisor (spD K 2 m_divisor) := ok_divisor T
  refine T.dis_ratio.okD sc_is_ratio fun cdv A outer s H E so A0 hr tk hp => ⟨_, (pds_cons (pds_if (PDW.t (pdw_or (pdt_not (pdt_tru (pd_isi (by rfl) T.m_isinstance (pd_var (pv 0)) (pe_bltn (v := .ty "tuple") (by rfl) T.m_tuple bt_tuple rfl) tq_tuple))) (pdw_or1 (pdt_cmp (oo_ne hr.units) ol_ne (pd_callB oo_len cl_len (by rfl) T.m_len bt_len (pda_cons (pd_var (pv 0)) pda_nil)) pd_int (nomark _)))))
        (pds_one (pds_ret pd_bl))
        pds_nil)
      (pds_cons (pds_asg (pd_var (pv 0)) (pdg_tup (n := 2) rfl (pdgs_cons (pdg_name (pg_name (i := 1) sc_is_ratio.nd rfl (by first | exact .inl rfl | exact .inr rfl))) (pdgs_cons (pdg_name (pg_name (i := 2) sc_is_ratio.nd rfl (by first | exact .inl rfl | exact .inr rfl))) pdgs_nil))))
      (pds_cons (pds_if (PDW.t (pdw_or (pdt_not (pdt_tru (pd_call G_is_whole (hr.mono (by omega)) (by rfl) T.dis_whole.g T.dis_whole.F.kp T.dis_whole.b (fun σ => L2N.passAt tk σ) (pda_cons (pd_var (pv 1)) pda_nil)))) (pdw_or1 (pdt_not (pdt_tru (pd_call G_is_whole (hr.mono (by omega)) (by rfl) T.dis_whole.g T.dis_whole.F.kp T.dis_whole.b (fun σ => L2N.passAt tk σ) (pda_cons (pd_var (pv 2)) pda_nil)))))))
        (pds_one (pds_ret pd_bl))
        pds_nil)
      (pds_one (pds_ret (pd_and (pd_cmp op_ge ol_ge (pd_var (pv 2)) pd_int (nomark _)) (pd_one (pd_cmp (oo_eq hr.units) ol_eq (pd_call G_divisor (hr.mono (by omega)) (by rfl) T.ddivisor.g T.ddivisor.F.kp T.ddivisor.b (fun σ => L2N.passAt tk σ) (pda_cons (pd_var (pv 1)) (pda_cons (pd_var (pv 2)) pda_nil))) pd_int (nomark _))))))))), fun ds Q E hl h => ?_⟩
  match ds, hl with
  | [d], _ =>
    obtain ⟨⟨p, pl⟩, h⟩ := h
    walk_at "dl"
    refine ⟨p, ?_⟩
    rcases tup_cases d with ⟨hd, hn⟩ | ⟨l, rfl, ht⟩
    · rw [hd]
      walk_at "dl"
      rw [hn] at h
      exact h
    rw [ht]
    walk_at "dl"
    by_cases h2 : l.length = 2
    · obtain ⟨d1, d2, rfl⟩ : ∃ d1 d2, l = [d1, d2] := by
        match l, h2 with
        | [d1, d2], _ => exact ⟨d1, d2, rfl⟩
      have p1 := pl _ rfl d1 (by simp)
      have p2 := pl _ rfl d2 (by simp)
      walk_at "dl"
      simp only [m_is_whole, p1, p2, true_and]
      cases w1 : isW d1 with
      | false =>
        rw [rat_no1 w1] at h
        simpa using h
      | true =>
        cases w2 : isW d2 with
        | false =>
          rw [rat_no2 w2] at h
          simpa using h
        | true =>
          obtain ⟨a, rfl⟩ := isW_int w1
          obtain ⟨b, rfl⟩ := isW_int w2
          have h : Q (.bl (decide (1 ≤ b) && decide (G2 a b = 1))) := h
          by_cases hb : 1 ≤ b
          · rw [decide_eq_true hb, Bool.true_and] at h
            have e : decide ((G2 a b : Int) = 1) = decide (G2 a b = 1) := decide_eq_decide.mpr (by omega)
            simp [hb, m_divisor, ddEq_ii, e]
            exact h
          · rw [decide_eq_false hb, Bool.false_and] at h
            simp [hb]
            exact h
    · rw [rat_no h2] at h
      have e : ¬ ((l.length : Int) = 2) := by omega
      simp only [decide_eq_false e, Bool.not_false, if_true]
      exact h
end
end My
namespace My
open PySem PySem.Spec PyProof.Rows L2
local macro_rules | `(tactic| walk_at "dl") => `(tactic| simp only [startD, List.map_cons, List.map_nil, List.length_cons, List.length_nil, List.cons_append, List.nil_append, List.replicate_succ, List.replicate_zero, List.getElem?_cons_zero, List.getElem?_cons_succ, List.set_cons_zero, List.set_cons_succ,
  dVar, rdS, dC, dNew, dOp, onB, qB, dChain, qAnd, qOr, qNot, qTru, truD, dIf, dAnd, dOr, dNot, dUn, ddNeg, lNil, lCons, dTup, nLst, ddI, ddI0, ddAdd, isNonD, isBlD, ddIsN, ddIsB, ddIx_t0, ddIx_t1, ddIx_t2, ddIx_t3, ddIx_l0, ddIx_l1, ddIx_l2, dCB, ddLen, ddInt1, ddAbs, ddMM, ddTuple, nCB, nnList, ddIsi, dCall,
  sSkip, sSeq, sBreak, sCont, sExpr, sRet, sRetN, sIf, sNever, gdName, gdNil, gdCons, gdTup, sAsg, sSetN, sPar, sRaise, sFrz, owS, sApp, sIns, dLenO, dIxO, sTry, sFor, iL, iT, onL, onT, iR1, iR2, nComp, qYes,
  ddEq_ii, ddEq_ss, ddEq_bb, Bool.false_bne, Bool.true_bne, List.append_nil, true_and, and_true, if_true, if_false, Bool.not_true, Bool.not_false, Bool.true_eq_false, Bool.false_eq_true, ite_true, ite_false, id_eq])

/-- data that is_ratio may be asked -/
def Pl (d : D) : Prop := plainD d = true ∧ ∀ l, d = .tup l → ∀ e ∈ l, plainD e = true
theorem rat_shape {d : D} (h : isRat d = true) : ∃ a b, d = ratD a b ∧ 1 ≤ b ∧ G2 a b = 1 := by
  match d, h with
  | .tup [.int a, .int b], h =>
    have h : (decide (1 ≤ b) && decide (G2 a b = 1)) = true := h
    rw [Bool.and_eq_true] at h
    exact ⟨a, b, rfl, of_decide_eq_true h.1, of_decide_eq_true h.2⟩
theorem rat_pl {d : D} (h : isRat d = true) : Pl d := by
  obtain ⟨a, b, rfl, _⟩ := rat_shape h
  refine ⟨rfl, fun l e x hx => ?_⟩
  cases e
  simp at hx
  rcases hx with rfl | rfl <;> rfl
/-- small enough to be multiplied and divided -/
def Sm (x : Int) : Prop := x.natAbs < 2 ^ 4000
theorem Sm.mul {x y : Int} (hx : Sm x) (hy : Sm y) : CMulW x y := wide_mul hx hy (by decide) (by decide) (by decide)
theorem Sm.prod {x y : Int} (hx : Sm x) (hy : Sm y) : (x * y).natAbs.log2 < 9000 := by
  have h : (x * y).natAbs < 2 ^ (4000 + 4000) := by
    rw [Int.natAbs_mul, Nat.pow_add]
    exact Nat.mul_lt_mul'' hx hy
  exact Nat.lt_of_lt_of_le (PySem.Flt.log2_lt_of (by decide) h) (by decide)
section
variable {K : PySem.W.Frag} {mg : Str → Option Value} (T : Txt K mg)
def wkX (x : Str) : XD := ⟨T.cWrongKind.C, ["argument"], [.str x]⟩
def m_need_ratio : DF := fun ds Q E => match ds with
  | [d, .str x] => Pl d ∧ (isRat d = false → E (wkX T x)) ∧ (isRat d = true → Q .non)
  | _ => False
/-- the ratio in lowest terms -/
def lowD (p : Int × Int) : D := ratD (lowP p.1 p.2) (lowQ p.1 p.2)
end
abbrev s_WrongKind_init : Stmt := inClass (topS 2) 0
abbrev N_WrongKind_init : List Str := ["self", "argument"]
abbrev P_WrongKind_init : List Str := ["self", "argument"]
theorem sc_WrongKind_init : FnScope N_WrongKind_init P_WrongKind_init (defScope s_WrongKind_init) := ⟨rfl, rfl, rfl, by decide +kernel, rfl, by decide +kernel, by decide +kernel⟩

abbrev s_need_ratio : Stmt := topS 17
abbrev N_need_ratio : List Str := ["value", "argument"]
abbrev P_need_ratio : List Str := ["value", "argument"]
theorem sc_need_ratio : FnScope N_need_ratio P_need_ratio (defScope s_need_ratio) := ⟨rfl, rfl, rfl, by decide +kernel, rfl, by decide +kernel, by decide +kernel⟩

theorem pl_no : ∀ d : D, isRat d = false ∨ isRat d = true := fun d => by cases isRat d <;> simp
section
variable {P : Program} {w : World} {K : PySem.W.Frag} {mg : Str → Option Value} {base : Heap}
theorem ok_iWrongKind (T : Txt K mg) : FnOk P w K mg base CX0 1 T.iWrongKind.f T.iWrongKind.fd P_WrongKind_init (spIni K T.cWrongKind.C ["argument"] 1 (mk1 "argument")) :=
  T.iWrongKind.ok1 sc_WrongKind_init fun cdv A outer s H E => pss_one (ps_ost (pv 0) (pv 1))
theorem ok_need_ratio (T : Txt K mg) : FnOk P w K mg base (L2N.CX P w) 4 T.dneed_ratio.f T.dneed_ratio.fd P_need_ratio (spD K 2 (m_need_ratio T)) := by
  have I_WrongKind := ok_iWrongKind (P := P) (w := w) (base := base) T
  have G_is_ratio : FnOk P w K mg base (L2N.CX P w) 2 T.dis_ratio.f T.dis_ratio.fd P_is_ratio (spD K 1 m_is_ratio) := ok_is_ratio T
  refine T.dneed_ratio.okD sc_need_ratio fun cdv A outer s H E so A0 hr tk hp => ⟨_, (pds_one (pds_if (pdt_not (pdt_tru (pd_call G_is_ratio (hr.mono (by omega)) (by rfl) T.dis_ratio.g T.dis_ratio.F.kp T.dis_ratio.b (fun σ => L2N.passAt tk σ) (pda_cons (pd_var (pv 0)) pda_nil))))
        (pds_one (pds_raise T.zWrongKind rfl tk T.iWrongKind.i T.iWrongKind.t I_WrongKind (hr.mono (by omega)) T.iWrongKind.b .nil (dd := []) (fun _ _ => rfl) rfl T.cWrongKind.g (pda_cons (pd_var (pv 1)) pda_nil)))
        pds_nil)), fun ds Q E hl h => ?_⟩
  unfold m_need_ratio at h
  split at h
  · rename_i d x
    obtain ⟨pl, h0, h1⟩ := h
    walk_at "dl"
    refine ⟨pl, ?_⟩
    cases hR : isRat d with
    | false =>
      walk_at "dl"
      exact ⟨by decide, h0 hR⟩
    | true =>
      walk_at "dl"
      exact h1 hR
  · exact h.elim
end
end My
set_option exponentiation.threshold 100000
namespace My
open PySem PySem.Spec PyProof.Rows L2
/-! ### ratios as Rat -/
def rq (q : Rat) : D := ratD q.num q.den
theorem rq_rat (q : Rat) : isRat (rq q) = true := by
  show (decide (1 ≤ (q.den : Int)) && decide (G2 q.num (q.den : Int) = 1)) = true
  have h1 : 1 ≤ (q.den : Int) := by have := q.den_pos; omega
  have h2 : G2 q.num (q.den : Int) = 1 := q.reduced
  rw [decide_eq_true h1, decide_eq_true h2]
  rfl
theorem rq_of {d : D} (h : isRat d = true) : ∃ q, d = rq q := by
  obtain ⟨a, b, rfl, h1, h2⟩ := rat_shape h
  obtain ⟨m, rfl⟩ : ∃ m : Nat, b = m := ⟨b.toNat, by omega⟩
  exact ⟨⟨a, m, by omega, h2⟩, rfl⟩
theorem rq_inj {p q : Rat} (h : rq p = rq q) : p = q := by
  unfold rq ratD at h
  injection h with h
  injection h with h1 h2
  injection h2 with h2 _
  injection h1 with h1
  injection h2 with h2
  exact Rat.ext h1 (by omega)
theorem low_div_rq {a b : Int} (hb : b ≠ 0) : lowD (a, b) = rq (Rat.divInt a b) := by
  have g : (b.gcd a) = G2 a b := Nat.gcd_comm _ _
  unfold lowD rq
  rw [Rat.num_divInt, Rat.den_divInt, if_neg hb, g]
  dsimp only
  unfold lowP lowQ
  have e1 : b.sign * a = (if b < 0 then -a else a) := by
    split
    · rename_i h
      rw [Int.sign_eq_neg_one_of_neg h]
      omega
    · rw [Int.sign_eq_one_of_pos (by omega)]
      omega
  rw [e1, Int.natCast_ediv]
theorem rq_add (p q : Rat) : lowD (p.num * q.den + q.num * p.den, p.den * q.den) = rq (p + q) := by
  have := p.den_pos
  have := q.den_pos
  have h : ((p.den : Int) * (q.den : Int)) ≠ 0 := Int.mul_ne_zero (by omega) (by omega)
  rw [low_div_rq h, Rat.add_def', ← Int.natCast_mul, Rat.divInt_ofNat]
theorem rq_sub (p q : Rat) : lowD (p.num * q.den - q.num * p.den, p.den * q.den) = rq (p - q) := by
  have := p.den_pos
  have := q.den_pos
  have h : ((p.den : Int) * (q.den : Int)) ≠ 0 := Int.mul_ne_zero (by omega) (by omega)
  rw [low_div_rq h, Rat.sub_def', ← Int.natCast_mul, Rat.divInt_ofNat]
theorem rq_mul (p q : Rat) : lowD (p.num * q.num, p.den * q.den) = rq (p * q) := by
  have := p.den_pos
  have := q.den_pos
  have h : ((p.den : Int) * (q.den : Int)) ≠ 0 := Int.mul_ne_zero (by omega) (by omega)
  rw [low_div_rq h, Rat.mul_def', ← Int.natCast_mul, Rat.divInt_ofNat]
theorem rq_div {p q : Rat} (h0 : q ≠ 0) : lowD (p.num * q.den, p.den * q.num) = rq (p / q) := by
  have := p.den_pos
  have n0 : q.num ≠ 0 := fun e => h0 (Rat.num_eq_zero.mp e)
  have h : ((p.den : Int) * q.num) ≠ 0 := Int.mul_ne_zero (by omega) n0
  rw [low_div_rq h, Rat.div_def, Rat.inv_def]
  conv => rhs; rw [← Rat.num_divInt_den p]
  rw [Rat.divInt_mul_divInt]
theorem rq_neg (q : Rat) : ratD (-q.num) q.den = rq (-q) := rfl
/-- sizes: figures of the numerator, of the denominator -/
structure Sz (n m : Nat) (q : Rat) : Prop where
  n : q.num.natAbs < 10 ^ n
  m : q.den < 10 ^ m
theorem Sz.up {n m n' m' : Nat} {q : Rat} (h : Sz n m q) (a : n ≤ n') (b : m ≤ m') : Sz n' m' q := ⟨Nat.lt_of_lt_of_le h.n (Nat.pow_le_pow_right (by decide) a), Nat.lt_of_lt_of_le h.m (Nat.pow_le_pow_right (by decide) b)⟩
theorem sz_div {a b : Int} {n m : Nat} (ha : a.natAbs < 10 ^ n) (hb : b.natAbs < 10 ^ m) (h0 : b ≠ 0) : Sz n m (Rat.divInt a b) := by
  have gp : 0 < b.gcd a := Int.gcd_pos_of_ne_zero_left _ h0
  refine ⟨?_, ?_⟩
  · rw [Rat.num_divInt]
    refine Nat.lt_of_le_of_lt ?_ ha
    rw [Int.natAbs_ediv_of_dvd]
    · refine Nat.le_trans (Nat.div_le_self _ _) ?_
      rw [Int.natAbs_mul]
      have : b.sign.natAbs ≤ 1 := by rw [Int.natAbs_sign]; split <;> omega
      calc b.sign.natAbs * a.natAbs ≤ 1 * a.natAbs := Nat.mul_le_mul_right _ this
        _ = a.natAbs := Nat.one_mul _
    · exact Int.dvd_mul_of_dvd_right (Int.gcd_dvd_right ..)
  · rw [Rat.den_divInt, if_neg h0]
    exact Nat.lt_of_le_of_lt (Nat.div_le_self _ _) hb
theorem nat_lt_mul {a b n m : Nat} (ha : a < 10 ^ n) (hb : b < 10 ^ m) : a * b < 10 ^ (n + m) := by
  rw [Nat.pow_add]
  exact Nat.mul_lt_mul'' ha hb
theorem cross_lt {x y u v : Int} {a b c d k : Nat} (h1 : x.natAbs < 10 ^ a) (h2 : y.natAbs < 10 ^ b) (h3 : u.natAbs < 10 ^ c) (h4 : v.natAbs < 10 ^ d) (l1 : a + b < k) (l2 : c + d < k) : (x * y + u * v).natAbs < 10 ^ k ∧ (x * y - u * v).natAbs < 10 ^ k := by
  have p1 : (x * y).natAbs < 10 ^ (a + b) := by rw [Int.natAbs_mul]; exact nat_lt_mul h1 h2
  have p2 : (u * v).natAbs < 10 ^ (c + d) := by rw [Int.natAbs_mul]; exact nat_lt_mul h3 h4
  obtain ⟨j, rfl⟩ : ∃ j, k = j + 1 := ⟨k - 1, by omega⟩
  have q1 : 10 ^ (a + b) ≤ 10 ^ j := Nat.pow_le_pow_right (by decide) (by omega)
  have q2 : 10 ^ (c + d) ≤ 10 ^ j := Nat.pow_le_pow_right (by decide) (by omega)
  have e : 10 ^ (j + 1) = 10 ^ j * 10 := Nat.pow_succ ..
  rw [e]
  generalize 10 ^ j = z at *
  omega
theorem den_ne (p q : Rat) : ((p.den : Int) * (q.den : Int)) ≠ 0 := by
  have := p.den_pos
  have := q.den_pos
  exact Int.mul_ne_zero (by omega) (by omega)
theorem den_lt {a b c d : Nat} {p q : Rat} (h : Sz a b p) (k : Sz c d q) : ((p.den : Int) * (q.den : Int)).natAbs < 10 ^ (b + d) := by
  rw [Int.natAbs_mul]
  exact nat_lt_mul h.m k.m
theorem Sz.add {a b c d : Nat} {p q : Rat} (h : Sz a b p) (k : Sz c d q) : Sz (max (a + d) (c + b) + 1) (b + d) (p + q) := by
  have e : p + q = Rat.divInt (p.num * q.den + q.num * p.den) (p.den * q.den) := by rw [Rat.add_def', ← Int.natCast_mul, Rat.divInt_ofNat]
  rw [e]
  exact sz_div (cross_lt h.n k.m k.n h.m (by omega) (by omega)).1 (den_lt h k) (den_ne p q)
theorem Sz.sub {a b c d : Nat} {p q : Rat} (h : Sz a b p) (k : Sz c d q) : Sz (max (a + d) (c + b) + 1) (b + d) (p - q) := by
  have e : p - q = Rat.divInt (p.num * q.den - q.num * p.den) (p.den * q.den) := by rw [Rat.sub_def', ← Int.natCast_mul, Rat.divInt_ofNat]
  rw [e]
  exact sz_div (cross_lt h.n k.m k.n h.m (by omega) (by omega)).2 (den_lt h k) (den_ne p q)
theorem Sz.mul {a b c d : Nat} {p q : Rat} (h : Sz a b p) (k : Sz c d q) : Sz (a + c) (b + d) (p * q) := by
  have e : p * q = Rat.divInt (p.num * q.num) (p.den * q.den) := by rw [Rat.mul_def', ← Int.natCast_mul, Rat.divInt_ofNat]
  rw [e]
  exact sz_div (by rw [Int.natAbs_mul]; exact nat_lt_mul h.n k.n) (den_lt h k) (den_ne p q)
theorem Sz.div {a b c d : Nat} {p q : Rat} (h : Sz a b p) (k : Sz c d q) (h0 : q ≠ 0) : Sz (a + d) (b + c) (p / q) := by
  have := p.den_pos
  have n0 : q.num ≠ 0 := fun e => h0 (Rat.num_eq_zero.mp e)
  have e : p / q = Rat.divInt (p.num * q.den) (p.den * q.num) := by
    rw [Rat.div_def, Rat.inv_def]
    conv => lhs; rw [← Rat.num_divInt_den p]
    rw [Rat.divInt_mul_divInt]
  rw [e]
  exact sz_div (by rw [Int.natAbs_mul]; exact nat_lt_mul h.n k.m) (by rw [Int.natAbs_mul]; exact nat_lt_mul h.m k.n) (Int.mul_ne_zero (by omega) n0)
theorem Sz.neg {a b : Nat} {p : Rat} (h : Sz a b p) : Sz a b (-p) := ⟨by rw [Rat.neg_num, Int.natAbs_neg]; exact h.n, h.m⟩
/-- at most n bits -/
def Bi (n : Nat) (x : Int) : Prop := x.natAbs < 2 ^ n
theorem Bi.mul {n m : Nat} {x y : Int} (h : Bi n x) (k : Bi m y) : Bi (n + m) (x * y) := by
  unfold Bi
  rw [Int.natAbs_mul, Nat.pow_add]
  exact Nat.mul_lt_mul'' h k
theorem Bi.cm {n m : Nat} {x y : Int} (h : Bi n x) (k : Bi m y) (hn : 0 < n) (hm : 0 < m) (l : n + m ≤ 1000000) : CMulW x y := wide_mul h k hn hm l
theorem ten_two (n : Nat) : 10 ^ n ≤ 2 ^ (4 * n) := by
  rw [Nat.pow_mul]
  exact Nat.pow_le_pow_left (by decide) n
/-- one may be multiplied -/
structure Sm1 (q : Rat) : Prop where
  n : Bi 100000 q.num
  d : Bi 100000 (q.den : Int)
/-- two may be counted with -/
structure Ok2 (p q : Rat) : Prop where
  a : Sm1 p
  b : Sm1 q
  m : (p.den * q.den).log2 < 9000
theorem Sz.sm {n m : Nat} {q : Rat} (h : Sz n m q) (l : n ≤ 25000 ∧ m ≤ 25000) : Sm1 q := by
  refine ⟨Nat.lt_of_lt_of_le h.n (Nat.le_trans (ten_two n) (Nat.pow_le_pow_right (by decide) (by omega))), ?_⟩
  unfold Bi
  rw [Int.natAbs_natCast]
  exact Nat.lt_of_lt_of_le h.m (Nat.le_trans (ten_two m) (Nat.pow_le_pow_right (by decide) (by omega)))
theorem log_lt {x k : Nat} (h : x < 10 ^ k) (l : k ≤ 2700) : x.log2 < 9000 := by
  by_cases c : x = 0
  · rw [c]
    decide
  · refine (Nat.log2_lt c).mpr (Nat.lt_of_lt_of_le h (Nat.le_trans (Nat.pow_le_pow_right (by decide) l) ?_))
    decide +kernel
theorem Sz.ok {a b c d : Nat} {p q : Rat} (h : Sz a b p) (k : Sz c d q) (l : (a ≤ 25000 ∧ b ≤ 25000 ∧ c ≤ 25000 ∧ d ≤ 25000) ∧ b + d ≤ 2700) : Ok2 p q :=
  ⟨h.sm ⟨l.1.1, l.1.2.1⟩, k.sm ⟨l.1.2.2.1, l.1.2.2.2⟩, log_lt (nat_lt_mul h.m k.m) l.2⟩
theorem Ok2.cm {p q : Rat} (h : Ok2 p q) : CMulW p.num q.num ∧ CMulW p.num q.den ∧ CMulW q.num p.den ∧ CMulW p.den q.den ∧ CMulW p.den q.num ∧ ((p.den : Int) * q.den).natAbs.log2 < 9000 :=
  ⟨h.a.n.cm h.b.n (by decide) (by decide) (by decide), h.a.n.cm h.b.d (by decide) (by decide) (by decide), h.b.n.cm h.a.d (by decide) (by decide) (by decide), h.a.d.cm h.b.d (by decide) (by decide) (by decide), h.a.d.cm h.b.n (by decide) (by decide) (by decide), by
    rw [Int.natAbs_mul]
    exact h.m⟩
/-- a square's root has half the figures -/
theorem Sz.half {n m : Nat} {r : Rat} (e1 : (r * r).num = r.num * r.num) (e2 : (r * r).den = r.den * r.den) (h : Sz (2 * n) (2 * m) (r * r)) : Sz n m r := by
  refine ⟨Nat.lt_of_not_le fun z => ?_, Nat.lt_of_not_le fun z => ?_⟩
  · have a := Nat.mul_le_mul z z
    have b := h.n
    rw [e1, Int.natAbs_mul, Nat.two_mul, Nat.pow_add] at b
    omega
  · have a := Nat.mul_le_mul z z
    have b := h.m
    rw [e2, Nat.two_mul, Nat.pow_add] at b
    omega
/-- the sign of a Rat -/
def sg (q : Rat) : Int := sgn q.num
theorem sg_pos {q : Rat} (h : 0 < q) : sg q = 1 := by
  unfold sg sgn
  have : 0 < q.num := by
    rcases Int.lt_trichotomy q.num 0 with z | z | z
    · have := Rat.num_nonneg.mpr (Rat.le_of_lt h)
      omega
    · have := Rat.num_eq_zero.mp z
      rw [this] at h
      exact absurd h Rat.lt_irrefl
    · exact z
  rw [if_pos (by omega)]
theorem sg_neg' (q : Rat) : sg (-q) = -sg q := by
  unfold sg
  rw [Rat.neg_num]
  generalize q.num = n
  unfold sgn
  by_cases h1 : n > 0
  · rw [if_neg (by omega), if_pos (by omega), if_pos h1]
  · by_cases h2 : n < 0
    · rw [if_pos (by omega), if_neg h1, if_pos h2]
      rfl
    · rw [if_neg (by omega), if_neg (by omega), if_neg h1, if_neg h2]
      rfl
theorem sg_zero : sg 0 = 0 := rfl
theorem sg_neg {q : Rat} (h : q < 0) : sg q = -1 := by
  have h2 : (0 : Rat) < -q := by
    have := Rat.neg_lt_neg h
    simpa using this
  have := sg_pos h2
  rw [sg_neg'] at this
  omega
theorem sg_cases (q : Rat) : (0 < q ∧ sg q = 1) ∨ (q < 0 ∧ sg q = -1) ∨ (q = 0 ∧ sg q = 0) := by
  by_cases h : 0 < q
  · exact .inl ⟨h, sg_pos h⟩
  · by_cases k : q < 0
    · exact .inr (.inl ⟨k, sg_neg k⟩)
    · have : q = 0 := Rat.le_antisymm (Rat.not_lt.mp h) (Rat.not_lt.mp k)
      exact .inr (.inr ⟨this, by rw [this]; rfl⟩)
end My
set_option exponentiation.threshold 100000
namespace My
open PySem PySem.Spec PyProof.Rows L2
local macro_rules | `(tactic| walk_at "dl") => `(tactic| simp only [startD, List.map_cons, List.map_nil, List.length_cons, List.length_nil, List.cons_append, List.nil_append, List.replicate_succ, List.replicate_zero, List.getElem?_cons_zero, List.getElem?_cons_succ, List.set_cons_zero, List.set_cons_succ,
  dVar, rdS, dC, dNew, dOp, onB, qB, dChain, qAnd, qOr, qNot, qTru, truD, dIf, dAnd, dOr, dNot, dUn, ddNeg, lNil, lCons, dTup, nLst, ddI, ddI0, ddAdd, isNonD, isBlD, ddIsN, ddIsB, ddIx_t0, ddIx_t1, ddIx_t2, ddIx_t3, ddIx_l0, ddIx_l1, ddIx_l2, dCB, ddLen, ddInt1, ddAbs, ddMM, ddTuple, nCB, nnList, ddIsi, dCall,
  sSkip, sSeq, sBreak, sCont, sExpr, sRet, sRetN, sIf, sNever, gdName, gdNil, gdCons, gdTup, sAsg, sSetN, sPar, sRaise, sFrz, owS, sApp, sIns, dLenO, dIxO, sTry, sFor, iL, iT, onL, onT, iR1, iR2, nComp, qYes,
  ddEq_ii, ddEq_ss, ddEq_bb, Bool.false_bne, Bool.true_bne, List.append_nil, true_and, and_true, if_true, if_false, Bool.not_true, Bool.not_false, Bool.true_eq_false, Bool.false_eq_true, ite_true, ite_false, id_eq])

abbrev s_lowest : Stmt := topS 14
abbrev N_lowest : List Str := ["top", "bottom", "common"]
abbrev P_lowest : List Str := ["top", "bottom"]
theorem sc_lowest : FnScope N_lowest P_lowest (defScope s_lowest) := ⟨rfl, rfl, rfl, by decide +kernel, rfl, by decide +kernel, by decide +kernel⟩

abbrev s_need_two : Stmt := topS 18
abbrev N_need_two : List Str := ["one", "other"]
abbrev P_need_two : List Str := ["one", "other"]
theorem sc_need_two : FnScope N_need_two P_need_two (defScope s_need_two) := ⟨rfl, rfl, rfl, by decide +kernel, rfl, by decide +kernel, by decide +kernel⟩

abbrev s_add : Stmt := topS 20
abbrev N_add : List Str := ["one", "other"]
abbrev P_add : List Str := ["one", "other"]
theorem sc_add : FnScope N_add P_add (defScope s_add) := ⟨rfl, rfl, rfl, by decide +kernel, rfl, by decide +kernel, by decide +kernel⟩

abbrev s_subtract : Stmt := topS 21
abbrev N_subtract : List Str := ["one", "other"]
abbrev P_subtract : List Str := ["one", "other"]
theorem sc_subtract : FnScope N_subtract P_subtract (defScope s_subtract) := ⟨rfl, rfl, rfl, by decide +kernel, rfl, by decide +kernel, by decide +kernel⟩

abbrev s_multiply : Stmt := topS 22
abbrev N_multiply : List Str := ["one", "other"]
abbrev P_multiply : List Str := ["one", "other"]
theorem sc_multiply : FnScope N_multiply P_multiply (defScope s_multiply) := ⟨rfl, rfl, rfl, by decide +kernel, rfl, by decide +kernel, by decide +kernel⟩

abbrev s_divide : Stmt := topS 23
abbrev N_divide : List Str := ["one", "other"]
abbrev P_divide : List Str := ["one", "other"]
theorem sc_divide : FnScope N_divide P_divide (defScope s_divide) := ⟨rfl, rfl, rfl, by decide +kernel, rfl, by decide +kernel, by decide +kernel⟩

abbrev s_sign : Stmt := topS 24
abbrev N_sign : List Str := ["one"]
abbrev P_sign : List Str := ["one"]
theorem sc_sign : FnScope N_sign P_sign (defScope s_sign) := ⟨rfl, rfl, rfl, by decide +kernel, rfl, by decide +kernel, by decide +kernel⟩

/-! ### arithmetic over Rat -/
def m_two : DF := fun ds Q _ => ∃ p q, ds = [rq p, rq q] ∧ Q .non
def m_r2 (f : Rat → Rat → Rat) : DF := fun ds Q _ => ∃ p q, ds = [rq p, rq q] ∧ Ok2 p q ∧ Q (rq (f p q))
def m_div : DF := fun ds Q _ => ∃ p q, ds = [rq p, rq q] ∧ (Sm1 p ∧ Sm1 q ∧ (p.den * q.num.natAbs).log2 < 9000) ∧ q ≠ 0 ∧ Q (rq (p / q))
def m_neg1 : DF := fun ds Q _ => ∃ p, ds = [rq p] ∧ Q (rq (-p))
def m_sign1 : DF := fun ds Q _ => ∃ p, ds = [rq p] ∧ Q (.int (sg p))
def m_cmp2 : DF := fun ds Q _ => ∃ p q, ds = [rq p, rq q] ∧ Ok2 p q ∧ Q (.int (sg (p - q)))
theorem sg_div {a b : Int} (hb : 0 < b) : sg (Rat.divInt a b) = sgn a := by
  unfold sg
  rw [Rat.num_divInt, Int.sign_eq_one_of_pos hb, Int.one_mul]
  have gp : 0 < (b.gcd a : Int) := by
    have := Int.gcd_pos_of_ne_zero_left (a := b) a (by omega)
    omega
  obtain ⟨c, hc⟩ : (b.gcd a : Int) ∣ a := Int.gcd_dvd_right ..
  generalize (b.gcd a : Int) = g at *
  rw [hc, Int.mul_ediv_cancel_left _ (by omega)]
  unfold sgn
  rcases Int.lt_trichotomy c 0 with h | h | h
  · have : g * c < 0 := Int.mul_neg_of_pos_of_neg gp h
    rw [if_neg (by omega), if_pos h, if_neg (by omega), if_pos this]
  · rw [h, Int.mul_zero]
  · have : 0 < g * c := Int.mul_pos gp h
    rw [if_pos (by omega), if_pos (by omega)]
theorem sg_cmp (p q : Rat) : sgn (p.num * q.den - q.num * p.den) = sg (p - q) := by
  have e : p - q = Rat.divInt (p.num * q.den - q.num * p.den) (p.den * q.den) := by rw [Rat.sub_def', ← Int.natCast_mul, Rat.divInt_ofNat]
  have := p.den_pos
  have := q.den_pos
  rw [e, sg_div (Int.mul_pos (by omega) (by omega))]
theorem SmR.den {q : Rat} : ((q.den : Int)) ≠ 0 := by
  have := q.den_pos
  omega
section
variable {P : Program} {w : World} {K : PySem.W.Frag} {mg : Str → Option Value} {base : Heap}
theorem ok_lowest (T : Txt K mg) : FnOk P w K mg base (L2N.CX P w) 2 T.dlowest.f T.dlowest.fd P_lowest (spD K 2 m_lowest) := by
  have G_divisor : FnOk P w K mg base (L2N.CX P w) 1 T.ddivisor.f T.ddivisor.fd P_divisor (spD K 2 m_divisor) := ok_divisor T
  refine T.dlowest.okD sc_lowest fun cdv A outer s H E so A0 hr tk hp => ⟨_, (pds_cons (pds_set (i := 2) sc_lowest.nd rfl (by first | exact .inl rfl | exact .inr rfl) (pd_call G_divisor (hr.mono (by omega)) (by rfl) T.ddivisor.g T.ddivisor.F.kp T.ddivisor.b (fun σ => L2N.passAt tk σ) (pda_cons (pd_var (pv 0)) (pda_cons (pd_var (pv 1)) pda_nil))))
      (pds_cons (pds_if (pdt_cmp op_lt ol_lt (pd_var (pv 1)) pd_int (nomark _))
        (pds_one (pds_set (i := 2) sc_lowest.nd rfl (by first | exact .inl rfl | exact .inr rfl) (pd_neg (pd_var (pv 2)))))
        pds_nil)
      (pds_one (pds_ret (pd_tup (pda_cons (pd_op op_fdivZ ol_fdiv (pd_var (pv 0)) (pd_var (pv 2))) (pda_cons (pd_op op_fdivZ ol_fdiv (pd_var (pv 1)) (pd_var (pv 2))) pda_nil))))))), fun ds Q E hl h => ?_⟩
  unfold m_lowest at h
  split at h
  · rename_i a b
    obtain ⟨hb, hz, h⟩ := h
    obtain ⟨f1, f2⟩ := low_div a b hb
    obtain ⟨c1, c2⟩ := gcd_bits (a := a) hb hz a b
    walk_at "dl"
    simp only [m_divisor]
    split
    · rename_i c
      have c : b < 0 := by simpa using c
      rw [if_pos c] at c1 c2 f1 f2
      refine ⟨c1, c2, (by show 2 ≤ sizeLine; decide), ?_⟩
      rw [f1, f2]
      exact h
    · rename_i c
      have c : ¬ b < 0 := by simpa using c
      rw [if_neg c] at c1 c2 f1 f2
      refine ⟨c1, c2, (by show 2 ≤ sizeLine; decide), ?_⟩
      rw [f1, f2]
      exact h
  · exact h.elim
theorem ok_need_two (T : Txt K mg) : FnOk P w K mg base (L2N.CX P w) 5 T.dneed_two.f T.dneed_two.fd P_need_two (spD K 2 m_two) := by
  have G_need_ratio : FnOk P w K mg base (L2N.CX P w) 4 T.dneed_ratio.f T.dneed_ratio.fd P_need_ratio (spD K 2 (m_need_ratio T)) := ok_need_ratio T
  refine T.dneed_two.okD sc_need_two fun cdv A outer s H E so A0 hr tk hp => ⟨_, (pds_cons (pds_expr (pd_call G_need_ratio (hr.mono (by omega)) (by rfl) T.dneed_ratio.g T.dneed_ratio.F.kp T.dneed_ratio.b (fun σ => L2N.passAt tk σ) (pda_cons (pd_var (pv 0)) (pda_cons pd_str pda_nil))))
      (pds_one (pds_expr (pd_call G_need_ratio (hr.mono (by omega)) (by rfl) T.dneed_ratio.g T.dneed_ratio.F.kp T.dneed_ratio.b (fun σ => L2N.passAt tk σ) (pda_cons (pd_var (pv 1)) (pda_cons pd_str pda_nil)))))), fun ds Q E hl h => ?_⟩
  obtain ⟨p, q, rfl, h⟩ := h
  walk_at "dl"
  exact ⟨rat_pl (rq_rat p), fun e => (by rw [rq_rat] at e; cases e), fun _ => ⟨rat_pl (rq_rat q), fun e => (by rw [rq_rat] at e; cases e), fun _ => h⟩⟩
theorem ok_add (T : Txt K mg) : FnOk P w K mg base (L2N.CX P w) 6 T.dadd.f T.dadd.fd P_add (spD K 2 (m_r2 fun p q => p + q)) := by
  have G_need_two : FnOk P w K mg base (L2N.CX P w) 5 T.dneed_two.f T.dneed_two.fd P_need_two (spD K 2 m_two) := ok_need_two T
  have G_lowest : FnOk P w K mg base (L2N.CX P w) 2 T.dlowest.f T.dlowest.fd P_lowest (spD K 2 m_lowest) := ok_lowest T
  refine T.dadd.okD sc_add fun cdv A outer s H E so A0 hr tk hp => ⟨_, (pds_cons (pds_expr (pd_call G_need_two (hr.mono (by omega)) (by rfl) T.dneed_two.g T.dneed_two.F.kp T.dneed_two.b (fun σ => L2N.passAt tk σ) (pda_cons (pd_var (pv 0)) (pda_cons (pd_var (pv 1)) pda_nil))))
      (pds_one (pds_ret (pd_call G_lowest (hr.mono (by omega)) (by rfl) T.dlowest.g T.dlowest.F.kp T.dlowest.b (fun σ => L2N.passAt tk σ) (pda_cons (pd_op oo_add ol_add (pd_op op_mulW ol_mul (pd_ix ix_seq ol_ix (pd_var (pv 0)) pd_int (fun _ _ => rfl)) (pd_ix ix_seq ol_ix (pd_var (pv 1)) pd_int (fun _ _ => rfl))) (pd_op op_mulW ol_mul (pd_ix ix_seq ol_ix (pd_var (pv 1)) pd_int (fun _ _ => rfl)) (pd_ix ix_seq ol_ix (pd_var (pv 0)) pd_int (fun _ _ => rfl)))) (pda_cons (pd_op op_mulW ol_mul (pd_ix ix_seq ol_ix (pd_var (pv 0)) pd_int (fun _ _ => rfl)) (pd_ix ix_seq ol_ix (pd_var (pv 1)) pd_int (fun _ _ => rfl))) pda_nil)))))), fun ds Q E hl h => ?_⟩
  obtain ⟨p, q, rfl, ok, h⟩ := h
  obtain ⟨c1, c2, c3, c4, c5, c6⟩ := ok.cm
  walk_at "dl"
  refine ⟨p, q, rfl, ?_⟩
  simp only [rq, ratD]
  walk_at "dl"
  refine ⟨c2, c3, c4, den_ne p q, c6, ?_⟩
  rw [← rq_add p q] at h
  exact h
theorem ok_subtract (T : Txt K mg) : FnOk P w K mg base (L2N.CX P w) 6 T.dsubtract.f T.dsubtract.fd P_subtract (spD K 2 (m_r2 fun p q => p - q)) := by
  have G_need_two : FnOk P w K mg base (L2N.CX P w) 5 T.dneed_two.f T.dneed_two.fd P_need_two (spD K 2 m_two) := ok_need_two T
  have G_lowest : FnOk P w K mg base (L2N.CX P w) 2 T.dlowest.f T.dlowest.fd P_lowest (spD K 2 m_lowest) := ok_lowest T
  refine T.dsubtract.okD sc_subtract fun cdv A outer s H E so A0 hr tk hp => ⟨_, (pds_cons (pds_expr (pd_call G_need_two (hr.mono (by omega)) (by rfl) T.dneed_two.g T.dneed_two.F.kp T.dneed_two.b (fun σ => L2N.passAt tk σ) (pda_cons (pd_var (pv 0)) (pda_cons (pd_var (pv 1)) pda_nil))))
      (pds_one (pds_ret (pd_call G_lowest (hr.mono (by omega)) (by rfl) T.dlowest.g T.dlowest.F.kp T.dlowest.b (fun σ => L2N.passAt tk σ) (pda_cons (pd_op op_sub ol_sub (pd_op op_mulW ol_mul (pd_ix ix_seq ol_ix (pd_var (pv 0)) pd_int (fun _ _ => rfl)) (pd_ix ix_seq ol_ix (pd_var (pv 1)) pd_int (fun _ _ => rfl))) (pd_op op_mulW ol_mul (pd_ix ix_seq ol_ix (pd_var (pv 1)) pd_int (fun _ _ => rfl)) (pd_ix ix_seq ol_ix (pd_var (pv 0)) pd_int (fun _ _ => rfl)))) (pda_cons (pd_op op_mulW ol_mul (pd_ix ix_seq ol_ix (pd_var (pv 0)) pd_int (fun _ _ => rfl)) (pd_ix ix_seq ol_ix (pd_var (pv 1)) pd_int (fun _ _ => rfl))) pda_nil)))))), fun ds Q E hl h => ?_⟩
  obtain ⟨p, q, rfl, ok, h⟩ := h
  obtain ⟨c1, c2, c3, c4, c5, c6⟩ := ok.cm
  walk_at "dl"
  refine ⟨p, q, rfl, ?_⟩
  simp only [rq, ratD]
  walk_at "dl"
  refine ⟨c2, c3, c4, den_ne p q, c6, ?_⟩
  rw [← rq_sub p q] at h
  exact h
theorem ok_multiply (T : Txt K mg) : FnOk P w K mg base (L2N.CX P w) 6 T.dmultiply.f T.dmultiply.fd P_multiply (spD K 2 (m_r2 fun p q => p * q)) := by
  have G_need_two : FnOk P w K mg base (L2N.CX P w) 5 T.dneed_two.f T.dneed_two.fd P_need_two (spD K 2 m_two) := ok_need_two T
  have G_lowest : FnOk P w K mg base (L2N.CX P w) 2 T.dlowest.f T.dlowest.fd P_lowest (spD K 2 m_lowest) := ok_lowest T
  refine T.dmultiply.okD sc_multiply fun cdv A outer s H E so A0 hr tk hp => ⟨_, (pds_cons (pds_expr (pd_call G_need_two (hr.mono (by omega)) (by rfl) T.dneed_two.g T.dneed_two.F.kp T.dneed_two.b (fun σ => L2N.passAt tk σ) (pda_cons (pd_var (pv 0)) (pda_cons (pd_var (pv 1)) pda_nil))))
      (pds_one (pds_ret (pd_call G_lowest (hr.mono (by omega)) (by rfl) T.dlowest.g T.dlowest.F.kp T.dlowest.b (fun σ => L2N.passAt tk σ) (pda_cons (pd_op op_mulW ol_mul (pd_ix ix_seq ol_ix (pd_var (pv 0)) pd_int (fun _ _ => rfl)) (pd_ix ix_seq ol_ix (pd_var (pv 1)) pd_int (fun _ _ => rfl))) (pda_cons (pd_op op_mulW ol_mul (pd_ix ix_seq ol_ix (pd_var (pv 0)) pd_int (fun _ _ => rfl)) (pd_ix ix_seq ol_ix (pd_var (pv 1)) pd_int (fun _ _ => rfl))) pda_nil)))))), fun ds Q E hl h => ?_⟩
  obtain ⟨p, q, rfl, ok, h⟩ := h
  obtain ⟨c1, c2, c3, c4, c5, c6⟩ := ok.cm
  walk_at "dl"
  refine ⟨p, q, rfl, ?_⟩
  simp only [rq, ratD]
  walk_at "dl"
  refine ⟨c1, c4, den_ne p q, c6, ?_⟩
  rw [← rq_mul p q] at h
  exact h
theorem ok_divide (T : Txt K mg) : FnOk P w K mg base (L2N.CX P w) 6 T.ddivide.f T.ddivide.fd P_divide (spD K 2 m_div) := by
  have G_need_two : FnOk P w K mg base (L2N.CX P w) 5 T.dneed_two.f T.dneed_two.fd P_need_two (spD K 2 m_two) := ok_need_two T
  have G_lowest : FnOk P w K mg base (L2N.CX P w) 2 T.dlowest.f T.dlowest.fd P_lowest (spD K 2 m_lowest) := ok_lowest T
  refine T.ddivide.okD sc_divide fun cdv A outer s H E so A0 hr tk hp => ⟨_, (pds_cons (pds_expr (pd_call G_need_two (hr.mono (by omega)) (by rfl) T.dneed_two.g T.dneed_two.F.kp T.dneed_two.b (fun σ => L2N.passAt tk σ) (pda_cons (pd_var (pv 0)) (pda_cons (pd_var (pv 1)) pda_nil))))
      (pds_cons (pds_if (pdt_cmp (oo_eq hr.units) ol_eq (pd_ix ix_seq ol_ix (pd_var (pv 1)) pd_int (fun _ _ => rfl)) pd_int (nomark _))
        pds_never
        pds_nil)
      (pds_one (pds_ret (pd_call G_lowest (hr.mono (by omega)) (by rfl) T.dlowest.g T.dlowest.F.kp T.dlowest.b (fun σ => L2N.passAt tk σ) (pda_cons (pd_op op_mulW ol_mul (pd_ix ix_seq ol_ix (pd_var (pv 0)) pd_int (fun _ _ => rfl)) (pd_ix ix_seq ol_ix (pd_var (pv 1)) pd_int (fun _ _ => rfl))) (pda_cons (pd_op op_mulW ol_mul (pd_ix ix_seq ol_ix (pd_var (pv 0)) pd_int (fun _ _ => rfl)) (pd_ix ix_seq ol_ix (pd_var (pv 1)) pd_int (fun _ _ => rfl))) pda_nil))))))), fun ds Q E hl h => ?_⟩
  obtain ⟨p, q, rfl, ⟨sp, sq, lg⟩, q0, h⟩ := h
  have n0 : q.num ≠ 0 := fun e => q0 (Rat.num_eq_zero.mp e)
  walk_at "dl"
  refine ⟨p, q, rfl, ?_⟩
  simp only [rq, ratD]
  walk_at "dl"
  rw [if_neg (by rw [decide_eq_true_iff]; exact n0)]
  refine ⟨sp.n.cm sq.d (by decide) (by decide) (by decide), sp.d.cm sq.n (by decide) (by decide) (by decide), Int.mul_ne_zero SmR.den n0, by rw [Int.natAbs_mul]; exact lg, ?_⟩
  rw [← rq_div q0] at h
  exact h
theorem ok_sign (T : Txt K mg) : FnOk P w K mg base (L2N.CX P w) 5 T.dsign.f T.dsign.fd P_sign (spD K 1 m_sign1) := by
  have G_need_ratio : FnOk P w K mg base (L2N.CX P w) 4 T.dneed_ratio.f T.dneed_ratio.fd P_need_ratio (spD K 2 (m_need_ratio T)) := ok_need_ratio T
  have G_sign_of : FnOk P w K mg base (L2N.CX P w) 1 T.dsign_of.f T.dsign_of.fd P_sign_of (spD K 1 m_sign_of) := ok_sign_of T
  refine T.dsign.okD sc_sign fun cdv A outer s H E so A0 hr tk hp => ⟨_, (pds_cons (pds_expr (pd_call G_need_ratio (hr.mono (by omega)) (by rfl) T.dneed_ratio.g T.dneed_ratio.F.kp T.dneed_ratio.b (fun σ => L2N.passAt tk σ) (pda_cons (pd_var (pv 0)) (pda_cons pd_str pda_nil))))
      (pds_one (pds_ret (pd_call G_sign_of (hr.mono (by omega)) (by rfl) T.dsign_of.g T.dsign_of.F.kp T.dsign_of.b (fun σ => L2N.passAt tk σ) (pda_cons (pd_ix ix_seq ol_ix (pd_var (pv 0)) pd_int (fun _ _ => rfl)) pda_nil))))), fun ds Q E hl h => ?_⟩
  obtain ⟨p, rfl, h⟩ := h
  walk_at "dl"
  refine ⟨rat_pl (rq_rat p), fun e => (by rw [rq_rat] at e; cases e), fun _ => ?_⟩
  simp only [rq, ratD, m_sign_of]
  walk_at "dl"
  exact h
end
end My
namespace My
/-! ### the integer root -/
def IsRt (n s : Nat) : Prop := s * s ≤ n ∧ n < (s + 1) * (s + 1)
theorem IsRt.uniq {n s t : Nat} (h : IsRt n s) (k : IsRt n t) : s = t := by
  obtain ⟨h1, h2⟩ := h
  obtain ⟨k1, k2⟩ := k
  have a : s < t + 1 := Nat.lt_of_not_le fun z => absurd (Nat.mul_le_mul z z) (by omega)
  have b : t < s + 1 := Nat.lt_of_not_le fun z => absurd (Nat.mul_le_mul z z) (by omega)
  omega
theorem rt_ex : ∀ n : Nat, ∃ s, IsRt n s
  | 0 => ⟨0, by simp [IsRt]⟩
  | n + 1 => by
    obtain ⟨s, h1, h2⟩ := rt_ex n
    by_cases c : n + 1 < (s + 1) * (s + 1)
    · exact ⟨s, by omega, c⟩
    · refine ⟨s + 1, by omega, ?_⟩
      have : (s + 1 + 1) * (s + 1 + 1) = (s + 1) * (s + 1) + (2 * s + 3) := by grind
      omega
def nstep (n a : Nat) : Nat := (a + n / a) / 2
theorem nstep_ge {n s a : Nat} (h : IsRt n s) (ha : 0 < a) : s ≤ nstep n a := by
  unfold nstep
  have key : 2 * s ≤ a + n / a := by
    by_cases c : 2 * s ≤ a
    · exact Nat.le_trans c (Nat.le_add_right _ _)
    · obtain ⟨d, hd⟩ : ∃ d, 2 * s = a + d := ⟨2 * s - a, by omega⟩
      have e : d ≤ n / a := by
        rw [Nat.le_div_iff_mul_le ha]
        refine Nat.le_trans ?_ h.1
        have e4 : d * a * 4 ≤ (a + d) * (a + d) := by
          rcases Nat.le_total a d with z | z
          · obtain ⟨k, rfl⟩ := Nat.exists_eq_add_of_le z
            have : (a + (a + k)) * (a + (a + k)) = (a + k) * a * 4 + k * k := by grind
            omega
          · obtain ⟨k, rfl⟩ := Nat.exists_eq_add_of_le z
            have : (d + k + d) * (d + k + d) = d * (d + k) * 4 + k * k := by grind
            omega
        rw [← hd] at e4
        have : 2 * s * (2 * s) = s * s * 4 := by grind
        omega
      rw [hd]
      exact Nat.add_le_add_left e _
  generalize n / a = q at *
  omega
theorem nstep_lt {n s a : Nat} (h : IsRt n s) (ha : s < a) : nstep n a < a := by
  unfold nstep
  have h1 : n / a < a := by
    rw [Nat.div_lt_iff_lt_mul (by omega)]
    exact Nat.lt_of_lt_of_le h.2 (Nat.mul_le_mul ha ha)
  omega
/-- 2 a (a' - s) ≤ (a - s)² + 2 s -/
theorem nstep_err {n s e e' : Nat} (h : IsRt n s) (h2 : nstep n (s + e) = s + e') (ha : 0 < s + e) : 2 * (s + e) * e' ≤ e * e + 2 * s := by
  have h3 : 2 * (s + e') ≤ (s + e) + n / (s + e) := by
    rw [← h2]
    unfold nstep
    omega
  have h4 : (s + e) * (n / (s + e)) ≤ n := Nat.mul_div_le n (s + e)
  have h5 : (s + e) * (2 * (s + e')) ≤ (s + e) * ((s + e) + n / (s + e)) := Nat.mul_le_mul_left _ h3
  have h6 := h.2
  have a1 : (s + e) * (2 * (s + e')) = 2 * (s + e) * e' + 2 * (s * s) + 2 * (e * s) := by grind
  have a2 : (s + e) * (s + e) = s * s + 2 * (e * s) + e * e := by grind
  have a3 : (s + 1) * (s + 1) = s * s + 2 * s + 1 := by grind
  rw [a1, Nat.mul_add (s + e) (s + e), a2] at h5
  rw [a3] at h6
  generalize (s + e) * (n / (s + e)) = z at *
  generalize 2 * (s + e) * e' = y at *
  omega
theorem step_half {s e e' : Nat} (hs : 1 ≤ s) (h : 2 * (s + e) * e' ≤ e * e + 2 * s) : 2 * e' ≤ e + 2 := by
  refine Nat.le_of_not_lt fun z => ?_
  have z2 : (s + e) * (e + 3) ≤ (s + e) * (2 * e') := Nat.mul_le_mul_left _ z
  have a1 : (s + e) * (e + 3) = s * e + 3 * s + e * e + 3 * e := by grind
  have a2 : (s + e) * (2 * e') = 2 * (s + e) * e' := by grind
  omega
theorem step_quad {s e e' P : Nat} (hs : 8 ≤ s) (hP : 8 ≤ P) (h : 2 * (s + e) * e' ≤ e * e + 2 * s) (x : (e - 2) * P ≤ s) : (e' - 2) * (2 * (P * P)) ≤ s := by
  by_cases c : e' ≤ 2
  · have : e' - 2 = 0 := by omega
    rw [this, Nat.zero_mul]
    omega
  obtain ⟨y, rfl⟩ : ∃ y, e' = y + 2 := ⟨e' - 2, by omega⟩
  obtain ⟨u, hu⟩ : ∃ u, u = e - 2 := ⟨_, rfl⟩
  have he : e ≤ u + 2 := by omega
  rw [← hu] at x
  have h1 : 2 * s * (y + 2) ≤ (u + 2) * (u + 2) + 2 * s := by
    have b1 : 2 * s * (y + 2) ≤ 2 * (s + e) * (y + 2) := Nat.mul_le_mul_right _ (by omega)
    have b2 := Nat.mul_le_mul he he
    omega
  have h2 : 2 * (s * y) + 2 * s ≤ u * u + 4 * u + 4 := by
    have b1 : 2 * s * (y + 2) = 2 * (s * y) + 4 * s := by grind
    have b2 : (u + 2) * (u + 2) = u * u + 4 * u + 4 := by grind
    omega
  have h3 := Nat.mul_le_mul_right (P * P) h2
  have c1 : (2 * (s * y) + 2 * s) * (P * P) = s * (2 * (y * (P * P))) + 2 * (s * (P * P)) := by grind
  have c2 : (u * u + 4 * u + 4) * (P * P) = (u * P) * (u * P) + 4 * ((u * P) * P) + 4 * (P * P) := by grind
  have d1 : (u * P) * (u * P) ≤ s * s := Nat.mul_le_mul x x
  have d2 : (u * P) * P ≤ s * P := Nat.mul_le_mul_right _ x
  have d3 : 8 * (s * P) ≤ s * (P * P) := by
    have := Nat.mul_le_mul_left (s * P) hP
    have e1 : s * P * 8 = 8 * (s * P) := by grind
    have e2 : s * P * P = s * (P * P) := by grind
    omega
  have d4 : 8 * (P * P) ≤ s * (P * P) := Nat.mul_le_mul_right _ hs
  have h4 : s * (2 * (y * (P * P))) ≤ s * s := by omega
  have h5 := Nat.le_of_mul_le_mul_left h4 (by omega)
  have e1 : (y + 2 - 2) * (2 * (P * P)) = 2 * (y * (P * P)) := by
    rw [Nat.add_sub_cancel]
    grind
  rw [e1]
  exact h5
def mstep (n a : Nat) : Nat := if a ≤ nstep n a then a else nstep n a
theorem mstep_le (n a : Nat) : mstep n a ≤ nstep n a ∧ mstep n a ≤ a := by
  unfold mstep
  split <;> omega
theorem mstep_ge {n s a : Nat} (h : IsRt n s) (hs : 0 < s) (ha : s ≤ a) : s ≤ mstep n a := by
  have := nstep_ge h (a := a) (by omega)
  unfold mstep
  split <;> omega
def niter (n : Nat) : Nat → Nat → Nat
  | 0, a => a
  | k + 1, a => niter n k (mstep n a)
theorem niter_ge {n s : Nat} (h : IsRt n s) (hs : 0 < s) : ∀ (k a : Nat), s ≤ a → s ≤ niter n k a
  | 0, _, ha => ha
  | k + 1, a, ha => niter_ge h hs k _ (mstep_ge h hs ha)
theorem niter_app (n : Nat) : ∀ (k m a : Nat), niter n (k + m) a = niter n m (niter n k a)
  | 0, m, a => by rw [Nat.zero_add]; rfl
  | k + 1, m, a => by
    rw [Nat.add_right_comm]
    exact niter_app n k m _
theorem err_of {n s a : Nat} (h : IsRt n s) (hs : 0 < s) (ha : s ≤ a) : 2 * (s + (a - s)) * (mstep n a - s) ≤ (a - s) * (a - s) + 2 * s := by
  have g := nstep_ge h (a := a) (by omega)
  have l := (mstep_le n a).1
  have r : 2 * (s + (a - s)) * (nstep n a - s) ≤ (a - s) * (a - s) + 2 * s := by
    refine nstep_err h ?_ (by omega)
    have e1 : s + (a - s) = a := by omega
    rw [e1]
    omega
  exact Nat.le_trans (Nat.mul_le_mul_left _ (by omega)) r
theorem half_it {n s : Nat} (h : IsRt n s) (hs : 0 < s) : ∀ (k a q : Nat), s ≤ a → (a - s - 2) * q ≤ 3 * s → (niter n k a - s - 2) * (q * 2 ^ k) ≤ 3 * s
  | 0, a, q, _, e => by
    rw [Nat.pow_zero, Nat.mul_one]
    exact e
  | k + 1, a, q, ha, e => by
    have r := step_half hs (err_of h hs ha)
    have e2 : (mstep n a - s - 2) * (q * 2) ≤ 3 * s := by
      have : (mstep n a - s - 2) * 2 ≤ a - s - 2 := by omega
      have := Nat.mul_le_mul_right q this
      have z : (mstep n a - s - 2) * (q * 2) = (mstep n a - s - 2) * 2 * q := by grind
      omega
    have := half_it h hs k _ (q * 2) (mstep_ge h hs ha) e2
    have z : q * 2 ^ (k + 1) = q * 2 * 2 ^ k := by rw [Nat.pow_succ', Nat.mul_assoc]
    rw [z]
    exact this
def pw : Nat → Nat
  | 0 => 3
  | k + 1 => 2 * pw k + 1
theorem quad_it {n s : Nat} (h : IsRt n s) (hs : 8 ≤ s) : ∀ (k a : Nat), s ≤ a → (a - s - 2) * 8 ≤ s → (niter n k a - s - 2) * 2 ^ pw k ≤ s ∧ 3 ≤ pw k
  | 0, a, _, e => ⟨e, by decide⟩
  | k + 1, a, ha, e => by
    have e0 : niter n (k + 1) a = mstep n (niter n k a) := by
      rw [niter_app n k 1 a]
      rfl
    obtain ⟨i1, i2⟩ := quad_it h hs k a ha e
    have g := niter_ge h (by omega) k a ha
    have p8 : 8 ≤ 2 ^ pw k := Nat.pow_le_pow_right (n := 2) (by decide) i2
    have := step_quad hs p8 (err_of h (by omega) g) i1
    rw [e0]
    refine ⟨?_, by show 3 ≤ 2 * pw k + 1; omega⟩
    have e3 : 2 ^ pw (k + 1) = 2 * (2 ^ pw k * 2 ^ pw k) := by
      show 2 ^ (2 * pw k + 1) = _
      rw [Nat.pow_succ, Nat.two_mul, Nat.pow_add]
      omega
    rw [e3]
    exact this
theorem last_it {n s a : Nat} (h : IsRt n s) (hs : 0 < s) (ha : s ≤ a) (e : a ≤ s + 2) : niter n 2 a = s := by
  have st : ∀ b, s ≤ b → b ≤ s + 2 → s ≤ mstep n b ∧ mstep n b ≤ s + 1 ∧ (b ≤ s + 1 → mstep n b = s) := fun b h1 h2 => by
    have g := mstep_ge h hs h1
    have r := err_of h hs h1
    have l := (mstep_le n b).2
    obtain ⟨d, rfl⟩ := Nat.exists_eq_add_of_le h1
    obtain ⟨d', hd'⟩ := Nat.exists_eq_add_of_le g
    rw [hd'] at r l ⊢
    rw [Nat.add_sub_cancel_left, Nat.add_sub_cancel_left] at r
    have : d = 0 ∨ d = 1 ∨ d = 2 := by omega
    rcases this with rfl | rfl | rfl
    · omega
    · have : d' = 0 := by
        rcases Nat.eq_zero_or_pos d' with z | z
        · exact z
        · have := Nat.mul_le_mul_left (2 * (s + 1)) (show 1 ≤ d' from z)
          omega
      omega
    · have : d' ≤ 1 := Nat.le_of_not_lt fun z2 => by
        have := Nat.mul_le_mul_left (2 * (s + 2)) (show 2 ≤ d' from z2)
        omega
      omega
  obtain ⟨a1, a2, _⟩ := st a ha e
  obtain ⟨b1, b2, b3⟩ := st (mstep n a) a1 (by omega)
  exact b3 a2
def nrun (n : Nat) : Nat → Nat → Nat
  | 0, a => a
  | k + 1, a => if a ≤ nstep n a then a else nrun n k (nstep n a)
theorem nrun_rt {n s : Nat} (h : IsRt n s) (hs : 0 < s) : ∀ k, nrun n k s = s
  | 0 => rfl
  | k + 1 => by
    show (if s ≤ nstep n s then s else nrun n k (nstep n s)) = s
    rw [if_pos (nstep_ge h hs)]
theorem nrun_of {n s : Nat} (h : IsRt n s) (hs : 0 < s) : ∀ (i m a : Nat), s ≤ a → niter n i a = s → nrun n (i + m) a = s
  | 0, m, a, _, e => by
    have e : a = s := e
    subst e
    exact nrun_rt h hs _
  | i + 1, m, a, ha, e => by
    by_cases c : a = s
    · subst c
      exact nrun_rt h hs _
    · rw [Nat.add_right_comm]
      show (if a ≤ nstep n a then a else nrun n (i + m) (nstep n a)) = s
      have c2 : ¬ a ≤ nstep n a := Nat.not_le_of_lt (nstep_lt h (by omega))
      rw [if_neg c2]
      have e1 : mstep n a = nstep n a := if_neg c2
      have e : niter n i (mstep n a) = s := e
      rw [e1] at e
      exact nrun_of h hs i m _ (nstep_ge h (by omega)) e
theorem nrun_all {n s a : Nat} (h : IsRt n s) (hs : 0 < s) (ha : s ≤ a) (h4 : a ≤ 4 * s) (hb : s < 2 ^ 16383) : nrun n 200 a = s := by
  have e5 := half_it h hs 5 a 1 ha (by omega)
  have g5 := niter_ge h hs 5 a ha
  have z : (niter n 5 a - s - 2) * 32 ≤ 3 * s := by simpa using e5
  by_cases c : s < 8
  · have := last_it h hs g5 (by omega)
    rw [← niter_app n 5 2 a] at this
    exact nrun_of h hs 7 193 a ha this
  · obtain ⟨q, _⟩ := quad_it h (by omega) 12 (niter n 5 a) g5 (by omega)
    rw [← niter_app n 5 12 a] at q
    have e : pw 12 = 16383 := by decide
    rw [e] at q
    have g17 := niter_ge h hs 17 a ha
    have zero : niter n 17 a - s - 2 = 0 := by
      rcases Nat.eq_zero_or_pos (niter n 17 a - s - 2) with z | z
      · exact z
      · have := Nat.mul_le_mul_right (2 ^ 16383) (show 1 ≤ niter n 17 a - s - 2 from z)
        rw [Nat.one_mul] at this
        have := Nat.le_trans this q
        omega
    have := last_it h hs g17 (by omega)
    rw [← niter_app n 17 2 a] at this
    exact nrun_of h hs 19 181 a ha this
end My
set_option exponentiation.threshold 100000
namespace My
open PySem PySem.Spec PyProof.Rows L2
local macro_rules | `(tactic| walk_at "dl") => `(tactic| simp only [startD, List.map_cons, List.map_nil, List.length_cons, List.length_nil, List.cons_append, List.nil_append, List.replicate_succ, List.replicate_zero, List.getElem?_cons_zero, List.getElem?_cons_succ, List.set_cons_zero, List.set_cons_succ,
  dVar, rdS, dC, dNew, dOp, onB, qB, dChain, qAnd, qOr, qNot, qTru, truD, dIf, dAnd, dOr, dNot, dUn, ddNeg, lNil, lCons, dTup, nLst, ddI, ddI0, ddAdd, isNonD, isBlD, ddIsN, ddIsB, ddIx_t0, ddIx_t1, ddIx_t2, ddIx_t3, ddIx_l0, ddIx_l1, ddIx_l2, dCB, ddLen, ddInt1, ddAbs, ddMM, ddTuple, nCB, nnList, ddIsi, dCall,
  sSkip, sSeq, sBreak, sCont, sExpr, sRet, sRetN, sIf, sNever, gdName, gdNil, gdCons, gdTup, sAsg, sSetN, sPar, sRaise, sFrz, owS, sApp, sIns, dLenO, dIxO, sTry, sFor, iL, iT, onL, onT, iR1, iR2, nComp, qYes,
  ddEq_ii, ddEq_ss, ddEq_bb, Bool.false_bne, Bool.true_bne, List.append_nil, true_and, and_true, if_true, if_false, Bool.not_true, Bool.not_false, Bool.true_eq_false, Bool.false_eq_true, ite_true, ite_false, id_eq])

/-! ### roots -/
theorem fdiv_nat (m n : Nat) : (m : Int).fdiv (n : Int) = ((m / n : Nat) : Int) := by
  rw [Int.fdiv_eq_ediv_of_nonneg _ (by omega)]
  exact (Int.natCast_ediv m n).symm
theorem bits_of (n : Nat) (h : 0 < n) : Builtin.Int.intBits (n : Int) = n.log2 + 1 := by
  unfold Builtin.Int.intBits
  rw [if_neg (by simp; omega)]
  rfl
/-- small enough to be rooted -/
def Rb (n : Nat) : Prop := n.log2 < 16000
def m_floor_root : DF := fun ds Q _ => match ds with
  | [.int i] => 0 ≤ i ∧ Rb i.toNat ∧ ∀ s : Nat, IsRt i.toNat s → Q (.int s)
  | _ => False
theorem rt_lt {n s k : Nat} (h : IsRt n s) (hk : n < 2 ^ k * 2 ^ k) : s < 2 ^ k := Nat.lt_of_not_le fun z => by
  have := Nat.mul_le_mul z z
  have := h.1
  omega
theorem rt_ge {n s k : Nat} (h : IsRt n s) (hk : 2 ^ k * 2 ^ k ≤ n) : 2 ^ k ≤ s := Nat.le_of_not_lt fun z => by
  have := Nat.mul_le_mul (show s + 1 ≤ 2 ^ k from z) (show s + 1 ≤ 2 ^ k from z)
  have := h.2
  omega
/-- where the search begins -/
theorem start_ge {n s k : Nat} (h : IsRt n s) (hn : 0 < n) (hk : n.log2 + 1 ≤ 2 * k) : s < 2 ^ k := by
  refine rt_lt h ?_
  rw [← Nat.pow_add]
  exact Nat.lt_of_lt_of_le Nat.lt_log2_self (Nat.pow_le_pow_right (by decide) (by omega))
theorem start_le {n s k : Nat} (h : IsRt n s) (hn : 0 < n) (hk : 2 * k ≤ n.log2 + 4) : 2 ^ k ≤ 4 * s := by
  have hs : 0 < s := by
    rcases Nat.eq_zero_or_pos s with z | z
    · have := h.2
      rw [z] at this
      omega
    · exact z
  by_cases c : k < 2
  · have : 2 ^ k ≤ 2 ^ 2 := Nat.pow_le_pow_right (by decide) (by omega)
    omega
  · obtain ⟨j, rfl⟩ : ∃ j, k = j + 2 := ⟨k - 2, by omega⟩
    have : 2 ^ j ≤ s := by
      refine rt_ge h ?_
      rw [← Nat.pow_add]
      exact Nat.le_trans (Nat.pow_le_pow_right (by decide) (by omega)) (Nat.log2_self_le (by omega))
    rw [Nat.pow_add]
    omega
theorem div_small {g k : Nat} (hg : 0 < g) (h : g ≤ 2 ^ k) (hk : k < 9000) (i : Int) : CDivZ i (g : Int) := by
  refine ⟨by omega, ?_⟩
  rw [Int.natAbs_natCast]
  refine (Nat.log2_lt (by omega)).mpr (Nat.lt_of_le_of_lt h (Nat.pow_lt_pow_right (by decide) hk))
abbrev s_floor_root : Stmt := topS 16
abbrev N_floor_root : List Str := ["number", "guess", "following"]
abbrev P_floor_root : List Str := ["number"]
theorem sc_floor_root : FnScope N_floor_root P_floor_root (defScope s_floor_root) := ⟨rfl, rfl, rfl, by decide +kernel, rfl, by decide +kernel, by decide +kernel⟩

section
variable {P : Program} {w : World} {K : PySem.W.Frag} {mg : Str → Option Value} {base : Heap}
theorem shl_one (k : Nat) (hk : k < 9000) : CShl 1 (k : Int) := shl_ok (i := 1) (n := 1) (by decide) (by omega)
theorem two_sh (k : Nat) : (1 : Int) * 2 ^ k = ((2 ^ k : Nat) : Int) := by
  rw [Int.one_mul, Int.natCast_pow]
  rfl
theorem nstep_int (n a : Nat) : ((a : Int) + ((n / a : Nat) : Int)).fdiv 2 = (nstep n a : Int) := by
  rw [← Int.natCast_add]
  exact fdiv_nat _ 2
theorem cdiv2 (i : Int) : CDivZ i 2 := ⟨by decide, by decide⟩
theorem ok_floor_root (T : Txt K mg) : FnOk P w K mg base (L2N.CX P w) 1 T.dfloor_root.f T.dfloor_root.fd P_floor_root (spD K 1 m_floor_root) := by
  refine T.dfloor_root.okD sc_floor_root fun cdv A outer s H E so A0 hr tk hp => ⟨_, (pds_cons (pds_if (pdt_cmp op_lt ol_lt (pd_var (pv 0)) pd_int (nomark _))
        (pds_one (pds_ret (pd_var (pv 0))))
        pds_nil)
      (pds_cons (pds_set (i := 1) sc_floor_root.nd rfl (by first | exact .inl rfl | exact .inr rfl) (pd_op op_shlW ol_shl pd_int (pd_op op_fdivZ ol_fdiv (pd_op oo_add ol_add (pd_bits (pd_var (pv 0))) pd_int) pd_int)))
      (pds_cons (pds_set (i := 2) sc_floor_root.nd rfl (by first | exact .inl rfl | exact .inr rfl) (pd_op op_fdivZ ol_fdiv (pd_op oo_add ol_add (pd_var (pv 1)) (pd_op op_fdivZ ol_fdiv (pd_var (pv 0)) (pd_var (pv 1)))) pd_int))
      (pds_cons (pds_while hp (pdt_cmp op_lt ol_lt (pd_var (pv 2)) (pd_var (pv 1)) (nomark _))
        (pds_cons (pds_set (i := 1) sc_floor_root.nd rfl (by first | exact .inl rfl | exact .inr rfl) (pd_var (pv 2)))
        (pds_one (pds_set (i := 2) sc_floor_root.nd rfl (by first | exact .inl rfl | exact .inr rfl) (pd_op op_fdivZ ol_fdiv (pd_op oo_add ol_add (pd_var (pv 1)) (pd_op op_fdivZ ol_fdiv (pd_var (pv 0)) (pd_var (pv 1)))) pd_int)))))
      (pds_one (pds_ret (pd_var (pv 1)))))))), fun ds Q E hl h => ?_⟩
  unfold m_floor_root at h
  split at h
  · rename_i i
    obtain ⟨h0, hb, h⟩ := h
    obtain ⟨n, rfl⟩ : ∃ n : Nat, i = n := ⟨i.toNat, by omega⟩
    rw [Int.toNat_natCast] at hb h
    walk_at "dl"
    by_cases c : n < 2
    · rw [if_pos (by rw [decide_eq_true_iff]; omega)]
      exact h n (by
        have : n = 0 ∨ n = 1 := by omega
        rcases this with rfl | rfl <;> simp [IsRt])
    rw [if_neg (by rw [decide_eq_true_iff]; omega)]
    simp only [ddBits, bits_of n (by omega)]
    (try walk_at "dl")
    obtain ⟨r, hr⟩ := rt_ex n
    have ek : (((n.log2 + 1 : Nat) : Int) + 1).fdiv 2 = (((n.log2 + 2) / 2 : Nat) : Int) := by
      rw [show (((n.log2 + 1 : Nat) : Int) + 1) = ((n.log2 + 2 : Nat) : Int) by omega]
      exact fdiv_nat _ 2
    rw [ek]
    unfold Rb at hb
    have k1 : n.log2 + 1 ≤ 2 * ((n.log2 + 2) / 2) := by omega
    have k2 : (n.log2 + 2) / 2 < 9000 := by omega
    generalize (n.log2 + 2) / 2 = k at *
    have st := start_ge hr (by omega) k1
    rw [Int.toNat_natCast, two_sh]
    have gp : 0 < 2 ^ k := Nat.pow_pos (by decide)
    refine ⟨cdiv2 _, shl_one k k2, div_small gp (Nat.le_refl _) k2 _, cdiv2 _, ?_⟩
    rw [fdiv_nat, nstep_int]
    have r0 : 0 < r := by
      rcases Nat.eq_zero_or_pos r with z | z
      · have := hr.2
        rw [z] at this
        omega
      · exact z
    refine ⟨fun m ρ => ρ = [.fr (.int n), .fr (.int (m : Int)), .fr (.int (nstep n m : Int))] ∧ r ≤ m ∧ m ≤ 2 ^ k, ⟨2 ^ k, rfl, Nat.le_of_lt st, Nat.le_refl _⟩, ?_⟩
    rintro m ρ ⟨rfl, m1, m2⟩
    walk_at "dl"
    split
    · rename_i c
      have c : nstep n m < m := by
        have := of_decide_eq_true c
        omega
      have g := nstep_ge hr (a := m) (by omega)
      refine ⟨fun ρ' => ρ' = [.fr (.int n), .fr (.int (nstep n m : Int)), .fr (.int (nstep n (nstep n m) : Int))], ?_, ?_⟩
      · rintro ρ' rfl
        exact ⟨nstep n m, c, rfl, g, by omega⟩
      · refine ⟨div_small (by omega) (show nstep n m ≤ 2 ^ k by omega) k2 _, cdiv2 _, ?_⟩
        rw [fdiv_nat, nstep_int]
    · rename_i c
      have c : ¬ nstep n m < m := by
        intro z
        exact c (decide_eq_true (by omega))
      have : m = r := by
        rcases Nat.lt_or_ge r m with z | z
        · exact absurd (nstep_lt hr z) c
        · omega
      subst this
      exact h m hr
  · exact h.elim
end
end My
set_option exponentiation.threshold 100000
namespace My
open PySem PySem.Spec PyProof.Rows L2
local macro_rules | `(tactic| walk_at "dl") => `(tactic| simp only [startD, List.map_cons, List.map_nil, List.length_cons, List.length_nil, List.cons_append, List.nil_append, List.replicate_succ, List.replicate_zero, List.getElem?_cons_zero, List.getElem?_cons_succ, List.set_cons_zero, List.set_cons_succ,
  dVar, rdS, dC, dNew, dOp, onB, qB, dChain, qAnd, qOr, qNot, qTru, truD, dIf, dAnd, dOr, dNot, dUn, ddNeg, lNil, lCons, dTup, nLst, ddI, ddI0, ddAdd, isNonD, isBlD, ddIsN, ddIsB, ddIx_t0, ddIx_t1, ddIx_t2, ddIx_t3, ddIx_l0, ddIx_l1, ddIx_l2, dCB, ddLen, ddInt1, ddAbs, ddMM, ddTuple, nCB, nnList, ddIsi, dCall,
  sSkip, sSeq, sBreak, sCont, sExpr, sRet, sRetN, sIf, sNever, gdName, gdNil, gdCons, gdTup, sAsg, sSetN, sPar, sRaise, sFrz, owS, sApp, sIns, dLenO, dIxO, sTry, sFor, iL, iT, onL, onT, iR1, iR2, nComp, qYes,
  ddEq_ii, ddEq_ss, ddEq_bb, Bool.false_bne, Bool.true_bne, List.append_nil, true_and, and_true, if_true, if_false, Bool.not_true, Bool.not_false, Bool.true_eq_false, Bool.false_eq_true, ite_true, ite_false, id_eq])

/-! ### roots over Rat -/
noncomputable def rt (n : Nat) : Nat := (rt_ex n).choose
theorem rt_is (n : Nat) : IsRt n (rt n) := (rt_ex n).choose_spec
theorem rt_eq {n s : Nat} (h : IsRt n s) : rt n = s := (rt_is n).uniq h
theorem sq_num (r : Rat) : (r * r).num = r.num * r.num ∧ (r * r).den = r.den * r.den := by
  have e : r * r = r ^ 2 := by rw [Rat.pow_succ, Rat.pow_one]
  rw [e, Rat.num_pow, Rat.den_pow]
  constructor
  · rw [Int.pow_succ, Int.pow_succ, Int.pow_zero, Int.one_mul]
  · rw [Nat.pow_succ, Nat.pow_succ, Nat.pow_zero, Nat.one_mul]
theorem sq_rt {n x : Nat} (h : x * x = n) : rt n = x := rt_eq ⟨by omega, by
  have : (x + 1) * (x + 1) = x * x + 2 * x + 1 := by grind
  omega⟩
/-- the two roots of a ratio -/
theorem root_yes {p : Rat} (h0 : 0 ≤ p.num) (h1 : rt p.num.toNat * rt p.num.toNat = p.num.toNat) (h2 : rt p.den * rt p.den = p.den) : ∃ r : Rat, 0 ≤ r ∧ r * r = p ∧ rq r = ratD (rt p.num.toNat) (rt p.den) := by
  generalize hx : rt p.num.toNat = x at *
  generalize hy : rt p.den = y at *
  have y0 : y ≠ 0 := fun e => by
    rw [e] at h2
    have := p.den_pos
    omega
  have g : Nat.Coprime x y := by
    have c := p.reduced
    have e : p.num.natAbs = x * x := by omega
    rw [e, ← h2] at c
    refine Nat.dvd_one.mp ?_
    rw [← (show Nat.gcd (x * x) (y * y) = 1 from c)]
    exact Nat.dvd_gcd (Nat.dvd_mul_right_of_dvd (Nat.gcd_dvd_left x y) x) (Nat.dvd_mul_right_of_dvd (Nat.gcd_dvd_right x y) y)
  refine ⟨⟨x, y, y0, g⟩, ?_, ?_, rfl⟩
  · rw [← Rat.num_nonneg]
    exact Int.natCast_nonneg x
  · obtain ⟨e1, e2⟩ := sq_num ⟨x, y, y0, g⟩
    refine Rat.ext ?_ ?_
    · rw [e1]
      show (x : Int) * (x : Int) = p.num
      rw [← Int.natCast_mul]
      omega
    · rw [e2]
      exact h2
theorem root_no {p : Rat} (h : ¬ (0 ≤ p.num ∧ rt p.num.toNat * rt p.num.toNat = p.num.toNat ∧ rt p.den * rt p.den = p.den)) (r : Rat) : r * r ≠ p := fun e => by
  obtain ⟨e1, e2⟩ := sq_num r
  rw [e] at e1 e2
  have n0 : p.num = ((r.num.natAbs * r.num.natAbs : Nat) : Int) := by
    rw [e1, Int.natCast_mul]
    rcases Int.natAbs_eq r.num with z | z
    · rw [← z]
    · generalize (r.num.natAbs : Int) = k at *
      rw [z, Int.neg_mul_neg]
  have x : rt p.num.toNat = r.num.natAbs := sq_rt (by omega)
  have y : rt p.den = r.den := sq_rt e2.symm
  refine h ⟨by omega, ?_, ?_⟩
  · rw [x]
    omega
  · rw [y]
    exact e2.symm
theorem root_one {r s p : Rat} (h1 : 0 ≤ r) (h2 : 0 ≤ s) (e1 : r * r = p) (e2 : s * s = p) : r = s := by
  have z : (r - s) * (r + s) = 0 := by grind
  rcases Rat.mul_eq_zero.mp z with h | h
  · grind
  · have r0 : r = 0 := by
      refine Rat.le_antisymm ?_ h1
      have : r = -s := by grind
      rw [this]
      have := Rat.neg_le_neg h2
      simpa using this
    have s0 : s = 0 := by grind
    rw [r0, s0]
def m_root : DF := fun ds Q _ => ∃ p, ds = [rq p] ∧ (Bi 15000 p.num ∧ Bi 15000 (p.den : Int)) ∧ (∀ r : Rat, 0 ≤ r → r * r = p → Q (rq r)) ∧ ((∀ r : Rat, r * r ≠ p) → Q .non)
/-- the sign of p + f * root u -/
def rsQ (p f u : Rat) : Int := if sg p = 0 then sg (f * u) else if sg (f * u) = 0 ∨ sg (f * u) = sg p then sg p else sg p * sg (p * p - f * f * u)
def m_root_sign : DF := fun ds Q _ => ∃ p f u, ds = [rq p, rq f, rq u] ∧ 0 ≤ u ∧ (Sm1 p ∧ Sm1 f ∧ Sm1 u) ∧ Q (.int (rsQ p f u))
theorem sg_mul (f u : Rat) : sgn (f.num * u.num) = sg (f * u) := by
  have e : f * u = Rat.divInt (f.num * u.num) (f.den * u.den) := by rw [Rat.mul_def', ← Int.natCast_mul, Rat.divInt_ofNat]
  have := f.den_pos
  have := u.den_pos
  rw [e, sg_div (Int.mul_pos (by omega) (by omega))]
theorem sg_left (p f u : Rat) : sgn (p.num * p.num * f.den * f.den * u.den - f.num * f.num * u.num * p.den * p.den) = sg (p * p - f * f * u) := by
  have e : p * p - f * f * u = Rat.divInt (p.num * p.num * f.den * f.den * u.den - f.num * f.num * u.num * p.den * p.den) (p.den * p.den * (f.den * f.den * u.den)) := by
    have h1 : p * p = Rat.divInt (p.num * p.num) (p.den * p.den) := by rw [Rat.mul_def', ← Int.natCast_mul, Rat.divInt_ofNat]
    have h2 : f * f = Rat.divInt (f.num * f.num) (f.den * f.den) := by rw [Rat.mul_def', ← Int.natCast_mul, Rat.divInt_ofNat]
    have h3 : u = Rat.divInt u.num u.den := (Rat.num_divInt_den u).symm
    have d1 : (p.den : Int) * p.den ≠ 0 := den_ne p p
    have d2 : (f.den : Int) * f.den ≠ 0 := den_ne f f
    have d3 : (u.den : Int) ≠ 0 := SmR.den
    have h4 : f * f * u = Rat.divInt (f.num * f.num * u.num) (f.den * f.den * u.den) := by
      rw [h2]
      conv => lhs; rw [h3]
      rw [Rat.divInt_mul_divInt]
    rw [h1, h4, Rat.divInt_sub_divInt _ _ d1 (Int.mul_ne_zero d2 d3)]
    congr 1
    grind
  have := p.den_pos
  have := f.den_pos
  have := u.den_pos
  have c1 : 0 < (p.den : Int) * p.den := Int.mul_pos (by omega) (by omega)
  have c2 : 0 < (f.den : Int) * f.den * u.den := Int.mul_pos (Int.mul_pos (by omega) (by omega)) (by omega)
  rw [e, sg_div (Int.mul_pos c1 c2)]
abbrev s_root : Stmt := topS 25
abbrev N_root : List Str := ["one", "top", "bottom", "above", "below"]
abbrev P_root : List Str := ["one"]
theorem sc_root : FnScope N_root P_root (defScope s_root) := ⟨rfl, rfl, rfl, by decide +kernel, rfl, by decide +kernel, by decide +kernel⟩

abbrev s_root_sign : Stmt := topS 26
abbrev N_root_sign : List Str := ["plain", "factor", "under", "first", "second", "left", "right"]
abbrev P_root_sign : List Str := ["plain", "factor", "under"]
theorem sc_root_sign : FnScope N_root_sign P_root_sign (defScope s_root_sign) := ⟨rfl, rfl, rfl, by decide +kernel, rfl, by decide +kernel, by decide +kernel⟩

theorem Bi.rb {x : Int} (h : Bi 15000 x) : Rb x.toNat := by
  unfold Rb
  by_cases c : x.toNat = 0
  · rw [c]
    decide
  · refine (Nat.log2_lt c).mpr ?_
    exact Nat.lt_of_lt_of_le (show x.toNat < 2 ^ 15000 by unfold Bi at h; omega) (Nat.pow_le_pow_right (by decide) (by decide))
section
variable {P : Program} {w : World} {K : PySem.W.Frag} {mg : Str → Option Value} {base : Heap}
theorem ok_root (T : Txt K mg) : FnOk P w K mg base (L2N.CX P w) 5 T.droot.f T.droot.fd P_root (spD K 1 m_root) := by
  have G_need_ratio : FnOk P w K mg base (L2N.CX P w) 4 T.dneed_ratio.f T.dneed_ratio.fd P_need_ratio (spD K 2 (m_need_ratio T)) := ok_need_ratio T
  have G_floor_root : FnOk P w K mg base (L2N.CX P w) 1 T.dfloor_root.f T.dfloor_root.fd P_floor_root (spD K 1 m_floor_root) := ok_floor_root T
  refine T.droot.okD sc_root fun cdv A outer s H E so A0 hr tk hp => ⟨_, (pds_cons (pds_expr (pd_call G_need_ratio (hr.mono (by omega)) (by rfl) T.dneed_ratio.g T.dneed_ratio.F.kp T.dneed_ratio.b (fun σ => L2N.passAt tk σ) (pda_cons (pd_var (pv 0)) (pda_cons pd_str pda_nil))))
      (pds_cons (pds_asg (pd_var (pv 0)) (pdg_tup (n := 2) rfl (pdgs_cons (pdg_name (pg_name (i := 1) sc_root.nd rfl (by first | exact .inl rfl | exact .inr rfl))) (pdgs_cons (pdg_name (pg_name (i := 2) sc_root.nd rfl (by first | exact .inl rfl | exact .inr rfl))) pdgs_nil))))
      (pds_cons (pds_if (pdt_cmp op_lt ol_lt (pd_var (pv 1)) pd_int (nomark _))
        (pds_one (pds_ret pd_non))
        pds_nil)
      (pds_cons (pds_par (i := 3) (j := 4) (by rfl) sc_root.nd rfl rfl (by decide) rfl rfl (pda_cons (pd_call G_floor_root (hr.mono (by omega)) (by rfl) T.dfloor_root.g T.dfloor_root.F.kp T.dfloor_root.b (fun σ => L2N.passAt tk σ) (pda_cons (pd_var (pv 1)) pda_nil)) (pda_cons (pd_call G_floor_root (hr.mono (by omega)) (by rfl) T.dfloor_root.g T.dfloor_root.F.kp T.dfloor_root.b (fun σ => L2N.passAt tk σ) (pda_cons (pd_var (pv 2)) pda_nil)) pda_nil)) (by rfl))
      (pds_cons (pds_if (PDW.t (pdw_or (pdt_cmp (oo_ne hr.units) ol_ne (pd_op op_mulW ol_mul (pd_var (pv 3)) (pd_var (pv 3))) (pd_var (pv 1)) (nomark _)) (pdw_or1 (pdt_cmp (oo_ne hr.units) ol_ne (pd_op op_mulW ol_mul (pd_var (pv 4)) (pd_var (pv 4))) (pd_var (pv 2)) (nomark _)))))
        (pds_one (pds_ret pd_non))
        pds_nil)
      (pds_one (pds_ret (pd_tup (pda_cons (pd_var (pv 3)) (pda_cons (pd_var (pv 4)) pda_nil)))))))))), fun ds Q E hl h => ?_⟩
  obtain ⟨p, rfl, ⟨s1, s2⟩, hy, hn⟩ := h
  walk_at "dl"
  refine ⟨rat_pl (rq_rat p), fun e => (by rw [rq_rat] at e; cases e), fun _ => ?_⟩
  simp only [rq, ratD]
  walk_at "dl"
  by_cases ha : p.num < 0
  · rw [if_pos (decide_eq_true ha)]
    exact hn (root_no fun z => by omega)
  rw [if_neg (by rw [decide_eq_true_iff]; exact ha)]
  simp only [m_floor_root]
  refine ⟨by omega, s1.rb, fun x hx => ⟨by omega, s2.rb, fun y hy' => ?_⟩⟩
  rw [Int.toNat_natCast] at hy'
  have ex := rt_eq hx
  have ey := rt_eq hy'
  have bx : Bi 15000 (x : Int) := by
    have := hx.1
    have := Nat.le_mul_self x
    unfold Bi at s1
    unfold Bi
    rw [Int.natAbs_natCast]
    omega
  have bY : Bi 15000 (y : Int) := by
    have := hy'.1
    have := Nat.le_mul_self y
    unfold Bi at s2
    unfold Bi
    rw [Int.natAbs_natCast] at s2 ⊢
    omega
  (try walk_at "dl")
  refine ⟨bx.cm bx (by decide) (by decide) (by decide), ?_⟩
  have cx : ((x : Int) * (x : Int) = p.num) ↔ x * x = p.num.toNat := by
    rw [← Int.natCast_mul]
    omega
  have cy : ((y : Int) * (y : Int) = (p.den : Int)) ↔ y * y = p.den := by
    rw [← Int.natCast_mul]
    omega
  by_cases c1 : x * x = p.num.toNat
  · rw [if_neg (by rw [decide_eq_true (cx.mpr c1)]; decide)]
    refine ⟨bY.cm bY (by decide) (by decide) (by decide), ?_⟩
    by_cases c2 : y * y = p.den
    · rw [if_neg (by rw [decide_eq_true (cy.mpr c2)]; decide)]
      obtain ⟨r, r0, rr, er⟩ := root_yes (p := p) (by omega) (by rw [ex]; exact c1) (by rw [ey]; exact c2)
      have := hy r r0 rr
      rw [er, ex, ey] at this
      exact ⟨by show 2 ≤ sizeLine; decide, this⟩
    · rw [if_pos (by rw [decide_eq_false (fun z => c2 (cy.mp z))]; decide)]
      exact hn (root_no fun z => c2 (by rw [← ey]; exact z.2.2))
  · rw [if_pos (by rw [decide_eq_false (fun z => c1 (cx.mp z))]; decide)]
    exact hn (root_no fun z => c1 (by rw [← ex]; exact z.2.1))
theorem ok_root_sign (T : Txt K mg) : FnOk P w K mg base (L2N.CX P w) 5 T.droot_sign.f T.droot_sign.fd P_root_sign (spD K 3 m_root_sign) := by
  have G_need_ratio : FnOk P w K mg base (L2N.CX P w) 4 T.dneed_ratio.f T.dneed_ratio.fd P_need_ratio (spD K 2 (m_need_ratio T)) := ok_need_ratio T
  have G_sign_of : FnOk P w K mg base (L2N.CX P w) 1 T.dsign_of.f T.dsign_of.fd P_sign_of (spD K 1 m_sign_of) := ok_sign_of T
  refine T.droot_sign.okD sc_root_sign fun cdv A outer s H E so A0 hr tk hp => ⟨_, (pds_cons (pds_expr (pd_call G_need_ratio (hr.mono (by omega)) (by rfl) T.dneed_ratio.g T.dneed_ratio.F.kp T.dneed_ratio.b (fun σ => L2N.passAt tk σ) (pda_cons (pd_var (pv 0)) (pda_cons pd_str pda_nil))))
      (pds_cons (pds_expr (pd_call G_need_ratio (hr.mono (by omega)) (by rfl) T.dneed_ratio.g T.dneed_ratio.F.kp T.dneed_ratio.b (fun σ => L2N.passAt tk σ) (pda_cons (pd_var (pv 1)) (pda_cons pd_str pda_nil))))
      (pds_cons (pds_expr (pd_call G_need_ratio (hr.mono (by omega)) (by rfl) T.dneed_ratio.g T.dneed_ratio.F.kp T.dneed_ratio.b (fun σ => L2N.passAt tk σ) (pda_cons (pd_var (pv 2)) (pda_cons pd_str pda_nil))))
      (pds_cons (pds_if (pdt_cmp op_lt ol_lt (pd_ix ix_seq ol_ix (pd_var (pv 2)) pd_int (fun _ _ => rfl)) pd_int (nomark _))
        pds_never
        pds_nil)
      (pds_cons (pds_set (i := 3) sc_root_sign.nd rfl (by first | exact .inl rfl | exact .inr rfl) (pd_call G_sign_of (hr.mono (by omega)) (by rfl) T.dsign_of.g T.dsign_of.F.kp T.dsign_of.b (fun σ => L2N.passAt tk σ) (pda_cons (pd_ix ix_seq ol_ix (pd_var (pv 0)) pd_int (fun _ _ => rfl)) pda_nil)))
      (pds_cons (pds_set (i := 4) sc_root_sign.nd rfl (by first | exact .inl rfl | exact .inr rfl) (pd_call G_sign_of (hr.mono (by omega)) (by rfl) T.dsign_of.g T.dsign_of.F.kp T.dsign_of.b (fun σ => L2N.passAt tk σ) (pda_cons (pd_op op_mulW ol_mul (pd_ix ix_seq ol_ix (pd_var (pv 1)) pd_int (fun _ _ => rfl)) (pd_ix ix_seq ol_ix (pd_var (pv 2)) pd_int (fun _ _ => rfl))) pda_nil)))
      (pds_cons (pds_if (pdt_cmp (oo_eq hr.units) ol_eq (pd_var (pv 3)) pd_int (nomark _))
        (pds_one (pds_ret (pd_var (pv 4))))
        pds_nil)
      (pds_cons (pds_if (PDW.t (pdw_or (pdt_cmp (oo_eq hr.units) ol_eq (pd_var (pv 4)) pd_int (nomark _)) (pdw_or1 (pdt_cmp (oo_eq hr.units) ol_eq (pd_var (pv 4)) (pd_var (pv 3)) (nomark _)))))
        (pds_one (pds_ret (pd_var (pv 3))))
        pds_nil)
      (pds_cons (pds_set (i := 5) sc_root_sign.nd rfl (by first | exact .inl rfl | exact .inr rfl) (pd_op op_mulW ol_mul (pd_op op_mulW ol_mul (pd_op op_mulW ol_mul (pd_op op_mulW ol_mul (pd_ix ix_seq ol_ix (pd_var (pv 0)) pd_int (fun _ _ => rfl)) (pd_ix ix_seq ol_ix (pd_var (pv 0)) pd_int (fun _ _ => rfl))) (pd_ix ix_seq ol_ix (pd_var (pv 1)) pd_int (fun _ _ => rfl))) (pd_ix ix_seq ol_ix (pd_var (pv 1)) pd_int (fun _ _ => rfl))) (pd_ix ix_seq ol_ix (pd_var (pv 2)) pd_int (fun _ _ => rfl))))
      (pds_cons (pds_set (i := 6) sc_root_sign.nd rfl (by first | exact .inl rfl | exact .inr rfl) (pd_op op_mulW ol_mul (pd_op op_mulW ol_mul (pd_op op_mulW ol_mul (pd_op op_mulW ol_mul (pd_ix ix_seq ol_ix (pd_var (pv 1)) pd_int (fun _ _ => rfl)) (pd_ix ix_seq ol_ix (pd_var (pv 1)) pd_int (fun _ _ => rfl))) (pd_ix ix_seq ol_ix (pd_var (pv 2)) pd_int (fun _ _ => rfl))) (pd_ix ix_seq ol_ix (pd_var (pv 0)) pd_int (fun _ _ => rfl))) (pd_ix ix_seq ol_ix (pd_var (pv 0)) pd_int (fun _ _ => rfl))))
      (pds_one (pds_ret (pd_op op_mulW ol_mul (pd_var (pv 3)) (pd_call G_sign_of (hr.mono (by omega)) (by rfl) T.dsign_of.g T.dsign_of.F.kp T.dsign_of.b (fun σ => L2N.passAt tk σ) (pda_cons (pd_op op_sub ol_sub (pd_var (pv 5)) (pd_var (pv 6))) pda_nil))))))))))))))), fun ds Q E hl h => ?_⟩
  obtain ⟨p, f, u, rfl, u0, ⟨⟨p1, p2⟩, ⟨f1, f2⟩, ⟨u1, u2⟩⟩, k⟩ := h
  walk_at "dl"
  refine ⟨rat_pl (rq_rat p), fun e => (by rw [rq_rat] at e; cases e), fun _ => ⟨rat_pl (rq_rat f), fun e => (by rw [rq_rat] at e; cases e), fun _ => ⟨rat_pl (rq_rat u), fun e => (by rw [rq_rat] at e; cases e), fun _ => ?_⟩⟩⟩
  have un : ¬ u.num < 0 := by
    have := Rat.num_nonneg.mpr u0
    omega
  simp only [rq, ratD, m_sign_of]
  walk_at "dl"
  rw [if_neg (by rw [decide_eq_true_iff]; exact un)]
  have c : ∀ {x y : Int}, Bi 100000 x → Bi 100000 y → CMulW x y := fun h k => h.cm k (by decide) (by decide) (by decide)
  have b : ∀ {x : Int}, Bi 100000 x → Bi 100000 x := fun h => h
  refine ⟨c f1 u1, ?_⟩
  rw [sg_mul]
  unfold rsQ at k
  have e0 : sgn p.num = sg p := rfl
  rw [e0]
  by_cases c0 : sg p = 0
  · rw [if_pos c0] at k
    rw [if_pos (decide_eq_true c0)]
    exact k
  rw [if_neg c0] at k
  rw [if_neg (by rw [decide_eq_true_iff]; exact c0)]
  by_cases c1 : sg (f * u) = 0
  · rw [if_pos (.inl c1)] at k
    rw [if_pos (decide_eq_true c1)]
    exact k
  rw [if_neg (by rw [decide_eq_true_iff]; exact c1)]
  by_cases c2 : sg (f * u) = sg p
  · rw [if_pos (.inr c2)] at k
    rw [if_pos (decide_eq_true c2)]
    exact k
  rw [if_neg (fun z => z.elim c1 c2)] at k
  rw [if_neg (by rw [decide_eq_true_iff]; exact c2)]
  have a1 := (b p1).mul (b p1)
  have a2 := a1.mul (b f2)
  have a3 := a2.mul (b f2)
  have d1 := (b f1).mul (b f1)
  have d2 := d1.mul (b u1)
  have d3 := d2.mul (b p2)
  have sm : ∀ q : Rat, Bi 1 (sg q) := fun q => by
    unfold Bi
    rcases sg_cases q with ⟨_, e⟩ | ⟨_, e⟩ | ⟨_, e⟩ <;> rw [e] <;> decide
  refine ⟨c p1 p1, a1.cm (b f2) (by decide) (by decide) (by decide), a2.cm (b f2) (by decide) (by decide) (by decide), a3.cm (b u2) (by decide) (by decide) (by decide), c f1 f1, d1.cm (b u1) (by decide) (by decide) (by decide), d2.cm (b p2) (by decide) (by decide) (by decide), d3.cm (b p2) (by decide) (by decide) (by decide), ?_⟩
  rw [sg_left]
  exact ⟨(sm p).cm (sm _) (by decide) (by decide) (by decide), k⟩
end
end My
set_option exponentiation.threshold 100000
namespace My
open PySem PySem.Spec PyProof.Rows L2
local macro_rules | `(tactic| walk_at "dl") => `(tactic| simp only [startD, List.map_cons, List.map_nil, List.length_cons, List.length_nil, List.cons_append, List.nil_append, List.replicate_succ, List.replicate_zero, List.getElem?_cons_zero, List.getElem?_cons_succ, List.set_cons_zero, List.set_cons_succ,
  dVar, rdS, dC, dNew, dOp, onB, qB, dChain, qAnd, qOr, qNot, qTru, truD, dIf, dAnd, dOr, dNot, dUn, ddNeg, lNil, lCons, dTup, nLst, ddI, ddI0, ddAdd, isNonD, isBlD, ddIsN, ddIsB, ddIx_t0, ddIx_t1, ddIx_t2, ddIx_t3, ddIx_l0, ddIx_l1, ddIx_l2, dCB, ddLen, ddInt1, ddAbs, ddMM, ddTuple, nCB, nnList, ddIsi, dCall,
  sSkip, sSeq, sBreak, sCont, sExpr, sRet, sRetN, sIf, sNever, gdName, gdNil, gdCons, gdTup, sAsg, sSetN, sPar, sRaise, sFrz, owS, sApp, sIns, dLenO, dIxO, sTry, sFor, iL, iT, onL, onT, iR1, iR2, nComp, qYes,
  ddEq_ii, ddEq_ss, ddEq_bb, Bool.false_bne, Bool.true_bne, List.append_nil, true_and, and_true, if_true, if_false, Bool.not_true, Bool.not_false, Bool.true_eq_false, Bool.false_eq_true, ite_true, ite_false, id_eq])

/-! ### points -/
def pt (a b : Rat) : D := .tup [rq a, rq b]
def m_p2 (f : Rat → Rat → Rat) : DF := fun ds Q _ => ∃ a b c d, ds = [pt a b, pt c d] ∧ Ok2 a c ∧ Ok2 b d ∧ Q (pt (f a c) (f b d))
def m_ptimes : DF := fun ds Q _ => ∃ a b k, ds = [pt a b, rq k] ∧ Ok2 a k ∧ Ok2 b k ∧ Q (pt (a * k) (b * k))
def m_pmul : DF := fun ds Q _ => ∃ k a b, ds = [rq k, pt a b] ∧ Ok2 k a ∧ Ok2 k b ∧ Q (pt (k * a) (k * b))
def m_pdot : DF := fun ds Q _ => ∃ a b c d, ds = [pt a b, pt c d] ∧ Ok2 a c ∧ Ok2 b d ∧ Ok2 (a * c) (b * d) ∧ Q (rq (a * c + b * d))
def m_pcross : DF := fun ds Q _ => ∃ a b c d, ds = [pt a b, pt c d] ∧ Ok2 a d ∧ Ok2 b c ∧ Ok2 (a * d) (b * c) ∧ Q (rq (a * d - b * c))
def m_left : DF := fun ds Q _ => ∃ a b, ds = [pt a b] ∧ Q (pt (-b) a)
def m_psq : DF := fun ds Q _ => ∃ a b, ds = [pt a b] ∧ Ok2 a a ∧ Ok2 b b ∧ Ok2 (a * a) (b * b) ∧ Q (rq (a * a + b * b))
abbrev s_point_sum : Stmt := topS 31
abbrev N_point_sum : List Str := ["one", "other"]
abbrev P_point_sum : List Str := ["one", "other"]
theorem sc_point_sum : FnScope N_point_sum P_point_sum (defScope s_point_sum) := ⟨rfl, rfl, rfl, by decide +kernel, rfl, by decide +kernel, by decide +kernel⟩

abbrev s_point_gap : Stmt := topS 32
abbrev N_point_gap : List Str := ["one", "other"]
abbrev P_point_gap : List Str := ["one", "other"]
theorem sc_point_gap : FnScope N_point_gap P_point_gap (defScope s_point_gap) := ⟨rfl, rfl, rfl, by decide +kernel, rfl, by decide +kernel, by decide +kernel⟩

abbrev s_point_times : Stmt := topS 33
abbrev N_point_times : List Str := ["point", "factor"]
abbrev P_point_times : List Str := ["point", "factor"]
theorem sc_point_times : FnScope N_point_times P_point_times (defScope s_point_times) := ⟨rfl, rfl, rfl, by decide +kernel, rfl, by decide +kernel, by decide +kernel⟩

abbrev s_point_dot : Stmt := topS 34
abbrev N_point_dot : List Str := ["one", "other"]
abbrev P_point_dot : List Str := ["one", "other"]
theorem sc_point_dot : FnScope N_point_dot P_point_dot (defScope s_point_dot) := ⟨rfl, rfl, rfl, by decide +kernel, rfl, by decide +kernel, by decide +kernel⟩

abbrev s_point_cross : Stmt := topS 35
abbrev N_point_cross : List Str := ["one", "other"]
abbrev P_point_cross : List Str := ["one", "other"]
theorem sc_point_cross : FnScope N_point_cross P_point_cross (defScope s_point_cross) := ⟨rfl, rfl, rfl, by decide +kernel, rfl, by decide +kernel, by decide +kernel⟩

abbrev s_point_square : Stmt := topS 36
abbrev N_point_square : List Str := ["point"]
abbrev P_point_square : List Str := ["point"]
theorem sc_point_square : FnScope N_point_square P_point_square (defScope s_point_square) := ⟨rfl, rfl, rfl, by decide +kernel, rfl, by decide +kernel, by decide +kernel⟩

section
variable {P : Program} {w : World} {K : PySem.W.Frag} {mg : Str → Option Value} {base : Heap}
theorem ok_point_sum (T : Txt K mg) : FnOk P w K mg base (L2N.CX P w) 7 T.dpoint_sum.f T.dpoint_sum.fd P_point_sum (spD K 2 (m_p2 fun p q => p + q)) := by
  have G_add : FnOk P w K mg base (L2N.CX P w) 6 T.dadd.f T.dadd.fd P_add (spD K 2 (m_r2 fun p q => p + q)) := ok_add T
  refine T.dpoint_sum.okD sc_point_sum fun cdv A outer s H E so A0 hr tk hp => ⟨_, (pds_one (pds_ret (pd_tup (pda_cons (pd_call G_add (hr.mono (by omega)) (by rfl) T.dadd.g T.dadd.F.kp T.dadd.b (fun σ => L2N.passAt tk σ) (pda_cons (pd_ix ix_seq ol_ix (pd_var (pv 0)) pd_int (fun _ _ => rfl)) (pda_cons (pd_ix ix_seq ol_ix (pd_var (pv 1)) pd_int (fun _ _ => rfl)) pda_nil))) (pda_cons (pd_call G_add (hr.mono (by omega)) (by rfl) T.dadd.g T.dadd.F.kp T.dadd.b (fun σ => L2N.passAt tk σ) (pda_cons (pd_ix ix_seq ol_ix (pd_var (pv 0)) pd_int (fun _ _ => rfl)) (pda_cons (pd_ix ix_seq ol_ix (pd_var (pv 1)) pd_int (fun _ _ => rfl)) pda_nil))) pda_nil))))), fun ds Q E hl h => ?_⟩
  obtain ⟨a, b, c, d, rfl, o1, o2, h⟩ := h
  simp only [pt]
  walk_at "dl"
  exact ⟨_, _, rfl, o1, _, _, rfl, o2, by show 2 ≤ sizeLine; decide, h⟩
theorem ok_point_gap (T : Txt K mg) : FnOk P w K mg base (L2N.CX P w) 7 T.dpoint_gap.f T.dpoint_gap.fd P_point_gap (spD K 2 (m_p2 fun p q => p - q)) := by
  have G_subtract : FnOk P w K mg base (L2N.CX P w) 6 T.dsubtract.f T.dsubtract.fd P_subtract (spD K 2 (m_r2 fun p q => p - q)) := ok_subtract T
  refine T.dpoint_gap.okD sc_point_gap fun cdv A outer s H E so A0 hr tk hp => ⟨_, (pds_one (pds_ret (pd_tup (pda_cons (pd_call G_subtract (hr.mono (by omega)) (by rfl) T.dsubtract.g T.dsubtract.F.kp T.dsubtract.b (fun σ => L2N.passAt tk σ) (pda_cons (pd_ix ix_seq ol_ix (pd_var (pv 0)) pd_int (fun _ _ => rfl)) (pda_cons (pd_ix ix_seq ol_ix (pd_var (pv 1)) pd_int (fun _ _ => rfl)) pda_nil))) (pda_cons (pd_call G_subtract (hr.mono (by omega)) (by rfl) T.dsubtract.g T.dsubtract.F.kp T.dsubtract.b (fun σ => L2N.passAt tk σ) (pda_cons (pd_ix ix_seq ol_ix (pd_var (pv 0)) pd_int (fun _ _ => rfl)) (pda_cons (pd_ix ix_seq ol_ix (pd_var (pv 1)) pd_int (fun _ _ => rfl)) pda_nil))) pda_nil))))), fun ds Q E hl h => ?_⟩
  obtain ⟨a, b, c, d, rfl, o1, o2, h⟩ := h
  simp only [pt]
  walk_at "dl"
  exact ⟨_, _, rfl, o1, _, _, rfl, o2, by show 2 ≤ sizeLine; decide, h⟩
theorem ok_point_times (T : Txt K mg) : FnOk P w K mg base (L2N.CX P w) 7 T.dpoint_times.f T.dpoint_times.fd P_point_times (spD K 2 m_ptimes) := by
  have G_multiply : FnOk P w K mg base (L2N.CX P w) 6 T.dmultiply.f T.dmultiply.fd P_multiply (spD K 2 (m_r2 fun p q => p * q)) := ok_multiply T
  refine T.dpoint_times.okD sc_point_times fun cdv A outer s H E so A0 hr tk hp => ⟨_, (pds_one (pds_ret (pd_tup (pda_cons (pd_call G_multiply (hr.mono (by omega)) (by rfl) T.dmultiply.g T.dmultiply.F.kp T.dmultiply.b (fun σ => L2N.passAt tk σ) (pda_cons (pd_ix ix_seq ol_ix (pd_var (pv 0)) pd_int (fun _ _ => rfl)) (pda_cons (pd_var (pv 1)) pda_nil))) (pda_cons (pd_call G_multiply (hr.mono (by omega)) (by rfl) T.dmultiply.g T.dmultiply.F.kp T.dmultiply.b (fun σ => L2N.passAt tk σ) (pda_cons (pd_ix ix_seq ol_ix (pd_var (pv 0)) pd_int (fun _ _ => rfl)) (pda_cons (pd_var (pv 1)) pda_nil))) pda_nil))))), fun ds Q E hl h => ?_⟩
  obtain ⟨a, b, k, rfl, o1, o2, h⟩ := h
  simp only [pt]
  walk_at "dl"
  exact ⟨_, _, rfl, o1, _, _, rfl, o2, by show 2 ≤ sizeLine; decide, h⟩
theorem ok_point_dot (T : Txt K mg) : FnOk P w K mg base (L2N.CX P w) 7 T.dpoint_dot.f T.dpoint_dot.fd P_point_dot (spD K 2 m_pdot) := by
  have G_add : FnOk P w K mg base (L2N.CX P w) 6 T.dadd.f T.dadd.fd P_add (spD K 2 (m_r2 fun p q => p + q)) := ok_add T
  have G_multiply : FnOk P w K mg base (L2N.CX P w) 6 T.dmultiply.f T.dmultiply.fd P_multiply (spD K 2 (m_r2 fun p q => p * q)) := ok_multiply T
  refine T.dpoint_dot.okD sc_point_dot fun cdv A outer s H E so A0 hr tk hp => ⟨_, (pds_one (pds_ret (pd_call G_add (hr.mono (by omega)) (by rfl) T.dadd.g T.dadd.F.kp T.dadd.b (fun σ => L2N.passAt tk σ) (pda_cons (pd_call G_multiply (hr.mono (by omega)) (by rfl) T.dmultiply.g T.dmultiply.F.kp T.dmultiply.b (fun σ => L2N.passAt tk σ) (pda_cons (pd_ix ix_seq ol_ix (pd_var (pv 0)) pd_int (fun _ _ => rfl)) (pda_cons (pd_ix ix_seq ol_ix (pd_var (pv 1)) pd_int (fun _ _ => rfl)) pda_nil))) (pda_cons (pd_call G_multiply (hr.mono (by omega)) (by rfl) T.dmultiply.g T.dmultiply.F.kp T.dmultiply.b (fun σ => L2N.passAt tk σ) (pda_cons (pd_ix ix_seq ol_ix (pd_var (pv 0)) pd_int (fun _ _ => rfl)) (pda_cons (pd_ix ix_seq ol_ix (pd_var (pv 1)) pd_int (fun _ _ => rfl)) pda_nil))) pda_nil))))), fun ds Q E hl h => ?_⟩
  obtain ⟨a, b, c, d, rfl, o1, o2, o3, h⟩ := h
  simp only [pt]
  walk_at "dl"
  exact ⟨_, _, rfl, o1, _, _, rfl, o2, _, _, rfl, o3, h⟩
theorem ok_point_cross (T : Txt K mg) : FnOk P w K mg base (L2N.CX P w) 7 T.dpoint_cross.f T.dpoint_cross.fd P_point_cross (spD K 2 m_pcross) := by
  have G_subtract : FnOk P w K mg base (L2N.CX P w) 6 T.dsubtract.f T.dsubtract.fd P_subtract (spD K 2 (m_r2 fun p q => p - q)) := ok_subtract T
  have G_multiply : FnOk P w K mg base (L2N.CX P w) 6 T.dmultiply.f T.dmultiply.fd P_multiply (spD K 2 (m_r2 fun p q => p * q)) := ok_multiply T
  refine T.dpoint_cross.okD sc_point_cross fun cdv A outer s H E so A0 hr tk hp => ⟨_, (pds_one (pds_ret (pd_call G_subtract (hr.mono (by omega)) (by rfl) T.dsubtract.g T.dsubtract.F.kp T.dsubtract.b (fun σ => L2N.passAt tk σ) (pda_cons (pd_call G_multiply (hr.mono (by omega)) (by rfl) T.dmultiply.g T.dmultiply.F.kp T.dmultiply.b (fun σ => L2N.passAt tk σ) (pda_cons (pd_ix ix_seq ol_ix (pd_var (pv 0)) pd_int (fun _ _ => rfl)) (pda_cons (pd_ix ix_seq ol_ix (pd_var (pv 1)) pd_int (fun _ _ => rfl)) pda_nil))) (pda_cons (pd_call G_multiply (hr.mono (by omega)) (by rfl) T.dmultiply.g T.dmultiply.F.kp T.dmultiply.b (fun σ => L2N.passAt tk σ) (pda_cons (pd_ix ix_seq ol_ix (pd_var (pv 0)) pd_int (fun _ _ => rfl)) (pda_cons (pd_ix ix_seq ol_ix (pd_var (pv 1)) pd_int (fun _ _ => rfl)) pda_nil))) pda_nil))))), fun ds Q E hl h => ?_⟩
  obtain ⟨a, b, c, d, rfl, o1, o2, o3, h⟩ := h
  simp only [pt]
  walk_at "dl"
  exact ⟨_, _, rfl, o1, _, _, rfl, o2, _, _, rfl, o3, h⟩
theorem ok_point_square (T : Txt K mg) : FnOk P w K mg base (L2N.CX P w) 8 T.dpoint_square.f T.dpoint_square.fd P_point_square (spD K 1 m_psq) := by
  have G_point_dot : FnOk P w K mg base (L2N.CX P w) 7 T.dpoint_dot.f T.dpoint_dot.fd P_point_dot (spD K 2 m_pdot) := ok_point_dot T
  refine T.dpoint_square.okD sc_point_square fun cdv A outer s H E so A0 hr tk hp => ⟨_, (pds_one (pds_ret (pd_call G_point_dot (hr.mono (by omega)) (by rfl) T.dpoint_dot.g T.dpoint_dot.F.kp T.dpoint_dot.b (fun σ => L2N.passAt tk σ) (pda_cons (pd_var (pv 0)) (pda_cons (pd_var (pv 0)) pda_nil))))), fun ds Q E hl h => ?_⟩
  obtain ⟨a, b, rfl, o1, o2, o3, h⟩ := h
  simp only [pt]
  walk_at "dl"
  exact ⟨_, _, _, _, rfl, o1, o2, o3, h⟩
end
end My
namespace My
open PySem PySem.Spec PyProof.Rows L2
local macro_rules | `(tactic| walk_at "dl") => `(tactic| simp only [startD, List.map_cons, List.map_nil, List.length_cons, List.length_nil, List.cons_append, List.nil_append, List.replicate_succ, List.replicate_zero, List.getElem?_cons_zero, List.getElem?_cons_succ, List.set_cons_zero, List.set_cons_succ,
  dVar, rdS, dC, dNew, dOp, onB, qB, dChain, qAnd, qOr, qNot, qTru, truD, dIf, dAnd, dOr, dNot, dUn, ddNeg, lNil, lCons, dTup, nLst, ddI, ddI0, ddAdd, isNonD, isBlD, ddIsN, ddIsB, ddIx_t0, ddIx_t1, ddIx_t2, ddIx_t3, ddIx_l0, ddIx_l1, ddIx_l2, dCB, ddLen, ddInt1, ddAbs, ddMM, ddTuple, nCB, nnList, ddIsi, dCall,
  sSkip, sSeq, sBreak, sCont, sExpr, sRet, sRetN, sIf, sNever, gdName, gdNil, gdCons, gdTup, sAsg, sSetN, sPar, sRaise, sFrz, owS, sApp, sIns, dLenO, dIxO, sTry, sFor, iL, iT, onL, onT, iR1, iR2, nComp, qYes,
  ddEq_ii, ddEq_ss, ddEq_bb, Bool.false_bne, Bool.true_bne, List.append_nil, true_and, and_true, if_true, if_false, Bool.not_true, Bool.not_false, Bool.true_eq_false, Bool.false_eq_true, ite_true, ite_false, id_eq])

/-! ### draws over data -/
def m_take : DF := fun ds Q _ => match ds with
  | [.sto, .int many] => many < BIG ∧ ∀ r : Int, 0 ≤ r → (r = 0 ∨ r < many) → Q (.int r)
  | _ => False
def m_between : DF := fun ds Q _ => match ds with
  | [.sto, .int low, .int high] => low ≤ high ∧ high - low < 1000000000 ∧ ∀ r : Int, low ≤ r → r ≤ high → Q (.int r)
  | _ => False
theorem sto2 {K : PySem.W.Frag} {so : Option Addr} {A : Hp} {i : Int} {vs : List V} (h : DaL K so A [.sto, .int i] vs) : ∃ s, vs = [.ref s, .int i] ∧ so = some s := by
  obtain ⟨v, w, rfl, ⟨s, rfl, e⟩, dw⟩ := h.two'
  cases dw
  exact ⟨s, rfl, e⟩
section
variable {P : Program} {w : World} {K : PySem.W.Frag} {mg : Str → Option Value} {base : Heap}
theorem takeD : ∀ vs H Q E, spD K 2 m_take vs H Q E → spTakeB K vs H Q E := fun vs H Q E h => by
  obtain ⟨so, A, ds, Qd, Ed, gd, hl, da, m, c, cx⟩ := h
  unfold m_take at m
  split at m
  · obtain ⟨s, rfl, e⟩ := sto2 da
    exact ⟨s, _, rfl, StoOk.store gd e, m.1, fun r H' h0 h1 x st => c (.int r) _ A H' (Ext.store gd e x st) rfl (m.2 r h0 h1)⟩
  · exact m.elim
theorem ok_takeD (T : Txt K mg) : FnOk P w K mg base (L2N.CX P w) 171 T.dtake.f T.dtake.fd P_take (spD K 2 m_take) := FnOk_cx (ok_takeB T) takeD
theorem ok_edgeD (T : Txt K mg) : FnOk P w K mg base (L2N.CX P w) 172 T.dedge.f T.dedge.fd P_edge (spD K 2 m_take) := FnOk_cx (ok_edge T) takeD
theorem ok_betweenD (T : Txt K mg) : FnOk P w K mg base (L2N.CX P w) 173 T.dbetween.f T.dbetween.fd P_between (spD K 3 m_between) := FnOk_cx (ok_between T) fun vs H Q E h => by
  obtain ⟨so, A, ds, Qd, Ed, gd, hl, da, m, c, cx⟩ := h
  unfold m_between at m
  split at m
  · obtain ⟨v, r, rfl, ⟨s, rfl, e⟩, d2⟩ := da
    obtain ⟨x, y, rfl, dx, dy⟩ := d2.two'
    cases dx
    cases dy
    exact ⟨s, _, _, rfl, StoOk.store gd e, m.1, m.2.1, fun r H' h0 h1 x st => c (.int r) _ A H' (Ext.store gd e x st) rfl (m.2.2 r h0 h1)⟩
  · exact m.elim
end
/-- at most n figures -/
def Dig (n : Nat) (x : Int) : Prop := x.natAbs < 10 ^ n
theorem Dig.up {n m : Nat} {x : Int} (h : Dig n x) (l : n ≤ m) : Dig m x := Nat.lt_of_lt_of_le h (Nat.pow_le_pow_right (by decide) l)
theorem p10 (n : Nat) : ((10 ^ n : Nat) : Int) = (10 : Int) ^ n := by
  rw [Int.natCast_pow]
  rfl
theorem p10_pos (n : Nat) : 1 ≤ 10 ^ n := Nat.pow_pos (by decide)
theorem Dig.small {n : Nat} {x : Int} (h : 1 ≤ n) (hx : x.natAbs ≤ 9) : Dig n x := by
  have : (10 : Nat) ^ 1 ≤ 10 ^ n := Nat.pow_le_pow_right (by decide) h
  unfold Dig
  omega
theorem big1000 : (10 : Nat) ^ 1000 < 2 ^ 4000 := by decide +kernel
theorem Dig.sm {n : Nat} {x : Int} (h : Dig n x) (l : n ≤ 1000) : Sm x := Nat.lt_trans (Nat.lt_of_lt_of_le h (Nat.pow_le_pow_right (by decide) l)) big1000
theorem Sm.log {x : Int} (h : Sm x) : x.natAbs.log2 < 9000 := Nat.lt_of_lt_of_le (PySem.Flt.log2_lt_of (by decide) h) (by decide)
def m_low : DF := fun ds Q _ => match ds with
  | [.int a, .int b] => b.natAbs.log2 < 9000 ∧ Q (if b = 0 then ratD 0 1 else lowD (a, b))
  | _ => False
abbrev s_low : Stmt := topS 54
abbrev N_low : List Str := ["up", "down", "one", "two", "rest"]
abbrev P_low : List Str := ["up", "down"]
theorem sc_low : FnScope N_low P_low (defScope s_low) := ⟨rfl, rfl, rfl, by decide +kernel, rfl, by decide +kernel, by decide +kernel⟩

/-- an item at a place that is not told -/
theorem ddIx_any {l : List D} {i : Int} {Q : D → Prop} (h0 : 0 ≤ i) (h1 : i < l.length) (q : ∀ d ∈ l, Q d) : ddIx (.lst l) (.int i) Q := by
  obtain ⟨j, rfl⟩ : ∃ j : Nat, i = j := ⟨i.toNat, by omega⟩
  have hj : j < l.length := by omega
  exact ⟨l[j], atI_nat (List.getElem?_eq_getElem hj), q _ (List.getElem_mem hj)⟩
theorem sgn_eq (a : Int) : (if decide (0 < a) = true then (1 : Int) else 0) - (if decide (a < 0) = true then 1 else 0) = sgn a := by
  unfold sgn
  by_cases h : 0 < a
  · have h2 : ¬ a < 0 := by omega
    simp [h, h2]
  · by_cases h2 : a < 0
    · simp [h, h2]
    · simp [h, h2]
section
variable {P : Program} {w : World} {K : PySem.W.Frag} {mg : Str → Option Value} {base : Heap}
theorem ok_low (T : Txt K mg) : FnOk P w K mg base (L2N.CX P w) 1 T.dlow.f T.dlow.fd P_low (spD K 2 m_low) := by
  refine T.dlow.okD sc_low fun cdv A outer s H E so A0 hr tk hp => ⟨_, (pds_cons (pds_if (pdt_cmp (oo_eq hr.units) ol_eq (pd_var (pv 1)) pd_int (nomark _))
        (pds_one (pds_ret (pd_tup (pda_cons pd_int (pda_cons pd_int pda_nil)))))
        pds_nil)
      (pds_cons (pds_set (i := 2) sc_low.nd rfl (by first | exact .inl rfl | exact .inr rfl) (pd_callB (c_max2 rfl) cl_max2 (by rfl) T.m_max bt_max (pda_cons (pd_var (pv 0)) (pda_cons (pd_neg (pd_var (pv 0))) pda_nil))))
      (pds_cons (pds_set (i := 3) sc_low.nd rfl (by first | exact .inl rfl | exact .inr rfl) (pd_callB (c_max2 rfl) cl_max2 (by rfl) T.m_max bt_max (pda_cons (pd_var (pv 1)) (pda_cons (pd_neg (pd_var (pv 1))) pda_nil))))
      (pds_cons (pds_while hp (pdt_cmp op_gt ol_gt (pd_var (pv 3)) pd_int (nomark _))
        (pds_cons (pds_set (i := 4) sc_low.nd rfl (by first | exact .inl rfl | exact .inr rfl) (pd_op op_modN ol_mod (pd_callTy c_int1 cl_int1 (by rfl) T.m_int bt_int (pda_cons (pd_var (pv 2)) pda_nil)) (pd_var (pv 3))))
        (pds_cons (pds_set (i := 2) sc_low.nd rfl (by first | exact .inl rfl | exact .inr rfl) (pd_var (pv 3)))
        (pds_one (pds_set (i := 3) sc_low.nd rfl (by first | exact .inl rfl | exact .inr rfl) (pd_var (pv 4)))))))
      (pds_cons (pds_if (pdt_cmp op_lt ol_lt (pd_var (pv 1)) pd_int (nomark _))
        (pds_one (pds_set (i := 2) sc_low.nd rfl (by first | exact .inl rfl | exact .inr rfl) (pd_neg (pd_var (pv 2)))))
        pds_nil)
      (pds_one (pds_ret (pd_tup (pda_cons (pd_op op_fdivZ ol_fdiv (pd_var (pv 0)) (pd_var (pv 2))) (pda_cons (pd_op op_fdivZ ol_fdiv (pd_var (pv 1)) (pd_var (pv 2))) pda_nil)))))))))), fun ds Q E hl h => ?_⟩
  unfold m_low at h
  split at h
  · rename_i a b
    obtain ⟨hz, h⟩ := h
    walk_at "dl"
    by_cases b0 : b = 0
    · rw [if_pos b0] at h
      rw [decide_eq_true b0]
      walk_at "dl"
      exact ⟨by show 2 ≤ sizeLine; decide, h⟩
    rw [if_neg b0] at h
    rw [decide_eq_false b0]
    walk_at "dl"
    obtain ⟨f1, f2⟩ := low_div a b b0
    obtain ⟨c1, c2⟩ := gcd_bits (a := a) b0 hz a b
    have mn : ∀ i : Int, (if i < -i then -i else i) = (i.natAbs : Int) := fun i => by split <;> omega
    rw [mn, mn]
    refine ⟨fun m ρ => ∃ (x : Nat) (z : Sl), ρ = [.fr (.int a), .fr (.int b), .fr (.int (x : Int)), .fr (.int (m : Int)), z] ∧ Nat.gcd x m = G2 a b, ⟨b.natAbs, a.natAbs, .no, rfl, rfl⟩, ?_⟩
    rintro m ρ ⟨x, z, rfl, hg⟩
    walk_at "dl"
    split
    · rename_i c
      have hm : 0 < m := by
        have := of_decide_eq_true c
        omega
      refine ⟨fun ρ' => ∃ (x : Nat) (z : Sl), ρ' = [.fr (.int a), .fr (.int b), .fr (.int (m : Int)), .fr (.int (x : Int)), z] ∧ Nat.gcd m x = G2 a b ∧ x < m, ?_, ?_⟩
      · rintro ρ' ⟨y, z, e1, e2, e3⟩
        exact ⟨y, e3, m, z, e1, e2⟩
      · refine ⟨by omega, ?_⟩
        rw [fmod_nat x m hm]
        exact ⟨x % m, _, rfl, by rw [gcd_step]; exact hg, Nat.mod_lt x hm⟩
    · rename_i c
      have hm : m = 0 := by
        have : ¬ (0 : Int) < m := by simpa using c
        omega
      subst hm
      rw [Nat.gcd_zero_right] at hg
      subst hg
      split
      · rename_i c
        have c : b < 0 := by simpa using c
        rw [if_pos c] at c1 c2 f1 f2
        refine ⟨c1, c2, (by show 2 ≤ sizeLine; decide), ?_⟩
        rw [f1, f2]
        exact h
      · rename_i c
        have c : ¬ b < 0 := by simpa using c
        rw [if_neg c] at c1 c2 f1 f2
        refine ⟨c1, c2, (by show 2 ≤ sizeLine; decide), ?_⟩
        rw [f1, f2]
        exact h
  · exact h.elim
end
end My
set_option exponentiation.threshold 100000
namespace My
open PySem PySem.Spec PyProof.Rows L2
local macro_rules | `(tactic| walk_at "dl") => `(tactic| simp only [startD, List.map_cons, List.map_nil, List.length_cons, List.length_nil, List.cons_append, List.nil_append, List.replicate_succ, List.replicate_zero, List.getElem?_cons_zero, List.getElem?_cons_succ, List.set_cons_zero, List.set_cons_succ,
  dVar, rdS, dC, dNew, dOp, onB, qB, dChain, qAnd, qOr, qNot, qTru, truD, dIf, dAnd, dOr, dNot, dUn, ddNeg, lNil, lCons, dTup, nLst, ddI, ddI0, ddAdd, isNonD, isBlD, ddIsN, ddIsB, ddIx_t0, ddIx_t1, ddIx_t2, ddIx_t3, ddIx_l0, ddIx_l1, ddIx_l2, dCB, ddLen, ddInt1, ddAbs, ddMM, ddTuple, nCB, nnList, ddIsi, dCall,
  sSkip, sSeq, sBreak, sCont, sExpr, sRet, sRetN, sIf, sNever, gdName, gdNil, gdCons, gdTup, sAsg, sSetN, sPar, sRaise, sFrz, owS, sApp, sIns, dLenO, dIxO, sTry, sFor, iL, iT, onL, onT, iR1, iR2, nComp, qYes,
  ddEq_ii, ddEq_ss, ddEq_bb, Bool.false_bne, Bool.true_bne, List.append_nil, true_and, and_true, if_true, if_false, Bool.not_true, Bool.not_false, Bool.true_eq_false, Bool.false_eq_true, ite_true, ite_false, id_eq])

def m_sgn : DF := fun ds Q _ => match ds with
  | [.tup (.int a :: _)] => Q (.int (sgn a))
  | _ => False
abbrev s_plus : Stmt := topS 55
abbrev N_plus : List Str := ["one", "two"]
abbrev P_plus : List Str := ["one", "two"]
theorem sc_plus : FnScope N_plus P_plus (defScope s_plus) := ⟨rfl, rfl, rfl, by decide +kernel, rfl, by decide +kernel, by decide +kernel⟩

abbrev s_minus : Stmt := topS 56
abbrev N_minus : List Str := ["one", "two"]
abbrev P_minus : List Str := ["one", "two"]
theorem sc_minus : FnScope N_minus P_minus (defScope s_minus) := ⟨rfl, rfl, rfl, by decide +kernel, rfl, by decide +kernel, by decide +kernel⟩

abbrev s_times : Stmt := topS 57
abbrev N_times : List Str := ["one", "two"]
abbrev P_times : List Str := ["one", "two"]
theorem sc_times : FnScope N_times P_times (defScope s_times) := ⟨rfl, rfl, rfl, by decide +kernel, rfl, by decide +kernel, by decide +kernel⟩

abbrev s_over : Stmt := topS 58
abbrev N_over : List Str := ["one", "two"]
abbrev P_over : List Str := ["one", "two"]
theorem sc_over : FnScope N_over P_over (defScope s_over) := ⟨rfl, rfl, rfl, by decide +kernel, rfl, by decide +kernel, by decide +kernel⟩

abbrev s_neg : Stmt := topS 59
abbrev N_neg : List Str := ["one"]
abbrev P_neg : List Str := ["one"]
theorem sc_neg : FnScope N_neg P_neg (defScope s_neg) := ⟨rfl, rfl, rfl, by decide +kernel, rfl, by decide +kernel, by decide +kernel⟩

abbrev s_sgn : Stmt := topS 60
abbrev N_sgn : List Str := ["one"]
abbrev P_sgn : List Str := ["one"]
theorem sc_sgn : FnScope N_sgn P_sgn (defScope s_sgn) := ⟨rfl, rfl, rfl, by decide +kernel, rfl, by decide +kernel, by decide +kernel⟩

abbrev s_cmp : Stmt := topS 61
abbrev N_cmp : List Str := ["one", "two"]
abbrev P_cmp : List Str := ["one", "two"]
theorem sc_cmp : FnScope N_cmp P_cmp (defScope s_cmp) := ⟨rfl, rfl, rfl, by decide +kernel, rfl, by decide +kernel, by decide +kernel⟩

abbrev s_padd : Stmt := topS 62
abbrev N_padd : List Str := ["one", "two"]
abbrev P_padd : List Str := ["one", "two"]
theorem sc_padd : FnScope N_padd P_padd (defScope s_padd) := ⟨rfl, rfl, rfl, by decide +kernel, rfl, by decide +kernel, by decide +kernel⟩

abbrev s_psub : Stmt := topS 63
abbrev N_psub : List Str := ["one", "two"]
abbrev P_psub : List Str := ["one", "two"]
theorem sc_psub : FnScope N_psub P_psub (defScope s_psub) := ⟨rfl, rfl, rfl, by decide +kernel, rfl, by decide +kernel, by decide +kernel⟩

abbrev s_pmul : Stmt := topS 64
abbrev N_pmul : List Str := ["by", "one"]
abbrev P_pmul : List Str := ["by", "one"]
theorem sc_pmul : FnScope N_pmul P_pmul (defScope s_pmul) := ⟨rfl, rfl, rfl, by decide +kernel, rfl, by decide +kernel, by decide +kernel⟩

abbrev s_pdot : Stmt := topS 65
abbrev N_pdot : List Str := ["one", "two"]
abbrev P_pdot : List Str := ["one", "two"]
theorem sc_pdot : FnScope N_pdot P_pdot (defScope s_pdot) := ⟨rfl, rfl, rfl, by decide +kernel, rfl, by decide +kernel, by decide +kernel⟩

abbrev s_pcross : Stmt := topS 66
abbrev N_pcross : List Str := ["one", "two"]
abbrev P_pcross : List Str := ["one", "two"]
theorem sc_pcross : FnScope N_pcross P_pcross (defScope s_pcross) := ⟨rfl, rfl, rfl, by decide +kernel, rfl, by decide +kernel, by decide +kernel⟩

abbrev s_pleft : Stmt := topS 67
abbrev N_pleft : List Str := ["one"]
abbrev P_pleft : List Str := ["one"]
theorem sc_pleft : FnScope N_pleft P_pleft (defScope s_pleft) := ⟨rfl, rfl, rfl, by decide +kernel, rfl, by decide +kernel, by decide +kernel⟩

abbrev s_psq : Stmt := topS 68
abbrev N_psq : List Str := ["one"]
abbrev P_psq : List Str := ["one"]
theorem sc_psq : FnScope N_psq P_psq (defScope s_psq) := ⟨rfl, rfl, rfl, by decide +kernel, rfl, by decide +kernel, by decide +kernel⟩

section
variable {P : Program} {w : World} {K : PySem.W.Frag} {mg : Str → Option Value} {base : Heap}
theorem ok_plus (T : Txt K mg) : FnOk P w K mg base (L2N.CX P w) 2 T.dplus.f T.dplus.fd P_plus (spD K 2 (m_r2 fun p q => p + q)) := by
  have G_low : FnOk P w K mg base (L2N.CX P w) 1 T.dlow.f T.dlow.fd P_low (spD K 2 m_low) := ok_low T
  refine T.dplus.okD sc_plus fun cdv A outer s H E so A0 hr tk hp => ⟨_, (pds_one (pds_ret (pd_call G_low (hr.mono (by omega)) (by rfl) T.dlow.g T.dlow.F.kp T.dlow.b (fun σ => L2N.passAt tk σ) (pda_cons (pd_op oo_add ol_add (pd_op op_mulW ol_mul (pd_ix ix_seq ol_ix (pd_var (pv 0)) pd_int (fun _ _ => rfl)) (pd_ix ix_seq ol_ix (pd_var (pv 1)) pd_int (fun _ _ => rfl))) (pd_op op_mulW ol_mul (pd_ix ix_seq ol_ix (pd_var (pv 1)) pd_int (fun _ _ => rfl)) (pd_ix ix_seq ol_ix (pd_var (pv 0)) pd_int (fun _ _ => rfl)))) (pda_cons (pd_op op_mulW ol_mul (pd_ix ix_seq ol_ix (pd_var (pv 0)) pd_int (fun _ _ => rfl)) (pd_ix ix_seq ol_ix (pd_var (pv 1)) pd_int (fun _ _ => rfl))) pda_nil))))), fun ds Q E hl h => ?_⟩
  obtain ⟨p, q, rfl, ok, h⟩ := h
  simp only [rq, ratD, m_low]
  walk_at "dl"
  obtain ⟨c1, c2, c3, c4, c5, c6⟩ := ok.cm
  refine ⟨c2, c3, c4, c6, ?_⟩
  rw [if_neg (den_ne p q), rq_add]
  exact h
theorem ok_minus (T : Txt K mg) : FnOk P w K mg base (L2N.CX P w) 2 T.dminus.f T.dminus.fd P_minus (spD K 2 (m_r2 fun p q => p - q)) := by
  have G_low : FnOk P w K mg base (L2N.CX P w) 1 T.dlow.f T.dlow.fd P_low (spD K 2 m_low) := ok_low T
  refine T.dminus.okD sc_minus fun cdv A outer s H E so A0 hr tk hp => ⟨_, (pds_one (pds_ret (pd_call G_low (hr.mono (by omega)) (by rfl) T.dlow.g T.dlow.F.kp T.dlow.b (fun σ => L2N.passAt tk σ) (pda_cons (pd_op op_sub ol_sub (pd_op op_mulW ol_mul (pd_ix ix_seq ol_ix (pd_var (pv 0)) pd_int (fun _ _ => rfl)) (pd_ix ix_seq ol_ix (pd_var (pv 1)) pd_int (fun _ _ => rfl))) (pd_op op_mulW ol_mul (pd_ix ix_seq ol_ix (pd_var (pv 1)) pd_int (fun _ _ => rfl)) (pd_ix ix_seq ol_ix (pd_var (pv 0)) pd_int (fun _ _ => rfl)))) (pda_cons (pd_op op_mulW ol_mul (pd_ix ix_seq ol_ix (pd_var (pv 0)) pd_int (fun _ _ => rfl)) (pd_ix ix_seq ol_ix (pd_var (pv 1)) pd_int (fun _ _ => rfl))) pda_nil))))), fun ds Q E hl h => ?_⟩
  obtain ⟨p, q, rfl, ok, h⟩ := h
  simp only [rq, ratD, m_low]
  walk_at "dl"
  obtain ⟨c1, c2, c3, c4, c5, c6⟩ := ok.cm
  refine ⟨c2, c3, c4, c6, ?_⟩
  rw [if_neg (den_ne p q), rq_sub]
  exact h
theorem ok_times (T : Txt K mg) : FnOk P w K mg base (L2N.CX P w) 2 T.dtimes.f T.dtimes.fd P_times (spD K 2 (m_r2 fun p q => p * q)) := by
  have G_low : FnOk P w K mg base (L2N.CX P w) 1 T.dlow.f T.dlow.fd P_low (spD K 2 m_low) := ok_low T
  refine T.dtimes.okD sc_times fun cdv A outer s H E so A0 hr tk hp => ⟨_, (pds_one (pds_ret (pd_call G_low (hr.mono (by omega)) (by rfl) T.dlow.g T.dlow.F.kp T.dlow.b (fun σ => L2N.passAt tk σ) (pda_cons (pd_op op_mulW ol_mul (pd_ix ix_seq ol_ix (pd_var (pv 0)) pd_int (fun _ _ => rfl)) (pd_ix ix_seq ol_ix (pd_var (pv 1)) pd_int (fun _ _ => rfl))) (pda_cons (pd_op op_mulW ol_mul (pd_ix ix_seq ol_ix (pd_var (pv 0)) pd_int (fun _ _ => rfl)) (pd_ix ix_seq ol_ix (pd_var (pv 1)) pd_int (fun _ _ => rfl))) pda_nil))))), fun ds Q E hl h => ?_⟩
  obtain ⟨p, q, rfl, ok, h⟩ := h
  simp only [rq, ratD, m_low]
  walk_at "dl"
  obtain ⟨c1, c2, c3, c4, c5, c6⟩ := ok.cm
  refine ⟨c1, c4, c6, ?_⟩
  rw [if_neg (den_ne p q), rq_mul]
  exact h
theorem ok_over (T : Txt K mg) : FnOk P w K mg base (L2N.CX P w) 2 T.dover.f T.dover.fd P_over (spD K 2 m_div) := by
  have G_low : FnOk P w K mg base (L2N.CX P w) 1 T.dlow.f T.dlow.fd P_low (spD K 2 m_low) := ok_low T
  refine T.dover.okD sc_over fun cdv A outer s H E so A0 hr tk hp => ⟨_, (pds_one (pds_ret (pd_call G_low (hr.mono (by omega)) (by rfl) T.dlow.g T.dlow.F.kp T.dlow.b (fun σ => L2N.passAt tk σ) (pda_cons (pd_op op_mulW ol_mul (pd_ix ix_seq ol_ix (pd_var (pv 0)) pd_int (fun _ _ => rfl)) (pd_ix ix_seq ol_ix (pd_var (pv 1)) pd_int (fun _ _ => rfl))) (pda_cons (pd_op op_mulW ol_mul (pd_ix ix_seq ol_ix (pd_var (pv 0)) pd_int (fun _ _ => rfl)) (pd_ix ix_seq ol_ix (pd_var (pv 1)) pd_int (fun _ _ => rfl))) pda_nil))))), fun ds Q E hl h => ?_⟩
  obtain ⟨p, q, rfl, ⟨sp, sq, lg⟩, q0, h⟩ := h
  simp only [rq, ratD, m_low]
  walk_at "dl"
  have n0 : q.num ≠ 0 := fun e => q0 (Rat.num_eq_zero.mp e)
  refine ⟨sp.n.cm sq.d (by decide) (by decide) (by decide), sp.d.cm sq.n (by decide) (by decide) (by decide), by rw [Int.natAbs_mul]; exact lg, ?_⟩
  rw [if_neg (Int.mul_ne_zero SmR.den n0), rq_div q0]
  exact h
theorem ok_neg (T : Txt K mg) : FnOk P w K mg base (L2N.CX P w) 1 T.dneg.f T.dneg.fd P_neg (spD K 1 m_neg1) := by
  refine T.dneg.okD sc_neg fun cdv A outer s H E so A0 hr tk hp => ⟨_, (pds_one (pds_ret (pd_tup (pda_cons (pd_neg (pd_ix ix_seq ol_ix (pd_var (pv 0)) pd_int (fun _ _ => rfl))) (pda_cons (pd_ix ix_seq ol_ix (pd_var (pv 0)) pd_int (fun _ _ => rfl)) pda_nil))))), fun ds Q E hl h => ?_⟩
  obtain ⟨p, rfl, h⟩ := h
  simp only [rq, ratD]
  walk_at "dl"
  exact ⟨by show 2 ≤ sizeLine; decide, h⟩
theorem ok_sgn (T : Txt K mg) : FnOk P w K mg base (L2N.CX P w) 1 T.dsgn.f T.dsgn.fd P_sgn (spD K 1 m_sgn) := by
  refine T.dsgn.okD sc_sgn fun cdv A outer s H E so A0 hr tk hp => ⟨_, (pds_cons (pds_if (pdt_cmp op_gt ol_gt (pd_ix ix_seq ol_ix (pd_var (pv 0)) pd_int (fun _ _ => rfl)) pd_int (nomark _))
        (pds_one (pds_ret pd_int))
        pds_nil)
      (pds_cons (pds_if (pdt_cmp op_lt ol_lt (pd_ix ix_seq ol_ix (pd_var (pv 0)) pd_int (fun _ _ => rfl)) pd_int (nomark _))
        (pds_one (pds_ret (pd_neg pd_int)))
        pds_nil)
      (pds_one (pds_ret pd_int)))), fun ds Q E hl h => ?_⟩
  unfold m_sgn at h
  split at h
  · rename_i a l
    unfold sgn at h
    walk_at "dl"
    by_cases c : 0 < a
    · rw [if_pos c] at h
      rw [if_pos (decide_eq_true c)]
      exact h
    rw [if_neg c] at h
    rw [if_neg (by rw [decide_eq_true_iff]; exact c)]
    by_cases c : a < 0
    · rw [if_pos c] at h
      rw [if_pos (decide_eq_true c)]
      exact h
    rw [if_neg c] at h
    rw [if_neg (by rw [decide_eq_true_iff]; exact c)]
    exact h
  · exact h.elim
theorem ok_cmp (T : Txt K mg) : FnOk P w K mg base (L2N.CX P w) 2 T.dcmp.f T.dcmp.fd P_cmp (spD K 2 m_cmp2) := by
  have G_sgn : FnOk P w K mg base (L2N.CX P w) 1 T.dsgn.f T.dsgn.fd P_sgn (spD K 1 m_sgn) := ok_sgn T
  refine T.dcmp.okD sc_cmp fun cdv A outer s H E so A0 hr tk hp => ⟨_, (pds_one (pds_ret (pd_call G_sgn (hr.mono (by omega)) (by rfl) T.dsgn.g T.dsgn.F.kp T.dsgn.b (fun σ => L2N.passAt tk σ) (pda_cons (pd_tup (pda_cons (pd_op op_sub ol_sub (pd_op op_mulW ol_mul (pd_ix ix_seq ol_ix (pd_var (pv 0)) pd_int (fun _ _ => rfl)) (pd_ix ix_seq ol_ix (pd_var (pv 1)) pd_int (fun _ _ => rfl))) (pd_op op_mulW ol_mul (pd_ix ix_seq ol_ix (pd_var (pv 1)) pd_int (fun _ _ => rfl)) (pd_ix ix_seq ol_ix (pd_var (pv 0)) pd_int (fun _ _ => rfl)))) (pda_cons pd_int pda_nil))) pda_nil)))), fun ds Q E hl h => ?_⟩
  obtain ⟨p, q, rfl, ok, h⟩ := h
  simp only [rq, ratD, m_sgn]
  walk_at "dl"
  obtain ⟨c1, c2, c3, c4, c5, c6⟩ := ok.cm
  refine ⟨c2, c3, by show 2 ≤ sizeLine; decide, ?_⟩
  show Q (.int (sgn _))
  rw [sg_cmp]
  exact h
theorem ok_padd (T : Txt K mg) : FnOk P w K mg base (L2N.CX P w) 3 T.dpadd.f T.dpadd.fd P_padd (spD K 2 (m_p2 fun p q => p + q)) := by
  have G_plus : FnOk P w K mg base (L2N.CX P w) 2 T.dplus.f T.dplus.fd P_plus (spD K 2 (m_r2 fun p q => p + q)) := ok_plus T
  refine T.dpadd.okD sc_padd fun cdv A outer s H E so A0 hr tk hp => ⟨_, (pds_one (pds_ret (pd_tup (pda_cons (pd_call G_plus (hr.mono (by omega)) (by rfl) T.dplus.g T.dplus.F.kp T.dplus.b (fun σ => L2N.passAt tk σ) (pda_cons (pd_ix ix_seq ol_ix (pd_var (pv 0)) pd_int (fun _ _ => rfl)) (pda_cons (pd_ix ix_seq ol_ix (pd_var (pv 1)) pd_int (fun _ _ => rfl)) pda_nil))) (pda_cons (pd_call G_plus (hr.mono (by omega)) (by rfl) T.dplus.g T.dplus.F.kp T.dplus.b (fun σ => L2N.passAt tk σ) (pda_cons (pd_ix ix_seq ol_ix (pd_var (pv 0)) pd_int (fun _ _ => rfl)) (pda_cons (pd_ix ix_seq ol_ix (pd_var (pv 1)) pd_int (fun _ _ => rfl)) pda_nil))) pda_nil))))), fun ds Q E hl h => ?_⟩
  obtain ⟨a, b, c, d, rfl, o1, o2, h⟩ := h
  simp only [pt]
  walk_at "dl"
  exact ⟨_, _, rfl, o1, _, _, rfl, o2, by show 2 ≤ sizeLine; decide, h⟩
theorem ok_psub (T : Txt K mg) : FnOk P w K mg base (L2N.CX P w) 3 T.dpsub.f T.dpsub.fd P_psub (spD K 2 (m_p2 fun p q => p - q)) := by
  have G_minus : FnOk P w K mg base (L2N.CX P w) 2 T.dminus.f T.dminus.fd P_minus (spD K 2 (m_r2 fun p q => p - q)) := ok_minus T
  refine T.dpsub.okD sc_psub fun cdv A outer s H E so A0 hr tk hp => ⟨_, (pds_one (pds_ret (pd_tup (pda_cons (pd_call G_minus (hr.mono (by omega)) (by rfl) T.dminus.g T.dminus.F.kp T.dminus.b (fun σ => L2N.passAt tk σ) (pda_cons (pd_ix ix_seq ol_ix (pd_var (pv 0)) pd_int (fun _ _ => rfl)) (pda_cons (pd_ix ix_seq ol_ix (pd_var (pv 1)) pd_int (fun _ _ => rfl)) pda_nil))) (pda_cons (pd_call G_minus (hr.mono (by omega)) (by rfl) T.dminus.g T.dminus.F.kp T.dminus.b (fun σ => L2N.passAt tk σ) (pda_cons (pd_ix ix_seq ol_ix (pd_var (pv 0)) pd_int (fun _ _ => rfl)) (pda_cons (pd_ix ix_seq ol_ix (pd_var (pv 1)) pd_int (fun _ _ => rfl)) pda_nil))) pda_nil))))), fun ds Q E hl h => ?_⟩
  obtain ⟨a, b, c, d, rfl, o1, o2, h⟩ := h
  simp only [pt]
  walk_at "dl"
  exact ⟨_, _, rfl, o1, _, _, rfl, o2, by show 2 ≤ sizeLine; decide, h⟩
theorem ok_pmul (T : Txt K mg) : FnOk P w K mg base (L2N.CX P w) 3 T.dpmul.f T.dpmul.fd P_pmul (spD K 2 m_pmul) := by
  have G_times : FnOk P w K mg base (L2N.CX P w) 2 T.dtimes.f T.dtimes.fd P_times (spD K 2 (m_r2 fun p q => p * q)) := ok_times T
  refine T.dpmul.okD sc_pmul fun cdv A outer s H E so A0 hr tk hp => ⟨_, (pds_one (pds_ret (pd_tup (pda_cons (pd_call G_times (hr.mono (by omega)) (by rfl) T.dtimes.g T.dtimes.F.kp T.dtimes.b (fun σ => L2N.passAt tk σ) (pda_cons (pd_var (pv 0)) (pda_cons (pd_ix ix_seq ol_ix (pd_var (pv 1)) pd_int (fun _ _ => rfl)) pda_nil))) (pda_cons (pd_call G_times (hr.mono (by omega)) (by rfl) T.dtimes.g T.dtimes.F.kp T.dtimes.b (fun σ => L2N.passAt tk σ) (pda_cons (pd_var (pv 0)) (pda_cons (pd_ix ix_seq ol_ix (pd_var (pv 1)) pd_int (fun _ _ => rfl)) pda_nil))) pda_nil))))), fun ds Q E hl h => ?_⟩
  obtain ⟨k, a, b, rfl, o1, o2, h⟩ := h
  simp only [pt]
  walk_at "dl"
  exact ⟨_, _, rfl, o1, _, _, rfl, o2, by show 2 ≤ sizeLine; decide, h⟩
theorem ok_pdot (T : Txt K mg) : FnOk P w K mg base (L2N.CX P w) 3 T.dpdot.f T.dpdot.fd P_pdot (spD K 2 m_pdot) := by
  have G_plus : FnOk P w K mg base (L2N.CX P w) 2 T.dplus.f T.dplus.fd P_plus (spD K 2 (m_r2 fun p q => p + q)) := ok_plus T
  have G_times : FnOk P w K mg base (L2N.CX P w) 2 T.dtimes.f T.dtimes.fd P_times (spD K 2 (m_r2 fun p q => p * q)) := ok_times T
  refine T.dpdot.okD sc_pdot fun cdv A outer s H E so A0 hr tk hp => ⟨_, (pds_one (pds_ret (pd_call G_plus (hr.mono (by omega)) (by rfl) T.dplus.g T.dplus.F.kp T.dplus.b (fun σ => L2N.passAt tk σ) (pda_cons (pd_call G_times (hr.mono (by omega)) (by rfl) T.dtimes.g T.dtimes.F.kp T.dtimes.b (fun σ => L2N.passAt tk σ) (pda_cons (pd_ix ix_seq ol_ix (pd_var (pv 0)) pd_int (fun _ _ => rfl)) (pda_cons (pd_ix ix_seq ol_ix (pd_var (pv 1)) pd_int (fun _ _ => rfl)) pda_nil))) (pda_cons (pd_call G_times (hr.mono (by omega)) (by rfl) T.dtimes.g T.dtimes.F.kp T.dtimes.b (fun σ => L2N.passAt tk σ) (pda_cons (pd_ix ix_seq ol_ix (pd_var (pv 0)) pd_int (fun _ _ => rfl)) (pda_cons (pd_ix ix_seq ol_ix (pd_var (pv 1)) pd_int (fun _ _ => rfl)) pda_nil))) pda_nil))))), fun ds Q E hl h => ?_⟩
  obtain ⟨a, b, c, d, rfl, o1, o2, o3, h⟩ := h
  simp only [pt]
  walk_at "dl"
  exact ⟨_, _, rfl, o1, _, _, rfl, o2, _, _, rfl, o3, h⟩
theorem ok_pcross (T : Txt K mg) : FnOk P w K mg base (L2N.CX P w) 3 T.dpcross.f T.dpcross.fd P_pcross (spD K 2 m_pcross) := by
  have G_minus : FnOk P w K mg base (L2N.CX P w) 2 T.dminus.f T.dminus.fd P_minus (spD K 2 (m_r2 fun p q => p - q)) := ok_minus T
  have G_times : FnOk P w K mg base (L2N.CX P w) 2 T.dtimes.f T.dtimes.fd P_times (spD K 2 (m_r2 fun p q => p * q)) := ok_times T
  refine T.dpcross.okD sc_pcross fun cdv A outer s H E so A0 hr tk hp => ⟨_, (pds_one (pds_ret (pd_call G_minus (hr.mono (by omega)) (by rfl) T.dminus.g T.dminus.F.kp T.dminus.b (fun σ => L2N.passAt tk σ) (pda_cons (pd_call G_times (hr.mono (by omega)) (by rfl) T.dtimes.g T.dtimes.F.kp T.dtimes.b (fun σ => L2N.passAt tk σ) (pda_cons (pd_ix ix_seq ol_ix (pd_var (pv 0)) pd_int (fun _ _ => rfl)) (pda_cons (pd_ix ix_seq ol_ix (pd_var (pv 1)) pd_int (fun _ _ => rfl)) pda_nil))) (pda_cons (pd_call G_times (hr.mono (by omega)) (by rfl) T.dtimes.g T.dtimes.F.kp T.dtimes.b (fun σ => L2N.passAt tk σ) (pda_cons (pd_ix ix_seq ol_ix (pd_var (pv 0)) pd_int (fun _ _ => rfl)) (pda_cons (pd_ix ix_seq ol_ix (pd_var (pv 1)) pd_int (fun _ _ => rfl)) pda_nil))) pda_nil))))), fun ds Q E hl h => ?_⟩
  obtain ⟨a, b, c, d, rfl, o1, o2, o3, h⟩ := h
  simp only [pt]
  walk_at "dl"
  exact ⟨_, _, rfl, o1, _, _, rfl, o2, _, _, rfl, o3, h⟩
theorem ok_pleft (T : Txt K mg) : FnOk P w K mg base (L2N.CX P w) 2 T.dpleft.f T.dpleft.fd P_pleft (spD K 1 m_left) := by
  have G_neg : FnOk P w K mg base (L2N.CX P w) 1 T.dneg.f T.dneg.fd P_neg (spD K 1 m_neg1) := ok_neg T
  refine T.dpleft.okD sc_pleft fun cdv A outer s H E so A0 hr tk hp => ⟨_, (pds_one (pds_ret (pd_tup (pda_cons (pd_call G_neg (hr.mono (by omega)) (by rfl) T.dneg.g T.dneg.F.kp T.dneg.b (fun σ => L2N.passAt tk σ) (pda_cons (pd_ix ix_seq ol_ix (pd_var (pv 0)) pd_int (fun _ _ => rfl)) pda_nil)) (pda_cons (pd_ix ix_seq ol_ix (pd_var (pv 0)) pd_int (fun _ _ => rfl)) pda_nil))))), fun ds Q E hl h => ?_⟩
  obtain ⟨a, b, rfl, h⟩ := h
  simp only [pt]
  walk_at "dl"
  exact ⟨_, rfl, by show 2 ≤ sizeLine; decide, h⟩
theorem ok_psq (T : Txt K mg) : FnOk P w K mg base (L2N.CX P w) 4 T.dpsq.f T.dpsq.fd P_psq (spD K 1 m_psq) := by
  have G_pdot : FnOk P w K mg base (L2N.CX P w) 3 T.dpdot.f T.dpdot.fd P_pdot (spD K 2 m_pdot) := ok_pdot T
  refine T.dpsq.okD sc_psq fun cdv A outer s H E so A0 hr tk hp => ⟨_, (pds_one (pds_ret (pd_call G_pdot (hr.mono (by omega)) (by rfl) T.dpdot.g T.dpdot.F.kp T.dpdot.b (fun σ => L2N.passAt tk σ) (pda_cons (pd_var (pv 0)) (pda_cons (pd_var (pv 0)) pda_nil))))), fun ds Q E hl h => ?_⟩
  obtain ⟨a, b, rfl, o1, o2, o3, h⟩ := h
  simp only [pt]
  walk_at "dl"
  exact ⟨_, _, _, _, rfl, o1, o2, o3, h⟩
end
end My
namespace My
open PySem PySem.Spec PyProof.Rows L2
/-! ### x in a row of plain items -/
def vD : D → V
  | .bl b => .bl b
  | .int i => .int i
  | .str s => .str s
  | _ => .non
def flD : D → Bool
  | .non => true
  | .bl _ => true
  | .int _ => true
  | .str _ => true
  | _ => false
theorem Da.fl {K : PySem.W.Frag} {so : Option Addr} {A : Hp} : ∀ {d : D} {v : V}, flD d = true → Da K so A d v → v = vD d ∧ flatV v = true
  | .non, _, _, h => by cases h; exact ⟨rfl, rfl⟩
  | .bl _, _, _, h => by cases h; exact ⟨rfl, rfl⟩
  | .int _, _, _, h => by cases h; exact ⟨rfl, rfl⟩
  | .str _, _, _, h => by cases h; exact ⟨rfl, rfl⟩
  | .tup _, _, e, _ => by cases e
  | .lst _, _, e, _ => by cases e
  | .dct _ _, _, e, _ => by cases e
  | .ins _ _ _, _, e, _ => by cases e
  | .scr _, _, e, _ => by cases e
  | .sto, _, e, _ => by cases e
  | .exc _, _, e, _ => by cases e
  | .err _ _ _, _, e, _ => by cases e
theorem DaL.fl {K : PySem.W.Frag} {so : Option Addr} {A : Hp} : ∀ {l : List D} {xs : List V}, l.all flD = true → DaL K so A l xs → xs = l.map vD ∧ xs.all flatV = true
  | [], _, _, h => by
    have h : _ = _ := h
    subst h
    exact ⟨rfl, rfl⟩
  | d :: l, _, e, ⟨v, r, e1, h, q⟩ => by
    rw [List.all_cons, Bool.and_eq_true] at e
    obtain ⟨a, b⟩ := Da.fl e.1 h
    obtain ⟨c, d⟩ := DaL.fl e.2 q
    subst e1
    refine ⟨by rw [a, c]; rfl, by rw [List.all_cons, b, d]; rfl⟩
def ddIn : D2 := fun x y Q => ∃ l, (y = .tup l ∨ y = .lst l) ∧ flD x = true ∧ l.all flD = true ∧ Q (.bl (inV (vD x) (l.map vD)))
theorem ol_in {K : PySem.W.Frag} : OpL K (rIn K false) ddIn := by
  intro so A H x y v u Qd Q gd dx dy q c
  obtain ⟨l, hy, fx, fl, q⟩ := q
  obtain ⟨ex, fv⟩ := Da.fl fx dx
  rcases hy with rfl | rfl
  · obtain ⟨p, xs, rfl, hs, dl⟩ := dy
    obtain ⟨el, fa⟩ := DaL.fl fl dl
    refine ⟨p, xs, rfl, .inr (Sub.sqT gd.sub hs), fv, fa, ?_⟩
    rw [ex, el]
    exact c.nowB gd q
  · obtain ⟨p, xs, rfl, hs, dl⟩ := dy
    obtain ⟨el, fa⟩ := DaL.fl fl dl
    refine ⟨p, xs, rfl, .inl (SqL.of (gd.sub _ _ hs)), fv, fa, ?_⟩
    rw [ex, el]
    exact c.nowB gd q
/-! ### t[1:] of a tuple -/
def dTail (r : DE) : DE := fun ρ Q E => r ρ (fun d => onT d fun l => 2 ≤ l.length ∧ Q (.tup (l.drop 1))) E
section
variable {X : Cx} {g : Gx} {EX : EXT} {e ev : Expr} {es : List Expr} {ra rv : DE} {pos p p1 p2 kpos : Pos} {t : DL}
theorem pd_tail {j} (he : PD X g EX e ra) : PD X g EX (.Subscript e (.Slice (some (.Constant (.int 1) j p1)) none none p2) pos) (dTail ra) := ⟨(pe_slice sl_tupA he.pe (po_some pe_int) po_none).imp fun σ H Q h => by
  obtain ⟨A, ρ, Qd, Ed, S, h, c, cx⟩ := h
  refine ⟨A, ρ, _, Ed, S, h, fun d v A1 H1 x1 da q => ?_, cx⟩
  have q : onT d _ := q
  unfold onT at q
  split at q
  · obtain ⟨p, xs, rfl, hs, dl⟩ := da
    obtain ⟨hl, q⟩ := q
    have hx : 2 ≤ xs.length := by rw [dl.len]; exact hl
    have e1 : HT.sIx xs.length 0 (some (1 : Int)) = 1 := by
      rw [show (1 : Int) = ((1 : Nat) : Int) from rfl, HT.sIx_nat]
      omega
    refine ⟨1, rfl, p, xs, rfl, Sub.sqT x1.good.sub hs, fun z => ?_, fun _ p' hp' => ?_⟩
    · rw [e1] at z
      exact absurd z.1 (by decide)
    · have e2 : cutV xs (some (1 : Int)) none = xs.drop 1 := by
        unfold cutV
        rw [e1, HT.sIx_none, List.take_of_length_le]
        rw [List.length_drop]
        omega
      rw [e2]
      exact (c.ext x1).tup x1.good hp' (dl.drop 1) q
  · exact q.elim⟩
/-! ### f(e, .., k = v) -/
def tCallNS (n m : Nat) (sp : Sp) (gV : List V → List V → List V) (E : L2.St → XK) (t tk : TA) : TE := fun σ H Q => t σ H fun vs H1 => tk σ H1 fun zs H2 => vs.length = n ∧ zs.length = m ∧ sp (gV vs zs) H2 Q (E σ)
theorem pe_callNS {CX : CXT} {k n : Nat} {f : Addr} {fd : FuncData} {ps ks : List Str} {sp : Sp} {E : L2.St → XK} {x : Str} {kws : List Keyword} {t tk : TA} {g' : List Value → List Value → List Value} {gV : List V → List V → List V}
    (F : FnOk X.prog X.w X.K X.mg X.base CX k f fd ps sp) (hr : Room k X.A) (hg : Gl X x) (hm : X.mg x = some (.ref f)) (hk : PySem.W.keepIn X.K (.ref f) = true) (hb : KBn X.K fd ps n ks g' gV) (hx : ∀ σ, PassesAt CX X σ (E σ))
    (ha : PA X (e :: es) t) (hkw : PK X kws tk) (hall : (backToKw pos (keywordEach kws X.env)).all (·.1.isSome) = true := by rfl) (hks : (backToKw pos (keywordEach kws X.env)).filterMap (·.1) = ks := by rfl)
    (hdb : (x == ("__debug__" : Str)) = false := by decide) (he : starEach (e :: es) X.env = (false, eval e X.env) :: starEach es X.env := by rfl)
    (hpl : ((backTo pos (starEach (e :: es) X.env)).any (·.1) || (backToKw pos (keywordEach kws X.env)).any (·.1.isNone)) = false := by rfl) :
    PE X (.Call (.Name x p) (e :: es) kws pos) (tCallNS n ks.length sp gV E t tk) := by
  refine ⟨fun pins s σ H Q I h => ?_⟩
  refine wpAny_Call_Name_kw (ld_glob I hg hm ?_ hdb)
  refine PySem.W.callWith_KW (h₀ := X.base) I.ok.mod.kin hk hall (thn (ha.run pos pins s σ H _ I h) fun us s1 ⟨vs, H1, I1, r, q⟩ => ?_) hpl he
  refine thn (hkw.run pos pins s1 σ H1 _ I1 q) fun ws s2 ⟨zs, H2, I2, rz, l1, l2, q2⟩ => ⟨I2.kIn, ?_⟩
  rw [hks]
  have r2 := hb.rel r rz
  refine wpAny_call (codeAny_mono (F.run X.A X.stack s2 H2 ⟨us, ks.zip ws⟩ (g' us ws) (gV vs zs) Q (E σ) hr I2.env0 (hb.to s2 us ws I2.kIn (r.length.symm.trans l1) (rz.length.symm.trans l2)) r2 q2) fun r s' hq => ?_)
  cases r with
  | error e => exact hx σ pins H2 s2 e s' I2 hq
  | ok fl =>
    cases fl with
    | ret u => exact I2.after hq
    | next => exact False.elim hq
    | brk => exact False.elim hq
    | cont => exact False.elim hq
def dCallK (n : Nat) (m : DF) (t : DL) (rv : DE) : DE := fun ρ Q E => t ρ (fun ds => rv ρ (fun d => ds.length = n ∧ m (ds ++ [d]) Q E) E) E
theorem pd_callK {CX : CXT} {lv n : Nat} {f : Addr} {fd : FuncData} {ps : List Str} {m : DF} {x kn : Str} (F : FnOk X.prog X.w X.K X.mg X.base CX lv f fd ps (spD X.K (n + 1) m)) (hr : Room lv X.A) (hg : Gl X x) (hm : X.mg x = some (.ref f)) (hk : PySem.W.keepIn X.K (.ref f) = true)
    (hb : KBn X.K fd ps n [kn] (fun us ws => us ++ ws) (fun vs zs => vs ++ zs)) (hx : ∀ σ, PassesAt CX X σ (EX σ)) (ha : PDA X g EX (e :: es) t) (hv : PD X g EX ev rv)
    (hall : (backToKw pos (keywordEach [⟨some kn, ev, kpos⟩] X.env)).all (·.1.isSome) = true := by rfl) (hks : (backToKw pos (keywordEach [⟨some kn, ev, kpos⟩] X.env)).filterMap (·.1) = [kn] := by rfl)
    (hdb : (x == ("__debug__" : Str)) = false := by decide) (he : starEach (e :: es) X.env = (false, eval e X.env) :: starEach es X.env := by rfl)
    (hpl : ((backTo pos (starEach (e :: es) X.env)).any (·.1) || (backToKw pos (keywordEach [⟨some kn, ev, kpos⟩] X.env)).any (·.1.isNone)) = false := by rfl) :
    PD X g EX (.Call (.Name x p) (e :: es) [⟨some kn, ev, kpos⟩] pos) (dCallK n m t rv) := ⟨(pe_callNS F hr hg hm hk hb hx ha.pa (pk_cons hv.pe pk_nil) hall hks hdb he hpl).imp fun σ H Q h => by
  obtain ⟨A, ρ, Qd, Ed, S, h, c, cx⟩ := h
  refine ⟨A, ρ, _, Ed, S, h, fun ds vs A1 H1 x1 das q => ?_, cx⟩
  refine ⟨A1, ρ, _, Ed, S.ext x1, q, fun d v A2 H2 x2 da q2 => ?_, cx.ext x1⟩
  obtain ⟨hl, q2⟩ := q2
  exact ⟨by rw [das.len]; exact hl, rfl, g.so, A2, ds ++ [d], Qd, Ed, x2.good, by rw [List.length_append, hl]; rfl, (x2.daL das).app (DaL.one da), q2, (c.ext x1).ext x2, (cx.ext x1).ext x2⟩⟩
end
end My
namespace My
open PySem PySem.Spec PyProof.Rows L2
theorem sl0 : (0 ≤ sizeLine) = True := eq_true (by decide)
theorem sl1 : (0 + 1 ≤ sizeLine) = True := eq_true (by decide)
theorem sl2 : (0 + 1 + 1 ≤ sizeLine) = True := eq_true (by decide)
theorem sl3 : (0 + 1 + 1 + 1 ≤ sizeLine) = True := eq_true (by decide)
theorem sl4 : (0 + 1 + 1 + 1 + 1 ≤ sizeLine) = True := eq_true (by decide)
local macro_rules | `(tactic| walk_at "is") => `(tactic| simp only [plain_non, isIn_non_int, isIn_non_str, isIn_non_bool, isIn_non_list, isIn_non_tuple, isIn_non_dict, plain_bl, isIn_bl_int, isIn_bl_str, isIn_bl_bool, isIn_bl_list, isIn_bl_tuple, isIn_bl_dict, plain_int, isIn_int_int, isIn_int_str, isIn_int_bool, isIn_int_list, isIn_int_tuple, isIn_int_dict, plain_str, isIn_str_int, isIn_str_str, isIn_str_bool, isIn_str_list, isIn_str_tuple, isIn_str_dict, plain_tup, isIn_tup_int, isIn_tup_str, isIn_tup_bool, isIn_tup_list, isIn_tup_tuple, isIn_tup_dict, plain_lst, isIn_lst_int, isIn_lst_str, isIn_lst_bool, isIn_lst_list, isIn_lst_tuple, isIn_lst_dict, sl0, sl1, sl2, sl3, sl4, decide_true, decide_false, ddIsi, ddIsi2, true_and, if_true, if_false, Bool.false_eq_true, Bool.not_true, Bool.not_false, Bool.or_true, Bool.or_false, Bool.true_or, and_true])
local macro_rules | `(tactic| walk_at "wk") => `(tactic| ((try walk_at "dl"); (try walk_at "is"); (try walk_at "dl")))
/-! ### what is due -/
section
variable {X : Cx} {g : Gx} {EX : EXT} {e a b c : Expr} {es : List Expr} {ra rb : DE} {pos p pt : Pos} {T U : String}
def ddIsi2 (T U : String) (d : D) (Q : D → Prop) : Prop := plainD d = true ∧ Q (.bl (isIn d T || isIn d U))
theorem pd_isiT {k : Nat} (hg : Gl X "isinstance") (hm : X.mg "isinstance" = none) (ha : PD X g EX a ra) (hb : PE X b (tC (.ty T))) (hc : PE X c (tC (.ty U))) (hT : TyQ T) (hU : TyQ U)
    (he : starEach [a, .Tuple [b, c] k pt] X.env = (false, eval a X.env) :: starEach [.Tuple [b, c] k pt] X.env := by rfl)
    (hs : starEach [.Tuple [b, c] k pt] X.env = (false, eval (.Tuple [b, c] k pt) X.env) :: starEach [] X.env := by rfl)
    (h1 : starEach [b, c] X.env = (false, eval b X.env) :: starEach [c] X.env := by rfl) (h2 : starEach [c] X.env = (false, eval c X.env) :: starEach [] X.env := by rfl)
    (hpl : (backTo pos (starEach [.Tuple [b, c] k pt] X.env)).any (·.1) = false := by rfl) :
    PD X g EX (.Call (.Name "isinstance" p) [a, .Tuple [b, c] k pt] [] pos) (dUn (ddIsi2 T U) ra) :=
  ⟨(pe_callB call_isiT hg hm bt_isinstance (pa_cons ha.pe (pa_cons (pe_tup (pa_cons hb (pa_cons hc pa_nil h2) h1)) pa_nil hs) he) (by decide) (by decide) he hpl).imp fun σ H Q h => by
  obtain ⟨A, ρ, Qd, Ed, S, h, c, cx⟩ := h
  refine ⟨A, ρ, _, Ed, S, h, fun d v A1 H1 x1 da q => ?_, cx⟩
  have q : ddIsi2 T U d Qd := q
  refine ⟨by show 2 ≤ sizeLine; decide, fun tp hp => ?_⟩
  refine ⟨v, tp, _, _, _, isIn d T || isIn d U, rfl, upd_same, .cons (.ty T) (.cons (.ty U) .nil), da.ty (x1.trans (Ext.open_ x1.good hp)).good q.1, ?_, ?_⟩
  · refine kitAny_cons (kit_ty (hT.h d q.1)) (fun e => ?_) (fun e => by rw [e]; rfl)
    refine kitAny_cons (kit_ty (hU.h d q.1)) (fun e2 => ?_) (fun e2 => by rw [e2, Bool.or_true])
    rw [e, e2]
    exact kitAny_nil
  · exact c (.bl _) _ A1 _ (x1.trans (Ext.open_ x1.good hp)) rfl q.2⟩
end
local macro_rules | `(tactic| walk_at "dl") => `(tactic| simp only [startD, List.map_cons, List.map_nil, List.length_cons, List.length_nil, List.cons_append, List.nil_append, List.replicate_succ, List.replicate_zero, List.getElem?_cons_zero, List.getElem?_cons_succ, List.set_cons_zero, List.set_cons_succ,
  dVar, rdS, dC, dNew, dOp, onB, qB, dChain, qAnd, qOr, qNot, qTru, truD, dIf, dAnd, dOr, dNot, dUn, ddNeg, lNil, lCons, dTup, nLst, ddI, ddI0, ddAdd, isNonD, isBlD, ddIsN, ddIsB, ddIx_t0, ddIx_t1, ddIx_t2, ddIx_t3, ddIx_l0, ddIx_l1, ddIx_l2, dCB, ddLen, ddInt1, ddAbs, ddMM, ddTuple, nCB, nnList, ddIsi, dCall,
  sSkip, sSeq, sBreak, sCont, sExpr, sRet, sRetN, sIf, sNever, gdName, gdNil, gdCons, gdTup, sAsg, sSetN, sPar, sRaise, sFrz, owS, sApp, sIns, dLenO, dIxO, sTry, sFor, iL, iT, onL, onT, iR1, iR2, nComp, qYes,
  ddEq_ii, ddEq_ss, ddEq_bb, Bool.false_bne, Bool.true_bne, List.append_nil, true_and, and_true, if_true, if_false, Bool.not_true, Bool.not_false, Bool.true_eq_false, Bool.false_eq_true, ite_true, ite_false, id_eq])

theorem plain_non  : plainD D.non = true := rfl
theorem isIn_non_int  : isIn D.non "int" = false := rfl
theorem isIn_non_str  : isIn D.non "str" = false := rfl
theorem isIn_non_bool  : isIn D.non "bool" = false := rfl
theorem isIn_non_list  : isIn D.non "list" = false := rfl
theorem isIn_non_tuple  : isIn D.non "tuple" = false := rfl
theorem isIn_non_dict  : isIn D.non "dict" = false := rfl
theorem plain_bl (b : Bool) : plainD (.bl b) = true := rfl
theorem isIn_bl_int (b : Bool) : isIn (.bl b) "int" = true := by show ("int" == "bool" || "int" == "int") = true; decide +kernel
theorem isIn_bl_str (b : Bool) : isIn (.bl b) "str" = false := by show ("str" == "bool" || "str" == "int") = false; decide +kernel
theorem isIn_bl_bool (b : Bool) : isIn (.bl b) "bool" = true := by show ("bool" == "bool" || "bool" == "int") = true; decide +kernel
theorem isIn_bl_list (b : Bool) : isIn (.bl b) "list" = false := by show ("list" == "bool" || "list" == "int") = false; decide +kernel
theorem isIn_bl_tuple (b : Bool) : isIn (.bl b) "tuple" = false := by show ("tuple" == "bool" || "tuple" == "int") = false; decide +kernel
theorem isIn_bl_dict (b : Bool) : isIn (.bl b) "dict" = false := by show ("dict" == "bool" || "dict" == "int") = false; decide +kernel
theorem plain_int (i : Int) : plainD (.int i) = true := rfl
theorem isIn_int_int (i : Int) : isIn (.int i) "int" = true := by show ("int" == "int") = true; decide +kernel
theorem isIn_int_str (i : Int) : isIn (.int i) "str" = false := by show ("str" == "int") = false; decide +kernel
theorem isIn_int_bool (i : Int) : isIn (.int i) "bool" = false := by show ("bool" == "int") = false; decide +kernel
theorem isIn_int_list (i : Int) : isIn (.int i) "list" = false := by show ("list" == "int") = false; decide +kernel
theorem isIn_int_tuple (i : Int) : isIn (.int i) "tuple" = false := by show ("tuple" == "int") = false; decide +kernel
theorem isIn_int_dict (i : Int) : isIn (.int i) "dict" = false := by show ("dict" == "int") = false; decide +kernel
theorem plain_str (z : Str) : plainD (.str z) = true := rfl
theorem isIn_str_int (z : Str) : isIn (.str z) "int" = false := by show ("int" == "str") = false; decide +kernel
theorem isIn_str_str (z : Str) : isIn (.str z) "str" = true := by show ("str" == "str") = true; decide +kernel
theorem isIn_str_bool (z : Str) : isIn (.str z) "bool" = false := by show ("bool" == "str") = false; decide +kernel
theorem isIn_str_list (z : Str) : isIn (.str z) "list" = false := by show ("list" == "str") = false; decide +kernel
theorem isIn_str_tuple (z : Str) : isIn (.str z) "tuple" = false := by show ("tuple" == "str") = false; decide +kernel
theorem isIn_str_dict (z : Str) : isIn (.str z) "dict" = false := by show ("dict" == "str") = false; decide +kernel
theorem plain_tup (l : List D) : plainD (.tup l) = true := rfl
theorem isIn_tup_int (l : List D) : isIn (.tup l) "int" = false := by show ("int" == "tuple") = false; decide +kernel
theorem isIn_tup_str (l : List D) : isIn (.tup l) "str" = false := by show ("str" == "tuple") = false; decide +kernel
theorem isIn_tup_bool (l : List D) : isIn (.tup l) "bool" = false := by show ("bool" == "tuple") = false; decide +kernel
theorem isIn_tup_list (l : List D) : isIn (.tup l) "list" = false := by show ("list" == "tuple") = false; decide +kernel
theorem isIn_tup_tuple (l : List D) : isIn (.tup l) "tuple" = true := by show ("tuple" == "tuple") = true; decide +kernel
theorem isIn_tup_dict (l : List D) : isIn (.tup l) "dict" = false := by show ("dict" == "tuple") = false; decide +kernel
theorem plain_lst (l : List D) : plainD (.lst l) = true := rfl
theorem isIn_lst_int (l : List D) : isIn (.lst l) "int" = false := by show ("int" == "list") = false; decide +kernel
theorem isIn_lst_str (l : List D) : isIn (.lst l) "str" = false := by show ("str" == "list") = false; decide +kernel
theorem isIn_lst_bool (l : List D) : isIn (.lst l) "bool" = false := by show ("bool" == "list") = false; decide +kernel
theorem isIn_lst_list (l : List D) : isIn (.lst l) "list" = true := by show ("list" == "list") = true; decide +kernel
theorem isIn_lst_tuple (l : List D) : isIn (.lst l) "tuple" = false := by show ("tuple" == "list") = false; decide +kernel
theorem isIn_lst_dict (l : List D) : isIn (.lst l) "dict" = false := by show ("dict" == "list") = false; decide +kernel
local macro_rules | `(tactic| walk_at "is") => `(tactic| simp only [plain_non, isIn_non_int, isIn_non_str, isIn_non_bool, isIn_non_list, isIn_non_tuple, isIn_non_dict, plain_bl, isIn_bl_int, isIn_bl_str, isIn_bl_bool, isIn_bl_list, isIn_bl_tuple, isIn_bl_dict, plain_int, isIn_int_int, isIn_int_str, isIn_int_bool, isIn_int_list, isIn_int_tuple, isIn_int_dict, plain_str, isIn_str_int, isIn_str_str, isIn_str_bool, isIn_str_list, isIn_str_tuple, isIn_str_dict, plain_tup, isIn_tup_int, isIn_tup_str, isIn_tup_bool, isIn_tup_list, isIn_tup_tuple, isIn_tup_dict, plain_lst, isIn_lst_int, isIn_lst_str, isIn_lst_bool, isIn_lst_list, isIn_lst_tuple, isIn_lst_dict, ddIsi, ddIsi2, true_and, if_true, if_false, Bool.false_eq_true, Bool.not_true, Bool.not_false, Bool.or_true, Bool.or_false, Bool.true_or, and_true])
/-! ### the same data -/
mutual
/-- plain data no deeper than n, without dicts -/
def TreeD : Nat → D → Prop
  | 0, _ => False
  | n + 1, .tup l => l.length ≤ 1000000 ∧ ∀ d ∈ l, TreeD n d
  | n + 1, .lst l => l.length ≤ 1000000 ∧ ∀ d ∈ l, TreeD n d
  | _ + 1, .non => True
  | _ + 1, .bl _ => True
  | _ + 1, .int _ => True
  | _ + 1, .str _ => True
  | _, _ => False
end
theorem TreeD.plain : ∀ {n : Nat} {d : D}, TreeD n d → plainD d = true
  | 0, _, h => by unfold TreeD at h; exact h.elim
  | n + 1, d, h => by
    cases d <;> first | rfl | (unfold TreeD at h; exact h.elim)
theorem forL_inv {gr : DG} {body : DS} {DD : DEnds} (P : Nat → DEnv → Prop) : ∀ (ds : List D) (ρ : DEnv) (k : Nat),
    (∀ (i : Nat) (d : D) (ρ : DEnv) (R : DEnv → Prop), ds[i]? = some d → P (k + i) ρ → (∀ ρ', P (k + i + 1) ρ' → R ρ') → gr d ρ (fun ρ1 => body ⟨R, DD.rt, DD.nx, R, DD.ex, DD.fr⟩ ρ1)) →
    (∀ ρ, P (k + ds.length) ρ → DD.nx ρ) → P k ρ → forL gr body DD ds ρ
  | [], ρ, k, _, h2, h0 => h2 ρ h0
  | d :: ds, ρ, k, h1, h2, h0 => by
    refine h1 0 d ρ _ rfl h0 fun ρ' q => ?_
    refine forL_inv P ds ρ' (k + 1) (fun i e ρ R he hp hr => ?_) (fun ρ q => h2 ρ (by rw [List.length_cons]; rwa [Nat.add_assoc, Nat.add_comm 1] at q)) q
    refine h1 (i + 1) e ρ R (by rw [List.getElem?_cons_succ]; exact he) ?_ fun ρ' q => hr ρ' ?_
    · rwa [Nat.add_assoc, Nat.add_comm 1] at hp
    · rw [Nat.add_assoc k 1 i, Nat.add_comm 1 i]
      exact q
theorem rangeD_at {lo : Int} {n i : Nat} {d : D} (h : (rangeD lo n)[i]? = some d) : i < n ∧ d = .int (lo + (i : Nat)) := by
  unfold rangeD at h
  rw [List.getElem?_map] at h
  by_cases hi : i < n
  · rw [List.getElem?_range hi] at h
    exact ⟨hi, (Option.some.inj h).symm⟩
  · rw [List.getElem?_eq_none (by rw [List.length_range]; omega)] at h
    cases h
theorem ddIx_tup {l : List D} {i : Nat} {d : D} {Q : D → Prop} (h : l[i]? = some d) (q : Q d) : ddIx (.tup l) (.int (0 + (i : Nat))) Q := by
  refine ⟨d, ?_, q⟩
  rw [Int.zero_add]
  exact atI_nat h
theorem ddIx_lst {l : List D} {i : Nat} {d : D} {Q : D → Prop} (h : l[i]? = some d) (q : Q d) : ddIx (.lst l) (.int (0 + (i : Nat))) Q := by
  refine ⟨d, ?_, q⟩
  rw [Int.zero_add]
  exact atI_nat h
def m_same : Nat → DF
  | 0 => fun _ _ _ => False
  | n + 1 => fun ds Q _ => match ds with
    | [got, due] => TreeD (n + 1) got ∧ TreeD (n + 1) due ∧ ∀ b : Bool, (b = true ↔ got = due) → Q (.bl b)
    | _ => False
end My
namespace My
open PySem PySem.Spec PyProof.Rows L2
/-! ### list(range(n)), sorted(ints), x[:n] -/
def nListRg (r : DE) : DL := fun ρ Q E => r ρ (fun d => match d with
  | .int n => 0 ≤ n ∧ n ≤ 1000 ∧ Q (rangeD 0 n.toNat)
  | _ => False) E
theorem daL_rg {K : PySem.W.Frag} {so : Option Addr} {A : Hp} (n : Nat) : DaL K so A (rangeD 0 n) (rgV 0 (n : Int)) := by
  have e1 : rangeD 0 n = ((List.range n).map fun i => (0 : Int) + (i : Nat)).map D.int := by
    unfold rangeD
    rw [List.map_map]
    rfl
  have e2 : rgV 0 (n : Int) = ((List.range n).map fun i => (0 : Int) + (i : Nat)).map V.int := by
    unfold rgV
    rw [List.map_map, Int.sub_zero, Int.toNat_natCast]
    rfl
  rw [e1, e2]
  exact daL_ints _
def nnSorted : List D → (List D → Prop) → Prop := fun ds Q => match ds with
  | [.lst l] => ∃ ns : List Int, l = ns.map D.int ∧ ∀ ns' : List Int, ns'.Perm ns → ns'.Pairwise (· ≤ ·) → Q (ns'.map D.int)
  | _ => False
theorem daL_int_of {K : PySem.W.Frag} {so : Option Addr} {A : Hp} : ∀ {ns : List Int} {xs : List V}, DaL K so A (ns.map D.int) xs → xs = ns.map V.int
  | [], xs, h => h
  | n :: ns, xs, ⟨v, r, e, dv, dr⟩ => by
    have dv : v = .int n := dv
    rw [e, dv, daL_int_of dr]
    rfl
def nHeadE (r ru : DE) : DL := fun ρ Q E => r ρ (fun d => onL d fun l => ru ρ (fun u => match u with
  | .int k => 0 ≤ k ∧ Q (l.take k.toNat)
  | _ => False) E) E
theorem bt_sorted : bootBuiltins "sorted" = some (.builtin "sorted") := by kernel_rfl
section
variable {X : Cx} {g : Gx} {EX : EXT} {e u : Expr} {es : List Expr} {ra ru : DE} {pos p p2 : Pos} {t : DL}
theorem pdn_listRg {p1 pos1 : Pos} (hc : X.calm = true) (hg : Gl X "list") (hm : X.mg "list" = none) (hg2 : Gl X "range") (hm2 : X.mg "range" = none) (ha : PD X g EX e ra) (na : starEach [e] X.env = (false, eval e X.env) :: starEach [] X.env := by rfl)
    (nb : starEach [.Call (.Name "range" p1) [e] [] pos1] X.env = (false, eval (.Call (.Name "range" p1) [e] [] pos1) X.env) :: starEach [] X.env := by rfl) :
    PDN X g EX (.Call (.Name "list" p) [.Call (.Name "range" p1) [e] [] pos1] [] pos) (nListRg ra) := ⟨(pe_listRg hc hg hm (prg_1 hg2 hm2 ha.pe na) nb).imp fun σ H Q h => by
  obtain ⟨A, ρ, Qd, Ed, S, h, c, cx⟩ := h
  refine ⟨A, ρ, _, Ed, S, h, fun d v A1 H1 x1 da q => ?_, cx⟩
  dsimp only at q
  split at q
  · rename_i n
    obtain ⟨n0, n1, q⟩ := q
    have da : v = .int n := da
    subst da
    refine ⟨n, rfl, RgOk.of_le (by decide) (by omega) (by decide) n0, fun p' hp => ?_⟩
    obtain ⟨k, rfl⟩ : ∃ k : Nat, n = k := ⟨n.toNat, by omega⟩
    rw [Int.toNat_natCast] at q
    exact c _ _ p' A1 H1 x1 hp (daL_rg k) q
  · exact q.elim⟩
theorem pdn_sorted (hg : Gl X "sorted") (hm : X.mg "sorted" = none) (ha : PDA X g EX (e :: es) t)
    (he : starEach (e :: es) X.env = (false, eval e X.env) :: starEach es X.env := by rfl) (hpl : (backTo pos (starEach es X.env)).any (·.1) = false := by rfl) : PDN X g EX (.Call (.Name "sorted" p) (e :: es) [] pos) (nCB nnSorted t) :=
  ⟨(pe_callB cr_sortedI hg hm bt_sorted ha.pa (by decide) (by decide) he hpl).imp fun σ H Q h => by
  obtain ⟨A, ρ, Qd, Ed, S, h, c, cx⟩ := h
  refine ⟨A, ρ, _, Ed, S, h, fun ds vs A1 H1 x1 das q => ?_, cx⟩
  have q : nnSorted ds Qd := q
  unfold nnSorted at q
  split at q
  · obtain ⟨ns, el, qq⟩ := q
    subst el
    obtain ⟨v, rfl, pp, xs, rfl, hp, dl⟩ := das.one'
    rw [daL_int_of dl] at hp
    exact ⟨pp, ns, rfl, SqL.of (x1.good.sub _ _ hp), fun ns' p' h1 h2 hp' => c _ _ p' A1 H1 x1 hp' (daL_ints _) (qq ns' h1 h2)⟩
  · exact q.elim⟩
theorem pdn_headE (he : PD X g EX e ra) (hu : PD X g EX u ru) : PDN X g EX (.Subscript e (.Slice none (some u) none p2) pos) (nHeadE ra ru) := ⟨(pe_slice sl_list he.pe po_none (po_some hu.pe)).imp fun σ H Q h => by
  obtain ⟨A, ρ, Qd, Ed, S, h, c, cx⟩ := h
  refine ⟨A, ρ, _, Ed, S, h, fun d v A1 H1 x1 da q => ?_, cx⟩
  have q : onL d _ := q
  unfold onL at q
  split at q
  · obtain ⟨pp, xs, rfl, hs, dl⟩ := da
    refine ⟨A1, ρ, _, Ed, S.ext x1, q, fun d2 v2 A2 H2 x2 da2 q2 => ?_, cx.ext x1⟩
    dsimp only at q2
    split at q2
    · rename_i k
      obtain ⟨k0, q2⟩ := q2
      have da2 : v2 = .int k := da2
      subst da2
      refine ⟨k, rfl, pp, xs, rfl, SqL.of (x2.good.sub _ _ (x2.mono _ _ hs)), fun p' hp' => ?_⟩
      obtain ⟨m, rfl⟩ : ∃ m : Nat, k = m := ⟨k.toNat, by omega⟩
      have e : cutV xs none (some (m : Int)) = xs.take m := by
        unfold cutV
        rw [HT.sIx_none, HT.sIx_nat, List.drop_zero, Nat.sub_zero, List.take_eq_take_iff]
        omega
      rw [e]
      rw [Int.toNat_natCast] at q2
      exact c _ _ p' A2 H2 (x1.trans x2) hp' ((DaL.mono x2.mono _ _ dl).take m) q2
    · exact q2.elim
  · exact q.elim⟩
end
end My
set_option exponentiation.threshold 100000
namespace My
open PySem PySem.Spec PyProof.Rows L2
local macro_rules | `(tactic| walk_at "dl") => `(tactic| simp only [startD, List.map_cons, List.map_nil, List.length_cons, List.length_nil, List.cons_append, List.nil_append, List.replicate_succ, List.replicate_zero, List.getElem?_cons_zero, List.getElem?_cons_succ, List.set_cons_zero, List.set_cons_succ,
  dVar, rdS, dC, dNew, dOp, onB, qB, dChain, qAnd, qOr, qNot, qTru, truD, dIf, dAnd, dOr, dNot, dUn, ddNeg, lNil, lCons, dTup, nLst, ddI, ddI0, ddAdd, isNonD, isBlD, ddIsN, ddIsB, ddIx_t0, ddIx_t1, ddIx_t2, ddIx_t3, ddIx_l0, ddIx_l1, ddIx_l2, dCB, ddLen, ddInt1, ddAbs, ddMM, ddTuple, nCB, nnList, ddIsi, dCall,
  sSkip, sSeq, sBreak, sCont, sExpr, sRet, sRetN, sIf, sNever, gdName, gdNil, gdCons, gdTup, sAsg, sSetN, sPar, sRaise, sFrz, owS, sApp, sIns, dLenO, dIxO, sTry, sFor, iL, iT, onL, onT, iR1, iR2, nComp, qYes,
  ddEq_ii, ddEq_ss, ddEq_bb, Bool.false_bne, Bool.true_bne, List.append_nil, true_and, and_true, if_true, if_false, Bool.not_true, Bool.not_false, Bool.true_eq_false, Bool.false_eq_true, ite_true, ite_false, id_eq])

local macro_rules | `(tactic| walk_at "is") => `(tactic| simp only [plain_non, isIn_non_int, isIn_non_str, isIn_non_bool, isIn_non_list, isIn_non_tuple, isIn_non_dict, plain_bl, isIn_bl_int, isIn_bl_str, isIn_bl_bool, isIn_bl_list, isIn_bl_tuple, isIn_bl_dict, plain_int, isIn_int_int, isIn_int_str, isIn_int_bool, isIn_int_list, isIn_int_tuple, isIn_int_dict, plain_str, isIn_str_int, isIn_str_str, isIn_str_bool, isIn_str_list, isIn_str_tuple, isIn_str_dict, plain_tup, isIn_tup_int, isIn_tup_str, isIn_tup_bool, isIn_tup_list, isIn_tup_tuple, isIn_tup_dict, plain_lst, isIn_lst_int, isIn_lst_str, isIn_lst_bool, isIn_lst_list, isIn_lst_tuple, isIn_lst_dict, sl0, sl1, sl2, sl3, sl4, decide_true, decide_false, ddIsi, ddIsi2, true_and, if_true, if_false, Bool.false_eq_true, Bool.not_true, Bool.not_false, Bool.or_true, Bool.or_false, Bool.true_or, and_true])
local macro_rules | `(tactic| walk_at "wk") => `(tactic| ((try walk_at "dl"); (try walk_at "is"); (try walk_at "dl")))

/-! ### what may be asked, what is told -/
/-- data that is_point may be asked -/
def Pl2 (d : D) : Prop := Pl d ∧ ∀ l, d = .tup l → ∀ e ∈ l, Pl e
def isPt : D → Bool
  | .tup [x, y] => isRat x && isRat y
  | _ => false
def isPos (d : D) : Bool := isRat d && match d with
  | .tup (.int a :: _) => decide (0 < a)
  | _ => false
def isSd : D → Bool
  | .int i => decide (i = 1) || decide (i = -1)
  | _ => false
theorem side_in (i : Int) : inV (vD (.int i)) ([D.int 1, D.int (-1)].map vD) = isSd (.int i) := by
  have e : ∀ a b : Int, (a == b) = decide (b = a) := fun a b => by
    by_cases h : b = a
    · subst h
      simp
    · rw [decide_eq_false h]
      exact beq_false_of_ne fun z => h z.symm
  show ((1 == i) || (((-1 : Int) == i) || false)) = _
  rw [e, e, Bool.or_false]
  rfl
def m_is_point : DF := fun ds Q _ => match ds with
  | [d] => Pl2 d ∧ Q (.bl (isPt d))
  | _ => False
def m_is_positive : DF := fun ds Q _ => match ds with
  | [d] => Pl d ∧ Q (.bl (isPos d))
  | _ => False
def m_is_side : DF := fun ds Q _ => match ds with
  | [d] => plainD d = true ∧ Q (.bl (isSd d))
  | _ => False
section
variable {K : PySem.W.Frag} {mg : Str → Option Value} (T : Txt K mg)
def m_check_point : DF := fun ds Q E => match ds with
  | [d, .str x] => Pl2 d ∧ (isPt d = false → E (wkX T x)) ∧ (isPt d = true → Q .non)
  | _ => False
def m_check_positive : DF := fun ds Q E => match ds with
  | [d, .str x] => Pl d ∧ (isPos d = false → E (wkX T x)) ∧ (isPos d = true → Q .non)
  | _ => False
end
theorem pt_no {l : List D} (h : ¬ l.length = 2) : isPt (.tup l) = false := by
  match l, h with
  | [], _ => rfl
  | [_], _ => rfl
  | [_, _], h => exact absurd rfl h
  | _ :: _ :: _ :: _, _ => rfl
open Classical in
/-- the root that a ratio has, if it has one -/
noncomputable def rootR (p : Rat) : Option Rat := if e : ∃ r : Rat, 0 ≤ r ∧ r * r = p then some e.choose else none
theorem rootR_some {p r : Rat} (h : rootR p = some r) : 0 ≤ r ∧ r * r = p := by
  unfold rootR at h
  split at h
  · rename_i e
    cases h
    exact e.choose_spec
  · cases h
theorem rootR_is {p r : Rat} (h0 : 0 ≤ r) (h1 : r * r = p) : rootR p = some r := by
  have e : ∃ r : Rat, 0 ≤ r ∧ r * r = p := ⟨r, h0, h1⟩
  unfold rootR
  rw [dif_pos e]
  exact congrArg some (root_one e.choose_spec.1 h0 e.choose_spec.2 h1)
theorem rootR_none {p : Rat} (h : ∀ r : Rat, r * r ≠ p) : rootR p = none := by
  unfold rootR
  rw [dif_neg]
  rintro ⟨r, _, e⟩
  exact h r e
def onR (o : Option Rat) (Q : D → Prop) : Prop := match o with
  | some r => Q (rq r)
  | none => Q .non
theorem root_on {p : Rat} {Q : D → Prop} (h : onR (rootR p) Q) : (∀ r : Rat, 0 ≤ r → r * r = p → Q (rq r)) ∧ ((∀ r : Rat, r * r ≠ p) → Q .non) := by
  refine ⟨fun r h0 h1 => ?_, fun k => ?_⟩
  · rw [rootR_is h0 h1] at h
    exact h
  · rw [rootR_none k] at h
    exact h
def Sm0 (h : Rat) : Prop := Bi 15000 h.num ∧ Bi 15000 (h.den : Int)
/-- what spot_at tells -/
noncomputable def spotD (a b c d h : Rat) : D := match rootR h with
  | some r => .tup [.str "at", pt (a + c * r) (b + d * r)]
  | none => .tup [.str "root", pt a b, pt c d, rq h]
def SpotOk (a b c d h : Rat) : Prop := Sm0 h ∧ ∀ r, rootR h = some r → Ok2 c r ∧ Ok2 d r ∧ Ok2 a (c * r) ∧ Ok2 b (d * r)
def m_spot_at : DF := fun ds Q _ => ∃ a b c d h, ds = [pt a b, pt c d, rq h] ∧ SpotOk a b c d h ∧ Q (spotD a b c d h)
abbrev s_is_point : Stmt := topS 30
abbrev N_is_point : List Str := ["value"]
abbrev P_is_point : List Str := ["value"]
theorem sc_is_point : FnScope N_is_point P_is_point (defScope s_is_point) := ⟨rfl, rfl, rfl, by decide +kernel, rfl, by decide +kernel, by decide +kernel⟩

abbrev s_is_positive : Stmt := topS 38
abbrev N_is_positive : List Str := ["value"]
abbrev P_is_positive : List Str := ["value"]
theorem sc_is_positive : FnScope N_is_positive P_is_positive (defScope s_is_positive) := ⟨rfl, rfl, rfl, by decide +kernel, rfl, by decide +kernel, by decide +kernel⟩

abbrev s_is_side : Stmt := topS 39
abbrev N_is_side : List Str := ["value"]
abbrev P_is_side : List Str := ["value"]
theorem sc_is_side : FnScope N_is_side P_is_side (defScope s_is_side) := ⟨rfl, rfl, rfl, by decide +kernel, rfl, by decide +kernel, by decide +kernel⟩

abbrev s_check_point : Stmt := topS 41
abbrev N_check_point : List Str := ["value", "argument"]
abbrev P_check_point : List Str := ["value", "argument"]
theorem sc_check_point : FnScope N_check_point P_check_point (defScope s_check_point) := ⟨rfl, rfl, rfl, by decide +kernel, rfl, by decide +kernel, by decide +kernel⟩

abbrev s_check_positive : Stmt := topS 42
abbrev N_check_positive : List Str := ["value", "argument"]
abbrev P_check_positive : List Str := ["value", "argument"]
theorem sc_check_positive : FnScope N_check_positive P_check_positive (defScope s_check_positive) := ⟨rfl, rfl, rfl, by decide +kernel, rfl, by decide +kernel, by decide +kernel⟩

abbrev s_spot_at : Stmt := topS 43
abbrev N_spot_at : List Str := ["base", "lean", "under", "found"]
abbrev P_spot_at : List Str := ["base", "lean", "under"]
theorem sc_spot_at : FnScope N_spot_at P_spot_at (defScope s_spot_at) := ⟨rfl, rfl, rfl, by decide +kernel, rfl, by decide +kernel, by decide +kernel⟩

section
variable {P : Program} {w : World} {K : PySem.W.Frag} {mg : Str → Option Value} {base : Heap}
theorem ok_is_point (T : Txt K mg) : FnOk P w K mg base (L2N.CX P w) 3 T.dis_point.f T.dis_point.fd P_is_point (spD K 1 m_is_point) := by
  have G_is_ratio : FnOk P w K mg base (L2N.CX P w) 2 T.dis_ratio.f T.dis_ratio.fd P_is_ratio (spD K 1 m_is_ratio) := ok_is_ratio T
  refine T.dis_point.okD sc_is_point fun cdv A outer s H E so A0 hr tk hp => ⟨_, (pds_one (pds_ret (pd_and (pd_isi (by rfl) T.m_isinstance (pd_var (pv 0)) (pe_bltn (v := .ty "tuple") (by rfl) T.m_tuple bt_tuple rfl) tq_tuple) (pd_and (pd_cmp (oo_eq hr.units) ol_eq (pd_callB oo_len cl_len (by rfl) T.m_len bt_len (pda_cons (pd_var (pv 0)) pda_nil)) pd_int (nomark _)) (pd_and (pd_call G_is_ratio (hr.mono (by omega)) (by rfl) T.dis_ratio.g T.dis_ratio.F.kp T.dis_ratio.b (fun σ => L2N.passAt tk σ) (pda_cons (pd_ix ix_seq ol_ix (pd_var (pv 0)) pd_int (fun _ _ => rfl)) pda_nil)) (pd_one (pd_call G_is_ratio (hr.mono (by omega)) (by rfl) T.dis_ratio.g T.dis_ratio.F.kp T.dis_ratio.b (fun σ => L2N.passAt tk σ) (pda_cons (pd_ix ix_seq ol_ix (pd_var (pv 0)) pd_int (fun _ _ => rfl)) pda_nil)))))))), fun ds Q E hl h => ?_⟩
  match ds, hl with
  | [d], _ =>
    obtain ⟨⟨⟨p, _⟩, pl⟩, h⟩ := h
    walk_at "wk"
    refine ⟨p, ?_⟩
    rcases tup_cases d with ⟨hd, _⟩ | ⟨l, rfl, ht⟩
    · have hn : isPt d = false := by
        cases d <;> first | rfl | (rw [show isIn (.tup _) "tuple" = true from by show ("tuple" == "tuple") = true; decide +kernel] at hd; cases hd)
      rw [hd]
      walk_at "wk"
      rw [hn] at h
      exact h
    rw [ht]
    walk_at "wk"
    by_cases h2 : l.length = 2
    · obtain ⟨d1, d2, rfl⟩ : ∃ d1 d2, l = [d1, d2] := by
        match l, h2 with
        | [d1, d2], _ => exact ⟨d1, d2, rfl⟩
      have p1 := pl _ rfl d1 (by simp)
      have p2 := pl _ rfl d2 (by simp)
      walk_at "wk"
      simp only [m_is_ratio]
      have h : Q (.bl (isRat d1 && isRat d2)) := h
      cases w1 : isRat d1 with
      | false =>
        rw [w1] at h
        exact ⟨p1, h⟩
      | true =>
        rw [w1] at h
        exact ⟨p1, p2, h⟩
    · rw [pt_no h2] at h
      have e : ¬ ((l.length : Int) = 2) := by omega
      simp only [decide_eq_false e]
      exact h
theorem ok_is_positive (T : Txt K mg) : FnOk P w K mg base (L2N.CX P w) 3 T.dis_positive.f T.dis_positive.fd P_is_positive (spD K 1 m_is_positive) := by
  have G_is_ratio : FnOk P w K mg base (L2N.CX P w) 2 T.dis_ratio.f T.dis_ratio.fd P_is_ratio (spD K 1 m_is_ratio) := ok_is_ratio T
  refine T.dis_positive.okD sc_is_positive fun cdv A outer s H E so A0 hr tk hp => ⟨_, (pds_one (pds_ret (pd_and (pd_call G_is_ratio (hr.mono (by omega)) (by rfl) T.dis_ratio.g T.dis_ratio.F.kp T.dis_ratio.b (fun σ => L2N.passAt tk σ) (pda_cons (pd_var (pv 0)) pda_nil)) (pd_one (pd_cmp op_gt ol_gt (pd_ix ix_seq ol_ix (pd_var (pv 0)) pd_int (fun _ _ => rfl)) pd_int (nomark _)))))), fun ds Q E hl h => ?_⟩
  match ds, hl with
  | [d], _ =>
    obtain ⟨p, h⟩ := h
    walk_at "wk"
    refine ⟨p, ?_⟩
    unfold isPos at h
    cases w1 : isRat d with
    | false =>
      rw [w1] at h
      exact h
    | true =>
      rw [w1] at h
      obtain ⟨a, b, rfl, _⟩ := rat_shape w1
      simp only [ratD] at h ⊢
      walk_at "wk"
      exact h
theorem ok_is_side (T : Txt K mg) : FnOk P w K mg base (L2N.CX P w) 1 T.dis_side.f T.dis_side.fd P_is_side (spD K 1 m_is_side) := by
  refine T.dis_side.okD sc_is_side fun cdv A outer s H E so A0 hr tk hp => ⟨_, (pds_one (pds_ret (pd_and (pd_isi (by rfl) T.m_isinstance (pd_var (pv 0)) (pe_bltn (v := .ty "int") (by rfl) T.m_int bt_int rfl) tq_int) (pd_and (pd_not (pd_isi (by rfl) T.m_isinstance (pd_var (pv 0)) (pe_bltn (v := .ty "bool") (by rfl) T.m_bool bt_bool rfl) tq_bool)) (pd_one (pd_cmp (show OpR _ _ (rIn _ false) from op_in_seq) ol_in (pd_var (pv 0)) (pd_tup (pda_cons pd_int (pda_cons (pd_neg pd_int) pda_nil))) rfl)))))), fun ds Q E hl h => ?_⟩
  match ds, hl with
  | [d], _ =>
    obtain ⟨p, h⟩ := h
    walk_at "wk"
    refine ⟨p, ?_⟩
    cases hw : isW d with
    | true =>
      obtain ⟨i, rfl⟩ := isW_int hw
      walk_at "wk"
      refine ⟨_, .inl rfl, rfl, rfl, ?_⟩
      have e : inV (vD (.int i)) ([D.int 1, D.int (-1)].map vD) = isSd (.int i) := side_in i
      rw [e]
      exact h
    | false =>
      have hn : isSd d = false := by
        cases d <;> first | rfl | cases hw
      rw [hn] at h
      rw [← isW_eq] at hw
      split
      · rename_i c
        rw [c, Bool.true_and] at hw
        rw [if_neg (by rw [hw]; decide)]
        exact ⟨p, h⟩
      · exact h
theorem ok_check_point (T : Txt K mg) : FnOk P w K mg base (L2N.CX P w) 5 T.dcheck_point.f T.dcheck_point.fd P_check_point (spD K 2 (m_check_point T)) := by
  have I_WrongKind := ok_iWrongKind (P := P) (w := w) (base := base) T
  have G_is_point : FnOk P w K mg base (L2N.CX P w) 3 T.dis_point.f T.dis_point.fd P_is_point (spD K 1 m_is_point) := ok_is_point T
  refine T.dcheck_point.okD sc_check_point fun cdv A outer s H E so A0 hr tk hp => ⟨_, (pds_one (pds_if (pdt_not (pdt_tru (pd_call G_is_point (hr.mono (by omega)) (by rfl) T.dis_point.g T.dis_point.F.kp T.dis_point.b (fun σ => L2N.passAt tk σ) (pda_cons (pd_var (pv 0)) pda_nil))))
        (pds_one (pds_raise T.zWrongKind rfl tk T.iWrongKind.i T.iWrongKind.t I_WrongKind (hr.mono (by omega)) T.iWrongKind.b .nil (dd := []) (fun _ _ => rfl) rfl T.cWrongKind.g (pda_cons (pd_var (pv 1)) pda_nil)))
        pds_nil)), fun ds Q E hl h => ?_⟩
  unfold m_check_point at h
  split at h
  · rename_i d x
    obtain ⟨pl, h0, h1⟩ := h
    walk_at "dl"
    refine ⟨pl, ?_⟩
    cases hR : isPt d with
    | false =>
      walk_at "dl"
      exact ⟨by decide, h0 hR⟩
    | true =>
      walk_at "dl"
      exact h1 hR
  · exact h.elim
theorem ok_check_positive (T : Txt K mg) : FnOk P w K mg base (L2N.CX P w) 5 T.dcheck_positive.f T.dcheck_positive.fd P_check_positive (spD K 2 (m_check_positive T)) := by
  have I_WrongKind := ok_iWrongKind (P := P) (w := w) (base := base) T
  have G_is_positive : FnOk P w K mg base (L2N.CX P w) 3 T.dis_positive.f T.dis_positive.fd P_is_positive (spD K 1 m_is_positive) := ok_is_positive T
  refine T.dcheck_positive.okD sc_check_positive fun cdv A outer s H E so A0 hr tk hp => ⟨_, (pds_one (pds_if (pdt_not (pdt_tru (pd_call G_is_positive (hr.mono (by omega)) (by rfl) T.dis_positive.g T.dis_positive.F.kp T.dis_positive.b (fun σ => L2N.passAt tk σ) (pda_cons (pd_var (pv 0)) pda_nil))))
        (pds_one (pds_raise T.zWrongKind rfl tk T.iWrongKind.i T.iWrongKind.t I_WrongKind (hr.mono (by omega)) T.iWrongKind.b .nil (dd := []) (fun _ _ => rfl) rfl T.cWrongKind.g (pda_cons (pd_var (pv 1)) pda_nil)))
        pds_nil)), fun ds Q E hl h => ?_⟩
  unfold m_check_positive at h
  split at h
  · rename_i d x
    obtain ⟨pl, h0, h1⟩ := h
    walk_at "dl"
    refine ⟨pl, ?_⟩
    cases hR : isPos d with
    | false =>
      walk_at "dl"
      exact ⟨by decide, h0 hR⟩
    | true =>
      walk_at "dl"
      exact h1 hR
  · exact h.elim
theorem ok_spot_at (T : Txt K mg) : FnOk P w K mg base (L2N.CX P w) 8 T.dspot_at.f T.dspot_at.fd P_spot_at (spD K 3 m_spot_at) := by
  have G_root : FnOk P w K mg base (L2N.CX P w) 5 T.droot.f T.droot.fd P_root (spD K 1 m_root) := ok_root T
  have G_point_sum : FnOk P w K mg base (L2N.CX P w) 7 T.dpoint_sum.f T.dpoint_sum.fd P_point_sum (spD K 2 (m_p2 fun p q => p + q)) := ok_point_sum T
  have G_point_times : FnOk P w K mg base (L2N.CX P w) 7 T.dpoint_times.f T.dpoint_times.fd P_point_times (spD K 2 m_ptimes) := ok_point_times T
  refine T.dspot_at.okD sc_spot_at fun cdv A outer s H E so A0 hr tk hp => ⟨_, (pds_cons (pds_set (i := 3) sc_spot_at.nd rfl (by first | exact .inl rfl | exact .inr rfl) (pd_call G_root (hr.mono (by omega)) (by rfl) T.droot.g T.droot.F.kp T.droot.b (fun σ => L2N.passAt tk σ) (pda_cons (pd_var (pv 2)) pda_nil)))
      (pds_cons (pds_if (pdt_cmp o_isN ol_isN (pd_var (pv 3)) pd_non (nomark _))
        (pds_one (pds_ret (pd_tup (pda_cons pd_str (pda_cons (pd_var (pv 0)) (pda_cons (pd_var (pv 1)) (pda_cons (pd_var (pv 2)) pda_nil)))))))
        pds_nil)
      (pds_one (pds_ret (pd_tup (pda_cons pd_str (pda_cons (pd_call G_point_sum (hr.mono (by omega)) (by rfl) T.dpoint_sum.g T.dpoint_sum.F.kp T.dpoint_sum.b (fun σ => L2N.passAt tk σ) (pda_cons (pd_var (pv 0)) (pda_cons (pd_call G_point_times (hr.mono (by omega)) (by rfl) T.dpoint_times.g T.dpoint_times.F.kp T.dpoint_times.b (fun σ => L2N.passAt tk σ) (pda_cons (pd_var (pv 1)) (pda_cons (pd_var (pv 3)) pda_nil))) pda_nil))) pda_nil))))))), fun ds Q E hl h => ?_⟩
  obtain ⟨a, b, c, d, u, rfl, ⟨s0, sr⟩, q⟩ := h
  walk_at "wk"
  refine ⟨u, rfl, s0, ?_⟩
  unfold spotD at q
  cases e : rootR u with
  | none =>
    rw [e] at q
    refine ⟨fun r h0 h1 => ?_, fun _ => ?_⟩
    · rw [rootR_is h0 h1] at e
      cases e
    · walk_at "wk"
      exact q
  | some r =>
    rw [e] at q
    obtain ⟨o1, o2, o3, o4⟩ := sr r e
    refine ⟨fun r' h0 h1 => ?_, fun k => ?_⟩
    · have z := rootR_is h0 h1
      rw [e] at z
      cases z
      dsimp only [rq, ratD]
      rw [if_neg (by decide)]
      exact ⟨_, _, r, rfl, o1, o2, _, _, _, _, rfl, o3, o4, q⟩
    · rw [rootR_none k] at e
      cases e
end
end My
set_option exponentiation.threshold 100000
namespace My
open PySem PySem.Spec PyProof.Rows L2
local macro_rules | `(tactic| walk_at "dl") => `(tactic| simp only [startD, List.map_cons, List.map_nil, List.length_cons, List.length_nil, List.cons_append, List.nil_append, List.replicate_succ, List.replicate_zero, List.getElem?_cons_zero, List.getElem?_cons_succ, List.set_cons_zero, List.set_cons_succ,
  dVar, rdS, dC, dNew, dOp, onB, qB, dChain, qAnd, qOr, qNot, qTru, truD, dIf, dAnd, dOr, dNot, dUn, ddNeg, lNil, lCons, dTup, nLst, ddI, ddI0, ddAdd, isNonD, isBlD, ddIsN, ddIsB, ddIx_t0, ddIx_t1, ddIx_t2, ddIx_t3, ddIx_l0, ddIx_l1, ddIx_l2, dCB, ddLen, ddInt1, ddAbs, ddMM, ddTuple, nCB, nnList, ddIsi, dCall,
  sSkip, sSeq, sBreak, sCont, sExpr, sRet, sRetN, sIf, sNever, gdName, gdNil, gdCons, gdTup, sAsg, sSetN, sPar, sRaise, sFrz, owS, sApp, sIns, dLenO, dIxO, sTry, sFor, iL, iT, onL, onT, iR1, iR2, nComp, qYes,
  ddEq_ii, ddEq_ss, ddEq_bb, Bool.false_bne, Bool.true_bne, List.append_nil, true_and, and_true, if_true, if_false, Bool.not_true, Bool.not_false, Bool.true_eq_false, Bool.false_eq_true, ite_true, ite_false, id_eq])

local macro_rules | `(tactic| walk_at "is") => `(tactic| simp only [plain_non, isIn_non_int, isIn_non_str, isIn_non_bool, isIn_non_list, isIn_non_tuple, isIn_non_dict, plain_bl, isIn_bl_int, isIn_bl_str, isIn_bl_bool, isIn_bl_list, isIn_bl_tuple, isIn_bl_dict, plain_int, isIn_int_int, isIn_int_str, isIn_int_bool, isIn_int_list, isIn_int_tuple, isIn_int_dict, plain_str, isIn_str_int, isIn_str_str, isIn_str_bool, isIn_str_list, isIn_str_tuple, isIn_str_dict, plain_tup, isIn_tup_int, isIn_tup_str, isIn_tup_bool, isIn_tup_list, isIn_tup_tuple, isIn_tup_dict, plain_lst, isIn_lst_int, isIn_lst_str, isIn_lst_bool, isIn_lst_list, isIn_lst_tuple, isIn_lst_dict, sl0, sl1, sl2, sl3, sl4, decide_true, decide_false, ddIsi, ddIsi2, true_and, if_true, if_false, Bool.false_eq_true, Bool.not_true, Bool.not_false, Bool.or_true, Bool.or_false, Bool.true_or, and_true])
local macro_rules | `(tactic| walk_at "wk") => `(tactic| ((try walk_at "dl"); (try walk_at "is"); (try walk_at "dl")))

/-! ### spots -/
def nnN : D → Bool
  | .tup (.int a :: _) => decide (0 ≤ a)
  | _ => false
def isSpot : D → Bool
  | .tup [.str s, x] => decide (s = "at") && isPt x
  | .tup [.str s, x, y, z] => decide (s = "root") && (isPt x && (isPt y && (isRat z && nnN z)))
  | _ => false
theorem spot_no {l : List D} (h2 : ¬ l.length = 2) (h4 : ¬ l.length = 4) : isSpot (.tup l) = false := by
  unfold isSpot
  split
  · rename_i e
    injection e with e
    subst e
    exact absurd rfl h2
  · rename_i e
    injection e with e
    subst e
    exact absurd rfl h4
  · rfl
/-- data that is_spot may be asked -/
def Pl3 (d : D) : Prop := plainD d = true ∧ ∀ l, d = .tup l → (l.length = 2 ∨ l.length = 4) → ∃ h t, l = h :: t ∧ ((∃ s, h = .str s) ∨ ∃ a b, h = ratD a b) ∧ ∀ e ∈ t, Pl2 e
def m_is_spot : DF := fun ds Q _ => match ds with
  | [d] => Pl3 d ∧ Q (.bl (isSpot d))
  | _ => False
/-- the parts of a spot -/
def Sp (s : D) (a b c d u : Rat) : Prop := (s = .tup [.str "at", pt a b] ∧ c = 0 ∧ d = 0 ∧ u = 0) ∨ (s = .tup [.str "root", pt a b, pt c d, rq u] ∧ 0 ≤ u)
def m_spot_parts : DF := fun ds Q _ => ∃ s a b c d u, ds = [s] ∧ Sp s a b c d u ∧ Q (.tup [pt a b, pt c d, rq u])
theorem pt_of {d : D} (h : isPt d = true) : ∃ x y, d = pt x y := by
  match d, h with
  | .tup [x, y], h =>
    have h : (isRat x && isRat y) = true := h
    rw [Bool.and_eq_true] at h
    obtain ⟨p, rfl⟩ := rq_of h.1
    obtain ⟨q, rfl⟩ := rq_of h.2
    exact ⟨p, q, rfl⟩
theorem spot_of {d : D} (h : isSpot d = true) : ∃ a b c e u, Sp d a b c e u := by
  unfold isSpot at h
  split at h
  · rename_i s x
    rw [Bool.and_eq_true, decide_eq_true_iff] at h
    obtain ⟨rfl, h⟩ := h
    obtain ⟨p, q, rfl⟩ := pt_of h
    exact ⟨p, q, 0, 0, 0, .inl ⟨rfl, rfl, rfl, rfl⟩⟩
  · rename_i s x y z
    rw [Bool.and_eq_true, Bool.and_eq_true, Bool.and_eq_true, Bool.and_eq_true, decide_eq_true_iff] at h
    obtain ⟨rfl, h1, h2, h3, h4⟩ := h
    obtain ⟨p, q, rfl⟩ := pt_of h1
    obtain ⟨c, e, rfl⟩ := pt_of h2
    obtain ⟨u, rfl⟩ := rq_of h3
    refine ⟨p, q, c, e, u, .inr ⟨rfl, ?_⟩⟩
    have h4 : decide (0 ≤ u.num) = true := h4
    rw [decide_eq_true_iff] at h4
    exact Rat.num_nonneg.mp h4
  · cases h
theorem ddEq_rs (n : Bool) (a b : Int) (s : Str) (Q : D → Prop) (hs : PyData.strOk s = true) : ddEq n (ratD a b) (.str s) Q = Q (.bl n) := by
  show ddEqP n (ratD a b) (.str s) Q = _
  unfold ddEqP
  have e1 : pyD (ratD a b) = some (.tuple [.int a, .int b]) := rfl
  have e2 : pyD (.str s) = some (.str s) := rfl
  have s1 : SeqAt.shaped (.tuple [.int a, .int b]) = true := by simp [SeqAt.shaped, PyData.canLay0, PyData.canLayAll0, PyData.depth, PyData.depthAll]
  have s2 : SeqAt.shaped (.str s) = true := by simp [SeqAt.shaped, PyData.canLay0, PyData.depth, hs]
  have e3 : PyData.eqv (.tuple [.int a, .int b]) (.str s) = false := by simp [PyData.eqv]
  rw [e1, e2]
  simp [s1, s2, e3]
abbrev s_is_spot : Stmt := topS 40
abbrev N_is_spot : List Str := ["value"]
abbrev P_is_spot : List Str := ["value"]
theorem sc_is_spot : FnScope N_is_spot P_is_spot (defScope s_is_spot) := ⟨rfl, rfl, rfl, by decide +kernel, rfl, by decide +kernel, by decide +kernel⟩

abbrev s_spot_parts : Stmt := topS 45
abbrev N_spot_parts : List Str := ["spot"]
abbrev P_spot_parts : List Str := ["spot"]
theorem sc_spot_parts : FnScope N_spot_parts P_spot_parts (defScope s_spot_parts) := ⟨rfl, rfl, rfl, by decide +kernel, rfl, by decide +kernel, by decide +kernel⟩

section
variable {P : Program} {w : World} {K : PySem.W.Frag} {mg : Str → Option Value} {base : Heap}
theorem ok_is_spot (T : Txt K mg) : FnOk P w K mg base (L2N.CX P w) 4 T.dis_spot.f T.dis_spot.fd P_is_spot (spD K 1 m_is_spot) := by
  have G_is_ratio : FnOk P w K mg base (L2N.CX P w) 2 T.dis_ratio.f T.dis_ratio.fd P_is_ratio (spD K 1 m_is_ratio) := ok_is_ratio T
  have G_is_point : FnOk P w K mg base (L2N.CX P w) 3 T.dis_point.f T.dis_point.fd P_is_point (spD K 1 m_is_point) := ok_is_point T
  refine T.dis_spot.okD sc_is_spot fun cdv A outer s H E so A0 hr tk hp => ⟨_, (pds_cons (pds_if (pdt_not (pdt_tru (pd_isi (by rfl) T.m_isinstance (pd_var (pv 0)) (pe_bltn (v := .ty "tuple") (by rfl) T.m_tuple bt_tuple rfl) tq_tuple)))
        (pds_one (pds_ret pd_bl))
        pds_nil)
      (pds_cons (pds_if (PDW.t (pdw_and (pdt_cmp (oo_eq hr.units) ol_eq (pd_callB oo_len cl_len (by rfl) T.m_len bt_len (pda_cons (pd_var (pv 0)) pda_nil)) pd_int (nomark _)) (pdw_and1 (pdt_cmp (oo_eq hr.units) ol_eq (pd_ix ix_seq ol_ix (pd_var (pv 0)) pd_int (fun _ _ => rfl)) pd_str (nomark _)))))
        (pds_one (pds_ret (pd_call G_is_point (hr.mono (by omega)) (by rfl) T.dis_point.g T.dis_point.F.kp T.dis_point.b (fun σ => L2N.passAt tk σ) (pda_cons (pd_ix ix_seq ol_ix (pd_var (pv 0)) pd_int (fun _ _ => rfl)) pda_nil))))
        pds_nil)
      (pds_cons (pds_if (PDW.t (pdw_or (pdt_cmp (oo_ne hr.units) ol_ne (pd_callB oo_len cl_len (by rfl) T.m_len bt_len (pda_cons (pd_var (pv 0)) pda_nil)) pd_int (nomark _)) (pdw_or1 (pdt_cmp (oo_ne hr.units) ol_ne (pd_ix ix_seq ol_ix (pd_var (pv 0)) pd_int (fun _ _ => rfl)) pd_str (nomark _)))))
        (pds_one (pds_ret pd_bl))
        pds_nil)
      (pds_one (pds_ret (pd_and (pd_call G_is_point (hr.mono (by omega)) (by rfl) T.dis_point.g T.dis_point.F.kp T.dis_point.b (fun σ => L2N.passAt tk σ) (pda_cons (pd_ix ix_seq ol_ix (pd_var (pv 0)) pd_int (fun _ _ => rfl)) pda_nil)) (pd_and (pd_call G_is_point (hr.mono (by omega)) (by rfl) T.dis_point.g T.dis_point.F.kp T.dis_point.b (fun σ => L2N.passAt tk σ) (pda_cons (pd_ix ix_seq ol_ix (pd_var (pv 0)) pd_int (fun _ _ => rfl)) pda_nil)) (pd_and (pd_call G_is_ratio (hr.mono (by omega)) (by rfl) T.dis_ratio.g T.dis_ratio.F.kp T.dis_ratio.b (fun σ => L2N.passAt tk σ) (pda_cons (pd_ix ix_seq ol_ix (pd_var (pv 0)) pd_int (fun _ _ => rfl)) pda_nil)) (pd_one (pd_cmp op_ge ol_ge (pd_ix ix_seq ol_ix (pd_ix ix_seq ol_ix (pd_var (pv 0)) pd_int (fun _ _ => rfl)) pd_int (fun _ _ => rfl)) pd_int (nomark _))))))))))), fun ds Q E hl h => ?_⟩
  match ds, hl with
  | [d], _ =>
    obtain ⟨⟨p, pl⟩, h⟩ := h
    walk_at "wk"
    refine ⟨p, ?_⟩
    rcases tup_cases d with ⟨hd, _⟩ | ⟨l, rfl, ht⟩
    · have hn : isSpot d = false := by
        cases d <;> first | rfl | (rw [show isIn (.tup _) "tuple" = true from by show ("tuple" == "tuple") = true; decide +kernel] at hd; cases hd)
      rw [hd]
      walk_at "wk"
      rw [hn] at h
      exact h
    rw [ht]
    walk_at "wk"
    have lit : PyData.strOk ("at" : Str) = true ∧ PyData.strOk ("root" : Str) = true := by decide +kernel
    by_cases h2 : l.length = 2
    · obtain ⟨d1, d2, rfl⟩ : ∃ d1 d2, l = [d1, d2] := by
        match l, h2 with
        | [d1, d2], _ => exact ⟨d1, d2, rfl⟩
      obtain ⟨hd, t, e, hh, ht⟩ := pl _ rfl (.inl rfl)
      cases e
      have p2 := ht d2 (by simp)
      rw [if_pos (by rfl)]
      rcases hh with ⟨s, rfl⟩ | ⟨a, b, rfl⟩
      · walk_at "wk"
        by_cases c : s = "at"
        · rw [if_pos (decide_eq_true c)]
          refine ⟨p2, ?_⟩
          have e : isSpot (.tup [.str s, d2]) = isPt d2 := by
            show (decide (s = "at") && isPt d2) = _
            rw [decide_eq_true c]
            rfl
          rw [e] at h
          exact h
        · rw [if_neg (by rw [decide_eq_true_iff]; exact c), if_pos (by rfl)]
          have e : isSpot (.tup [.str s, d2]) = false := by
            show (decide (s = "at") && isPt d2) = _
            rw [decide_eq_false c]
            rfl
          rw [e] at h
          exact h
      · walk_at "wk"
        rw [ddEq_rs _ _ _ _ _ lit.1]
        walk_at "wk"
        exact h
    · rw [if_neg (by rw [decide_eq_true_iff]; omega)]
      by_cases h4 : l.length = 4
      · obtain ⟨d1, d2, d3, d4, rfl⟩ : ∃ d1 d2 d3 d4, l = [d1, d2, d3, d4] := by
          match l, h4 with
          | [d1, d2, d3, d4], _ => exact ⟨d1, d2, d3, d4, rfl⟩
        obtain ⟨hd, t, e, hh, ht⟩ := pl _ rfl (.inr rfl)
        cases e
        have p2 := ht d2 (by simp)
        have p3 := ht d3 (by simp)
        have p4 := ht d4 (by simp)
        rw [if_neg (by show ¬ ((!decide ((4 : Int) = 4)) = true); decide)]
        rcases hh with ⟨s, rfl⟩ | ⟨a, b, rfl⟩
        · walk_at "wk"
          by_cases c : s = "root"
          · rw [if_neg (by rw [decide_eq_true c]; decide)]
            have e : isSpot (.tup [.str s, d2, d3, d4]) = (isPt d2 && (isPt d3 && (isRat d4 && nnN d4))) := by
              show (decide (s = "root") && _) = _
              rw [decide_eq_true c]
              rfl
            rw [e] at h
            refine ⟨p2, ?_⟩
            cases w2 : isPt d2 with
            | false =>
              rw [w2] at h
              exact h
            | true =>
            rw [w2] at h
            walk_at "wk"
            refine ⟨p3, ?_⟩
            cases w3 : isPt d3 with
            | false =>
              rw [w3] at h
              exact h
            | true =>
            rw [w3] at h
            walk_at "wk"
            refine ⟨p4.1, ?_⟩
            cases w4 : isRat d4 with
            | false =>
              rw [w4] at h
              exact h
            | true =>
            rw [w4] at h
            obtain ⟨a, b, rfl, _⟩ := rat_shape w4
            simp only [ratD] at h ⊢
            walk_at "wk"
            exact h
          · rw [if_pos (by rw [decide_eq_false c]; decide)]
            have e : isSpot (.tup [.str s, d2, d3, d4]) = false := by
              show (decide (s = "root") && _) = _
              rw [decide_eq_false c]
              rfl
            rw [e] at h
            exact h
        · walk_at "wk"
          rw [ddEq_rs _ _ _ _ _ lit.2]
          walk_at "wk"
          exact h
      · rw [if_pos (by rw [decide_eq_false (by omega)]; decide)]
        rw [spot_no h2 h4] at h
        exact h
theorem ok_spot_parts (T : Txt K mg) : FnOk P w K mg base (L2N.CX P w) 1 T.dspot_parts.f T.dspot_parts.fd P_spot_parts (spD K 1 m_spot_parts) := by
  refine T.dspot_parts.okD sc_spot_parts fun cdv A outer s H E so A0 hr tk hp => ⟨_, (pds_cons (pds_if (pdt_cmp (oo_eq hr.units) ol_eq (pd_ix ix_seq ol_ix (pd_var (pv 0)) pd_int (fun _ _ => rfl)) pd_str (nomark _))
        (pds_one (pds_ret (pd_tup (pda_cons (pd_ix ix_seq ol_ix (pd_var (pv 0)) pd_int (fun _ _ => rfl)) (pda_cons (pd_c (v := .ref T.aORIGIN) (pe_glob rfl T.kORIGIN rfl) T.vORIGIN) (pda_cons (pd_c (v := .ref T.aZERO_RATIO) (pe_glob rfl T.kZERO_RATIO rfl) T.vZERO_RATIO) pda_nil))))))
        pds_nil)
      (pds_one (pds_ret (pd_tup (pda_cons (pd_ix ix_seq ol_ix (pd_var (pv 0)) pd_int (fun _ _ => rfl)) (pda_cons (pd_ix ix_seq ol_ix (pd_var (pv 0)) pd_int (fun _ _ => rfl)) (pda_cons (pd_ix ix_seq ol_ix (pd_var (pv 0)) pd_int (fun _ _ => rfl)) pda_nil))))))), fun ds Q E hl h => ?_⟩
  obtain ⟨sp, a, b, c, d, u, rfl, hs, q⟩ := h
  rcases hs with ⟨rfl, rfl, rfl, rfl⟩ | ⟨rfl, u0⟩
  · walk_at "wk"
    exact q
  · walk_at "wk"
    exact q
end
end My
set_option exponentiation.threshold 100000
namespace My
open PySem PySem.Spec PyProof.Rows L2
local macro_rules | `(tactic| walk_at "dl") => `(tactic| simp only [startD, List.map_cons, List.map_nil, List.length_cons, List.length_nil, List.cons_append, List.nil_append, List.replicate_succ, List.replicate_zero, List.getElem?_cons_zero, List.getElem?_cons_succ, List.set_cons_zero, List.set_cons_succ,
  dVar, rdS, dC, dNew, dOp, onB, qB, dChain, qAnd, qOr, qNot, qTru, truD, dIf, dAnd, dOr, dNot, dUn, ddNeg, lNil, lCons, dTup, nLst, ddI, ddI0, ddAdd, isNonD, isBlD, ddIsN, ddIsB, ddIx_t0, ddIx_t1, ddIx_t2, ddIx_t3, ddIx_l0, ddIx_l1, ddIx_l2, dCB, ddLen, ddInt1, ddAbs, ddMM, ddTuple, nCB, nnList, ddIsi, dCall,
  sSkip, sSeq, sBreak, sCont, sExpr, sRet, sRetN, sIf, sNever, gdName, gdNil, gdCons, gdTup, sAsg, sSetN, sPar, sRaise, sFrz, owS, sApp, sIns, dLenO, dIxO, sTry, sFor, iL, iT, onL, onT, iR1, iR2, nComp, qYes,
  ddEq_ii, ddEq_ss, ddEq_bb, Bool.false_bne, Bool.true_bne, List.append_nil, true_and, and_true, if_true, if_false, Bool.not_true, Bool.not_false, Bool.true_eq_false, Bool.false_eq_true, ite_true, ite_false, id_eq])

local macro_rules | `(tactic| walk_at "is") => `(tactic| simp only [plain_non, isIn_non_int, isIn_non_str, isIn_non_bool, isIn_non_list, isIn_non_tuple, isIn_non_dict, plain_bl, isIn_bl_int, isIn_bl_str, isIn_bl_bool, isIn_bl_list, isIn_bl_tuple, isIn_bl_dict, plain_int, isIn_int_int, isIn_int_str, isIn_int_bool, isIn_int_list, isIn_int_tuple, isIn_int_dict, plain_str, isIn_str_int, isIn_str_str, isIn_str_bool, isIn_str_list, isIn_str_tuple, isIn_str_dict, plain_tup, isIn_tup_int, isIn_tup_str, isIn_tup_bool, isIn_tup_list, isIn_tup_tuple, isIn_tup_dict, plain_lst, isIn_lst_int, isIn_lst_str, isIn_lst_bool, isIn_lst_list, isIn_lst_tuple, isIn_lst_dict, sl0, sl1, sl2, sl3, sl4, decide_true, decide_false, ddIsi, ddIsi2, true_and, if_true, if_false, Bool.false_eq_true, Bool.not_true, Bool.not_false, Bool.or_true, Bool.or_false, Bool.true_or, and_true])
local macro_rules | `(tactic| walk_at "wk") => `(tactic| ((try walk_at "dl"); (try walk_at "is"); (try walk_at "dl")))

/-! ### side_of, distance_sign, turn_point -/
structure SpSz (a b c e u : Rat) : Prop where
  a : Sz 370 370 a
  b : Sz 370 370 b
  c : Sz 16 16 c
  e : Sz 16 16 e
  u : Sz 432 432 u
structure PtSz (x y : Rat) : Prop where
  x : Sz 25 25 x
  y : Sz 25 25 y
structure PbSz (x y : Rat) : Prop where
  x : Sz 25 25 x
  y : Sz 25 25 y
theorem PtSz.b {x y : Rat} (h : PtSz x y) : PbSz x y := ⟨h.x.up (by decide) (by decide), h.y.up (by decide) (by decide)⟩
theorem sz1 : Sz 1 1 (1 : Rat) := ⟨by decide, by decide⟩
theorem sz2 : Sz 1 1 (2 : Rat) := ⟨by decide, by decide⟩
theorem Sp.u0 {s : D} {a b c e u : Rat} (h : Sp s a b c e u) : 0 ≤ u := by
  rcases h with ⟨_, _, _, rfl⟩ | ⟨_, h⟩
  · exact Rat.le_refl
  · exact h
section
variable {K : PySem.W.Frag} {mg : Str → Option Value} (T : Txt K mg)
def m_side_of : DF := fun ds Q E => match ds with
  | [s, one, other] => Pl3 s ∧ (isSpot s = false → E (wkX T "spot")) ∧ (isSpot s = true → Pl2 one ∧ (isPt one = false → E (wkX T "one")) ∧ (isPt one = true → Pl2 other ∧ (isPt other = false → E (wkX T "other")) ∧
      ∀ x y z w, one = pt x y → other = pt z w → PtSz x y ∧ PbSz z w ∧ ∃ a b c e u, Sp s a b c e u ∧ SpSz a b c e u ∧ Q (.int (rsQ ((z - x) * (b - y) - (w - y) * (a - x)) ((z - x) * e - (w - y) * c) u))))
  | _ => False
def m_distance_sign : DF := fun ds Q E => match ds with
  | [s, one, by_] => Pl3 s ∧ (isSpot s = false → E (wkX T "spot")) ∧ (isSpot s = true → Pl2 one ∧ (isPt one = false → E (wkX T "centre")) ∧ (isPt one = true → Pl by_ ∧ (isPos by_ = false → E (wkX T "squared")) ∧
      ∀ x y v, one = pt x y → by_ = rq v → isPos by_ = true → PtSz x y ∧ Sz 250 250 v ∧ ∃ a b c e u, Sp s a b c e u ∧ SpSz a b c e u ∧
        Q (.int (rsQ ((a - x) * (a - x) + (b - y) * (b - y) + (c * c + e * e) * u - v) (2 * ((a - x) * c + (b - y) * e)) u))))
  | _ => False
def m_turn_point : DF := fun ds Q E => match ds with
  | [p, c, t] => Pl2 p ∧ (isPt p = false → E (wkX T "point")) ∧ (isPt p = true → Pl2 c ∧ (isPt c = false → E (wkX T "centre")) ∧ (isPt c = true → Pl t ∧ (isRat t = false → E (wkX T "tangent")) ∧
      ∀ a b x y k, p = pt a b → c = pt x y → t = rq k → PtSz a b ∧ PtSz x y ∧ Sz 14 14 k ∧
        Q (pt (x + ((a - x) * ((1 - k * k) / (1 + k * k)) + -(b - y) * (2 * k / (1 + k * k)))) (y + ((b - y) * ((1 - k * k) / (1 + k * k)) + (a - x) * (2 * k / (1 + k * k)))))))
  | _ => False
end
theorem one_sq (k : Rat) : 1 + k * k ≠ 0 := fun h => by
  have : 0 ≤ k * k := by
    rcases Rat.nonneg_total k with z | z
    · exact Rat.mul_nonneg z z
    · have := Rat.mul_nonneg z z
      have e : -k * -k = k * k := by grind
      rwa [e] at this
  grind
abbrev s_side_of : Stmt := topS 46
abbrev N_side_of : List Str := ["spot", "one", "other", "base", "lean", "under", "line"]
abbrev P_side_of : List Str := ["spot", "one", "other"]
theorem sc_side_of : FnScope N_side_of P_side_of (defScope s_side_of) := ⟨rfl, rfl, rfl, by decide +kernel, rfl, by decide +kernel, by decide +kernel⟩

abbrev s_distance_sign : Stmt := topS 47
abbrev N_distance_sign : List Str := ["spot", "centre", "squared", "base", "lean", "under", "gap", "plain"]
abbrev P_distance_sign : List Str := ["spot", "centre", "squared"]
theorem sc_distance_sign : FnScope N_distance_sign P_distance_sign (defScope s_distance_sign) := ⟨rfl, rfl, rfl, by decide +kernel, rfl, by decide +kernel, by decide +kernel⟩

section
variable {P : Program} {w : World} {K : PySem.W.Frag} {mg : Str → Option Value} {base : Heap}
theorem ok_side_of (T : Txt K mg) : FnOk P w K mg base (L2N.CX P w) 8 T.dside_of.f T.dside_of.fd P_side_of (spD K 3 (m_side_of T)) := by
  have I_WrongKind := ok_iWrongKind (P := P) (w := w) (base := base) T
  have G_is_spot : FnOk P w K mg base (L2N.CX P w) 4 T.dis_spot.f T.dis_spot.fd P_is_spot (spD K 1 m_is_spot) := ok_is_spot T
  have G_check_point : FnOk P w K mg base (L2N.CX P w) 5 T.dcheck_point.f T.dcheck_point.fd P_check_point (spD K 2 (m_check_point T)) := ok_check_point T
  have G_spot_parts : FnOk P w K mg base (L2N.CX P w) 1 T.dspot_parts.f T.dspot_parts.fd P_spot_parts (spD K 1 m_spot_parts) := ok_spot_parts T
  have G_point_gap : FnOk P w K mg base (L2N.CX P w) 7 T.dpoint_gap.f T.dpoint_gap.fd P_point_gap (spD K 2 (m_p2 fun p q => p - q)) := ok_point_gap T
  have G_point_cross : FnOk P w K mg base (L2N.CX P w) 7 T.dpoint_cross.f T.dpoint_cross.fd P_point_cross (spD K 2 m_pcross) := ok_point_cross T
  have G_root_sign : FnOk P w K mg base (L2N.CX P w) 5 T.droot_sign.f T.droot_sign.fd P_root_sign (spD K 3 m_root_sign) := ok_root_sign T
  refine T.dside_of.okD sc_side_of fun cdv A outer s H E so A0 hr tk hp => ⟨_, (pds_cons (pds_if (pdt_not (pdt_tru (pd_call G_is_spot (hr.mono (by omega)) (by rfl) T.dis_spot.g T.dis_spot.F.kp T.dis_spot.b (fun σ => L2N.passAt tk σ) (pda_cons (pd_var (pv 0)) pda_nil))))
        (pds_one (pds_raise T.zWrongKind rfl tk T.iWrongKind.i T.iWrongKind.t I_WrongKind (hr.mono (by omega)) T.iWrongKind.b .nil (dd := []) (fun _ _ => rfl) rfl T.cWrongKind.g (pda_cons pd_str pda_nil)))
        pds_nil)
      (pds_cons (pds_expr (pd_call G_check_point (hr.mono (by omega)) (by rfl) T.dcheck_point.g T.dcheck_point.F.kp T.dcheck_point.b (fun σ => L2N.passAt tk σ) (pda_cons (pd_var (pv 1)) (pda_cons pd_str pda_nil))))
      (pds_cons (pds_expr (pd_call G_check_point (hr.mono (by omega)) (by rfl) T.dcheck_point.g T.dcheck_point.F.kp T.dcheck_point.b (fun σ => L2N.passAt tk σ) (pda_cons (pd_var (pv 2)) (pda_cons pd_str pda_nil))))
      (pds_cons (pds_asg (pd_call G_spot_parts (hr.mono (by omega)) (by rfl) T.dspot_parts.g T.dspot_parts.F.kp T.dspot_parts.b (fun σ => L2N.passAt tk σ) (pda_cons (pd_var (pv 0)) pda_nil)) (pdg_tup (n := 3) rfl (pdgs_cons (pdg_name (pg_name (i := 3) sc_side_of.nd rfl (by first | exact .inl rfl | exact .inr rfl))) (pdgs_cons (pdg_name (pg_name (i := 4) sc_side_of.nd rfl (by first | exact .inl rfl | exact .inr rfl))) (pdgs_cons (pdg_name (pg_name (i := 5) sc_side_of.nd rfl (by first | exact .inl rfl | exact .inr rfl))) pdgs_nil)))))
      (pds_cons (pds_set (i := 6) sc_side_of.nd rfl (by first | exact .inl rfl | exact .inr rfl) (pd_call G_point_gap (hr.mono (by omega)) (by rfl) T.dpoint_gap.g T.dpoint_gap.F.kp T.dpoint_gap.b (fun σ => L2N.passAt tk σ) (pda_cons (pd_var (pv 2)) (pda_cons (pd_var (pv 1)) pda_nil))))
      (pds_one (pds_ret (pd_call G_root_sign (hr.mono (by omega)) (by rfl) T.droot_sign.g T.droot_sign.F.kp T.droot_sign.b (fun σ => L2N.passAt tk σ) (pda_cons (pd_call G_point_cross (hr.mono (by omega)) (by rfl) T.dpoint_cross.g T.dpoint_cross.F.kp T.dpoint_cross.b (fun σ => L2N.passAt tk σ) (pda_cons (pd_var (pv 6)) (pda_cons (pd_call G_point_gap (hr.mono (by omega)) (by rfl) T.dpoint_gap.g T.dpoint_gap.F.kp T.dpoint_gap.b (fun σ => L2N.passAt tk σ) (pda_cons (pd_var (pv 3)) (pda_cons (pd_var (pv 1)) pda_nil))) pda_nil))) (pda_cons (pd_call G_point_cross (hr.mono (by omega)) (by rfl) T.dpoint_cross.g T.dpoint_cross.F.kp T.dpoint_cross.b (fun σ => L2N.passAt tk σ) (pda_cons (pd_var (pv 6)) (pda_cons (pd_var (pv 4)) pda_nil))) (pda_cons (pd_var (pv 5)) pda_nil))))))))))), fun ds Q E hl h => ?_⟩
  match ds, hl with
  | [s, one, other], _ =>
    obtain ⟨p3, h0, h1⟩ := h
    walk_at "wk"
    refine ⟨p3, ?_⟩
    cases hs : isSpot s with
    | false =>
      walk_at "wk"
      exact ⟨by decide, h0 hs⟩
    | true =>
    obtain ⟨p1, k0, k1⟩ := h1 hs
    walk_at "wk"
    refine ⟨p1, k0, fun ho => ?_⟩
    obtain ⟨p2, j0, j1⟩ := k1 ho
    refine ⟨p2, j0, fun hz => ?_⟩
    obtain ⟨x, y, rfl⟩ := pt_of ho
    obtain ⟨z, v, rfl⟩ := pt_of hz
    obtain ⟨sx, sz, a, b, c, e, u, hsp, ss, q⟩ := j1 x y z v rfl rfl
    refine ⟨s, a, b, c, e, u, rfl, hsp, ?_⟩
    simp only [pt]
    walk_at "wk"
    have l1 := sz.x.sub sx.x
    have l2 := sz.y.sub sx.y
    have g1 := ss.a.sub sx.x
    have g2 := ss.b.sub sx.y
    have m1 := l1.mul g2
    have m2 := l2.mul g1
    have n1 := l1.mul ss.e
    have n2 := l2.mul ss.c
    refine ⟨_, _, _, _, rfl, sz.x.ok sx.x (by decide), sz.y.ok sx.y (by decide), _, _, _, _, rfl, ss.a.ok sx.x (by decide), ss.b.ok sx.y (by decide), _, _, _, _, rfl, l1.ok g2 (by decide), l2.ok g1 (by decide), m1.ok m2 (by decide), _, _, _, _, rfl, l1.ok ss.e (by decide), l2.ok ss.c (by decide), n1.ok n2 (by decide), _, _, _, rfl, hsp.u0, ⟨(m1.sub m2).sm (by decide), (n1.sub n2).sm (by decide), ss.u.sm (by decide)⟩, q⟩
theorem ok_distance_sign (T : Txt K mg) : FnOk P w K mg base (L2N.CX P w) 9 T.ddistance_sign.f T.ddistance_sign.fd P_distance_sign (spD K 3 (m_distance_sign T)) := by
  have I_WrongKind := ok_iWrongKind (P := P) (w := w) (base := base) T
  have G_is_spot : FnOk P w K mg base (L2N.CX P w) 4 T.dis_spot.f T.dis_spot.fd P_is_spot (spD K 1 m_is_spot) := ok_is_spot T
  have G_check_point : FnOk P w K mg base (L2N.CX P w) 5 T.dcheck_point.f T.dcheck_point.fd P_check_point (spD K 2 (m_check_point T)) := ok_check_point T
  have G_check_positive : FnOk P w K mg base (L2N.CX P w) 5 T.dcheck_positive.f T.dcheck_positive.fd P_check_positive (spD K 2 (m_check_positive T)) := ok_check_positive T
  have G_spot_parts : FnOk P w K mg base (L2N.CX P w) 1 T.dspot_parts.f T.dspot_parts.fd P_spot_parts (spD K 1 m_spot_parts) := ok_spot_parts T
  have G_point_gap : FnOk P w K mg base (L2N.CX P w) 7 T.dpoint_gap.f T.dpoint_gap.fd P_point_gap (spD K 2 (m_p2 fun p q => p - q)) := ok_point_gap T
  have G_point_dot : FnOk P w K mg base (L2N.CX P w) 7 T.dpoint_dot.f T.dpoint_dot.fd P_point_dot (spD K 2 m_pdot) := ok_point_dot T
  have G_point_square : FnOk P w K mg base (L2N.CX P w) 8 T.dpoint_square.f T.dpoint_square.fd P_point_square (spD K 1 m_psq) := ok_point_square T
  have G_add : FnOk P w K mg base (L2N.CX P w) 6 T.dadd.f T.dadd.fd P_add (spD K 2 (m_r2 fun p q => p + q)) := ok_add T
  have G_subtract : FnOk P w K mg base (L2N.CX P w) 6 T.dsubtract.f T.dsubtract.fd P_subtract (spD K 2 (m_r2 fun p q => p - q)) := ok_subtract T
  have G_multiply : FnOk P w K mg base (L2N.CX P w) 6 T.dmultiply.f T.dmultiply.fd P_multiply (spD K 2 (m_r2 fun p q => p * q)) := ok_multiply T
  have G_root_sign : FnOk P w K mg base (L2N.CX P w) 5 T.droot_sign.f T.droot_sign.fd P_root_sign (spD K 3 m_root_sign) := ok_root_sign T
  refine T.ddistance_sign.okD sc_distance_sign fun cdv A outer s H E so A0 hr tk hp => ⟨_, (pds_cons (pds_if (pdt_not (pdt_tru (pd_call G_is_spot (hr.mono (by omega)) (by rfl) T.dis_spot.g T.dis_spot.F.kp T.dis_spot.b (fun σ => L2N.passAt tk σ) (pda_cons (pd_var (pv 0)) pda_nil))))
        (pds_one (pds_raise T.zWrongKind rfl tk T.iWrongKind.i T.iWrongKind.t I_WrongKind (hr.mono (by omega)) T.iWrongKind.b .nil (dd := []) (fun _ _ => rfl) rfl T.cWrongKind.g (pda_cons pd_str pda_nil)))
        pds_nil)
      (pds_cons (pds_expr (pd_call G_check_point (hr.mono (by omega)) (by rfl) T.dcheck_point.g T.dcheck_point.F.kp T.dcheck_point.b (fun σ => L2N.passAt tk σ) (pda_cons (pd_var (pv 1)) (pda_cons pd_str pda_nil))))
      (pds_cons (pds_expr (pd_call G_check_positive (hr.mono (by omega)) (by rfl) T.dcheck_positive.g T.dcheck_positive.F.kp T.dcheck_positive.b (fun σ => L2N.passAt tk σ) (pda_cons (pd_var (pv 2)) (pda_cons pd_str pda_nil))))
      (pds_cons (pds_asg (pd_call G_spot_parts (hr.mono (by omega)) (by rfl) T.dspot_parts.g T.dspot_parts.F.kp T.dspot_parts.b (fun σ => L2N.passAt tk σ) (pda_cons (pd_var (pv 0)) pda_nil)) (pdg_tup (n := 3) rfl (pdgs_cons (pdg_name (pg_name (i := 3) sc_distance_sign.nd rfl (by first | exact .inl rfl | exact .inr rfl))) (pdgs_cons (pdg_name (pg_name (i := 4) sc_distance_sign.nd rfl (by first | exact .inl rfl | exact .inr rfl))) (pdgs_cons (pdg_name (pg_name (i := 5) sc_distance_sign.nd rfl (by first | exact .inl rfl | exact .inr rfl))) pdgs_nil)))))
      (pds_cons (pds_set (i := 6) sc_distance_sign.nd rfl (by first | exact .inl rfl | exact .inr rfl) (pd_call G_point_gap (hr.mono (by omega)) (by rfl) T.dpoint_gap.g T.dpoint_gap.F.kp T.dpoint_gap.b (fun σ => L2N.passAt tk σ) (pda_cons (pd_var (pv 3)) (pda_cons (pd_var (pv 1)) pda_nil))))
      (pds_cons (pds_set (i := 7) sc_distance_sign.nd rfl (by first | exact .inl rfl | exact .inr rfl) (pd_call G_subtract (hr.mono (by omega)) (by rfl) T.dsubtract.g T.dsubtract.F.kp T.dsubtract.b (fun σ => L2N.passAt tk σ) (pda_cons (pd_call G_add (hr.mono (by omega)) (by rfl) T.dadd.g T.dadd.F.kp T.dadd.b (fun σ => L2N.passAt tk σ) (pda_cons (pd_call G_point_square (hr.mono (by omega)) (by rfl) T.dpoint_square.g T.dpoint_square.F.kp T.dpoint_square.b (fun σ => L2N.passAt tk σ) (pda_cons (pd_var (pv 6)) pda_nil)) (pda_cons (pd_call G_multiply (hr.mono (by omega)) (by rfl) T.dmultiply.g T.dmultiply.F.kp T.dmultiply.b (fun σ => L2N.passAt tk σ) (pda_cons (pd_call G_point_square (hr.mono (by omega)) (by rfl) T.dpoint_square.g T.dpoint_square.F.kp T.dpoint_square.b (fun σ => L2N.passAt tk σ) (pda_cons (pd_var (pv 4)) pda_nil)) (pda_cons (pd_var (pv 5)) pda_nil))) pda_nil))) (pda_cons (pd_var (pv 2)) pda_nil))))
      (pds_one (pds_ret (pd_call G_root_sign (hr.mono (by omega)) (by rfl) T.droot_sign.g T.droot_sign.F.kp T.droot_sign.b (fun σ => L2N.passAt tk σ) (pda_cons (pd_var (pv 7)) (pda_cons (pd_call G_multiply (hr.mono (by omega)) (by rfl) T.dmultiply.g T.dmultiply.F.kp T.dmultiply.b (fun σ => L2N.passAt tk σ) (pda_cons (pd_tup (pda_cons pd_int (pda_cons pd_int pda_nil))) (pda_cons (pd_call G_point_dot (hr.mono (by omega)) (by rfl) T.dpoint_dot.g T.dpoint_dot.F.kp T.dpoint_dot.b (fun σ => L2N.passAt tk σ) (pda_cons (pd_var (pv 6)) (pda_cons (pd_var (pv 4)) pda_nil))) pda_nil))) (pda_cons (pd_var (pv 5)) pda_nil)))))))))))), fun ds Q E hl h => ?_⟩
  match ds, hl with
  | [s, one, other], _ =>
    obtain ⟨p3, h0, h1⟩ := h
    walk_at "wk"
    refine ⟨p3, ?_⟩
    cases hs : isSpot s with
    | false =>
      walk_at "wk"
      exact ⟨by decide, h0 hs⟩
    | true =>
    obtain ⟨p1, k0, k1⟩ := h1 hs
    walk_at "wk"
    refine ⟨p1, k0, fun ho => ?_⟩
    obtain ⟨p2, j0, j1⟩ := k1 ho
    refine ⟨p2, j0, fun hz => ?_⟩
    obtain ⟨x, y, rfl⟩ := pt_of ho
    obtain ⟨v, rfl⟩ := rq_of (show isRat other = true from by unfold isPos at hz; rw [Bool.and_eq_true] at hz; exact hz.1)
    obtain ⟨sx, sv, a, b, c, e, u, hsp, ss, q⟩ := j1 x y v rfl rfl hz
    refine ⟨s, a, b, c, e, u, rfl, hsp, ?_⟩
    simp only [pt]
    walk_at "wk"
    have g1 := ss.a.sub sx.x
    have g2 := ss.b.sub sx.y
    have q1 := g1.mul g1
    have q2 := g2.mul g2
    have r := q1.add q2
    have c1 := ss.c.mul ss.c
    have c2 := ss.e.mul ss.e
    have cc := c1.add c2
    have cu := cc.mul ss.u
    have pl := r.add cu
    have d1 := g1.mul ss.c
    have d2 := g2.mul ss.e
    have dd := d1.add d2
    refine ⟨_, _, _, _, rfl, ss.a.ok sx.x (by decide), ss.b.ok sx.y (by decide), _, _, rfl, g1.ok g1 (by decide), g2.ok g2 (by decide), q1.ok q2 (by decide), _, _, rfl, ss.c.ok ss.c (by decide), ss.e.ok ss.e (by decide), c1.ok c2 (by decide), _, _, rfl, cc.ok ss.u (by decide), _, _, rfl, r.ok cu (by decide), _, _, rfl, pl.ok sv (by decide), _, _, _, _, rfl, g1.ok ss.c (by decide), g2.ok ss.e (by decide), d1.ok d2 (by decide), 2, _, rfl, sz2.ok dd (by decide), _, _, _, rfl, hsp.u0, ⟨(pl.sub sv).sm (by decide), (sz2.mul dd).sm (by decide), ss.u.sm (by decide)⟩, q⟩
end
end My
set_option exponentiation.threshold 100000
namespace My
open PySem PySem.Spec PyProof.Rows L2
local macro_rules | `(tactic| walk_at "dl") => `(tactic| simp only [startD, List.map_cons, List.map_nil, List.length_cons, List.length_nil, List.cons_append, List.nil_append, List.replicate_succ, List.replicate_zero, List.getElem?_cons_zero, List.getElem?_cons_succ, List.set_cons_zero, List.set_cons_succ,
  dVar, rdS, dC, dNew, dOp, onB, qB, dChain, qAnd, qOr, qNot, qTru, truD, dIf, dAnd, dOr, dNot, dUn, ddNeg, lNil, lCons, dTup, nLst, ddI, ddI0, ddAdd, isNonD, isBlD, ddIsN, ddIsB, ddIx_t0, ddIx_t1, ddIx_t2, ddIx_t3, ddIx_l0, ddIx_l1, ddIx_l2, dCB, ddLen, ddInt1, ddAbs, ddMM, ddTuple, nCB, nnList, ddIsi, dCall,
  sSkip, sSeq, sBreak, sCont, sExpr, sRet, sRetN, sIf, sNever, gdName, gdNil, gdCons, gdTup, sAsg, sSetN, sPar, sRaise, sFrz, owS, sApp, sIns, dLenO, dIxO, sTry, sFor, iL, iT, onL, onT, iR1, iR2, nComp, qYes,
  ddEq_ii, ddEq_ss, ddEq_bb, Bool.false_bne, Bool.true_bne, List.append_nil, true_and, and_true, if_true, if_false, Bool.not_true, Bool.not_false, Bool.true_eq_false, Bool.false_eq_true, ite_true, ite_false, id_eq])

local macro_rules | `(tactic| walk_at "is") => `(tactic| simp only [plain_non, isIn_non_int, isIn_non_str, isIn_non_bool, isIn_non_list, isIn_non_tuple, isIn_non_dict, plain_bl, isIn_bl_int, isIn_bl_str, isIn_bl_bool, isIn_bl_list, isIn_bl_tuple, isIn_bl_dict, plain_int, isIn_int_int, isIn_int_str, isIn_int_bool, isIn_int_list, isIn_int_tuple, isIn_int_dict, plain_str, isIn_str_int, isIn_str_str, isIn_str_bool, isIn_str_list, isIn_str_tuple, isIn_str_dict, plain_tup, isIn_tup_int, isIn_tup_str, isIn_tup_bool, isIn_tup_list, isIn_tup_tuple, isIn_tup_dict, plain_lst, isIn_lst_int, isIn_lst_str, isIn_lst_bool, isIn_lst_list, isIn_lst_tuple, isIn_lst_dict, sl0, sl1, sl2, sl3, sl4, decide_true, decide_false, ddIsi, ddIsi2, true_and, if_true, if_false, Bool.false_eq_true, Bool.not_true, Bool.not_false, Bool.or_true, Bool.or_false, Bool.true_or, and_true])
local macro_rules | `(tactic| walk_at "wk") => `(tactic| ((try walk_at "dl"); (try walk_at "is"); (try walk_at "dl")))

/-! ### meet_line -/
theorem ddEq_rat (n : Bool) (a b c d : Int) (Q : D → Prop) : ddEq n (ratD a b) (ratD c d) Q = Q (.bl (n != (decide (a = c) && decide (b = d)))) := by
  show ddEqP n (ratD a b) (ratD c d) Q = _
  unfold ddEqP
  have e1 : ∀ x y : Int, pyD (ratD x y) = some (.tuple [.int x, .int y]) := fun _ _ => rfl
  have s1 : ∀ x y : Int, SeqAt.shaped (.tuple [.int x, .int y]) = true := fun x y => by simp [SeqAt.shaped, PyData.canLay0, PyData.canLayAll0, PyData.depth, PyData.depthAll]
  have e3 : PyData.eqv (.tuple [.int a, .int b]) (.tuple [.int c, .int d]) = (decide (a = c) && decide (b = d)) := by
    simp [PyData.eqv, PyData.eqvAll]
    by_cases h1 : a = c <;> by_cases h2 : b = d <;> simp [h1, h2]
  rw [e1, e1]
  simp [s1, e3]
theorem ddEq_rq (n : Bool) (p q : Rat) (Q : D → Prop) : ddEq n (rq p) (rq q) Q = Q (.bl (n != decide (p = q))) := by
  rw [rq, rq, ddEq_rat]
  have e : (decide (p.num = q.num) && decide ((p.den : Int) = q.den)) = decide (p = q) := by
    rw [← Bool.decide_and]
    refine decide_eq_decide.mpr ⟨fun h => Rat.ext h.1 (by omega), fun h => by rw [h]; exact ⟨rfl, rfl⟩⟩
  rw [e]
/-- the ways of a side -/
def Wy (d : D) (σ : Rat) : Prop := (d = .int 1 ∧ σ = 1) ∨ (d = .int (-1) ∧ σ = -1)
theorem sq_ge (a : Rat) : 0 ≤ a * a := by
  rcases Rat.nonneg_total a with z | z
  · exact Rat.mul_nonneg z z
  · have := Rat.mul_nonneg z z
    have e : -a * -a = a * a := by grind
    rwa [e] at this
theorem sd_of {d : D} (h : isSd d = true) : ∃ σ, Wy d σ := by
  cases d with
  | int i =>
    have h : (decide (i = 1) || decide (i = -1)) = true := h
    rw [Bool.or_eq_true, decide_eq_true_iff, decide_eq_true_iff] at h
    rcases h with rfl | rfl
    · exact ⟨1, .inl ⟨rfl, rfl⟩⟩
    · exact ⟨-1, .inr ⟨rfl, rfl⟩⟩
  | _ => cases h
theorem Wy.sz {d : D} {σ : Rat} (h : Wy d σ) : Sz 1 1 σ := by
  rcases h with ⟨_, rfl⟩ | ⟨_, rfl⟩
  · exact ⟨by decide, by decide⟩
  · exact ⟨by decide, by decide⟩
theorem Wy.d {d : D} {σ : Rat} (h : Wy d σ) : D.tup [d, .int 1] = rq σ := by
  rcases h with ⟨rfl, rfl⟩ | ⟨rfl, rfl⟩
  · rfl
  · rfl
theorem sg_lt (q : Rat) : (sg q < 0) = (q < 0) := by
  rcases sg_cases q with ⟨h, e⟩ | ⟨h, e⟩ | ⟨h, e⟩
  · rw [e]
    refine propext ⟨fun z => absurd z (by decide), fun z => absurd z (Rat.not_lt.mpr (Rat.le_of_lt h))⟩
  · rw [e]
    exact propext ⟨fun _ => h, fun _ => by decide⟩
  · rw [e, h]
    exact propext ⟨fun z => absurd z (by decide), fun z => absurd z Rat.lt_irrefl⟩
theorem sg_gt (q : Rat) : (0 < sg q) = (0 < q) := by
  rcases sg_cases q with ⟨h, e⟩ | ⟨h, e⟩ | ⟨h, e⟩
  · rw [e]
    exact propext ⟨fun _ => h, fun _ => by decide⟩
  · rw [e]
    refine propext ⟨fun z => absurd z (by decide), fun z => absurd z (Rat.not_lt.mpr (Rat.le_of_lt h))⟩
  · rw [e, h]
    exact propext ⟨fun z => absurd z (by decide), fun z => absurd z Rat.lt_irrefl⟩
theorem Sz.half' {n m : Nat} {p r : Rat} (e : r * r = p) (h : Sz (2 * n) (2 * m) p) : Sz n m r := by
  rw [← e] at h
  exact Sz.half (sq_num r).1 (sq_num r).2 h
theorem Sz.sm0 {n m : Nat} {q : Rat} (h : Sz n m q) (l : n ≤ 3750 ∧ m ≤ 3750) : Sm0 q := by
  refine ⟨Nat.lt_of_lt_of_le h.n (Nat.le_trans (ten_two n) (Nat.pow_le_pow_right (by decide) (by omega))), ?_⟩
  unfold Bi
  rw [Int.natAbs_natCast]
  exact Nat.lt_of_lt_of_le h.m (Nat.le_trans (ten_two m) (Nat.pow_le_pow_right (by decide) (by omega)))
theorem dv_ok {n m n' m' : Nat} {p q : Rat} (h : Sz n m p) (k : Sz n' m' q) (l : n ≤ 1000 ∧ m ≤ 1000 ∧ n' ≤ 1000 ∧ m' ≤ 1000) : (Sm1 p ∧ Sm1 q ∧ (p.den * q.num.natAbs).log2 < 9000) := ⟨h.sm (by omega), k.sm (by omega), log_lt (nat_lt_mul h.m k.n) (by omega)⟩
theorem num_zero (q : Rat) : (q.num = 0) = (q = 0) := propext Rat.num_eq_zero
theorem ddEq_pt (n : Bool) (a b c d : Rat) (Q : D → Prop) : ddEq n (pt a b) (pt c d) Q = Q (.bl (n != (decide (a = c) && decide (b = d)))) := by
  show ddEqP n (pt a b) (pt c d) Q = _
  unfold ddEqP
  have e1 : ∀ x y : Rat, pyD (pt x y) = some (.tuple [.tuple [.int x.num, .int x.den], .tuple [.int y.num, .int y.den]]) := fun _ _ => rfl
  have s1 : ∀ x y z w : Int, SeqAt.shaped (.tuple [.tuple [.int x, .int y], .tuple [.int z, .int w]]) = true := fun x y z w => by simp [SeqAt.shaped, PyData.canLay0, PyData.canLayAll0, PyData.depth, PyData.depthAll]
  have e3 : PyData.eqv (.tuple [.tuple [.int a.num, .int a.den], .tuple [.int b.num, .int b.den]]) (.tuple [.tuple [.int c.num, .int c.den], .tuple [.int d.num, .int d.den]]) = (decide (a = c) && decide (b = d)) := by
    have k : ∀ p q : Rat, (decide (p.num = q.num) && decide ((p.den : Int) = q.den)) = decide (p = q) := fun p q => by
      rw [← Bool.decide_and]
      refine decide_eq_decide.mpr ⟨fun h => Rat.ext h.1 (by omega), fun h => by rw [h]; exact ⟨rfl, rfl⟩⟩
    rw [← k a c, ← k b d]
    simp [PyData.eqv, PyData.eqvAll, Bool.beq_eq_decide_eq]
  rw [e1, e1]
  simp only [Option.some.injEq, exists_and_left, exists_eq_left', s1, e3, true_and]
def dirOk : D → Bool
  | .tup [x, y] => isRat x && isRat y && !(isZ x && isZ y)
  | _ => false
where isZ : D → Bool
  | .tup (.int a :: _) => decide (a = 0)
  | _ => false
theorem dir_pt {d : D} (h : dirOk d = true) : isPt d = true := by
  match d, h with
  | .tup [x, y], h =>
    have h : (isRat x && isRat y && !(dirOk.isZ x && dirOk.isZ y)) = true := h
    rw [Bool.and_eq_true] at h
    exact h.1
theorem dir_of (x y : Rat) : dirOk (pt x y) = !(decide (x = 0) && decide (y = 0)) := by
  show (isRat (rq x) && isRat (rq y) && !(decide (x.num = 0) && decide (y.num = 0))) = _
  rw [rq_rat, rq_rat]
  simp only [num_zero]
  rfl
def lenQ (dx dy : Rat) : Rat := dx * dx + dy * dy
def algL (px py dx dy cx cy : Rat) : Rat := ((cx - px) * dx + (cy - py) * dy) / lenQ dx dy
def neaQ (px py dx dy cx cy : Rat) : Rat := (cx - (px + dx * algL px py dx dy cx cy)) * (cx - (px + dx * algL px py dx dy cx cy)) + (cy - (py + dy * algL px py dx dy cx cy)) * (cy - (py + dy * algL px py dx dy cx cy))
def heiL (px py dx dy cx cy S : Rat) : Rat := (S - neaQ px py dx dy cx cy) / lenQ dx dy
/-- what meet_line tells -/
noncomputable def lineD (px py dx dy cx cy S σ : Rat) : D :=
  if heiL px py dx dy cx cy S < 0 then .tup [.str "far", rq (neaQ px py dx dy cx cy)]
  else spotD (px + dx * algL px py dx dy cx cy) (py + dy * algL px py dx dy cx cy) (dx * σ) (dy * σ) (heiL px py dx dy cx cy S)
structure LineSz (px py dx dy cx cy S : Rat) : Prop where
  p1 : Sz 12 12 px
  p2 : Sz 12 12 py
  d1 : Sz 12 12 dx
  d2 : Sz 2 10 dy
  c1 : Sz 12 12 cx
  c2 : Sz 12 12 cy
  s : Sz 210 210 S
  n : ¬ (dx = 0 ∧ dy = 0)
theorem len_ne {dx dy : Rat} (h : ¬ (dx = 0 ∧ dy = 0)) : lenQ dx dy ≠ 0 := fun e => h (by
  have a := sq_ge dx
  have b := sq_ge dy
  unfold lenQ at e
  have z1 : dx * dx = 0 := by grind
  have z2 : dy * dy = 0 := by grind
  refine ⟨?_, ?_⟩
  · rcases Rat.mul_eq_zero.mp z1 with z | z <;> exact z
  · rcases Rat.mul_eq_zero.mp z2 with z | z <;> exact z)
section
variable {K : PySem.W.Frag} {mg : Str → Option Value} (T : Txt K mg)
def m_meet_line : DF := fun ds Q E => match ds with
  | [place, direction, centre, squared, side] => Pl2 place ∧ (isPt place = false → E (wkX T "place")) ∧ (isPt place = true → Pl2 direction ∧ (dirOk direction = false → E (wkX T "direction")) ∧ (dirOk direction = true →
      Pl2 centre ∧ (isPt centre = false → E (wkX T "centre")) ∧ (isPt centre = true → Pl squared ∧ (isPos squared = false → E (wkX T "squared")) ∧ (isPos squared = true →
      plainD side = true ∧ (isSd side = false → E (wkX T "side")) ∧
      ∀ px py dx dy cx cy S σ, place = pt px py → direction = pt dx dy → centre = pt cx cy → squared = rq S → Wy side σ → LineSz px py dx dy cx cy S ∧ Q (lineD px py dx dy cx cy S σ)))))
  | _ => False
end
abbrev s_meet_line : Stmt := topS 44
abbrev N_meet_line : List Str := ["place", "direction", "centre", "squared", "side", "length", "along", "base", "nearest", "height"]
abbrev P_meet_line : List Str := ["place", "direction", "centre", "squared", "side"]
theorem sc_meet_line : FnScope N_meet_line P_meet_line (defScope s_meet_line) := ⟨rfl, rfl, rfl, by decide +kernel, rfl, by decide +kernel, by decide +kernel⟩

section
variable {P : Program} {w : World} {K : PySem.W.Frag} {mg : Str → Option Value} {base : Heap}
theorem ok_meet_line (T : Txt K mg) : FnOk P w K mg base (L2N.CX P w) 9 T.dmeet_line.f T.dmeet_line.fd P_meet_line (spD K 5 (m_meet_line T)) := by
  have I_WrongKind := ok_iWrongKind (P := P) (w := w) (base := base) T
  have G_check_point : FnOk P w K mg base (L2N.CX P w) 5 T.dcheck_point.f T.dcheck_point.fd P_check_point (spD K 2 (m_check_point T)) := ok_check_point T
  have G_is_point : FnOk P w K mg base (L2N.CX P w) 3 T.dis_point.f T.dis_point.fd P_is_point (spD K 1 m_is_point) := ok_is_point T
  have G_check_positive : FnOk P w K mg base (L2N.CX P w) 5 T.dcheck_positive.f T.dcheck_positive.fd P_check_positive (spD K 2 (m_check_positive T)) := ok_check_positive T
  have G_is_side : FnOk P w K mg base (L2N.CX P w) 1 T.dis_side.f T.dis_side.fd P_is_side (spD K 1 m_is_side) := ok_is_side T
  have G_spot_at : FnOk P w K mg base (L2N.CX P w) 8 T.dspot_at.f T.dspot_at.fd P_spot_at (spD K 3 m_spot_at) := ok_spot_at T
  have G_point_gap : FnOk P w K mg base (L2N.CX P w) 7 T.dpoint_gap.f T.dpoint_gap.fd P_point_gap (spD K 2 (m_p2 fun p q => p - q)) := ok_point_gap T
  have G_point_sum : FnOk P w K mg base (L2N.CX P w) 7 T.dpoint_sum.f T.dpoint_sum.fd P_point_sum (spD K 2 (m_p2 fun p q => p + q)) := ok_point_sum T
  have G_point_times : FnOk P w K mg base (L2N.CX P w) 7 T.dpoint_times.f T.dpoint_times.fd P_point_times (spD K 2 m_ptimes) := ok_point_times T
  have G_point_dot : FnOk P w K mg base (L2N.CX P w) 7 T.dpoint_dot.f T.dpoint_dot.fd P_point_dot (spD K 2 m_pdot) := ok_point_dot T
  have G_point_square : FnOk P w K mg base (L2N.CX P w) 8 T.dpoint_square.f T.dpoint_square.fd P_point_square (spD K 1 m_psq) := ok_point_square T
  have G_subtract : FnOk P w K mg base (L2N.CX P w) 6 T.dsubtract.f T.dsubtract.fd P_subtract (spD K 2 (m_r2 fun p q => p - q)) := ok_subtract T
  have G_divide : FnOk P w K mg base (L2N.CX P w) 6 T.ddivide.f T.ddivide.fd P_divide (spD K 2 m_div) := ok_divide T
  have G_sign : FnOk P w K mg base (L2N.CX P w) 5 T.dsign.f T.dsign.fd P_sign (spD K 1 m_sign1) := ok_sign T
  refine T.dmeet_line.okD sc_meet_line fun cdv A outer s H E so A0 hr tk hp => ⟨_, (pds_cons (pds_expr (pd_call G_check_point (hr.mono (by omega)) (by rfl) T.dcheck_point.g T.dcheck_point.F.kp T.dcheck_point.b (fun σ => L2N.passAt tk σ) (pda_cons (pd_var (pv 0)) (pda_cons pd_str pda_nil))))
      (pds_cons (pds_if (PDW.t (pdw_or (pdt_not (pdt_tru (pd_call G_is_point (hr.mono (by omega)) (by rfl) T.dis_point.g T.dis_point.F.kp T.dis_point.b (fun σ => L2N.passAt tk σ) (pda_cons (pd_var (pv 1)) pda_nil)))) (pdw_or1 (pdt_cmp (oo_eq hr.units) ol_eq (pd_var (pv 1)) (pd_c (v := .ref T.aORIGIN) (pe_glob rfl T.kORIGIN rfl) T.vORIGIN) (nomark _)))))
        (pds_one (pds_raise T.zWrongKind rfl tk T.iWrongKind.i T.iWrongKind.t I_WrongKind (hr.mono (by omega)) T.iWrongKind.b .nil (dd := []) (fun _ _ => rfl) rfl T.cWrongKind.g (pda_cons pd_str pda_nil)))
        pds_nil)
      (pds_cons (pds_expr (pd_call G_check_point (hr.mono (by omega)) (by rfl) T.dcheck_point.g T.dcheck_point.F.kp T.dcheck_point.b (fun σ => L2N.passAt tk σ) (pda_cons (pd_var (pv 2)) (pda_cons pd_str pda_nil))))
      (pds_cons (pds_expr (pd_call G_check_positive (hr.mono (by omega)) (by rfl) T.dcheck_positive.g T.dcheck_positive.F.kp T.dcheck_positive.b (fun σ => L2N.passAt tk σ) (pda_cons (pd_var (pv 3)) (pda_cons pd_str pda_nil))))
      (pds_cons (pds_if (pdt_not (pdt_tru (pd_call G_is_side (hr.mono (by omega)) (by rfl) T.dis_side.g T.dis_side.F.kp T.dis_side.b (fun σ => L2N.passAt tk σ) (pda_cons (pd_var (pv 4)) pda_nil))))
        (pds_one (pds_raise T.zWrongKind rfl tk T.iWrongKind.i T.iWrongKind.t I_WrongKind (hr.mono (by omega)) T.iWrongKind.b .nil (dd := []) (fun _ _ => rfl) rfl T.cWrongKind.g (pda_cons pd_str pda_nil)))
        pds_nil)
      (pds_cons (pds_set (i := 5) sc_meet_line.nd rfl (by first | exact .inl rfl | exact .inr rfl) (pd_call G_point_square (hr.mono (by omega)) (by rfl) T.dpoint_square.g T.dpoint_square.F.kp T.dpoint_square.b (fun σ => L2N.passAt tk σ) (pda_cons (pd_var (pv 1)) pda_nil)))
      (pds_cons (pds_set (i := 6) sc_meet_line.nd rfl (by first | exact .inl rfl | exact .inr rfl) (pd_call G_divide (hr.mono (by omega)) (by rfl) T.ddivide.g T.ddivide.F.kp T.ddivide.b (fun σ => L2N.passAt tk σ) (pda_cons (pd_call G_point_dot (hr.mono (by omega)) (by rfl) T.dpoint_dot.g T.dpoint_dot.F.kp T.dpoint_dot.b (fun σ => L2N.passAt tk σ) (pda_cons (pd_call G_point_gap (hr.mono (by omega)) (by rfl) T.dpoint_gap.g T.dpoint_gap.F.kp T.dpoint_gap.b (fun σ => L2N.passAt tk σ) (pda_cons (pd_var (pv 2)) (pda_cons (pd_var (pv 0)) pda_nil))) (pda_cons (pd_var (pv 1)) pda_nil))) (pda_cons (pd_var (pv 5)) pda_nil))))
      (pds_cons (pds_set (i := 7) sc_meet_line.nd rfl (by first | exact .inl rfl | exact .inr rfl) (pd_call G_point_sum (hr.mono (by omega)) (by rfl) T.dpoint_sum.g T.dpoint_sum.F.kp T.dpoint_sum.b (fun σ => L2N.passAt tk σ) (pda_cons (pd_var (pv 0)) (pda_cons (pd_call G_point_times (hr.mono (by omega)) (by rfl) T.dpoint_times.g T.dpoint_times.F.kp T.dpoint_times.b (fun σ => L2N.passAt tk σ) (pda_cons (pd_var (pv 1)) (pda_cons (pd_var (pv 6)) pda_nil))) pda_nil))))
      (pds_cons (pds_set (i := 8) sc_meet_line.nd rfl (by first | exact .inl rfl | exact .inr rfl) (pd_call G_point_square (hr.mono (by omega)) (by rfl) T.dpoint_square.g T.dpoint_square.F.kp T.dpoint_square.b (fun σ => L2N.passAt tk σ) (pda_cons (pd_call G_point_gap (hr.mono (by omega)) (by rfl) T.dpoint_gap.g T.dpoint_gap.F.kp T.dpoint_gap.b (fun σ => L2N.passAt tk σ) (pda_cons (pd_var (pv 2)) (pda_cons (pd_var (pv 7)) pda_nil))) pda_nil)))
      (pds_cons (pds_set (i := 9) sc_meet_line.nd rfl (by first | exact .inl rfl | exact .inr rfl) (pd_call G_divide (hr.mono (by omega)) (by rfl) T.ddivide.g T.ddivide.F.kp T.ddivide.b (fun σ => L2N.passAt tk σ) (pda_cons (pd_call G_subtract (hr.mono (by omega)) (by rfl) T.dsubtract.g T.dsubtract.F.kp T.dsubtract.b (fun σ => L2N.passAt tk σ) (pda_cons (pd_var (pv 3)) (pda_cons (pd_var (pv 8)) pda_nil))) (pda_cons (pd_var (pv 5)) pda_nil))))
      (pds_cons (pds_if (pdt_cmp op_lt ol_lt (pd_call G_sign (hr.mono (by omega)) (by rfl) T.dsign.g T.dsign.F.kp T.dsign.b (fun σ => L2N.passAt tk σ) (pda_cons (pd_var (pv 9)) pda_nil)) pd_int (nomark _))
        (pds_one (pds_ret (pd_tup (pda_cons pd_str (pda_cons (pd_var (pv 8)) pda_nil)))))
        pds_nil)
      (pds_one (pds_ret (pd_call G_spot_at (hr.mono (by omega)) (by rfl) T.dspot_at.g T.dspot_at.F.kp T.dspot_at.b (fun σ => L2N.passAt tk σ) (pda_cons (pd_var (pv 7)) (pda_cons (pd_call G_point_times (hr.mono (by omega)) (by rfl) T.dpoint_times.g T.dpoint_times.F.kp T.dpoint_times.b (fun σ => L2N.passAt tk σ) (pda_cons (pd_var (pv 1)) (pda_cons (pd_tup (pda_cons (pd_var (pv 4)) (pda_cons pd_int pda_nil))) pda_nil))) (pda_cons (pd_var (pv 9)) pda_nil))))))))))))))))), fun ds Q E hl h => ?_⟩
  match ds, hl with
  | [one, dir, other, second, side], _ =>
    obtain ⟨p1, h0, h1⟩ := h
    walk_at "wk"
    refine ⟨p1, h0, fun ho => ?_⟩
    obtain ⟨pd, d0, d1⟩ := h1 ho
    have eo : D.tup [.tup [.int 0, .int 1], .tup [.int 0, .int 1]] = pt 0 0 := rfl
    refine ⟨pd, ?_⟩
    cases hd : isPt dir with
    | false =>
      walk_at "wk"
      refine ⟨by decide, d0 ?_⟩
      cases hh : dirOk dir with
      | false => rfl
      | true =>
        rw [dir_pt hh] at hd
        cases hd
    | true =>
    obtain ⟨dx, dy, rfl⟩ := pt_of hd
    rw [dir_of] at d0 d1
    walk_at "wk"
    rw [eo, ddEq_pt]
    by_cases dz : (decide (dx = 0) && decide (dy = 0)) = true
    · rw [dz] at d0 ⊢
      walk_at "wk"
      exact ⟨by decide, d0 rfl⟩
    rw [Bool.not_eq_true] at dz
    rw [dz] at d1 ⊢
    walk_at "wk"
    obtain ⟨p2, k0, k1⟩ := d1 rfl
    refine ⟨p2, k0, fun hz => ?_⟩
    obtain ⟨p4, l0, l1⟩ := k1 hz
    refine ⟨p4, l0, fun hs => ?_⟩
    obtain ⟨p5, n0, n1⟩ := l1 hs
    refine ⟨p5, ?_⟩
    cases hw : isSd side with
    | false =>
      walk_at "wk"
      exact ⟨by decide, n0 hw⟩
    | true =>
    obtain ⟨px, py, rfl⟩ := pt_of ho
    obtain ⟨cx, cy, rfl⟩ := pt_of hz
    obtain ⟨S, rfl⟩ := rq_of (show isRat second = true from by unfold isPos at hs; rw [Bool.and_eq_true] at hs; exact hs.1)
    obtain ⟨σ, wy⟩ := sd_of hw
    obtain ⟨sz, q⟩ := n1 px py dx dy cx cy S σ rfl rfl rfl rfl wy
    walk_at "wk"
    have q1 := sz.d1.mul sz.d1
    have q2 := sz.d2.mul sz.d2
    have LL : Sz _ _ (lenQ dx dy) := q1.add q2
    have g1 := sz.c1.sub sz.p1
    have g2 := sz.c2.sub sz.p2
    have m1 := g1.mul sz.d1
    have m2 := g2.mul sz.d2
    have dt := m1.add m2
    have L0 := len_ne sz.n
    have tt : Sz _ _ (algL px py dx dy cx cy) := dt.div LL L0
    have x1 := sz.d1.mul tt
    have x2 := sz.d2.mul tt
    have b1 := sz.p1.add x1
    have b2 := sz.p2.add x2
    have v1 := sz.c1.sub b1
    have v2 := sz.c2.sub b2
    have w1 := v1.mul v1
    have w2 := v2.mul v2
    have nn : Sz _ _ (neaQ px py dx dy cx cy) := w1.add w2
    have sn := sz.s.sub nn
    have hh : Sz _ _ (heiL px py dx dy cx cy S) := sn.div LL L0
    refine ⟨_, _, rfl, sz.d1.ok sz.d1 (by decide), sz.d2.ok sz.d2 (by decide), q1.ok q2 (by decide), _, _, _, _, rfl, sz.c1.ok sz.p1 (by decide), sz.c2.ok sz.p2 (by decide), _, _, _, _, rfl, g1.ok sz.d1 (by decide), g2.ok sz.d2 (by decide), m1.ok m2 (by decide), _, _, rfl, dv_ok dt LL (by decide), L0, _, _, algL px py dx dy cx cy, rfl, sz.d1.ok tt (by decide), sz.d2.ok tt (by decide), _, _, _, _, rfl, sz.p1.ok x1 (by decide), sz.p2.ok x2 (by decide), _, _, _, _, rfl, sz.c1.ok b1 (by decide), sz.c2.ok b2 (by decide), _, _, rfl, v1.ok v1 (by decide), v2.ok v2 (by decide), w1.ok w2 (by decide), S, neaQ px py dx dy cx cy, rfl, sz.s.ok nn (by decide), _, _, rfl, dv_ok sn LL (by decide), L0, heiL px py dx dy cx cy S, rfl, ?_⟩
    simp only [sg_lt]
    unfold lineD at q
    by_cases c2 : heiL px py dx dy cx cy S < 0
    · rw [decide_eq_true c2]
      rw [if_pos c2] at q
      walk_at "wk"
      exact q
    · rw [decide_eq_false c2]
      rw [if_neg c2] at q
      walk_at "wk"
      have sw := wy.sz
      have y1 := sz.d1.mul sw
      have y2 := sz.d2.mul sw
      rw [wy.d]
      refine ⟨_, _, σ, rfl, sz.d1.ok sw (by decide), sz.d2.ok sw (by decide), _, _, _, _, heiL px py dx dy cx cy S, rfl, ⟨hh.sm0 (by decide), fun r er => ?_⟩, q⟩
      have sr : Sz 440 440 r := Sz.half' (rootR_some er).2 (hh.up (by decide) (by decide))
      exact ⟨y1.ok sr (by decide), y2.ok sr (by decide), b1.ok (y1.mul sr) (by decide), b2.ok (y2.mul sr) (by decide)⟩
end
end My
set_option exponentiation.threshold 100000
namespace My
open PySem PySem.Spec PyProof.Rows L2
local macro_rules | `(tactic| walk_at "dl") => `(tactic| simp only [startD, List.map_cons, List.map_nil, List.length_cons, List.length_nil, List.cons_append, List.nil_append, List.replicate_succ, List.replicate_zero, List.getElem?_cons_zero, List.getElem?_cons_succ, List.set_cons_zero, List.set_cons_succ,
  dVar, rdS, dC, dNew, dOp, onB, qB, dChain, qAnd, qOr, qNot, qTru, truD, dIf, dAnd, dOr, dNot, dUn, ddNeg, lNil, lCons, dTup, nLst, ddI, ddI0, ddAdd, isNonD, isBlD, ddIsN, ddIsB, ddIx_t0, ddIx_t1, ddIx_t2, ddIx_t3, ddIx_l0, ddIx_l1, ddIx_l2, dCB, ddLen, ddInt1, ddAbs, ddMM, ddTuple, nCB, nnList, ddIsi, dCall,
  sSkip, sSeq, sBreak, sCont, sExpr, sRet, sRetN, sIf, sNever, gdName, gdNil, gdCons, gdTup, sAsg, sSetN, sPar, sRaise, sFrz, owS, sApp, sIns, dLenO, dIxO, sTry, sFor, iL, iT, onL, onT, iR1, iR2, nComp, qYes,
  ddEq_ii, ddEq_ss, ddEq_bb, Bool.false_bne, Bool.true_bne, List.append_nil, true_and, and_true, if_true, if_false, Bool.not_true, Bool.not_false, Bool.true_eq_false, Bool.false_eq_true, ite_true, ite_false, id_eq])

local macro_rules | `(tactic| walk_at "is") => `(tactic| simp only [plain_non, isIn_non_int, isIn_non_str, isIn_non_bool, isIn_non_list, isIn_non_tuple, isIn_non_dict, plain_bl, isIn_bl_int, isIn_bl_str, isIn_bl_bool, isIn_bl_list, isIn_bl_tuple, isIn_bl_dict, plain_int, isIn_int_int, isIn_int_str, isIn_int_bool, isIn_int_list, isIn_int_tuple, isIn_int_dict, plain_str, isIn_str_int, isIn_str_str, isIn_str_bool, isIn_str_list, isIn_str_tuple, isIn_str_dict, plain_tup, isIn_tup_int, isIn_tup_str, isIn_tup_bool, isIn_tup_list, isIn_tup_tuple, isIn_tup_dict, plain_lst, isIn_lst_int, isIn_lst_str, isIn_lst_bool, isIn_lst_list, isIn_lst_tuple, isIn_lst_dict, sl0, sl1, sl2, sl3, sl4, decide_true, decide_false, ddIsi, ddIsi2, true_and, if_true, if_false, Bool.false_eq_true, Bool.not_true, Bool.not_false, Bool.or_true, Bool.or_false, Bool.true_or, and_true])
local macro_rules | `(tactic| walk_at "wk") => `(tactic| ((try walk_at "dl"); (try walk_at "is"); (try walk_at "dl")))

/-! ### texts of ints -/
def ddStrI : DCall := fun ds Q => match ds with
  | [.int i] => i.natAbs.log2 < 1920 ∧ Q (.str (toString i))
  | _ => False
theorem cl_strI {K : PySem.W.Frag} : CallL K (fun xs H Q => ∃ i, xs = [.int i] ∧ i.natAbs.log2 < 1920 ∧ Q (.str (toString i)) H) ddStrI := by
  intro so A H ds vs Qd Q gd da q c
  unfold ddStrI at q
  split at q
  · obtain ⟨v, rfl, dv⟩ := da.one'
    have dv : v = _ := dv
    subst dv
    exact ⟨_, rfl, q.1, c.nowS gd q.2⟩
  · exact q.elim
def ddIntS : DCall := fun ds Q => match ds with
  | [.str a] => ∃ n, PySem.intText? a = some n ∧ a.length ≤ sizeLine ∧ (PySem.numSeenOf a).length = a.length ∧ Q (.int n)
  | _ => False
theorem cl_intS {K : PySem.W.Frag} (nd : NoDig K) : CallL K (rIntS K) ddIntS := by
  intro so A H ds vs Qd Q gd da q c
  unfold ddIntS at q
  split at q
  · obtain ⟨v, rfl, dv⟩ := da.one'
    have dv : v = _ := dv
    subst dv
    obtain ⟨n, h1, h2, h3, q⟩ := q
    exact ⟨_, n, rfl, h1, h2, h3, nd, c.nowI gd q⟩
  · exact q.elim
def ddMulS : D2 := fun x y Q => match x, y with
  | .str z, .int n => 0 ≤ n ∧ n ≤ 100000 ∧ z.length ≤ 100 ∧ Q (.str (PySem.Txt.mul z n))
  | _, _ => False
theorem ol_mulS {K : PySem.W.Frag} : OpL K rMulS ddMulS := by
  intro so A H x y v u Qd Q gd dx dy q c
  unfold ddMulS at q
  split at q
  · have dx : v = _ := dx
    have dy : u = _ := dy
    subst dx dy
    exact ⟨_, _, rfl, rfl, q.1, q.2.1, q.2.2.1, c.nowS gd q.2.2.2⟩
  · exact q.elim
theorem dig_len (n : Nat) (k : Nat) (hk : 0 < k) : (Str.ofString (toString (n : Int))).length ≤ k ↔ n < 10 ^ k := by
  rw [Str.ofString_eq_toList]
  show (((toString (n : Int)).toList.map Char.toNat).toArray).size ≤ k ↔ _
  rw [List.size_toArray, List.length_map]
  have e : (toString (n : Int)) = n.repr := rfl
  rw [e, Nat.toList_repr]
  exact Nat.length_toDigits_le_iff (by decide) hk
theorem mul_zeros (m : Nat) : (PySem.Txt.mul (Str.ofString "0") ((m : Int) + 1)).cps.toList = List.replicate (m + 1) 48 := by
  have e0 : (Str.ofString "0").cps = #[48] := by decide +kernel
  have f : ∀ (k : Nat) (acc : Array Nat), ((List.replicate k #[48]).foldl (· ++ ·) acc).toList = acc.toList ++ List.replicate k 48 := fun k => by
    induction k with
    | zero => intro acc; simp
    | succ k ih => intro acc; rw [List.replicate_succ, List.foldl_cons, ih]; simp [List.replicate_succ]
  unfold PySem.Txt.mul
  rw [if_neg (by omega)]
  have e1 : ((m : Int) + 1).toNat = m + 1 := by omega
  by_cases c : m = 0
  · subst c
    rw [if_pos (by decide +kernel), e0]
    rfl
  · have e2 : (((m : Int) + 1) == 1) = false := beq_false_of_ne (by omega)
    have e3 : ((Str.ofString "0").length == 0) = false := by decide +kernel
    rw [e2, e3, if_neg (by decide)]
    show ((List.replicate ((m : Int) + 1).toNat (Str.ofString "0").cps).foldl (· ++ ·) #[]).toList = _
    rw [e0, e1, f]
    simp
theorem digits_ten (k : Nat) : PySem.NumText.digitsVal (49 :: List.replicate k 48) = 10 ^ k := by
  have f : ∀ (k acc : Nat), (List.replicate k 48).foldl (fun acc c => acc * 10 + (c - 48)) acc = acc * 10 ^ k := fun k => by
    induction k with
    | zero => intro acc; simp
    | succ k ih =>
      intro acc
      rw [List.replicate_succ, List.foldl_cons, ih, Nat.pow_succ]
      simp
      rw [Nat.mul_assoc, Nat.mul_comm 10]
  show (List.replicate k 48).foldl (fun acc c => acc * 10 + (c - 48)) (0 * 10 + (49 - 48)) = _
  rw [f]
  omega
theorem ten_text (m : Nat) (hm : m ≤ 1000) : PySem.intText? ((Str.ofString "1") ++ PySem.Txt.mul (Str.ofString "0") ((m : Int) + 1)) = some ((10 ^ (m + 1) : Nat) : Int) ∧ (PySem.numSeenOf ((Str.ofString "1") ++ PySem.Txt.mul (Str.ofString "0") ((m : Int) + 1))).length = ((Str.ofString "1") ++ PySem.Txt.mul (Str.ofString "0") ((m : Int) + 1)).length ∧ ((Str.ofString "1") ++ PySem.Txt.mul (Str.ofString "0") ((m : Int) + 1)).length ≤ 2000 ∧ (PySem.Txt.mul (Str.ofString "0") ((m : Int) + 1)).length ≤ 2000 := by
  have e1 : (Str.ofString "1").cps = #[49] := by decide +kernel
  have ec : ((Str.ofString "1") ++ PySem.Txt.mul (Str.ofString "0") ((m : Int) + 1)).cps.toList = 49 :: List.replicate (m + 1) 48 := by
    show ((Str.ofString "1").cps ++ (PySem.Txt.mul (Str.ofString "0") ((m : Int) + 1)).cps).toList = _
    rw [e1, Array.toList_append, mul_zeros]
    rfl
  have el : ((Str.ofString "1") ++ PySem.Txt.mul (Str.ofString "0") ((m : Int) + 1)).length = m + 2 := by
    show (((Str.ofString "1") ++ PySem.Txt.mul (Str.ofString "0") ((m : Int) + 1)).cps).size = _
    rw [← Array.length_toList, ec, List.length_cons, List.length_replicate]
  have el0 : (PySem.Txt.mul (Str.ofString "0") ((m : Int) + 1)).length = m + 1 := by
    show ((PySem.Txt.mul (Str.ofString "0") ((m : Int) + 1)).cps).size = _
    rw [← Array.length_toList, mul_zeros, List.length_replicate]
  have ad : PySem.NumText.AllDigits ((Str.ofString "1") ++ PySem.Txt.mul (Str.ofString "0") ((m : Int) + 1)).cps.toList := by
    rw [ec]
    intro c hc
    rcases List.mem_cons.mp hc with rfl | hc
    · decide
    · rw [(List.mem_replicate.mp hc).2]
      decide
  refine ⟨?_, seen_digits _ ad, by omega, by omega⟩
  rw [PySem.intText_digits ad (by rw [ec]; simp) (by omega), ec, digits_ten]
/-! ### a hundred turns -/
theorem halves {n s : Nat} (h : IsRt n s) (hs : 0 < s) : ∀ (k a : Nat), s ≤ a → (niter n k a - s - 2) * 2 ^ k ≤ a - s - 2
  | 0, a, _ => by
    rw [Nat.pow_zero, Nat.mul_one]
    exact Nat.le_refl _
  | k + 1, a, ha => by
    have r := step_half hs (err_of h hs ha)
    have i := halves h hs k _ (mstep_ge h hs ha)
    have e : niter n (k + 1) a = niter n k (mstep n a) := rfl
    rw [e, Nat.pow_succ, ← Nat.mul_assoc]
    have := Nat.mul_le_mul_right 2 i
    omega
theorem nrun_64 {n s a : Nat} (h : IsRt n s) (hs : 0 < s) (ha : s ≤ a) (h4 : a ≤ 64 * s) (hb : s < 2 ^ 16383) : nrun n 100 a = s := by
  have z5 := halves h hs 5 a ha
  have g5 := niter_ge h hs 5 a ha
  have e10 := half_it h hs 5 (niter n 5 a) 1 g5 (by omega)
  rw [← niter_app n 5 5 a] at e10
  have g10 := niter_ge h hs (5 + 5) a ha
  have z : (niter n (5 + 5) a - s - 2) * 32 ≤ 3 * s := by simpa using e10
  by_cases c : s < 8
  · have := last_it h hs g10 (by omega)
    rw [← niter_app n (5 + 5) 2 a] at this
    exact nrun_of h hs 12 88 a ha this
  · obtain ⟨q, _⟩ := quad_it h (by omega) 12 (niter n (5 + 5) a) g10 (by omega)
    rw [← niter_app n (5 + 5) 12 a] at q
    have e : pw 12 = 16383 := by decide
    rw [e] at q
    have g22 := niter_ge h hs (5 + 5 + 12) a ha
    have zero : niter n (5 + 5 + 12) a - s - 2 = 0 := by
      rcases Nat.eq_zero_or_pos (niter n (5 + 5 + 12) a - s - 2) with z | z
      · exact z
      · have := Nat.mul_le_mul_right (2 ^ 16383) (show 1 ≤ niter n (5 + 5 + 12) a - s - 2 from z)
        rw [Nat.one_mul] at this
        have := Nat.le_trans this q
        omega
    have := last_it h hs g22 (by omega)
    rw [← niter_app n (5 + 5 + 12) 2 a] at this
    exact nrun_of h hs 24 76 a ha this
theorem start_64 {n s L : Nat} (h : IsRt n s) (h0 : 0 < L) (h1 : 10 ^ (L - 1) ≤ n) : 10 ^ (L / 2 + 1) ≤ 64 * s := by
  have key : ∀ x, x * x ≤ n → x ≤ s := fun x hx => Nat.le_of_not_lt fun z => by
    have := Nat.mul_le_mul (show s + 1 ≤ x from z) (show s + 1 ≤ x from z)
    have := h.2
    omega
  rcases Nat.mod_two_eq_zero_or_one L with e | e
  · obtain ⟨k, rfl⟩ : ∃ k, L = 2 * k + 2 := ⟨L / 2 - 1, by omega⟩
    have e1 : (2 * k + 2) / 2 + 1 = k + 2 := by omega
    have e2 : 2 * k + 2 - 1 = k + k + 1 := by omega
    rw [e2, Nat.pow_succ, Nat.pow_add] at h1
    have := key (3 * 10 ^ k) (by
      have : 3 * 10 ^ k * (3 * 10 ^ k) = 9 * (10 ^ k * 10 ^ k) := by grind
      omega)
    rw [e1, Nat.pow_succ, Nat.pow_succ]
    omega
  · obtain ⟨k, rfl⟩ : ∃ k, L = 2 * k + 1 := ⟨L / 2, by omega⟩
    have e1 : (2 * k + 1) / 2 + 1 = k + 1 := by omega
    have e2 : 2 * k + 1 - 1 = k + k := by omega
    rw [e2, Nat.pow_add] at h1
    have := key (10 ^ k) h1
    rw [e1, Nat.pow_succ]
    omega
def m_whole_root : DF := fun ds Q _ => match ds with
  | [.int i] => 0 ≤ i ∧ i.toNat < 10 ^ 500 ∧ Q (.int (rt i.toNat))
  | _ => False
def m_lroot : DF := fun ds Q _ => ∃ p, ds = [rq p] ∧ Sz 500 500 p ∧ onR (rootR p) Q
def Ok4 (p f u : Rat) : Prop := Ok2 p p ∧ Ok2 f f ∧ Ok2 (f * f) u ∧ Ok2 (p * p) (f * f * u)
def m_lroot_sign : DF := fun ds Q _ => ∃ p f u, ds = [rq p, rq f, rq u] ∧ Ok4 p f u ∧ Q (.int (rsQ p f u))
theorem rt_zero : rt 0 = 0 := rt_eq (by simp [IsRt])
theorem rt_pos {n : Nat} (h : 0 < n) : 0 < rt n := by
  rcases Nat.eq_zero_or_pos (rt n) with z | z
  · have := (rt_is n).2
    rw [z] at this
    omega
  · exact z
theorem rt_lt_pow {n k : Nat} (h : n < 10 ^ k * 10 ^ k) : rt n < 10 ^ k := Nat.lt_of_not_le fun z => by
  have := Nat.mul_le_mul z z
  have := (rt_is n).1
  omega
theorem rt_bits {n : Nat} (h : n < 10 ^ 500) : Bi 1000 ((rt n : Nat) : Int) := by
  unfold Bi
  rw [Int.natAbs_natCast]
  exact Nat.lt_of_lt_of_le (rt_lt_pow (k := 250) (by rw [← Nat.pow_add]; exact h)) (ten_two 250)
theorem eqI (a b : Nat) : decide ((a : Int) * (a : Int) = (b : Int)) = decide (a * a = b) := by
  refine decide_eq_decide.mpr ?_
  rw [← Int.natCast_mul]
  omega
abbrev s_whole_root : Stmt := topS 81
abbrev N_whole_root : List Str := ["number", "at", "k", "new"]
abbrev P_whole_root : List Str := ["number"]
theorem sc_whole_root : FnScope N_whole_root P_whole_root (defScope s_whole_root) := ⟨rfl, rfl, rfl, by decide +kernel, rfl, by decide +kernel, by decide +kernel⟩

abbrev s_lroot : Stmt := topS 82
abbrev N_lroot : List Str := ["one", "up", "down"]
abbrev P_lroot : List Str := ["one"]
theorem sc_lroot : FnScope N_lroot P_lroot (defScope s_lroot) := ⟨rfl, rfl, rfl, by decide +kernel, rfl, by decide +kernel, by decide +kernel⟩

abbrev s_lroot_sign : Stmt := topS 83
abbrev N_lroot_sign : List Str := ["plain", "factor", "under", "one", "two", "more"]
abbrev P_lroot_sign : List Str := ["plain", "factor", "under"]
theorem sc_lroot_sign : FnScope N_lroot_sign P_lroot_sign (defScope s_lroot_sign) := ⟨rfl, rfl, rfl, by decide +kernel, rfl, by decide +kernel, by decide +kernel⟩

section
variable {P : Program} {w : World} {K : PySem.W.Frag} {mg : Str → Option Value} {base : Heap}
theorem ok_whole_root (T : Txt K mg) : FnOk P w K mg base (L2N.CX P w) 1 T.dwhole_root.f T.dwhole_root.fd P_whole_root (spD K 1 m_whole_root) := by
  refine T.dwhole_root.okD sc_whole_root fun cdv A outer s H E so A0 hr tk hp => ⟨_, (pds_cons (pds_if (pdt_cmp op_lt ol_lt (pd_var (pv 0)) pd_int (nomark _))
        (pds_one (pds_ret pd_int))
        pds_nil)
      (pds_cons (pds_set (i := 1) sc_whole_root.nd rfl (by first | exact .inl rfl | exact .inr rfl) (pd_callTy c_intS (cl_intS T.dig) (by rfl) T.m_int bt_int (pda_cons (pd_op oo_add ol_add pd_str (pd_op o_mulS ol_mulS pd_str (pd_op oo_add ol_add (pd_op op_fdivZ ol_fdiv (pd_callB oo_len cl_len (by rfl) T.m_len bt_len (pda_cons (pd_callTy call_str_int cl_strI (by rfl) T.m_str bt_str (pda_cons (pd_var (pv 0)) pda_nil)) pda_nil)) pd_int) pd_int))) pda_nil)))
      (pds_cons (pds_for hp rfl (pdi_range1 (by rfl) T.m_range (pda_cons pd_int pda_nil)) (pdg_name (pg_name (i := 2) sc_whole_root.nd rfl (by first | exact .inl rfl | exact .inr rfl)))
        (pds_cons (pds_set (i := 3) sc_whole_root.nd rfl (by first | exact .inl rfl | exact .inr rfl) (pd_op op_fdivZ ol_fdiv (pd_op oo_add ol_add (pd_var (pv 1)) (pd_op op_fdivZ ol_fdiv (pd_var (pv 0)) (pd_var (pv 1)))) pd_int))
        (pds_cons (pds_if (pdt_cmp op_ge ol_ge (pd_var (pv 3)) (pd_var (pv 1)) (nomark _))
          (pds_one (pds_ret (pd_var (pv 1))))
          pds_nil)
        (pds_one (pds_set (i := 1) sc_whole_root.nd rfl (by first | exact .inl rfl | exact .inr rfl) (pd_var (pv 3)))))))
      (pds_one (pds_ret (pd_var (pv 1))))))), fun ds Q E hl h => ?_⟩
  unfold m_whole_root at h
  split at h
  · rename_i i
    obtain ⟨i0, i1, h⟩ := h
    obtain ⟨n, rfl⟩ : ∃ n : Nat, i = n := ⟨i.toNat, by omega⟩
    rw [Int.toNat_natCast] at i1 h
    walk_at "wk"
    by_cases c : n < 1
    · rw [if_pos (by rw [decide_eq_true_iff]; omega)]
      have : n = 0 := by omega
      subst this
      rw [rt_zero] at h
      exact h
    rw [if_neg (by rw [decide_eq_true_iff]; omega)]
    simp only [ddStrI, ddMulS, ddIntS]
    have lg : n.log2 < 1920 := by
      by_cases z : n = 0
      · rw [z]; decide
      · exact (Nat.log2_lt z).mpr (Nat.lt_of_lt_of_le i1 (by decide +kernel))
    have l0 : 0 < (Str.ofString (toString (n : Int))).length := by
      rcases Nat.eq_zero_or_pos (Str.ofString (toString (n : Int))).length with z | z
      · have : n < 10 ^ 0 := by
          have k1 := (dig_len n 1 (by decide)).mp (by omega)
          have e : (toString (n : Int)) = n.repr := rfl
          rw [Str.ofString_eq_toList, e, Nat.toList_repr] at z
          have z : (((Nat.toDigits 10 n).map Char.toNat).toArray).size = 0 := z
          rw [List.size_toArray, List.length_map] at z
          have := Nat.length_toDigits_pos (b := 10) (n := n)
          omega
        omega
      · exact z
    have l1 : (Str.ofString (toString (n : Int))).length ≤ 500 := (dig_len n 500 (by decide)).mpr i1
    have l3 : 10 ^ ((Str.ofString (toString (n : Int))).length - 1) ≤ n := by
      by_cases z : (Str.ofString (toString (n : Int))).length - 1 = 0
      · rw [z]
        omega
      · refine Nat.le_of_not_lt fun k => ?_
        have := (dig_len n _ (by omega)).mpr k
        omega
    have l2 : n < 10 ^ (Str.ofString (toString (n : Int))).length := (dig_len n _ l0).mp (Nat.le_refl _)
    walk_at "wk"
    generalize (Str.ofString (toString (n : Int))).length = L at *
    have lz : L ≤ sizeLine := by rw [sizeLine_eq]; omega
    have e2 : ((L : Int)).fdiv 2 = ((L / 2 : Nat) : Int) := fdiv_nat L 2
    rw [e2]
    obtain ⟨t1, t2, t3, t4⟩ := ten_text (L / 2) (by omega)
    have up : ∀ x, x ≤ 3000 → x ≤ sizeLine := fun x hx => by rw [sizeLine_eq]; omega
    have le1 : (Str.ofString "1").length = 1 := by decide +kernel
    have le0 : (Str.ofString "0").length ≤ 100 := by decide +kernel
    refine ⟨by rw [Int.natAbs_natCast]; exact lg, lz, cdiv2 _, by omega, by omega, le0, by rw [le1]; exact up _ (by omega), _, t1, up _ (Nat.le_trans t3 (by decide)), t2, ?_⟩
    have a1 : rt n ≤ 10 ^ (L / 2 + 1) := Nat.le_of_lt (rt_lt_pow (by
      rw [← Nat.pow_add]
      exact Nat.lt_of_lt_of_le l2 (Nat.pow_le_pow_right (by decide) (by omega))))
    have a2 : 10 ^ (L / 2 + 1) ≤ 10 ^ 251 := Nat.pow_le_pow_right (by decide) (by omega)
    have rp := rt_pos (show 0 < n by omega)
    have isr := rt_is n
    have a3 := nrun_64 isr rp a1 (start_64 isr l0 l3) (Nat.lt_of_lt_of_le (rt_lt_pow (k := 250) (by rw [← Nat.pow_add]; exact i1)) (Nat.le_trans (ten_two 250) (Nat.pow_le_pow_right (by decide) (by decide))))
    generalize 10 ^ (L / 2 + 1) = a0 at *
    generalize rt n = s at *
    refine ⟨by decide, by decide, ?_⟩
    refine forL_inv (P := fun i ρ => ∃ (a : Nat) (x y : Sl), ρ = [.fr (.int n), .fr (.int (a : Int)), x, y] ∧ s ≤ a ∧ a ≤ 10 ^ 251 ∧ ∃ m, i + m = 100 ∧ nrun n m a = s) _ _ 0 ?_ ?_ ⟨a0, _, _, rfl, a1, a2, 100, rfl, a3⟩
    · rintro i d ρ R hi ⟨a, x, y, rfl, b1, b2, m, b3, b4⟩ hR
      obtain ⟨hi2, rfl⟩ := rangeD_at hi
      have hl : i < 100 := by simpa using hi2
      obtain ⟨m, rfl⟩ : ∃ k, m = k + 1 := ⟨m - 1, by omega⟩
      walk_at "wk"
      refine ⟨⟨by omega, ?_⟩, cdiv2 _, ?_⟩
      · rw [Int.natAbs_natCast]
        exact (Nat.log2_lt (by omega)).mpr (Nat.lt_of_le_of_lt b2 (Nat.lt_of_le_of_lt (ten_two 251) (Nat.pow_lt_pow_right (by decide) (by decide))))
      rw [fdiv_nat, nstep_int]
      have b4 : (if a ≤ nstep n a then a else nrun n m (nstep n a)) = s := b4
      by_cases c : a ≤ nstep n a
      · rw [if_pos c] at b4
        rw [if_pos (by rw [decide_eq_true_iff]; omega), b4]
        exact h
      · rw [if_neg c] at b4
        rw [if_neg (by rw [decide_eq_true_iff]; omega)]
        exact hR _ ⟨nstep n a, _, _, rfl, nstep_ge isr (by omega), by omega, m, by omega, b4⟩
    · rintro ρ ⟨a, x, y, rfl, b1, b2, m, b3, b4⟩
      have hl : (rangeD 0 (Int.toNat 100)).length = 100 := rangeD_len ..
      have : m = 0 := by
        simp only [rangeD_len] at b3
        have : Int.toNat 100 = 100 := rfl
        omega
      subst this
      have b4 : a = s := b4
      walk_at "wk"
      rw [b4]
      exact h
  · exact h.elim
theorem ok_lroot (T : Txt K mg) : FnOk P w K mg base (L2N.CX P w) 2 T.dlroot.f T.dlroot.fd P_lroot (spD K 1 m_lroot) := by
  have G_whole_root : FnOk P w K mg base (L2N.CX P w) 1 T.dwhole_root.f T.dwhole_root.fd P_whole_root (spD K 1 m_whole_root) := ok_whole_root T
  refine T.dlroot.okD sc_lroot fun cdv A outer s H E so A0 hr tk hp => ⟨_, (pds_cons (pds_if (pdt_cmp op_lt ol_lt (pd_ix ix_seq ol_ix (pd_var (pv 0)) pd_int (fun _ _ => rfl)) pd_int (nomark _))
        (pds_one (pds_ret pd_non))
        pds_nil)
      (pds_cons (pds_set (i := 1) sc_lroot.nd rfl (by first | exact .inl rfl | exact .inr rfl) (pd_call G_whole_root (hr.mono (by omega)) (by rfl) T.dwhole_root.g T.dwhole_root.F.kp T.dwhole_root.b (fun σ => L2N.passAt tk σ) (pda_cons (pd_ix ix_seq ol_ix (pd_var (pv 0)) pd_int (fun _ _ => rfl)) pda_nil)))
      (pds_cons (pds_set (i := 2) sc_lroot.nd rfl (by first | exact .inl rfl | exact .inr rfl) (pd_call G_whole_root (hr.mono (by omega)) (by rfl) T.dwhole_root.g T.dwhole_root.F.kp T.dwhole_root.b (fun σ => L2N.passAt tk σ) (pda_cons (pd_ix ix_seq ol_ix (pd_var (pv 0)) pd_int (fun _ _ => rfl)) pda_nil)))
      (pds_cons (pds_if (PDW.t (pdw_or (pdt_cmp (oo_ne hr.units) ol_ne (pd_op op_mulW ol_mul (pd_var (pv 1)) (pd_var (pv 1))) (pd_ix ix_seq ol_ix (pd_var (pv 0)) pd_int (fun _ _ => rfl)) (nomark _)) (pdw_or1 (pdt_cmp (oo_ne hr.units) ol_ne (pd_op op_mulW ol_mul (pd_var (pv 2)) (pd_var (pv 2))) (pd_ix ix_seq ol_ix (pd_var (pv 0)) pd_int (fun _ _ => rfl)) (nomark _)))))
        (pds_one (pds_ret pd_non))
        pds_nil)
      (pds_one (pds_ret (pd_tup (pda_cons (pd_var (pv 1)) (pda_cons (pd_var (pv 2)) pda_nil))))))))), fun ds Q E hl h => ?_⟩
  obtain ⟨p, rfl, sz, h⟩ := h
  obtain ⟨hy, hn⟩ := root_on h
  simp only [rq, ratD]
  walk_at "wk"
  by_cases c : p.num < 0
  · rw [if_pos (decide_eq_true c)]
    exact hn (root_no fun z => by omega)
  rw [if_neg (by rw [decide_eq_true_iff]; exact c)]
  have sn : p.num.toNat < 10 ^ 500 := Nat.lt_of_le_of_lt (by omega) sz.n
  have sd : p.den < 10 ^ 500 := sz.m
  refine ⟨by omega, sn, by omega, by rw [Int.toNat_natCast]; exact sd, ?_⟩
  rw [Int.toNat_natCast]
  have bn := rt_bits sn
  have bd := rt_bits sd
  refine ⟨bn.cm bn (by decide) (by decide) (by decide), ?_⟩
  have en : decide (((rt p.num.toNat : Nat) : Int) * ((rt p.num.toNat : Nat) : Int) = p.num) = decide (rt p.num.toNat * rt p.num.toNat = p.num.toNat) := by
    rw [← eqI]
    have : (p.num.toNat : Int) = p.num := by omega
    rw [this]
  rw [en]
  by_cases c1 : rt p.num.toNat * rt p.num.toNat = p.num.toNat
  · rw [decide_eq_true c1, if_neg (by decide)]
    refine ⟨bd.cm bd (by decide) (by decide) (by decide), ?_⟩
    rw [eqI]
    by_cases c2 : rt p.den * rt p.den = p.den
    · rw [decide_eq_true c2, if_neg (by decide)]
      obtain ⟨r, r0, r1, r2⟩ := root_yes (by omega) c1 c2
      have q := hy r r0 r1
      rw [r2] at q
      exact q
    · rw [decide_eq_false c2, if_pos (by decide)]
      exact hn (root_no fun z => c2 z.2.2)
  · rw [decide_eq_false c1, if_pos (by decide)]
    exact hn (root_no fun z => c1 z.2.1)
theorem ok_lroot_sign (T : Txt K mg) : FnOk P w K mg base (L2N.CX P w) 3 T.dlroot_sign.f T.dlroot_sign.fd P_lroot_sign (spD K 3 m_lroot_sign) := by
  have G_sgn : FnOk P w K mg base (L2N.CX P w) 1 T.dsgn.f T.dsgn.fd P_sgn (spD K 1 m_sgn) := ok_sgn T
  have G_cmp : FnOk P w K mg base (L2N.CX P w) 2 T.dcmp.f T.dcmp.fd P_cmp (spD K 2 m_cmp2) := ok_cmp T
  have G_times : FnOk P w K mg base (L2N.CX P w) 2 T.dtimes.f T.dtimes.fd P_times (spD K 2 (m_r2 fun p q => p * q)) := ok_times T
  refine T.dlroot_sign.okD sc_lroot_sign fun cdv A outer s H E so A0 hr tk hp => ⟨_, (pds_cons (pds_set (i := 3) sc_lroot_sign.nd rfl (by first | exact .inl rfl | exact .inr rfl) (pd_call G_sgn (hr.mono (by omega)) (by rfl) T.dsgn.g T.dsgn.F.kp T.dsgn.b (fun σ => L2N.passAt tk σ) (pda_cons (pd_var (pv 0)) pda_nil)))
      (pds_cons (pds_set (i := 4) sc_lroot_sign.nd rfl (by first | exact .inl rfl | exact .inr rfl) (pd_op op_mulW ol_mul (pd_call G_sgn (hr.mono (by omega)) (by rfl) T.dsgn.g T.dsgn.F.kp T.dsgn.b (fun σ => L2N.passAt tk σ) (pda_cons (pd_var (pv 1)) pda_nil)) (pd_call G_sgn (hr.mono (by omega)) (by rfl) T.dsgn.g T.dsgn.F.kp T.dsgn.b (fun σ => L2N.passAt tk σ) (pda_cons (pd_var (pv 2)) pda_nil))))
      (pds_cons (pds_if (PDW.t (pdw_or (pdt_cmp (oo_eq hr.units) ol_eq (pd_var (pv 3)) (pd_var (pv 4)) (nomark _)) (pdw_or1 (pdt_cmp (oo_eq hr.units) ol_eq (pd_var (pv 4)) pd_int (nomark _)))))
        (pds_one (pds_ret (pd_var (pv 3))))
        pds_nil)
      (pds_cons (pds_if (pdt_cmp (oo_eq hr.units) ol_eq (pd_var (pv 3)) pd_int (nomark _))
        (pds_one (pds_ret (pd_var (pv 4))))
        pds_nil)
      (pds_cons (pds_set (i := 5) sc_lroot_sign.nd rfl (by first | exact .inl rfl | exact .inr rfl) (pd_call G_cmp (hr.mono (by omega)) (by rfl) T.dcmp.g T.dcmp.F.kp T.dcmp.b (fun σ => L2N.passAt tk σ) (pda_cons (pd_call G_times (hr.mono (by omega)) (by rfl) T.dtimes.g T.dtimes.F.kp T.dtimes.b (fun σ => L2N.passAt tk σ) (pda_cons (pd_var (pv 0)) (pda_cons (pd_var (pv 0)) pda_nil))) (pda_cons (pd_call G_times (hr.mono (by omega)) (by rfl) T.dtimes.g T.dtimes.F.kp T.dtimes.b (fun σ => L2N.passAt tk σ) (pda_cons (pd_call G_times (hr.mono (by omega)) (by rfl) T.dtimes.g T.dtimes.F.kp T.dtimes.b (fun σ => L2N.passAt tk σ) (pda_cons (pd_var (pv 1)) (pda_cons (pd_var (pv 1)) pda_nil))) (pda_cons (pd_var (pv 2)) pda_nil))) pda_nil))))
      (pds_cons (pds_if (pdt_cmp (oo_eq hr.units) ol_eq (pd_var (pv 5)) pd_int (nomark _))
        (pds_one (pds_ret pd_int))
        pds_nil)
      (pds_cons (pds_if (pdt_cmp op_gt ol_gt (pd_var (pv 5)) pd_int (nomark _))
        (pds_one (pds_ret (pd_var (pv 3))))
        pds_nil)
      (pds_one (pds_ret (pd_var (pv 4))))))))))), fun ds Q E hl h => ?_⟩
  obtain ⟨p, f, u, rfl, ⟨o1, o2, o3, o4⟩, h⟩ := h
  have sb : ∀ q : Rat, Bi 1 (sgn q.num) := fun q => by
    unfold Bi
    rcases sg_cases q with ⟨_, e⟩ | ⟨_, e⟩ | ⟨_, e⟩ <;> (show (sg q).natAbs < 2 ^ 1; rw [e]; decide)
  have mul : sgn f.num * sgn u.num = sg (f * u) := by
    rw [← sg_mul]
    unfold sgn
    rcases Int.lt_trichotomy f.num 0 with a | a | a <;> rcases Int.lt_trichotomy u.num 0 with b | b | b
    · have := Int.mul_pos_of_neg_of_neg a b
      rw [if_neg (by omega), if_pos a, if_neg (by omega), if_pos b, if_pos (by omega)]
      rfl
    · rw [b, Int.mul_zero]
      simp
    · have := Int.mul_neg_of_neg_of_pos a b
      rw [if_neg (by omega), if_pos a, if_pos b, if_neg (by omega), if_pos this]
      rfl
    · rw [a, Int.zero_mul]
      simp
    · rw [a, Int.zero_mul]
      simp
    · rw [a, Int.zero_mul]
      simp
    · have := Int.mul_neg_of_pos_of_neg a b
      rw [if_pos a, if_neg (by omega), if_pos b, if_neg (by omega), if_pos this]
      rfl
    · rw [b, Int.mul_zero]
      simp
    · have := Int.mul_pos a b
      rw [if_pos a, if_pos b, if_pos (by omega)]
      rfl
  have rqe : ∀ q : Rat, rq q = .tup [.int q.num, .int q.den] := fun q => rfl
  have walkp : ∀ (q : Rat) (Q : D → Prop) (E : XD → Prop), m_sgn [rq q] Q E = Q (.int (sgn q.num)) := fun q Q E => rfl
  walk_at "wk"
  simp only [walkp]
  walk_at "wk"
  refine ⟨(sb f).cm (sb u) (by decide) (by decide) (by decide), ?_⟩
  rw [mul]
  have e1 : sgn p.num = sg p := rfl
  rw [e1]
  unfold rsQ at h
  have tail : ∀ a b : Int, a = sg p → b = sg (f * u) → ¬ a = b → ¬ b = 0 → ¬ a = 0 → (b = -a) := fun a b ea eb n1 n2 n3 => by
    rcases sg_cases p with ⟨_, e⟩ | ⟨_, e⟩ | ⟨_, e⟩ <;> rcases sg_cases (f * u) with ⟨_, e'⟩ | ⟨_, e'⟩ | ⟨_, e'⟩ <;> omega
  generalize hp1 : sg p = a at *
  generalize hu1 : sg (f * u) = b at *
  by_cases c1 : a = b
  · rw [decide_eq_true c1]
    subst c1
    walk_at "wk"
    by_cases c0 : a = 0
    · rw [if_pos c0] at h
      exact h
    · rw [if_neg c0, if_pos (.inr rfl)] at h
      exact h
  rw [decide_eq_false c1]
  walk_at "wk"
  by_cases c2 : b = 0
  · rw [if_pos (decide_eq_true c2)]
    have c0 : ¬ a = 0 := fun z => c1 (by omega)
    rw [if_neg c0, if_pos (.inl c2)] at h
    exact h
  rw [if_neg (by rw [decide_eq_true_iff]; exact c2)]
  by_cases c0 : a = 0
  · rw [if_pos (decide_eq_true c0)]
    rw [if_pos c0] at h
    exact h
  rw [if_neg (by rw [decide_eq_true_iff]; exact c0)]
  rw [if_neg c0, if_neg (fun z => by rcases z with z | z; exact c2 z; exact c1 z.symm)] at h
  have tl := tail a b rfl rfl c1 c2 c0
  refine ⟨p, p, rfl, o1, f, f, rfl, o2, _, u, rfl, o3, _, _, rfl, o4, ?_⟩
  dsimp only
  rcases sg_cases (p * p - f * f * u) with ⟨_, e⟩ | ⟨_, e⟩ | ⟨_, e⟩
  · rw [e] at h ⊢
    rw [Int.mul_one] at h
    walk_at "wk"
    exact h
  · rw [e] at h ⊢
    rw [Int.mul_neg_one] at h
    rw [← tl] at h
    walk_at "wk"
    exact h
  · rw [e] at h ⊢
    rw [Int.mul_zero] at h
    walk_at "wk"
    exact h
end
end My
set_option exponentiation.threshold 100000
namespace My
open PySem PySem.Spec PyProof.Rows L2
local macro_rules | `(tactic| walk_at "dl") => `(tactic| simp only [startD, List.map_cons, List.map_nil, List.length_cons, List.length_nil, List.cons_append, List.nil_append, List.replicate_succ, List.replicate_zero, List.getElem?_cons_zero, List.getElem?_cons_succ, List.set_cons_zero, List.set_cons_succ,
  dVar, rdS, dC, dNew, dOp, onB, qB, dChain, qAnd, qOr, qNot, qTru, truD, dIf, dAnd, dOr, dNot, dUn, ddNeg, lNil, lCons, dTup, nLst, ddI, ddI0, ddAdd, isNonD, isBlD, ddIsN, ddIsB, ddIx_t0, ddIx_t1, ddIx_t2, ddIx_t3, ddIx_l0, ddIx_l1, ddIx_l2, dCB, ddLen, ddInt1, ddAbs, ddMM, ddTuple, nCB, nnList, ddIsi, dCall,
  sSkip, sSeq, sBreak, sCont, sExpr, sRet, sRetN, sIf, sNever, gdName, gdNil, gdCons, gdTup, sAsg, sSetN, sPar, sRaise, sFrz, owS, sApp, sIns, dLenO, dIxO, sTry, sFor, iL, iT, onL, onT, iR1, iR2, nComp, qYes,
  ddEq_ii, ddEq_ss, ddEq_bb, Bool.false_bne, Bool.true_bne, List.append_nil, true_and, and_true, if_true, if_false, Bool.not_true, Bool.not_false, Bool.true_eq_false, Bool.false_eq_true, ite_true, ite_false, id_eq])

local macro_rules | `(tactic| walk_at "is") => `(tactic| simp only [plain_non, isIn_non_int, isIn_non_str, isIn_non_bool, isIn_non_list, isIn_non_tuple, isIn_non_dict, plain_bl, isIn_bl_int, isIn_bl_str, isIn_bl_bool, isIn_bl_list, isIn_bl_tuple, isIn_bl_dict, plain_int, isIn_int_int, isIn_int_str, isIn_int_bool, isIn_int_list, isIn_int_tuple, isIn_int_dict, plain_str, isIn_str_int, isIn_str_str, isIn_str_bool, isIn_str_list, isIn_str_tuple, isIn_str_dict, plain_tup, isIn_tup_int, isIn_tup_str, isIn_tup_bool, isIn_tup_list, isIn_tup_tuple, isIn_tup_dict, plain_lst, isIn_lst_int, isIn_lst_str, isIn_lst_bool, isIn_lst_list, isIn_lst_tuple, isIn_lst_dict, sl0, sl1, sl2, sl3, sl4, decide_true, decide_false, ddIsi, ddIsi2, true_and, if_true, if_false, Bool.false_eq_true, Bool.not_true, Bool.not_false, Bool.or_true, Bool.or_false, Bool.true_or, and_true])
local macro_rules | `(tactic| walk_at "wk") => `(tactic| ((try walk_at "dl"); (try walk_at "is"); (try walk_at "dl")))

/-! ### ratios with a known denominator -/
/-- q is i / D with |i| at most n -/
def Cd (D n : Nat) (q : Rat) : Prop := ∃ i : Int, q * (D : Rat) = (i : Rat) ∧ i.natAbs ≤ n
theorem Cd.add {D n m : Nat} {p q : Rat} (h : Cd D n p) (k : Cd D m q) : Cd D (n + m) (p + q) := by
  obtain ⟨i, e1, l1⟩ := h
  obtain ⟨j, e2, l2⟩ := k
  refine ⟨i + j, ?_, by omega⟩
  rw [Rat.intCast_add, Rat.add_mul, e1, e2]
theorem Cd.neg {D n : Nat} {p : Rat} (h : Cd D n p) : Cd D n (-p) := by
  obtain ⟨i, e1, l1⟩ := h
  refine ⟨-i, ?_, by omega⟩
  rw [Rat.intCast_neg, Rat.neg_mul, e1]
theorem Cd.sub {D n m : Nat} {p q : Rat} (h : Cd D n p) (k : Cd D m q) : Cd D (n + m) (p - q) := by
  rw [Rat.sub_eq_add_neg]
  exact h.add k.neg
theorem Cd.mul {D E n m : Nat} {p q : Rat} (h : Cd D n p) (k : Cd E m q) : Cd (D * E) (n * m) (p * q) := by
  obtain ⟨i, e1, l1⟩ := h
  obtain ⟨j, e2, l2⟩ := k
  refine ⟨i * j, ?_, ?_⟩
  · rw [Rat.intCast_mul, Rat.natCast_mul, ← e1, ← e2]
    grind
  · rw [Int.natAbs_mul]
    exact Nat.mul_le_mul l1 l2
theorem Cd.up {D n : Nat} {p : Rat} (h : Cd D n p) (k m : Nat) (l : n * k ≤ m) : Cd (D * k) m p := by
  obtain ⟨i, e1, l1⟩ := h
  refine ⟨i * k, ?_, ?_⟩
  · rw [Rat.intCast_mul, Rat.natCast_mul, ← Rat.mul_assoc, e1]
    rfl
  · rw [Int.natAbs_mul, Int.natAbs_natCast]
    exact Nat.le_trans (Nat.mul_le_mul_right _ l1) l
theorem Cd.le {D n m : Nat} {p : Rat} (h : Cd D n p) (l : n ≤ m) : Cd D m p := by
  obtain ⟨i, e1, l1⟩ := h
  exact ⟨i, e1, by omega⟩
theorem Cd.sz {D n a b : Nat} {q : Rat} (h : Cd D n q) (l : D ≠ 0 ∧ n < 10 ^ a ∧ D < 10 ^ b) : Sz a b q := by
  obtain ⟨i, e1, l1⟩ := h
  have e : q = Rat.divInt i D := by
    have d0 : ((D : Nat) : Rat) ≠ 0 := fun z => l.1 (by
      have : ((D : Nat) : Rat) = ((0 : Nat) : Rat) := z
      exact Rat.natCast_inj.mp this)
    rw [Rat.divInt_eq_div, ← e1]
    show q = q * (D : Rat) / ((D : Int) : Rat)
    rw [Rat.intCast_natCast]
    grind
  rw [e]
  exact sz_div (by omega) (by rw [Int.natAbs_natCast]; exact l.2.2) (by omega)
theorem cd_div (i : Int) (d c n : Nat) (h : d ≠ 0) (l : i.natAbs * c ≤ n) : Cd (d * c) n (Rat.divInt i d) := by
  refine ⟨i * c, ?_, by rw [Int.natAbs_mul, Int.natAbs_natCast]; exact l⟩
  have d0 : ((d : Nat) : Rat) ≠ 0 := fun z => h (by
    have : ((d : Nat) : Rat) = ((0 : Nat) : Rat) := z
    exact Rat.natCast_inj.mp this)
  rw [Rat.divInt_eq_div, Rat.intCast_mul, Rat.natCast_mul, Rat.intCast_natCast, Rat.intCast_natCast]
  grind
def m_small : DF := fun ds Q _ => match ds with
  | [.sto] => ∀ q, Cd 6 24 q → Q (rq q)
  | _ => False
def m_positive : DF := fun ds Q _ => match ds with
  | [.sto] => ∀ q, Cd 6 36 q → 0 < q → Q (rq q)
  | _ => False
def m_point : DF := fun ds Q _ => match ds with
  | [.sto] => ∀ x y, Cd 6 24 x → Cd 6 24 y → Q (pt x y)
  | _ => False
theorem low_at (a b : Int) (Q : D → Prop) (hb : b ≠ 0) (hz : b.natAbs.log2 < 9000) (h : Q (rq (Rat.divInt a b))) (E : XD → Prop) : m_low [.int a, .int b] Q E := by
  refine ⟨hz, ?_⟩
  rw [if_neg hb, low_div_rq hb]
  exact h
theorem pos_div {a b : Int} (h : 0 < a) (k : 0 < b) : 0 < Rat.divInt a b := by
  rcases sg_cases (Rat.divInt a b) with ⟨c, _⟩ | ⟨_, c⟩ | ⟨_, c⟩
  · exact c
  · rw [sg_div k, show sgn a = 1 from if_pos h] at c
    exact absurd c (by decide)
  · rw [sg_div k, show sgn a = 1 from if_pos h] at c
    exact absurd c (by decide)
abbrev s_small : Stmt := topS 70
abbrev N_small : List Str := ["store", "up"]
abbrev P_small : List Str := ["store"]
theorem sc_small : FnScope N_small P_small (defScope s_small) := ⟨rfl, rfl, rfl, by decide +kernel, rfl, by decide +kernel, by decide +kernel⟩

abbrev s_positive : Stmt := topS 71
abbrev N_positive : List Str := ["store"]
abbrev P_positive : List Str := ["store"]
theorem sc_positive : FnScope N_positive P_positive (defScope s_positive) := ⟨rfl, rfl, rfl, by decide +kernel, rfl, by decide +kernel, by decide +kernel⟩

abbrev s_point : Stmt := topS 72
abbrev N_point : List Str := ["store"]
abbrev P_point : List Str := ["store"]
theorem sc_point : FnScope N_point P_point (defScope s_point) := ⟨rfl, rfl, rfl, by decide +kernel, rfl, by decide +kernel, by decide +kernel⟩

section
variable {P : Program} {w : World} {K : PySem.W.Frag} {mg : Str → Option Value} {base : Heap}
theorem ok_small (T : Txt K mg) : FnOk P w K mg base (L2N.CX P w) 174 T.dsmall.f T.dsmall.fd P_small (spD K 1 m_small) := by
  have G_take : FnOk P w K mg base (L2N.CX P w) 171 T.dtake.f T.dtake.fd P_take (spD K 2 m_take) := ok_takeD T
  have G_between : FnOk P w K mg base (L2N.CX P w) 173 T.dbetween.f T.dbetween.fd P_between (spD K 3 m_between) := ok_betweenD T
  have G_low : FnOk P w K mg base (L2N.CX P w) 1 T.dlow.f T.dlow.fd P_low (spD K 2 m_low) := ok_low T
  refine T.dsmall.okD sc_small fun cdv A outer s H E so A0 hr tk hp => ⟨_, (pds_cons (pds_set (i := 1) sc_small.nd rfl (by first | exact .inl rfl | exact .inr rfl) (pd_op op_sub ol_sub (pd_call G_between (hr.mono (by omega)) (by rfl) T.dbetween.g T.dbetween.F.kp T.dbetween.b (fun σ => L2N.passAt tk σ) (pda_cons (pd_var (pv 0)) (pda_cons pd_int (pda_cons pd_int pda_nil)))) pd_int))
      (pds_cons (pds_if (pdt_cmp (oo_eq hr.units) ol_eq (pd_call G_take (hr.mono (by omega)) (by rfl) T.dtake.g T.dtake.F.kp T.dtake.b (fun σ => L2N.passAt tk σ) (pda_cons (pd_var (pv 0)) (pda_cons pd_int pda_nil))) pd_int (nomark _))
        (pds_one (pds_set (i := 1) sc_small.nd rfl (by first | exact .inl rfl | exact .inr rfl) pd_int))
        pds_nil)
      (pds_one (pds_ret (pd_call G_low (hr.mono (by omega)) (by rfl) T.dlow.g T.dlow.F.kp T.dlow.b (fun σ => L2N.passAt tk σ) (pda_cons (pd_var (pv 1)) (pda_cons (pd_ix ix_seq ol_ix (pd_new (pdn_lst (pda_cons pd_int (pda_cons pd_int (pda_cons pd_int (pda_cons pd_int pda_nil)))))) (pd_call G_take (hr.mono (by omega)) (by rfl) T.dtake.g T.dtake.F.kp T.dtake.b (fun σ => L2N.passAt tk σ) (pda_cons (pd_var (pv 0)) (pda_cons pd_int pda_nil))) (fun _ _ => rfl)) pda_nil))))))), fun ds Q E hl h => ?_⟩
  unfold m_small at h
  split at h
  · walk_at "wk"
    refine ⟨by decide, by decide, fun up u0 u1 => ?_⟩
    have last : ∀ up : Int, up.natAbs ≤ 4 → m_take [.sto, .int 4] (fun d_1 => ddIx (.lst [.int 1, .int 1, .int 2, .int 3]) d_1 fun d_2 => m_low [.int up, d_2] Q E) E := fun up lu => by
      refine ⟨by decide, fun i i0 i1 => ddIx_any i0 (by show i < 4; omega) fun d hd => ?_⟩
      simp only [List.mem_cons, List.not_mem_nil, or_false] at hd
      rcases hd with rfl | rfl | rfl | rfl
      · exact low_at _ _ _ (by decide) (by decide) (h _ (cd_div up 1 6 24 (by decide) (by omega))) E
      · exact low_at _ _ _ (by decide) (by decide) (h _ (cd_div up 1 6 24 (by decide) (by omega))) E
      · exact low_at _ _ _ (by decide) (by decide) (h _ (cd_div up 2 3 24 (by decide) (by omega))) E
      · exact low_at _ _ _ (by decide) (by decide) (h _ (cd_div up 3 2 24 (by decide) (by omega))) E
    refine ⟨by decide, fun r r0 r1 => ?_⟩
    walk_at "wk"
    by_cases z : r = 0
    · simp only [decide_eq_true z]
      walk_at "wk"
      exact last 0 (by decide)
    · simp only [decide_eq_false z]
      walk_at "wk"
      exact last (up - 4) (by omega)
  · exact h.elim
theorem ok_positive (T : Txt K mg) : FnOk P w K mg base (L2N.CX P w) 174 T.dpositive.f T.dpositive.fd P_positive (spD K 1 m_positive) := by
  have G_take : FnOk P w K mg base (L2N.CX P w) 171 T.dtake.f T.dtake.fd P_take (spD K 2 m_take) := ok_takeD T
  have G_between : FnOk P w K mg base (L2N.CX P w) 173 T.dbetween.f T.dbetween.fd P_between (spD K 3 m_between) := ok_betweenD T
  have G_low : FnOk P w K mg base (L2N.CX P w) 1 T.dlow.f T.dlow.fd P_low (spD K 2 m_low) := ok_low T
  refine T.dpositive.okD sc_positive fun cdv A outer s H E so A0 hr tk hp => ⟨_, (pds_one (pds_ret (pd_call G_low (hr.mono (by omega)) (by rfl) T.dlow.g T.dlow.F.kp T.dlow.b (fun σ => L2N.passAt tk σ) (pda_cons (pd_call G_between (hr.mono (by omega)) (by rfl) T.dbetween.g T.dbetween.F.kp T.dbetween.b (fun σ => L2N.passAt tk σ) (pda_cons (pd_var (pv 0)) (pda_cons pd_int (pda_cons pd_int pda_nil)))) (pda_cons (pd_ix ix_seq ol_ix (pd_new (pdn_lst (pda_cons pd_int (pda_cons pd_int (pda_cons pd_int (pda_cons pd_int pda_nil)))))) (pd_call G_take (hr.mono (by omega)) (by rfl) T.dtake.g T.dtake.F.kp T.dtake.b (fun σ => L2N.passAt tk σ) (pda_cons (pd_var (pv 0)) (pda_cons pd_int pda_nil))) (fun _ _ => rfl)) pda_nil))))), fun ds Q E hl h => ?_⟩
  unfold m_positive at h
  split at h
  · walk_at "wk"
    refine ⟨by decide, by decide, fun up u0 u1 => ?_⟩
    refine ⟨by decide, fun i i0 i1 => ddIx_any i0 (by show i < 4; omega) fun d hd => ?_⟩
    simp only [List.mem_cons, List.not_mem_nil, or_false] at hd
    rcases hd with rfl | rfl | rfl | rfl
    · exact low_at _ _ _ (by decide) (by decide) (h _ (cd_div up 1 6 36 (by decide) (by omega)) (pos_div (by omega) (by decide))) E
    · exact low_at _ _ _ (by decide) (by decide) (h _ (cd_div up 1 6 36 (by decide) (by omega)) (pos_div (by omega) (by decide))) E
    · exact low_at _ _ _ (by decide) (by decide) (h _ (cd_div up 2 3 36 (by decide) (by omega)) (pos_div (by omega) (by decide))) E
    · exact low_at _ _ _ (by decide) (by decide) (h _ (cd_div up 3 2 36 (by decide) (by omega)) (pos_div (by omega) (by decide))) E
  · exact h.elim
theorem ok_point (T : Txt K mg) : FnOk P w K mg base (L2N.CX P w) 175 T.dpoint.f T.dpoint.fd P_point (spD K 1 m_point) := by
  have G_small : FnOk P w K mg base (L2N.CX P w) 174 T.dsmall.f T.dsmall.fd P_small (spD K 1 m_small) := ok_small T
  refine T.dpoint.okD sc_point fun cdv A outer s H E so A0 hr tk hp => ⟨_, (pds_one (pds_ret (pd_tup (pda_cons (pd_call G_small (hr.mono (by omega)) (by rfl) T.dsmall.g T.dsmall.F.kp T.dsmall.b (fun σ => L2N.passAt tk σ) (pda_cons (pd_var (pv 0)) pda_nil)) (pda_cons (pd_call G_small (hr.mono (by omega)) (by rfl) T.dsmall.g T.dsmall.F.kp T.dsmall.b (fun σ => L2N.passAt tk σ) (pda_cons (pd_var (pv 0)) pda_nil)) pda_nil))))), fun ds Q E hl h => ?_⟩
  unfold m_point at h
  split at h
  · walk_at "wk"
    exact fun x hx y hy => h x y hx hy
  · exact h.elim
end
end My
set_option exponentiation.threshold 100000
namespace My
open PySem PySem.Spec PyProof.Rows L2
def dDNew : DE := fun _ Q _ => Q (.dct [] [])
section
variable {X : Cx} {g : Gx} {EX : EXT} {pos : Pos}
theorem pd_dnew : PD X g EX (.Dict [] [] pos) dDNew := ⟨pe_dnewK.imp fun σ H Q h => by
  obtain ⟨A, ρ, Qd, Ed, S, h, c, cx⟩ := h
  intro p hp
  have y := Ext.laid (o := .dK []) S.x.good hp
  exact c (.dct [] []) (.ref p) _ _ y ⟨p, [], rfl, .inl ⟨[], upd_same, rfl, rfl⟩, rfl⟩ h⟩
end
local macro_rules | `(tactic| walk_at "dl") => `(tactic| simp only [startD, List.map_cons, List.map_nil, List.length_cons, List.length_nil, List.cons_append, List.nil_append, List.replicate_succ, List.replicate_zero, List.getElem?_cons_zero, List.getElem?_cons_succ, List.set_cons_zero, List.set_cons_succ,
  dVar, rdS, dC, dNew, dOp, onB, qB, dChain, qAnd, qOr, qNot, qTru, truD, dIf, dAnd, dOr, dNot, dUn, ddNeg, lNil, lCons, dTup, nLst, ddI, ddI0, ddAdd, isNonD, isBlD, ddIsN, ddIsB, ddIx_t0, ddIx_t1, ddIx_t2, ddIx_t3, ddIx_l0, ddIx_l1, ddIx_l2, dCB, ddLen, ddInt1, ddAbs, ddMM, ddTuple, nCB, nnList, ddIsi, dCall,
  sSkip, sSeq, sBreak, sCont, sExpr, sRet, sRetN, sIf, sNever, gdName, gdNil, gdCons, gdTup, sAsg, sSetN, sPar, sRaise, sFrz, owS, sApp, sIns, dLenO, dIxO, sTry, sFor, iL, iT, onL, onT, iR1, iR2, nComp, qYes,
  ddEq_ii, ddEq_ss, ddEq_bb, Bool.false_bne, Bool.true_bne, List.append_nil, true_and, and_true, if_true, if_false, Bool.not_true, Bool.not_false, Bool.true_eq_false, Bool.false_eq_true, ite_true, ite_false, id_eq])

local macro_rules | `(tactic| walk_at "is") => `(tactic| simp only [plain_non, isIn_non_int, isIn_non_str, isIn_non_bool, isIn_non_list, isIn_non_tuple, isIn_non_dict, plain_bl, isIn_bl_int, isIn_bl_str, isIn_bl_bool, isIn_bl_list, isIn_bl_tuple, isIn_bl_dict, plain_int, isIn_int_int, isIn_int_str, isIn_int_bool, isIn_int_list, isIn_int_tuple, isIn_int_dict, plain_str, isIn_str_int, isIn_str_str, isIn_str_bool, isIn_str_list, isIn_str_tuple, isIn_str_dict, plain_tup, isIn_tup_int, isIn_tup_str, isIn_tup_bool, isIn_tup_list, isIn_tup_tuple, isIn_tup_dict, plain_lst, isIn_lst_int, isIn_lst_str, isIn_lst_bool, isIn_lst_list, isIn_lst_tuple, isIn_lst_dict, sl0, sl1, sl2, sl3, sl4, decide_true, decide_false, ddIsi, ddIsi2, true_and, if_true, if_false, Bool.false_eq_true, Bool.not_true, Bool.not_false, Bool.or_true, Bool.or_false, Bool.true_or, and_true])
local macro_rules | `(tactic| walk_at "wk") => `(tactic| ((try walk_at "dl"); (try walk_at "is"); (try walk_at "dl")))

/-- no ratio, but plain -/
def NotR (d : D) : Prop := Pl2 d ∧ isRat d = false
theorem NotR.pl {d : D} (h : NotR d) : Pl d := h.1.1
def m_not_ratio : DF := fun ds Q _ => match ds with
  | [.sto, .bl _] => ∀ d, NotR d → Q d
  | _ => False
def plB (d : D) : Bool := plainD d && match d with
  | .tup l => l.all plainD
  | _ => true
def pl2B (d : D) : Bool := plB d && match d with
  | .tup l => l.all plB
  | _ => true
def nrB (d : D) : Bool := pl2B d && !isRat d
theorem pl_of {d : D} (h : plB d = true) : Pl d := by
  unfold plB at h
  rw [Bool.and_eq_true] at h
  refine ⟨h.1, fun l e => ?_⟩
  subst e
  exact List.all_eq_true.mp h.2
theorem nrB_ok {d : D} (h : nrB d = true) : NotR d := by
  unfold nrB pl2B at h
  rw [Bool.and_eq_true, Bool.and_eq_true] at h
  refine ⟨⟨pl_of h.1.1, fun l e => ?_⟩, by simpa using h.2⟩
  subst e
  exact fun x hx => pl_of (List.all_eq_true.mp h.1.2 x hx)
def itemsR (up b : Int) : List D := [.int 1, .int 0, .bl true, .str "1", .str "1/2", .tup [.int 1], .tup [], .tup [.int 1, .int 0], .tup [.int 0, .int 0], .tup [.int 0, .int 2], .tup [.int 1, .int (-1)], .tup [.int 0, .int (-1)],
  .tup [.bl true, .int 1], .tup [.int 1, .bl true], .tup [.bl false, .int 1], .tup [.int 1, .int 1, .int 1], .tup [.str "1", .int 1], .tup [.int 1, .str "1"], .tup [.non, .int 1], .tup [.int 1, .non],
  .tup [.tup [.int 1, .int 1], .tup [.int 1, .int 1]], .tup [.tup [.int 1, .int 1], .int 1], .dct [] [], .lst [.int up, .int 1], .lst [.int 1, .int 1], .tup [.int (up * b), .int b], .tup [.int b, .int (2 * b)], .tup [.int (-b), .int (2 * b)], .tup [.int (10 ^ 40), .int (10 ^ 39)]]
theorem itemsR_fin : ∀ u : Fin 9, ∀ v : Fin 3, (itemsR ((u.val : Int) - 4) ((v.val : Int) + 2)).all nrB = true := by decide +kernel
theorem itemsR_ok {up b : Int} (h1 : -4 ≤ up) (h2 : up ≤ 4) (h3 : 2 ≤ b) (h4 : b < 5) : ∀ d ∈ itemsR up b, NotR d := fun d hd => by
  have h := itemsR_fin ⟨(up + 4).toNat, by omega⟩ ⟨(b - 2).toNat, by omega⟩
  have e1 : (((up + 4).toNat : Nat) : Int) - 4 = up := by omega
  have e2 : (((b - 2).toNat : Nat) : Int) + 2 = b := by omega
  dsimp only at h
  rw [e1, e2] at h
  exact nrB_ok (List.all_eq_true.mp h d hd)
abbrev s_not_ratio : Stmt := topS 74
abbrev N_not_ratio : List Str := ["store", "none_too", "up", "by", "ways"]
abbrev P_not_ratio : List Str := ["store", "none_too"]
theorem sc_not_ratio : FnScope N_not_ratio P_not_ratio (defScope s_not_ratio) := ⟨rfl, rfl, rfl, by decide +kernel, rfl, by decide +kernel, by decide +kernel⟩

section
variable {P : Program} {w : World} {K : PySem.W.Frag} {mg : Str → Option Value} {base : Heap}
theorem ok_not_ratio (T : Txt K mg) : FnOk P w K mg base (L2N.CX P w) 174 T.dnot_ratio.f T.dnot_ratio.fd P_not_ratio (spD K 2 m_not_ratio) := by
  have G_take : FnOk P w K mg base (L2N.CX P w) 171 T.dtake.f T.dtake.fd P_take (spD K 2 m_take) := ok_takeD T
  have G_edge : FnOk P w K mg base (L2N.CX P w) 172 T.dedge.f T.dedge.fd P_edge (spD K 2 m_take) := ok_edgeD T
  have G_between : FnOk P w K mg base (L2N.CX P w) 173 T.dbetween.f T.dbetween.fd P_between (spD K 3 m_between) := ok_betweenD T
  refine T.dnot_ratio.okD sc_not_ratio fun cdv A outer s H E so A0 hr tk hp => ⟨_, (pds_cons (pds_if (PDW.t (pdw_and (pdt_tru (pd_var (pv 1))) (pdw_and1 (pdt_cmp (oo_eq hr.units) ol_eq (pd_call G_take (hr.mono (by omega)) (by rfl) T.dtake.g T.dtake.F.kp T.dtake.b (fun σ => L2N.passAt tk σ) (pda_cons (pd_var (pv 0)) (pda_cons pd_int pda_nil))) pd_int (nomark _)))))
        (pds_one (pds_ret pd_non))
        pds_nil)
      (pds_cons (pds_set (i := 2) sc_not_ratio.nd rfl (by first | exact .inl rfl | exact .inr rfl) (pd_call G_between (hr.mono (by omega)) (by rfl) T.dbetween.g T.dbetween.F.kp T.dbetween.b (fun σ => L2N.passAt tk σ) (pda_cons (pd_var (pv 0)) (pda_cons (pd_neg pd_int) (pda_cons pd_int pda_nil)))))
      (pds_cons (pds_set (i := 3) sc_not_ratio.nd rfl (by first | exact .inl rfl | exact .inr rfl) (pd_op oo_add ol_add pd_int (pd_call G_take (hr.mono (by omega)) (by rfl) T.dtake.g T.dtake.F.kp T.dtake.b (fun σ => L2N.passAt tk σ) (pda_cons (pd_var (pv 0)) (pda_cons pd_int pda_nil)))))
      (pds_cons (pds_set (i := 4) sc_not_ratio.nd rfl (by first | exact .inl rfl | exact .inr rfl) (pd_new (pdn_lst (pda_cons pd_int (pda_cons pd_int (pda_cons pd_bl (pda_cons pd_str (pda_cons pd_str (pda_cons (pd_tup (pda_cons pd_int pda_nil)) (pda_cons (pd_tup pda_nil) (pda_cons (pd_tup (pda_cons pd_int (pda_cons pd_int pda_nil))) (pda_cons (pd_tup (pda_cons pd_int (pda_cons pd_int pda_nil))) (pda_cons (pd_tup (pda_cons pd_int (pda_cons pd_int pda_nil))) (pda_cons (pd_tup (pda_cons pd_int (pda_cons (pd_neg pd_int) pda_nil))) (pda_cons (pd_tup (pda_cons pd_int (pda_cons (pd_neg pd_int) pda_nil))) (pda_cons (pd_tup (pda_cons pd_bl (pda_cons pd_int pda_nil))) (pda_cons (pd_tup (pda_cons pd_int (pda_cons pd_bl pda_nil))) pda_nil)))))))))))))))))
      (pds_cons (pds_set (i := 4) sc_not_ratio.nd rfl (by first | exact .inl rfl | exact .inr rfl) (pd_op oo_add ol_add (pd_var (pv 4)) (pd_new (pdn_lst (pda_cons (pd_tup (pda_cons pd_bl (pda_cons pd_int pda_nil))) (pda_cons (pd_tup (pda_cons pd_int (pda_cons pd_int (pda_cons pd_int pda_nil)))) (pda_cons (pd_tup (pda_cons pd_str (pda_cons pd_int pda_nil))) (pda_cons (pd_tup (pda_cons pd_int (pda_cons pd_str pda_nil))) (pda_cons (pd_tup (pda_cons pd_non (pda_cons pd_int pda_nil))) (pda_cons (pd_tup (pda_cons pd_int (pda_cons pd_non pda_nil))) (pda_cons (pd_tup (pda_cons (pd_tup (pda_cons pd_int (pda_cons pd_int pda_nil))) (pda_cons (pd_tup (pda_cons pd_int (pda_cons pd_int pda_nil))) pda_nil))) (pda_cons (pd_tup (pda_cons (pd_tup (pda_cons pd_int (pda_cons pd_int pda_nil))) (pda_cons pd_int pda_nil))) (pda_cons pd_dnew pda_nil)))))))))))))
      (pds_cons (pds_set (i := 4) sc_not_ratio.nd rfl (by first | exact .inl rfl | exact .inr rfl) (pd_op oo_add ol_add (pd_var (pv 4)) (pd_new (pdn_lst (pda_cons (pd_new (pdn_lst (pda_cons (pd_var (pv 2)) (pda_cons pd_int pda_nil)))) (pda_cons (pd_new (pdn_lst (pda_cons pd_int (pda_cons pd_int pda_nil)))) (pda_cons (pd_tup (pda_cons (pd_op op_mulW ol_mul (pd_var (pv 2)) (pd_var (pv 3))) (pda_cons (pd_var (pv 3)) pda_nil))) (pda_cons (pd_tup (pda_cons (pd_var (pv 3)) (pda_cons (pd_op op_mulW ol_mul pd_int (pd_var (pv 3))) pda_nil))) (pda_cons (pd_tup (pda_cons (pd_neg (pd_var (pv 3))) (pda_cons (pd_op op_mulW ol_mul pd_int (pd_var (pv 3))) pda_nil))) (pda_cons (pd_tup (pda_cons (pd_op op_pow ol_pow pd_int pd_int) (pda_cons (pd_op op_pow ol_pow pd_int pd_int) pda_nil))) pda_nil))))))))))
      (pds_one (pds_ret (pd_ix ix_seq ol_ix (pd_var (pv 4)) (pd_call G_edge (hr.mono (by omega)) (by rfl) T.dedge.g T.dedge.F.kp T.dedge.b (fun σ => L2N.passAt tk σ) (pda_cons (pd_var (pv 0)) (pda_cons (pd_callB oo_len cl_len (by rfl) T.m_len bt_len (pda_cons (pd_var (pv 4)) pda_nil)) pda_nil))) (fun _ _ => rfl)))))))))), fun ds Q E hl h => ?_⟩
  unfold m_not_ratio at h
  split at h
  · rename_i b
    cases b
    · walk_at "wk"
      refine ⟨by decide, by decide, fun up u0 u1 => ?_⟩
      refine ⟨by decide, fun v v0 v1 => ?_⟩
      walk_at "wk"
      refine ⟨by decide, ?_⟩
      simp only [dDNew]
      walk_at "wk"
      refine ⟨by decide, by decide, ?_⟩
      have v3 : v < 3 := by omega
      have cm : ∀ a b : Int, -100 ≤ a → a ≤ 100 → -100 ≤ b → b ≤ 100 → CMulW a b := fun a b h1 h2 h3 h4 => wide_mul (a := 10) (b := 10) (by omega) (by omega) (by decide) (by decide) (by decide)
      refine ⟨cm _ _ (by omega) (by omega) (by omega) (by omega), cm _ _ (by omega) (by omega) (by omega) (by omega), cm _ _ (by omega) (by omega) (by omega) (by omega), ⟨by decide, by decide, by decide⟩, ⟨by decide, by decide, by decide⟩, by decide, by decide, ?_⟩
      refine ⟨by decide, fun r r0 r1 => ?_⟩
      refine ddIx_any (l := itemsR up (2 + v)) r0 (by show r < 29; omega) fun d hd => h d (itemsR_ok u0 u1 (by omega) (by omega) d hd)
    · walk_at "wk"
      refine ⟨by decide, fun r r0 r1 => ?_⟩
      walk_at "wk"
      by_cases z : r = 0
      · simp only [decide_eq_true z]
        walk_at "wk"
        exact h .non (nrB_ok (by decide +kernel))
      simp only [decide_eq_false z]
      walk_at "wk"
      refine ⟨by decide, by decide, fun up u0 u1 => ?_⟩
      refine ⟨by decide, fun v v0 v1 => ?_⟩
      walk_at "wk"
      refine ⟨by decide, ?_⟩
      simp only [dDNew]
      walk_at "wk"
      refine ⟨by decide, by decide, ?_⟩
      have v3 : v < 3 := by omega
      have cm : ∀ a b : Int, -100 ≤ a → a ≤ 100 → -100 ≤ b → b ≤ 100 → CMulW a b := fun a b h1 h2 h3 h4 => wide_mul (a := 10) (b := 10) (by omega) (by omega) (by decide) (by decide) (by decide)
      refine ⟨cm _ _ (by omega) (by omega) (by omega) (by omega), cm _ _ (by omega) (by omega) (by omega) (by omega), cm _ _ (by omega) (by omega) (by omega) (by omega), ⟨by decide, by decide, by decide⟩, ⟨by decide, by decide, by decide⟩, by decide, by decide, ?_⟩
      refine ⟨by decide, fun r r0 r1 => ?_⟩
      refine ddIx_any (l := itemsR up (2 + v)) r0 (by show r < 29; omega) fun d hd => h d (itemsR_ok u0 u1 (by omega) (by omega) d hd)
  · exact h.elim
end
end My
set_option exponentiation.threshold 100000
namespace My
open PySem PySem.Spec PyProof.Rows L2
local macro_rules | `(tactic| walk_at "dl") => `(tactic| simp only [startD, List.map_cons, List.map_nil, List.length_cons, List.length_nil, List.cons_append, List.nil_append, List.replicate_succ, List.replicate_zero, List.getElem?_cons_zero, List.getElem?_cons_succ, List.set_cons_zero, List.set_cons_succ,
  dVar, rdS, dC, dNew, dOp, onB, qB, dChain, qAnd, qOr, qNot, qTru, truD, dIf, dAnd, dOr, dNot, dUn, ddNeg, lNil, lCons, dTup, nLst, ddI, ddI0, ddAdd, isNonD, isBlD, ddIsN, ddIsB, ddIx_t0, ddIx_t1, ddIx_t2, ddIx_t3, ddIx_l0, ddIx_l1, ddIx_l2, dCB, ddLen, ddInt1, ddAbs, ddMM, ddTuple, nCB, nnList, ddIsi, dCall,
  sSkip, sSeq, sBreak, sCont, sExpr, sRet, sRetN, sIf, sNever, gdName, gdNil, gdCons, gdTup, sAsg, sSetN, sPar, sRaise, sFrz, owS, sApp, sIns, dLenO, dIxO, sTry, sFor, iL, iT, onL, onT, iR1, iR2, nComp, qYes,
  ddEq_ii, ddEq_ss, ddEq_bb, Bool.false_bne, Bool.true_bne, List.append_nil, true_and, and_true, if_true, if_false, Bool.not_true, Bool.not_false, Bool.true_eq_false, Bool.false_eq_true, ite_true, ite_false, id_eq])

local macro_rules | `(tactic| walk_at "is") => `(tactic| simp only [plain_non, isIn_non_int, isIn_non_str, isIn_non_bool, isIn_non_list, isIn_non_tuple, isIn_non_dict, plain_bl, isIn_bl_int, isIn_bl_str, isIn_bl_bool, isIn_bl_list, isIn_bl_tuple, isIn_bl_dict, plain_int, isIn_int_int, isIn_int_str, isIn_int_bool, isIn_int_list, isIn_int_tuple, isIn_int_dict, plain_str, isIn_str_int, isIn_str_str, isIn_str_bool, isIn_str_list, isIn_str_tuple, isIn_str_dict, plain_tup, isIn_tup_int, isIn_tup_str, isIn_tup_bool, isIn_tup_list, isIn_tup_tuple, isIn_tup_dict, plain_lst, isIn_lst_int, isIn_lst_str, isIn_lst_bool, isIn_lst_list, isIn_lst_tuple, isIn_lst_dict, sl0, sl1, sl2, sl3, sl4, decide_true, decide_false, ddIsi, ddIsi2, true_and, if_true, if_false, Bool.false_eq_true, Bool.not_true, Bool.not_false, Bool.or_true, Bool.or_false, Bool.true_or, and_true])
local macro_rules | `(tactic| walk_at "wk") => `(tactic| ((try walk_at "dl"); (try walk_at "is"); (try walk_at "dl")))

/-! ### draws -/
theorem seq_mid {r u : DS} {DD : DEnds} {ρ : DEnv} (P : DEnv → Prop) (h1 : ∀ R : DEnv → Prop, (∀ ρ', P ρ' → R ρ') → r { DD with nx := R } ρ) (h2 : ∀ ρ', P ρ' → u DD ρ') : sSeq r u DD ρ := h1 _ h2
theorem frz_at {i : Nat} {r : DS} {DD : DEnds} {ρ : DEnv} {l : List D} (e : ρ[i]? = some (.ow l)) (h : r DD (ρ.set i (.fr (.lst l)))) : sFrz i r DD ρ := by
  unfold sFrz
  rw [e]
  exact h
theorem pl2_tup {l : List D} (h : ∀ e ∈ l, Pl e) : Pl2 (.tup l) := ⟨⟨rfl, fun l' e => by cases e; exact fun x hx => (h x hx).1⟩, fun l' e => by cases e; exact h⟩
theorem pl2_of {d : D} (h : plainD d = true) (n : ∀ l, d ≠ .tup l) : Pl2 d := ⟨⟨h, fun l e => absurd e (n l)⟩, fun l e => absurd e (n l)⟩
theorem pl_rq (q : Rat) : Pl (rq q) := rat_pl (rq_rat q)
theorem pl_atom {d : D} (h : plainD d = true) (n : ∀ l, d ≠ .tup l) : Pl d := ⟨h, fun l e => absurd e (n l)⟩
theorem pl2_rq (q : Rat) : Pl2 (rq q) := pl2_tup fun e he => by
  simp only [List.mem_cons, List.not_mem_nil, or_false] at he
  rcases he with rfl | rfl <;> exact pl_of rfl
theorem pl2_pt (a b : Rat) : Pl2 (pt a b) := pl2_tup fun e he => by
  simp only [List.mem_cons, List.not_mem_nil, or_false] at he
  rcases he with rfl | rfl <;> exact pl_rq _
theorem pt_pt (a b : Rat) : isPt (pt a b) = true := by
  show (isRat (rq a) && isRat (rq b)) = true
  rw [rq_rat, rq_rat]
  rfl
def NotP (d : D) : Prop := Pl2 d ∧ isPt d = false
def NotV (d : D) : Prop := Pl2 d ∧ dirOk d = false
def NotQ (d : D) : Prop := Pl d ∧ isPos d = false
def NotS (d : D) : Prop := Pl3 d ∧ isSpot d = false
def m_not_point : DF := fun ds Q _ => match ds with
  | [.sto] => ∀ d, NotP d → Q d
  | _ => False
def m_not_direction : DF := fun ds Q _ => match ds with
  | [.sto] => ∀ d, NotV d → Q d
  | _ => False
def m_bad_size : DF := fun ds Q _ => match ds with
  | [.sto] => ∀ d, NotQ d → Q d
  | _ => False
def m_bad_spot : DF := fun ds Q _ => match ds with
  | [.sto] => ∀ d, NotS d → Q d
  | _ => False
def m_pzero : DF := fun ds Q _ => ∃ x y, ds = [pt x y] ∧ Q (.bl (decide (x = 0) && decide (y = 0)))
def m_direction : DF := fun ds Q _ => match ds with
  | [.sto] => ∀ x y, Cd 6 24 x → Cd 6 24 y → ¬ (x = 0 ∧ y = 0) → Q (pt x y)
  | _ => False
def m_long : DF := fun ds Q _ => match ds with
  | [.sto] => ∀ q, Sz 12 12 q → Q (rq q)
  | _ => False
def askD (px py dx dy cx cy S : Rat) : D := .lst [pt px py, pt dx dy, pt cx cy, rq S]
def m_asked : DF := fun ds Q _ => match ds with
  | [.sto] => ∀ px py dx dy cx cy S, LineSz px py dx dy cx cy S → 0 < S → Q (askD px py dx dy cx cy S)
  | _ => False
theorem ix0 (q : Rat) (R : D → Prop) : ddIx (rq q) (.int 0) R = R (.int q.num) := ddIx_t0 _ _ _
theorem cd_sz {q : Rat} (h : Cd 6 24 q) : Sz 2 1 q := h.sz (by decide)
theorem pos_or {q : Rat} (h : 0 ≤ q) : q = 0 ∨ 0 < q := by
  rcases sg_cases q with ⟨a, _⟩ | ⟨a, _⟩ | ⟨a, _⟩
  · exact .inr a
  · exact absurd a (Rat.not_lt.mpr h)
  · exact .inl a
theorem sum_ge (a b : Rat) : 0 ≤ a * a + b * b := Rat.add_nonneg (sq_ge a) (sq_ge b)
def itemsP (bad good : D) : List D := [.tup [bad, good], .tup [good, bad], .lst [good, good], .tup [good], .tup [good, good, good], good, .non, .bl true, .str "fixed", .tup [], .int 0, .dct [] []]
theorem itemsP_ok {bad : D} {q : Rat} (h : NotR bad) : ∀ d ∈ itemsP bad (rq q), NotP d := fun d hd => by
  have two : ∀ {x y : D}, Pl x → Pl y → Pl2 (.tup [x, y]) := fun hx hy => pl2_tup fun e he => by
    simp only [List.mem_cons, List.not_mem_nil, or_false] at he
    rcases he with rfl | rfl
    · exact hx
    · exact hy
  have g := pl_rq q
  unfold itemsP at hd
  simp only [List.mem_cons, List.not_mem_nil, or_false] at hd
  rcases hd with rfl | rfl | rfl | rfl | rfl | rfl | rfl | rfl | rfl | rfl | rfl | rfl
  · exact ⟨two h.pl g, by show (isRat bad && _) = false; rw [h.2]; rfl⟩
  · exact ⟨two g h.pl, by show (_ && isRat bad) = false; rw [h.2, Bool.and_false]⟩
  · exact ⟨pl2_of rfl (fun l e => by cases e), rfl⟩
  · refine ⟨pl2_tup fun e he => ?_, rfl⟩
    rw [List.mem_singleton.mp he]
    exact g
  · refine ⟨pl2_tup fun e he => ?_, rfl⟩
    simp only [List.mem_cons, List.not_mem_nil, or_false, or_self] at he
    rw [he]
    exact g
  · exact ⟨pl2_rq q, rfl⟩
  · exact ⟨pl2_of rfl (fun l e => by cases e), rfl⟩
  · exact ⟨pl2_of rfl (fun l e => by cases e), rfl⟩
  · exact ⟨pl2_of rfl (fun l e => by cases e), rfl⟩
  · exact ⟨pl2_tup fun e he => (by cases he), rfl⟩
  · exact ⟨pl2_of rfl (fun l e => by cases e), rfl⟩
  · exact ⟨pl2_of rfl (fun l e => by cases e), rfl⟩
theorem pl3_of {d : D} (h : plainD d = true) (n : ∀ l, d = .tup l → l.length ≠ 2 ∧ l.length ≠ 4) : Pl3 d := ⟨h, fun l e k => by
  have := n l e
  omega⟩
theorem pl3_tup {h : D} {t : List D} (hh : (∃ s, h = .str s) ∨ ∃ a b, h = ratD a b) (ht : ∀ e ∈ t, Pl2 e) : Pl3 (.tup (h :: t)) := ⟨rfl, fun l e _ => by
  cases e
  exact ⟨h, t, rfl, hh, ht⟩⟩
theorem isSpot_at (s : Str) (x : D) : isSpot (.tup [.str s, x]) = (decide (s = "at") && isPt x) := rfl
theorem isSpot_root (s : Str) (x y z : D) : isSpot (.tup [.str s, x, y, z]) = (decide (s = "root") && (isPt x && (isPt y && (isRat z && nnN z)))) := rfl
theorem isSpot_no {s : Str} {l : List D} (h : l.length = 0 ∨ l.length = 2 ∨ 4 ≤ l.length) : isSpot (.tup (.str s :: l)) = false := by
  match l, h with
  | [], _ => rfl
  | [_, _], _ => rfl
  | _ :: _ :: _ :: _ :: _, _ => rfl
def itemsS (spot np1 np2 nr : D) : List D := [.tup [.str "at"], .lst [.str "at", spot], .tup [.str "at", spot, spot], .tup [.str "root", spot, spot], .tup [.str "root", spot, spot, ratD (-1) 2], spot, .non,
  .tup [.str "far", ratD 1 1], .tup [.str "At", spot], .tup [.str "at", np1], .tup [.str "root", spot, spot, ratD 2 4], .str "at", .tup [], .tup [.str "root", spot, np2, ratD 1 1], .tup [.str "root", spot, spot, nr]]
theorem itemsS_ok {np1 np2 nr : D} {x y : Rat} (h : NotP np1) (h2 : NotP np2) (h3 : NotR nr) : ∀ d ∈ itemsS (pt x y) np1 np2 nr, NotS d := fun d hd => by
  have p := pl2_pt x y
  have rr : ∀ a b : Int, Pl2 (ratD a b) := fun a b => pl2_tup fun e he => by
    simp only [List.mem_cons, List.not_mem_nil, or_false] at he
    rcases he with rfl | rfl <;> exact pl_of rfl
  have one : ∀ {s : Str} {a : D}, Pl2 a → Pl3 (.tup [.str s, a]) := fun ha => pl3_tup (.inl ⟨_, rfl⟩) fun e he => by
    rw [List.mem_singleton.mp he]
    exact ha
  have three : ∀ {s : Str} {a b c : D}, Pl2 a → Pl2 b → Pl2 c → Pl3 (.tup [.str s, a, b, c]) := fun ha hb hc => pl3_tup (.inl ⟨_, rfl⟩) fun e he => by
    simp only [List.mem_cons, List.not_mem_nil, or_false] at he
    rcases he with rfl | rfl | rfl
    · exact ha
    · exact hb
    · exact hc
  unfold itemsS at hd
  simp only [List.mem_cons, List.not_mem_nil, or_false] at hd
  rcases hd with rfl | rfl | rfl | rfl | rfl | rfl | rfl | rfl | rfl | rfl | rfl | rfl | rfl | rfl | rfl
  · exact ⟨pl3_of rfl (fun l e => by cases e; exact ⟨by simp, by simp⟩), isSpot_no (.inl rfl)⟩
  · exact ⟨pl3_of rfl (fun l e => by cases e), rfl⟩
  · exact ⟨pl3_of rfl (fun l e => by cases e; exact ⟨by simp, by simp⟩), isSpot_no (.inr (.inl rfl))⟩
  · exact ⟨pl3_of rfl (fun l e => by cases e; exact ⟨by simp, by simp⟩), isSpot_no (.inr (.inl rfl))⟩
  · refine ⟨three p p (rr _ _), ?_⟩
    rw [isSpot_root, show nnN (ratD (-1) 2) = false from rfl]
    simp only [Bool.and_false]
  · refine ⟨pl3_tup (.inr ⟨_, _, rfl⟩) fun e he => ?_, rfl⟩
    rw [List.mem_singleton.mp he]
    exact pl2_rq y
  · exact ⟨pl3_of rfl (fun l e => by cases e), rfl⟩
  · exact ⟨one (rr 1 1), by rw [isSpot_at, decide_eq_false (by decide)]; rfl⟩
  · exact ⟨one p, by rw [isSpot_at, decide_eq_false (by decide)]; rfl⟩
  · exact ⟨one h.1, by rw [isSpot_at, h.2, Bool.and_false]⟩
  · refine ⟨three p p (rr _ _), ?_⟩
    rw [isSpot_root, show isRat (ratD 2 4) = false from by decide +kernel]
    simp only [Bool.and_false, Bool.false_and]
  · exact ⟨pl3_of rfl (fun l e => by cases e), rfl⟩
  · exact ⟨pl3_of rfl (fun l e => by cases e; exact ⟨by simp, by simp⟩), rfl⟩
  · refine ⟨three p h2.1 (rr _ _), ?_⟩
    rw [isSpot_root, h2.2]
    simp only [Bool.and_false, Bool.false_and]
  · refine ⟨three p p h3.1, ?_⟩
    rw [isSpot_root, h3.2]
    simp only [Bool.and_false, Bool.false_and]
def itemsV (bad good : D) : List D := [pt 0 0, .tup [bad, good], .tup [good, bad], .lst [ratD 1 1, ratD 0 1], .tup [ratD 1 1], good, .bl true, .str "Fixed", .str "", .str "slide", .tup [], .int 0]
theorem itemsV_ok {bad : D} {q : Rat} (h : NotR bad) : ∀ d ∈ itemsV bad (rq q), NotV d := fun d hd => by
  have two : ∀ {x y : D}, Pl x → Pl y → Pl2 (.tup [x, y]) := fun hx hy => pl2_tup fun e he => by
    simp only [List.mem_cons, List.not_mem_nil, or_false] at he
    rcases he with rfl | rfl
    · exact hx
    · exact hy
  have g := pl_rq q
  unfold itemsV at hd
  simp only [List.mem_cons, List.not_mem_nil, or_false] at hd
  rcases hd with rfl | rfl | rfl | rfl | rfl | rfl | rfl | rfl | rfl | rfl | rfl | rfl
  · exact ⟨pl2_pt 0 0, by rw [dir_of]; decide⟩
  · exact ⟨two h.pl g, by show (isRat bad && _ && _) = false; rw [h.2]; rfl⟩
  · exact ⟨two g h.pl, by show (_ && isRat bad && _) = false; rw [h.2, Bool.and_false]; rfl⟩
  · exact ⟨pl2_of rfl (fun l e => by cases e), rfl⟩
  · refine ⟨pl2_tup fun e he => ?_, rfl⟩
    rw [List.mem_singleton.mp he]
    exact pl_of rfl
  · exact ⟨pl2_rq q, rfl⟩
  · exact ⟨pl2_of rfl (fun l e => by cases e), rfl⟩
  · exact ⟨pl2_of rfl (fun l e => by cases e), rfl⟩
  · exact ⟨pl2_of rfl (fun l e => by cases e), rfl⟩
  · exact ⟨pl2_of rfl (fun l e => by cases e), rfl⟩
  · exact ⟨pl2_tup fun e he => (by cases he), rfl⟩
  · exact ⟨pl2_of rfl (fun l e => by cases e), rfl⟩
abbrev s_not_point : Stmt := topS 75
abbrev N_not_point : List Str := ["store", "bad", "good", "ways"]
abbrev P_not_point : List Str := ["store"]
theorem sc_not_point : FnScope N_not_point P_not_point (defScope s_not_point) := ⟨rfl, rfl, rfl, by decide +kernel, rfl, by decide +kernel, by decide +kernel⟩

abbrev s_not_direction : Stmt := topS 76
abbrev N_not_direction : List Str := ["store", "bad", "good", "zero", "ways"]
abbrev P_not_direction : List Str := ["store"]
theorem sc_not_direction : FnScope N_not_direction P_not_direction (defScope s_not_direction) := ⟨rfl, rfl, rfl, by decide +kernel, rfl, by decide +kernel, by decide +kernel⟩

abbrev s_bad_size : Stmt := topS 97
abbrev N_bad_size : List Str := ["store"]
abbrev P_bad_size : List Str := ["store"]
theorem sc_bad_size : FnScope N_bad_size P_bad_size (defScope s_bad_size) := ⟨rfl, rfl, rfl, by decide +kernel, rfl, by decide +kernel, by decide +kernel⟩

abbrev s_bad_spot : Stmt := topS 98
abbrev N_bad_spot : List Str := ["store", "spot", "ways"]
abbrev P_bad_spot : List Str := ["store"]
theorem sc_bad_spot : FnScope N_bad_spot P_bad_spot (defScope s_bad_spot) := ⟨rfl, rfl, rfl, by decide +kernel, rfl, by decide +kernel, by decide +kernel⟩

abbrev s_pzero : Stmt := topS 69
abbrev N_pzero : List Str := ["one"]
abbrev P_pzero : List Str := ["one"]
theorem sc_pzero : FnScope N_pzero P_pzero (defScope s_pzero) := ⟨rfl, rfl, rfl, by decide +kernel, rfl, by decide +kernel, by decide +kernel⟩

abbrev s_direction : Stmt := topS 73
abbrev N_direction : List Str := ["store", "got"]
abbrev P_direction : List Str := ["store"]
theorem sc_direction : FnScope N_direction P_direction (defScope s_direction) := ⟨rfl, rfl, rfl, by decide +kernel, rfl, by decide +kernel, by decide +kernel⟩

abbrev s_long : Stmt := topS 88
abbrev N_long : List Str := ["store"]
abbrev P_long : List Str := ["store"]
theorem sc_long : FnScope N_long P_long (defScope s_long) := ⟨rfl, rfl, rfl, by decide +kernel, rfl, by decide +kernel, by decide +kernel⟩

section
variable {P : Program} {w : World} {K : PySem.W.Frag} {mg : Str → Option Value} {base : Heap}
theorem ok_not_point (T : Txt K mg) : FnOk P w K mg base (L2N.CX P w) 175 T.dnot_point.f T.dnot_point.fd P_not_point (spD K 1 m_not_point) := by
  have G_small : FnOk P w K mg base (L2N.CX P w) 174 T.dsmall.f T.dsmall.fd P_small (spD K 1 m_small) := ok_small T
  have G_edge : FnOk P w K mg base (L2N.CX P w) 172 T.dedge.f T.dedge.fd P_edge (spD K 2 m_take) := ok_edgeD T
  have G_not_ratio : FnOk P w K mg base (L2N.CX P w) 174 T.dnot_ratio.f T.dnot_ratio.fd P_not_ratio (spD K 2 m_not_ratio) := ok_not_ratio T
  refine T.dnot_point.okD sc_not_point fun cdv A outer s H E so A0 hr tk hp => ⟨_, (pds_cons (pds_set (i := 1) sc_not_point.nd rfl (by first | exact .inl rfl | exact .inr rfl) (pd_call G_not_ratio (hr.mono (by omega)) (by rfl) T.dnot_ratio.g T.dnot_ratio.F.kp T.dnot_ratio.b (fun σ => L2N.passAt tk σ) (pda_cons (pd_var (pv 0)) (pda_cons pd_bl pda_nil))))
      (pds_cons (pds_set (i := 2) sc_not_point.nd rfl (by first | exact .inl rfl | exact .inr rfl) (pd_call G_small (hr.mono (by omega)) (by rfl) T.dsmall.g T.dsmall.F.kp T.dsmall.b (fun σ => L2N.passAt tk σ) (pda_cons (pd_var (pv 0)) pda_nil)))
      (pds_cons (pds_set (i := 3) sc_not_point.nd rfl (by first | exact .inl rfl | exact .inr rfl) (pd_new (pdn_lst (pda_cons (pd_tup (pda_cons (pd_var (pv 1)) (pda_cons (pd_var (pv 2)) pda_nil))) (pda_cons (pd_tup (pda_cons (pd_var (pv 2)) (pda_cons (pd_var (pv 1)) pda_nil))) (pda_cons (pd_new (pdn_lst (pda_cons (pd_var (pv 2)) (pda_cons (pd_var (pv 2)) pda_nil)))) (pda_cons (pd_tup (pda_cons (pd_var (pv 2)) pda_nil)) (pda_cons (pd_tup (pda_cons (pd_var (pv 2)) (pda_cons (pd_var (pv 2)) (pda_cons (pd_var (pv 2)) pda_nil)))) (pda_cons (pd_var (pv 2)) (pda_cons pd_non (pda_cons pd_bl (pda_cons pd_str (pda_cons (pd_tup pda_nil) (pda_cons pd_int (pda_cons pd_dnew pda_nil)))))))))))))))
      (pds_one (pds_ret (pd_ix ix_seq ol_ix (pd_var (pv 3)) (pd_call G_edge (hr.mono (by omega)) (by rfl) T.dedge.g T.dedge.F.kp T.dedge.b (fun σ => L2N.passAt tk σ) (pda_cons (pd_var (pv 0)) (pda_cons (pd_callB oo_len cl_len (by rfl) T.m_len bt_len (pda_cons (pd_var (pv 3)) pda_nil)) pda_nil))) (fun _ _ => rfl))))))), fun ds Q E hl h => ?_⟩
  unfold m_not_point at h
  split at h
  · show sSeq _ _ _ [.fr .sto, .no, .no, .no]
    refine seq_mid (P := fun ρ => ∃ bad, NotR bad ∧ ρ = [.fr .sto, .fr bad, .no, .no]) (fun R hR => ?_) ?_
    · exact ⟨rfl, fun bad hb => hR _ ⟨bad, hb, rfl⟩⟩
    rintro _ ⟨bad, hb, rfl⟩
    refine seq_mid (P := fun ρ => ∃ q, ρ = [.fr .sto, .fr bad, .fr (rq q), .no]) (fun R hR => ?_) ?_
    · exact ⟨rfl, fun q hq => hR _ ⟨q, rfl⟩⟩
    rintro _ ⟨q, rfl⟩
    refine seq_mid (P := fun ρ => ρ = [.fr .sto, .fr bad, .fr (rq q), .fr (.lst (itemsP bad (rq q)))]) (fun R hR => ?_) ?_
    · have sl : ∀ n, n ≤ 12 → n ≤ sizeLine := fun n h => by rw [sizeLine_eq]; omega
      exact ⟨sl 2 (by decide), sl 2 (by decide), sl 2 (by decide), sl 1 (by decide), sl 3 (by decide), sl 0 (by decide), sl 12 (by decide), hR _ rfl⟩
    rintro _ rfl
    walk_at "wk"
    refine ⟨by show (12 : Int) < BIG; decide, fun r r0 r1 => ddIx_any (l := itemsP bad (rq q)) r0 (by show r < 12; have : r = 0 ∨ r < 12 := r1; omega) fun d hd => h d (itemsP_ok hb d hd)⟩
  · exact h.elim
theorem ok_not_direction (T : Txt K mg) : FnOk P w K mg base (L2N.CX P w) 175 T.dnot_direction.f T.dnot_direction.fd P_not_direction (spD K 1 m_not_direction) := by
  have G_small : FnOk P w K mg base (L2N.CX P w) 174 T.dsmall.f T.dsmall.fd P_small (spD K 1 m_small) := ok_small T
  have G_edge : FnOk P w K mg base (L2N.CX P w) 172 T.dedge.f T.dedge.fd P_edge (spD K 2 m_take) := ok_edgeD T
  have G_not_ratio : FnOk P w K mg base (L2N.CX P w) 174 T.dnot_ratio.f T.dnot_ratio.fd P_not_ratio (spD K 2 m_not_ratio) := ok_not_ratio T
  refine T.dnot_direction.okD sc_not_direction fun cdv A outer s H E so A0 hr tk hp => ⟨_, (pds_cons (pds_set (i := 1) sc_not_direction.nd rfl (by first | exact .inl rfl | exact .inr rfl) (pd_call G_not_ratio (hr.mono (by omega)) (by rfl) T.dnot_ratio.g T.dnot_ratio.F.kp T.dnot_ratio.b (fun σ => L2N.passAt tk σ) (pda_cons (pd_var (pv 0)) (pda_cons pd_bl pda_nil))))
      (pds_cons (pds_set (i := 2) sc_not_direction.nd rfl (by first | exact .inl rfl | exact .inr rfl) (pd_call G_small (hr.mono (by omega)) (by rfl) T.dsmall.g T.dsmall.F.kp T.dsmall.b (fun σ => L2N.passAt tk σ) (pda_cons (pd_var (pv 0)) pda_nil)))
      (pds_cons (pds_set (i := 3) sc_not_direction.nd rfl (by first | exact .inl rfl | exact .inr rfl) (pd_tup (pda_cons pd_int (pda_cons pd_int pda_nil))))
      (pds_cons (pds_set (i := 4) sc_not_direction.nd rfl (by first | exact .inl rfl | exact .inr rfl) (pd_new (pdn_lst (pda_cons (pd_tup (pda_cons (pd_var (pv 3)) (pda_cons (pd_var (pv 3)) pda_nil))) (pda_cons (pd_tup (pda_cons (pd_var (pv 1)) (pda_cons (pd_var (pv 2)) pda_nil))) (pda_cons (pd_tup (pda_cons (pd_var (pv 2)) (pda_cons (pd_var (pv 1)) pda_nil))) (pda_cons (pd_new (pdn_lst (pda_cons (pd_tup (pda_cons pd_int (pda_cons pd_int pda_nil))) (pda_cons (pd_var (pv 3)) pda_nil)))) (pda_cons (pd_tup (pda_cons (pd_tup (pda_cons pd_int (pda_cons pd_int pda_nil))) pda_nil)) (pda_cons (pd_var (pv 2)) (pda_cons pd_bl (pda_cons pd_str (pda_cons pd_str (pda_cons pd_str (pda_cons (pd_tup pda_nil) (pda_cons pd_int pda_nil)))))))))))))))
      (pds_one (pds_ret (pd_ix ix_seq ol_ix (pd_var (pv 4)) (pd_call G_edge (hr.mono (by omega)) (by rfl) T.dedge.g T.dedge.F.kp T.dedge.b (fun σ => L2N.passAt tk σ) (pda_cons (pd_var (pv 0)) (pda_cons (pd_callB oo_len cl_len (by rfl) T.m_len bt_len (pda_cons (pd_var (pv 4)) pda_nil)) pda_nil))) (fun _ _ => rfl)))))))), fun ds Q E hl h => ?_⟩
  unfold m_not_direction at h
  split at h
  · show sSeq _ _ _ [.fr .sto, .no, .no, .no, .no]
    refine seq_mid (P := fun ρ => ∃ bad, NotR bad ∧ ρ = [.fr .sto, .fr bad, .no, .no, .no]) (fun R hR => ?_) ?_
    · exact ⟨rfl, fun bad hb => hR _ ⟨bad, hb, rfl⟩⟩
    rintro _ ⟨bad, hb, rfl⟩
    refine seq_mid (P := fun ρ => ∃ q, ρ = [.fr .sto, .fr bad, .fr (rq q), .no, .no]) (fun R hR => ?_) ?_
    · exact ⟨rfl, fun q hq => hR _ ⟨q, rfl⟩⟩
    rintro _ ⟨q, rfl⟩
    have sl : ∀ n, n ≤ 12 → n ≤ sizeLine := fun n h => by rw [sizeLine_eq]; omega
    refine seq_mid (P := fun ρ => ρ = [.fr .sto, .fr bad, .fr (rq q), .fr (ratD 0 1), .no]) (fun R hR => ?_) ?_
    · exact ⟨sl 2 (by decide), hR _ rfl⟩
    rintro _ rfl
    refine seq_mid (P := fun ρ => ρ = [.fr .sto, .fr bad, .fr (rq q), .fr (ratD 0 1), .fr (.lst (itemsV bad (rq q)))]) (fun R hR => ?_) ?_
    · exact ⟨sl 2 (by decide), sl 2 (by decide), sl 2 (by decide), sl 2 (by decide), sl 2 (by decide), sl 2 (by decide), sl 1 (by decide), sl 0 (by decide), sl 12 (by decide), hR _ rfl⟩
    rintro _ rfl
    walk_at "wk"
    refine ⟨by show (12 : Int) < BIG; decide, fun r r0 r1 => ddIx_any (l := itemsV bad (rq q)) r0 (by show r < 12; have : r = 0 ∨ r < 12 := r1; omega) fun d hd => h d (itemsV_ok hb d hd)⟩
  · exact h.elim
theorem ok_bad_size (T : Txt K mg) : FnOk P w K mg base (L2N.CX P w) 175 T.dbad_size.f T.dbad_size.fd P_bad_size (spD K 1 m_bad_size) := by
  have G_take : FnOk P w K mg base (L2N.CX P w) 171 T.dtake.f T.dtake.fd P_take (spD K 2 m_take) := ok_takeD T
  have G_not_ratio : FnOk P w K mg base (L2N.CX P w) 174 T.dnot_ratio.f T.dnot_ratio.fd P_not_ratio (spD K 2 m_not_ratio) := ok_not_ratio T
  refine T.dbad_size.okD sc_bad_size fun cdv A outer s H E so A0 hr tk hp => ⟨_, (pds_one (pds_ret (pd_ix ix_seq ol_ix (pd_new (pdn_lst (pda_cons (pd_tup (pda_cons pd_int (pda_cons pd_int pda_nil))) (pda_cons (pd_tup (pda_cons (pd_neg pd_int) (pda_cons pd_int pda_nil))) (pda_cons (pd_tup (pda_cons (pd_neg pd_int) (pda_cons pd_int pda_nil))) (pda_cons (pd_call G_not_ratio (hr.mono (by omega)) (by rfl) T.dnot_ratio.g T.dnot_ratio.F.kp T.dnot_ratio.b (fun σ => L2N.passAt tk σ) (pda_cons (pd_var (pv 0)) (pda_cons pd_bl pda_nil))) pda_nil)))))) (pd_call G_take (hr.mono (by omega)) (by rfl) T.dtake.g T.dtake.F.kp T.dtake.b (fun σ => L2N.passAt tk σ) (pda_cons (pd_var (pv 0)) (pda_cons pd_int pda_nil))) (fun _ _ => rfl)))), fun ds Q E hl h => ?_⟩
  unfold m_bad_size at h
  split at h
  · walk_at "wk"
    intro bad hb
    walk_at "wk"
    refine ⟨by decide, fun i i0 i1 => ddIx_any i0 (by show i < 4; omega) fun d hd => ?_⟩
    simp only [List.mem_cons, List.not_mem_nil, or_false] at hd
    rcases hd with rfl | rfl | rfl | rfl
    · exact h _ ⟨pl_of rfl, by decide +kernel⟩
    · exact h _ ⟨pl_of rfl, by decide +kernel⟩
    · exact h _ ⟨pl_of rfl, by decide +kernel⟩
    · exact h _ ⟨hb.pl, by unfold isPos; rw [hb.2]; rfl⟩
  · exact h.elim
theorem ok_bad_spot (T : Txt K mg) : FnOk P w K mg base (L2N.CX P w) 176 T.dbad_spot.f T.dbad_spot.fd P_bad_spot (spD K 1 m_bad_spot) := by
  have G_point : FnOk P w K mg base (L2N.CX P w) 175 T.dpoint.f T.dpoint.fd P_point (spD K 1 m_point) := ok_point T
  have G_take : FnOk P w K mg base (L2N.CX P w) 171 T.dtake.f T.dtake.fd P_take (spD K 2 m_take) := ok_takeD T
  have G_not_point : FnOk P w K mg base (L2N.CX P w) 175 T.dnot_point.f T.dnot_point.fd P_not_point (spD K 1 m_not_point) := ok_not_point T
  have G_not_ratio : FnOk P w K mg base (L2N.CX P w) 174 T.dnot_ratio.f T.dnot_ratio.fd P_not_ratio (spD K 2 m_not_ratio) := ok_not_ratio T
  refine T.dbad_spot.okD sc_bad_spot fun cdv A outer s H E so A0 hr tk hp => ⟨_, (pds_cons (pds_set (i := 1) sc_bad_spot.nd rfl (by first | exact .inl rfl | exact .inr rfl) (pd_call G_point (hr.mono (by omega)) (by rfl) T.dpoint.g T.dpoint.F.kp T.dpoint.b (fun σ => L2N.passAt tk σ) (pda_cons (pd_var (pv 0)) pda_nil)))
      (pds_cons (pds_set (i := 2) sc_bad_spot.nd rfl (by first | exact .inl rfl | exact .inr rfl) (pd_new (pdn_lst (pda_cons (pd_tup (pda_cons pd_str pda_nil)) (pda_cons (pd_new (pdn_lst (pda_cons pd_str (pda_cons (pd_var (pv 1)) pda_nil)))) (pda_cons (pd_tup (pda_cons pd_str (pda_cons (pd_var (pv 1)) (pda_cons (pd_var (pv 1)) pda_nil)))) (pda_cons (pd_tup (pda_cons pd_str (pda_cons (pd_var (pv 1)) (pda_cons (pd_var (pv 1)) pda_nil)))) (pda_cons (pd_tup (pda_cons pd_str (pda_cons (pd_var (pv 1)) (pda_cons (pd_var (pv 1)) (pda_cons (pd_tup (pda_cons (pd_neg pd_int) (pda_cons pd_int pda_nil))) pda_nil))))) (pda_cons (pd_var (pv 1)) (pda_cons pd_non pda_nil))))))))))
      (pds_cons (pds_set (i := 2) sc_bad_spot.nd rfl (by first | exact .inl rfl | exact .inr rfl) (pd_op oo_add ol_add (pd_var (pv 2)) (pd_new (pdn_lst (pda_cons (pd_tup (pda_cons pd_str (pda_cons (pd_tup (pda_cons pd_int (pda_cons pd_int pda_nil))) pda_nil))) (pda_cons (pd_tup (pda_cons pd_str (pda_cons (pd_var (pv 1)) pda_nil))) (pda_cons (pd_tup (pda_cons pd_str (pda_cons (pd_call G_not_point (hr.mono (by omega)) (by rfl) T.dnot_point.g T.dnot_point.F.kp T.dnot_point.b (fun σ => L2N.passAt tk σ) (pda_cons (pd_var (pv 0)) pda_nil)) pda_nil))) (pda_cons (pd_tup (pda_cons pd_str (pda_cons (pd_var (pv 1)) (pda_cons (pd_var (pv 1)) (pda_cons (pd_tup (pda_cons pd_int (pda_cons pd_int pda_nil))) pda_nil))))) (pda_cons pd_str (pda_cons (pd_tup pda_nil) pda_nil))))))))))
      (pds_cons (pds_set (i := 2) sc_bad_spot.nd rfl (by first | exact .inl rfl | exact .inr rfl) (pd_op oo_add ol_add (pd_var (pv 2)) (pd_new (pdn_lst (pda_cons (pd_tup (pda_cons pd_str (pda_cons (pd_var (pv 1)) (pda_cons (pd_call G_not_point (hr.mono (by omega)) (by rfl) T.dnot_point.g T.dnot_point.F.kp T.dnot_point.b (fun σ => L2N.passAt tk σ) (pda_cons (pd_var (pv 0)) pda_nil)) (pda_cons (pd_tup (pda_cons pd_int (pda_cons pd_int pda_nil))) pda_nil))))) (pda_cons (pd_tup (pda_cons pd_str (pda_cons (pd_var (pv 1)) (pda_cons (pd_var (pv 1)) (pda_cons (pd_call G_not_ratio (hr.mono (by omega)) (by rfl) T.dnot_ratio.g T.dnot_ratio.F.kp T.dnot_ratio.b (fun σ => L2N.passAt tk σ) (pda_cons (pd_var (pv 0)) (pda_cons pd_bl pda_nil))) pda_nil))))) pda_nil))))))
      (pds_one (pds_ret (pd_ix ix_seq ol_ix (pd_var (pv 2)) (pd_call G_take (hr.mono (by omega)) (by rfl) T.dtake.g T.dtake.F.kp T.dtake.b (fun σ => L2N.passAt tk σ) (pda_cons (pd_var (pv 0)) (pda_cons (pd_callB oo_len cl_len (by rfl) T.m_len bt_len (pda_cons (pd_var (pv 2)) pda_nil)) pda_nil))) (fun _ _ => rfl)))))))), fun ds Q E hl h => ?_⟩
  unfold m_bad_spot at h
  split at h
  · show sSeq _ _ _ [.fr .sto, .no, .no]
    refine seq_mid (P := fun ρ => ∃ x y, ρ = [.fr .sto, .fr (pt x y), .no]) (fun R hR => ?_) ?_
    · exact ⟨rfl, fun x y hx hy => hR _ ⟨x, y, rfl⟩⟩
    rintro _ ⟨x, y, rfl⟩
    have sl : ∀ n, n ≤ 15 → n ≤ sizeLine := fun n h => by rw [sizeLine_eq]; omega
    refine seq_mid (P := fun ρ => ρ = [.fr .sto, .fr (pt x y), .fr (.lst ((itemsS (pt x y) .non .non .non).take 7))]) (fun R hR => ?_) ?_
    · exact ⟨sl 1 (by decide), sl 2 (by decide), sl 3 (by decide), sl 3 (by decide), sl 2 (by decide), sl 4 (by decide), sl 7 (by decide), hR _ rfl⟩
    rintro _ rfl
    refine seq_mid (P := fun ρ => ∃ n1, NotP n1 ∧ ρ = [.fr .sto, .fr (pt x y), .fr (.lst ((itemsS (pt x y) n1 .non .non).take 13))]) (fun R hR => ?_) ?_
    · exact ⟨sl 2 (by decide), sl 2 (by decide), sl 2 (by decide), rfl, fun n1 h1 => ⟨sl 2 (by decide), sl 2 (by decide), sl 4 (by decide), sl 0 (by decide), sl 6 (by decide), sl 13 (by decide), hR _ ⟨n1, h1, rfl⟩⟩⟩
    rintro _ ⟨n1, h1, rfl⟩
    refine seq_mid (P := fun ρ => ∃ n2 n3, (NotP n2 ∧ NotR n3) ∧ ρ = [.fr .sto, .fr (pt x y), .fr (.lst (itemsS (pt x y) n1 n2 n3))]) (fun R hR => ?_) ?_
    · exact ⟨rfl, fun n2 h2 => ⟨sl 2 (by decide), sl 4 (by decide), rfl, fun n3 h3 => ⟨sl 4 (by decide), sl 2 (by decide), sl 15 (by decide), hR _ ⟨n2, n3, ⟨h2, h3⟩, rfl⟩⟩⟩⟩
    rintro _ ⟨n2, n3, ⟨h2, h3⟩, rfl⟩
    walk_at "wk"
    refine ⟨by show (15 : Int) < BIG; decide, fun r r0 r1 => ddIx_any (l := itemsS (pt x y) n1 n2 n3) r0 (by show r < 15; have : r = 0 ∨ r < 15 := r1; omega) fun d hd => h d (itemsS_ok h1 h2 h3 d hd)⟩
  · exact h.elim
theorem ok_pzero (T : Txt K mg) : FnOk P w K mg base (L2N.CX P w) 1 T.dpzero.f T.dpzero.fd P_pzero (spD K 1 m_pzero) := by
  refine T.dpzero.okD sc_pzero fun cdv A outer s H E so A0 hr tk hp => ⟨_, (pds_one (pds_ret (pd_and (pd_cmp (oo_eq hr.units) ol_eq (pd_ix ix_seq ol_ix (pd_ix ix_seq ol_ix (pd_var (pv 0)) pd_int (fun _ _ => rfl)) pd_int (fun _ _ => rfl)) pd_int (nomark _)) (pd_one (pd_cmp (oo_eq hr.units) ol_eq (pd_ix ix_seq ol_ix (pd_ix ix_seq ol_ix (pd_var (pv 0)) pd_int (fun _ _ => rfl)) pd_int (fun _ _ => rfl)) pd_int (nomark _)))))), fun ds Q E hl h => ?_⟩
  obtain ⟨x, y, rfl, h⟩ := h
  simp only [pt, rq, ratD]
  walk_at "wk"
  by_cases c : x = 0
  · rw [decide_eq_true c] at h
    rw [decide_eq_true (by rw [num_zero]; exact c)]
    simp only [num_zero]
    exact h
  · rw [decide_eq_false c] at h
    rw [decide_eq_false (by rw [num_zero]; exact c)]
    exact h
theorem ok_direction (T : Txt K mg) : FnOk P w K mg base (L2N.CX P w) 176 T.ddirection.f T.ddirection.fd P_direction (spD K 1 m_direction) := by
  have G_point : FnOk P w K mg base (L2N.CX P w) 175 T.dpoint.f T.dpoint.fd P_point (spD K 1 m_point) := ok_point T
  have G_take : FnOk P w K mg base (L2N.CX P w) 171 T.dtake.f T.dtake.fd P_take (spD K 2 m_take) := ok_takeD T
  have G_pzero : FnOk P w K mg base (L2N.CX P w) 1 T.dpzero.f T.dpzero.fd P_pzero (spD K 1 m_pzero) := ok_pzero T
  refine T.ddirection.okD sc_direction fun cdv A outer s H E so A0 hr tk hp => ⟨_, (pds_cons (pds_set (i := 1) sc_direction.nd rfl (by first | exact .inl rfl | exact .inr rfl) (pd_call G_point (hr.mono (by omega)) (by rfl) T.dpoint.g T.dpoint.F.kp T.dpoint.b (fun σ => L2N.passAt tk σ) (pda_cons (pd_var (pv 0)) pda_nil)))
      (pds_cons (pds_if (pdt_tru (pd_call G_pzero (hr.mono (by omega)) (by rfl) T.dpzero.g T.dpzero.F.kp T.dpzero.b (fun σ => L2N.passAt tk σ) (pda_cons (pd_var (pv 1)) pda_nil)))
        (pds_one (pds_ret (pd_ix ix_seq ol_ix (pd_new (pdn_lst (pda_cons (pd_tup (pda_cons (pd_tup (pda_cons pd_int (pda_cons pd_int pda_nil))) (pda_cons (pd_tup (pda_cons pd_int (pda_cons pd_int pda_nil))) pda_nil))) (pda_cons (pd_tup (pda_cons (pd_tup (pda_cons pd_int (pda_cons pd_int pda_nil))) (pda_cons (pd_tup (pda_cons pd_int (pda_cons pd_int pda_nil))) pda_nil))) (pda_cons (pd_tup (pda_cons (pd_tup (pda_cons (pd_neg pd_int) (pda_cons pd_int pda_nil))) (pda_cons (pd_tup (pda_cons pd_int (pda_cons pd_int pda_nil))) pda_nil))) (pda_cons (pd_tup (pda_cons (pd_tup (pda_cons pd_int (pda_cons pd_int pda_nil))) (pda_cons (pd_tup (pda_cons (pd_neg pd_int) (pda_cons pd_int pda_nil))) pda_nil))) pda_nil)))))) (pd_call G_take (hr.mono (by omega)) (by rfl) T.dtake.g T.dtake.F.kp T.dtake.b (fun σ => L2N.passAt tk σ) (pda_cons (pd_var (pv 0)) (pda_cons pd_int pda_nil))) (fun _ _ => rfl))))
        pds_nil)
      (pds_one (pds_ret (pd_var (pv 1)))))), fun ds Q E hl h => ?_⟩
  unfold m_direction at h
  split at h
  · walk_at "wk"
    intro x y hx hy
    refine ⟨x, y, rfl, ?_⟩
    cases c : (decide (x = 0) && decide (y = 0)) with
    | true =>
      walk_at "wk"
      refine ⟨by decide, fun i i0 i1 => ddIx_any i0 (by show i < 4; omega) fun d hd => ?_⟩
      have cd : ∀ i : Int, i.natAbs ≤ 2 → Cd 6 24 (Rat.divInt i 1) := fun i hi => cd_div i 1 6 24 (by decide) (by omega)
      simp only [List.mem_cons, List.not_mem_nil, or_false] at hd
      rcases hd with rfl | rfl | rfl | rfl
      · exact h 1 0 (cd 1 (by decide)) (cd 0 (by decide)) (fun z => absurd z.1 (by decide))
      · exact h 0 1 (cd 0 (by decide)) (cd 1 (by decide)) (fun z => absurd z.2 (by decide))
      · exact h (-1) 0 (cd 1 (by decide)).neg (cd 0 (by decide)) (fun z => absurd z.1 (by decide))
      · exact h 2 (-2) (cd 2 (by decide)) (cd 2 (by decide)).neg (fun z => absurd z.1 (by decide))
    | false =>
      walk_at "wk"
      refine h x y hx hy fun z => ?_
      rw [decide_eq_true z.1, decide_eq_true z.2] at c
      cases c
  · exact h.elim
theorem ok_long (T : Txt K mg) : FnOk P w K mg base (L2N.CX P w) 172 T.dlong.f T.dlong.fd P_long (spD K 1 m_long) := by
  have G_take : FnOk P w K mg base (L2N.CX P w) 171 T.dtake.f T.dtake.fd P_take (spD K 2 m_take) := ok_takeD T
  have G_low : FnOk P w K mg base (L2N.CX P w) 1 T.dlow.f T.dlow.fd P_low (spD K 2 m_low) := ok_low T
  refine T.dlong.okD sc_long fun cdv A outer s H E so A0 hr tk hp => ⟨_, (pds_one (pds_ret (pd_call G_low (hr.mono (by omega)) (by rfl) T.dlow.g T.dlow.F.kp T.dlow.b (fun σ => L2N.passAt tk σ) (pda_cons (pd_op oo_add ol_add (pd_op op_sub ol_sub (pd_call G_take (hr.mono (by omega)) (by rfl) T.dtake.g T.dtake.F.kp T.dtake.b (fun σ => L2N.passAt tk σ) (pda_cons (pd_var (pv 0)) (pda_cons (pd_op op_sub ol_sub (pd_op op_mulW ol_mul pd_int (pd_op op_pow ol_pow pd_int pd_int)) pd_int) pda_nil))) (pd_op op_pow ol_pow pd_int pd_int)) pd_int) (pda_cons (pd_op oo_add ol_add pd_int (pd_call G_take (hr.mono (by omega)) (by rfl) T.dtake.g T.dtake.F.kp T.dtake.b (fun σ => L2N.passAt tk σ) (pda_cons (pd_var (pv 0)) (pda_cons (pd_op op_sub ol_sub (pd_op op_pow ol_pow pd_int pd_int) pd_int) pda_nil)))) pda_nil))))), fun ds Q E hl h => ?_⟩
  unfold m_long at h
  split at h
  · have t12 : (10 : Int) ^ Int.toNat 12 = 1000000000000 := by decide
    walk_at "wk"
    rw [t12]
    refine ⟨⟨by decide, by decide, by decide⟩, (wide_mul (a := 10) (b := 50) (by decide) (by decide) (by decide) (by decide) (by decide)), by decide, fun r r0 r1 => ⟨⟨by decide, by decide, by decide⟩, ⟨by decide, by decide, by decide⟩, by decide, fun v v0 v1 => ?_⟩⟩
    have hb : (1 : Int) + v ≠ 0 := by omega
    refine low_at _ _ _ hb ?_ (h _ (sz_div ?_ ?_ hb)) E
    · exact Nat.lt_of_lt_of_le ((Nat.log2_lt (by omega)).mpr (show (1 + v).natAbs < 2 ^ 50 by omega)) (by decide)
    · show _ < 1000000000000
      omega
    · show _ < 1000000000000
      omega
  · exact h.elim
end
end My
set_option exponentiation.threshold 100000
namespace My
open PySem PySem.Spec PyProof.Rows L2
local macro_rules | `(tactic| walk_at "dl") => `(tactic| simp only [startD, List.map_cons, List.map_nil, List.length_cons, List.length_nil, List.cons_append, List.nil_append, List.replicate_succ, List.replicate_zero, List.getElem?_cons_zero, List.getElem?_cons_succ, List.set_cons_zero, List.set_cons_succ,
  dVar, rdS, dC, dNew, dOp, onB, qB, dChain, qAnd, qOr, qNot, qTru, truD, dIf, dAnd, dOr, dNot, dUn, ddNeg, lNil, lCons, dTup, nLst, ddI, ddI0, ddAdd, isNonD, isBlD, ddIsN, ddIsB, ddIx_t0, ddIx_t1, ddIx_t2, ddIx_t3, ddIx_l0, ddIx_l1, ddIx_l2, dCB, ddLen, ddInt1, ddAbs, ddMM, ddTuple, nCB, nnList, ddIsi, dCall,
  sSkip, sSeq, sBreak, sCont, sExpr, sRet, sRetN, sIf, sNever, gdName, gdNil, gdCons, gdTup, sAsg, sSetN, sPar, sRaise, sFrz, owS, sApp, sIns, dLenO, dIxO, sTry, sFor, iL, iT, onL, onT, iR1, iR2, nComp, qYes,
  ddEq_ii, ddEq_ss, ddEq_bb, Bool.false_bne, Bool.true_bne, List.append_nil, true_and, and_true, if_true, if_false, Bool.not_true, Bool.not_false, Bool.true_eq_false, Bool.false_eq_true, ite_true, ite_false, id_eq])

local macro_rules | `(tactic| walk_at "is") => `(tactic| simp only [plain_non, isIn_non_int, isIn_non_str, isIn_non_bool, isIn_non_list, isIn_non_tuple, isIn_non_dict, plain_bl, isIn_bl_int, isIn_bl_str, isIn_bl_bool, isIn_bl_list, isIn_bl_tuple, isIn_bl_dict, plain_int, isIn_int_int, isIn_int_str, isIn_int_bool, isIn_int_list, isIn_int_tuple, isIn_int_dict, plain_str, isIn_str_int, isIn_str_str, isIn_str_bool, isIn_str_list, isIn_str_tuple, isIn_str_dict, plain_tup, isIn_tup_int, isIn_tup_str, isIn_tup_bool, isIn_tup_list, isIn_tup_tuple, isIn_tup_dict, plain_lst, isIn_lst_int, isIn_lst_str, isIn_lst_bool, isIn_lst_list, isIn_lst_tuple, isIn_lst_dict, sl0, sl1, sl2, sl3, sl4, decide_true, decide_false, ddIsi, ddIsi2, true_and, if_true, if_false, Bool.false_eq_true, Bool.not_true, Bool.not_false, Bool.or_true, Bool.or_false, Bool.true_or, and_true])
local macro_rules | `(tactic| walk_at "wk") => `(tactic| ((try walk_at "dl"); (try walk_at "is"); (try walk_at "dl")))

/-! ### products whose divisor is small; the signs of spots -/
def m_low1 : DF := fun ds Q _ => match ds with
  | [.int a, .int b] => b ≠ 0 ∧ (b.natAbs.log2 < 9000 ∨ G2 a b = 1) ∧ Q (lowD (a, b))
  | _ => False
structure Ok3 (p q : Rat) : Prop where
  a : Sm1 p
  b : Sm1 q
  m : (p.den * q.den).log2 < 9000 ∨ p = q
theorem Ok2.k {p q : Rat} (h : Ok2 p q) : Ok3 p q := ⟨h.a, h.b, .inl h.m⟩
theorem Sm1.sq {p : Rat} (h : Sm1 p) : Ok3 p p := ⟨h, h, .inr rfl⟩
def m_t3 : DF := fun ds Q _ => ∃ p q, ds = [rq p, rq q] ∧ Ok3 p q ∧ Q (rq (p * q))
def m_cmp3 : DF := fun ds Q _ => ∃ p q, ds = [rq p, rq q] ∧ (Sm1 p ∧ Sm1 q) ∧ Q (.int (sg (p - q)))
def Ok5 (p f u : Rat) : Prop := (Sm1 p ∧ Sm1 f) ∧ Ok2 (f * f) u ∧ (Sm1 (p * p) ∧ Sm1 (f * f * u))
def m_lroot_sign5 : DF := fun ds Q _ => ∃ p f u, ds = [rq p, rq f, rq u] ∧ Ok5 p f u ∧ Q (.int (rsQ p f u))
theorem g2_sq (p : Rat) : G2 (p.num * p.num) ((p.den : Int) * (p.den : Int)) = 1 := by
  unfold G2
  rw [Int.natAbs_mul, Int.natAbs_mul, Int.natAbs_natCast]
  have h : Nat.Coprime p.num.natAbs p.den := p.reduced
  exact Nat.Coprime.mul_left (Nat.Coprime.mul_right h h) (Nat.Coprime.mul_right h h)
theorem gcd_bits1 {a b : Int} (hb : b ≠ 0) (h : b.natAbs.log2 < 9000 ∨ G2 a b = 1) : CDivZ a (if b < 0 then -(G2 a b : Int) else G2 a b) ∧ CDivZ b (if b < 0 then -(G2 a b : Int) else G2 a b) := by
  rcases h with h | h
  · exact gcd_bits (a := a) hb h a b
  · rw [h]
    have k : (if b < 0 then -((1 : Nat) : Int) else ((1 : Nat) : Int)) ≠ 0 ∧ (if b < 0 then -((1 : Nat) : Int) else ((1 : Nat) : Int)).natAbs.log2 < 9000 := by
      split
      · exact ⟨by decide, by decide⟩
      · exact ⟨by decide, by decide⟩
    exact ⟨k, k⟩
def m_spot_apart : DF := fun ds Q _ => ∃ s x y v a b c e u, ds = [s, pt x y, rq v] ∧ (Sz 2 1 x ∧ Sz 2 1 y) ∧ Sz 2 1 v ∧ Sp s a b c e u ∧ SpSz a b c e u ∧
  Q (.int (rsQ ((a - x) * (a - x) + (b - y) * (b - y) + (c * c + e * e) * u - v) (2 * ((a - x) * c + (b - y) * e)) u))
abbrev s_lspot_parts : Stmt := topS 84
abbrev N_lspot_parts : List Str := ["spot"]
abbrev P_lspot_parts : List Str := ["spot"]
theorem sc_lspot_parts : FnScope N_lspot_parts P_lspot_parts (defScope s_lspot_parts) := ⟨rfl, rfl, rfl, by decide +kernel, rfl, by decide +kernel, by decide +kernel⟩

abbrev s_spot_apart : Stmt := topS 85
abbrev N_spot_apart : List Str := ["spot", "middle", "squared_by", "parts", "away", "plain", "factor"]
abbrev P_spot_apart : List Str := ["spot", "middle", "squared_by"]
theorem sc_spot_apart : FnScope N_spot_apart P_spot_apart (defScope s_spot_apart) := ⟨rfl, rfl, rfl, by decide +kernel, rfl, by decide +kernel, by decide +kernel⟩

section
variable {P : Program} {w : World} {K : PySem.W.Frag} {mg : Str → Option Value} {base : Heap}
theorem ok_low1 (T : Txt K mg) : FnOk P w K mg base (L2N.CX P w) 1 T.dlow.f T.dlow.fd P_low (spD K 2 m_low1) := by
  refine T.dlow.okD sc_low fun cdv A outer s H E so A0 hr tk hp => ⟨_, (pds_cons (pds_if (pdt_cmp (oo_eq hr.units) ol_eq (pd_var (pv 1)) pd_int (nomark _))
        (pds_one (pds_ret (pd_tup (pda_cons pd_int (pda_cons pd_int pda_nil)))))
        pds_nil)
      (pds_cons (pds_set (i := 2) sc_low.nd rfl (by first | exact .inl rfl | exact .inr rfl) (pd_callB (c_max2 rfl) cl_max2 (by rfl) T.m_max bt_max (pda_cons (pd_var (pv 0)) (pda_cons (pd_neg (pd_var (pv 0))) pda_nil))))
      (pds_cons (pds_set (i := 3) sc_low.nd rfl (by first | exact .inl rfl | exact .inr rfl) (pd_callB (c_max2 rfl) cl_max2 (by rfl) T.m_max bt_max (pda_cons (pd_var (pv 1)) (pda_cons (pd_neg (pd_var (pv 1))) pda_nil))))
      (pds_cons (pds_while hp (pdt_cmp op_gt ol_gt (pd_var (pv 3)) pd_int (nomark _))
        (pds_cons (pds_set (i := 4) sc_low.nd rfl (by first | exact .inl rfl | exact .inr rfl) (pd_op op_modN ol_mod (pd_callTy c_int1 cl_int1 (by rfl) T.m_int bt_int (pda_cons (pd_var (pv 2)) pda_nil)) (pd_var (pv 3))))
        (pds_cons (pds_set (i := 2) sc_low.nd rfl (by first | exact .inl rfl | exact .inr rfl) (pd_var (pv 3)))
        (pds_one (pds_set (i := 3) sc_low.nd rfl (by first | exact .inl rfl | exact .inr rfl) (pd_var (pv 4)))))))
      (pds_cons (pds_if (pdt_cmp op_lt ol_lt (pd_var (pv 1)) pd_int (nomark _))
        (pds_one (pds_set (i := 2) sc_low.nd rfl (by first | exact .inl rfl | exact .inr rfl) (pd_neg (pd_var (pv 2)))))
        pds_nil)
      (pds_one (pds_ret (pd_tup (pda_cons (pd_op op_fdivZ ol_fdiv (pd_var (pv 0)) (pd_var (pv 2))) (pda_cons (pd_op op_fdivZ ol_fdiv (pd_var (pv 1)) (pd_var (pv 2))) pda_nil)))))))))), fun ds Q E hl h => ?_⟩
  unfold m_low1 at h
  split at h
  · rename_i a b
    obtain ⟨b0, hz, h⟩ := h
    walk_at "dl"
    rw [decide_eq_false b0]
    walk_at "dl"
    obtain ⟨f1, f2⟩ := low_div a b b0
    obtain ⟨c1, c2⟩ := gcd_bits1 (a := a) b0 hz
    have mn : ∀ i : Int, (if i < -i then -i else i) = (i.natAbs : Int) := fun i => by split <;> omega
    rw [mn, mn]
    refine ⟨fun m ρ => ∃ (x : Nat) (z : Sl), ρ = [.fr (.int a), .fr (.int b), .fr (.int (x : Int)), .fr (.int (m : Int)), z] ∧ Nat.gcd x m = G2 a b, ⟨b.natAbs, a.natAbs, .no, rfl, rfl⟩, ?_⟩
    rintro m ρ ⟨x, z, rfl, hg⟩
    walk_at "dl"
    split
    · rename_i c
      have hm : 0 < m := by
        have := of_decide_eq_true c
        omega
      refine ⟨fun ρ' => ∃ (x : Nat) (z : Sl), ρ' = [.fr (.int a), .fr (.int b), .fr (.int (m : Int)), .fr (.int (x : Int)), z] ∧ Nat.gcd m x = G2 a b ∧ x < m, ?_, ?_⟩
      · rintro ρ' ⟨y, z, e1, e2, e3⟩
        exact ⟨y, e3, m, z, e1, e2⟩
      · refine ⟨by omega, ?_⟩
        rw [fmod_nat x m hm]
        exact ⟨x % m, _, rfl, by rw [gcd_step]; exact hg, Nat.mod_lt x hm⟩
    · rename_i c
      have hm : m = 0 := by
        have : ¬ (0 : Int) < m := by simpa using c
        omega
      subst hm
      rw [Nat.gcd_zero_right] at hg
      subst hg
      split
      · rename_i c
        have c : b < 0 := by simpa using c
        rw [if_pos c] at c1 c2 f1 f2
        refine ⟨c1, c2, (by show 2 ≤ sizeLine; decide), ?_⟩
        rw [f1, f2]
        exact h
      · rename_i c
        have c : ¬ b < 0 := by simpa using c
        rw [if_neg c] at c1 c2 f1 f2
        refine ⟨c1, c2, (by show 2 ≤ sizeLine; decide), ?_⟩
        rw [f1, f2]
        exact h
  · exact h.elim
theorem ok_t3 (T : Txt K mg) : FnOk P w K mg base (L2N.CX P w) 2 T.dtimes.f T.dtimes.fd P_times (spD K 2 m_t3) := by
  have G_low : FnOk P w K mg base (L2N.CX P w) 1 T.dlow.f T.dlow.fd P_low (spD K 2 m_low1) := ok_low1 T
  refine T.dtimes.okD sc_times fun cdv A outer s H E so A0 hr tk hp => ⟨_, (pds_one (pds_ret (pd_call G_low (hr.mono (by omega)) (by rfl) T.dlow.g T.dlow.F.kp T.dlow.b (fun σ => L2N.passAt tk σ) (pda_cons (pd_op op_mulW ol_mul (pd_ix ix_seq ol_ix (pd_var (pv 0)) pd_int (fun _ _ => rfl)) (pd_ix ix_seq ol_ix (pd_var (pv 1)) pd_int (fun _ _ => rfl))) (pda_cons (pd_op op_mulW ol_mul (pd_ix ix_seq ol_ix (pd_var (pv 0)) pd_int (fun _ _ => rfl)) (pd_ix ix_seq ol_ix (pd_var (pv 1)) pd_int (fun _ _ => rfl))) pda_nil))))), fun ds Q E hl h => ?_⟩
  obtain ⟨p, q, rfl, ok, h⟩ := h
  simp only [rq, ratD, m_low1]
  walk_at "dl"
  refine ⟨ok.a.n.cm ok.b.n (by decide) (by decide) (by decide), ok.a.d.cm ok.b.d (by decide) (by decide) (by decide), den_ne p q, ?_, ?_⟩
  · rcases ok.m with k | k
    · exact .inl (by rw [Int.natAbs_mul]; exact k)
    · subst k
      exact .inr (g2_sq p)
  · rw [rq_mul]
    exact h
theorem ok_cmp3 (T : Txt K mg) : FnOk P w K mg base (L2N.CX P w) 2 T.dcmp.f T.dcmp.fd P_cmp (spD K 2 m_cmp3) := by
  have G_sgn : FnOk P w K mg base (L2N.CX P w) 1 T.dsgn.f T.dsgn.fd P_sgn (spD K 1 m_sgn) := ok_sgn T
  refine T.dcmp.okD sc_cmp fun cdv A outer s H E so A0 hr tk hp => ⟨_, (pds_one (pds_ret (pd_call G_sgn (hr.mono (by omega)) (by rfl) T.dsgn.g T.dsgn.F.kp T.dsgn.b (fun σ => L2N.passAt tk σ) (pda_cons (pd_tup (pda_cons (pd_op op_sub ol_sub (pd_op op_mulW ol_mul (pd_ix ix_seq ol_ix (pd_var (pv 0)) pd_int (fun _ _ => rfl)) (pd_ix ix_seq ol_ix (pd_var (pv 1)) pd_int (fun _ _ => rfl))) (pd_op op_mulW ol_mul (pd_ix ix_seq ol_ix (pd_var (pv 1)) pd_int (fun _ _ => rfl)) (pd_ix ix_seq ol_ix (pd_var (pv 0)) pd_int (fun _ _ => rfl)))) (pda_cons pd_int pda_nil))) pda_nil)))), fun ds Q E hl h => ?_⟩
  obtain ⟨p, q, rfl, ⟨o1, o2⟩, h⟩ := h
  simp only [rq, ratD, m_sgn]
  walk_at "dl"
  refine ⟨o1.n.cm o2.d (by decide) (by decide) (by decide), o2.n.cm o1.d (by decide) (by decide) (by decide), by show 2 ≤ sizeLine; decide, ?_⟩
  show Q (.int (sgn _))
  rw [sg_cmp]
  exact h
theorem ok_lroot_sign5 (T : Txt K mg) : FnOk P w K mg base (L2N.CX P w) 3 T.dlroot_sign.f T.dlroot_sign.fd P_lroot_sign (spD K 3 m_lroot_sign5) := by
  have G_sgn : FnOk P w K mg base (L2N.CX P w) 1 T.dsgn.f T.dsgn.fd P_sgn (spD K 1 m_sgn) := ok_sgn T
  have G_cmp : FnOk P w K mg base (L2N.CX P w) 2 T.dcmp.f T.dcmp.fd P_cmp (spD K 2 m_cmp3) := ok_cmp3 T
  have G_times : FnOk P w K mg base (L2N.CX P w) 2 T.dtimes.f T.dtimes.fd P_times (spD K 2 m_t3) := ok_t3 T
  refine T.dlroot_sign.okD sc_lroot_sign fun cdv A outer s H E so A0 hr tk hp => ⟨_, (pds_cons (pds_set (i := 3) sc_lroot_sign.nd rfl (by first | exact .inl rfl | exact .inr rfl) (pd_call G_sgn (hr.mono (by omega)) (by rfl) T.dsgn.g T.dsgn.F.kp T.dsgn.b (fun σ => L2N.passAt tk σ) (pda_cons (pd_var (pv 0)) pda_nil)))
      (pds_cons (pds_set (i := 4) sc_lroot_sign.nd rfl (by first | exact .inl rfl | exact .inr rfl) (pd_op op_mulW ol_mul (pd_call G_sgn (hr.mono (by omega)) (by rfl) T.dsgn.g T.dsgn.F.kp T.dsgn.b (fun σ => L2N.passAt tk σ) (pda_cons (pd_var (pv 1)) pda_nil)) (pd_call G_sgn (hr.mono (by omega)) (by rfl) T.dsgn.g T.dsgn.F.kp T.dsgn.b (fun σ => L2N.passAt tk σ) (pda_cons (pd_var (pv 2)) pda_nil))))
      (pds_cons (pds_if (PDW.t (pdw_or (pdt_cmp (oo_eq hr.units) ol_eq (pd_var (pv 3)) (pd_var (pv 4)) (nomark _)) (pdw_or1 (pdt_cmp (oo_eq hr.units) ol_eq (pd_var (pv 4)) pd_int (nomark _)))))
        (pds_one (pds_ret (pd_var (pv 3))))
        pds_nil)
      (pds_cons (pds_if (pdt_cmp (oo_eq hr.units) ol_eq (pd_var (pv 3)) pd_int (nomark _))
        (pds_one (pds_ret (pd_var (pv 4))))
        pds_nil)
      (pds_cons (pds_set (i := 5) sc_lroot_sign.nd rfl (by first | exact .inl rfl | exact .inr rfl) (pd_call G_cmp (hr.mono (by omega)) (by rfl) T.dcmp.g T.dcmp.F.kp T.dcmp.b (fun σ => L2N.passAt tk σ) (pda_cons (pd_call G_times (hr.mono (by omega)) (by rfl) T.dtimes.g T.dtimes.F.kp T.dtimes.b (fun σ => L2N.passAt tk σ) (pda_cons (pd_var (pv 0)) (pda_cons (pd_var (pv 0)) pda_nil))) (pda_cons (pd_call G_times (hr.mono (by omega)) (by rfl) T.dtimes.g T.dtimes.F.kp T.dtimes.b (fun σ => L2N.passAt tk σ) (pda_cons (pd_call G_times (hr.mono (by omega)) (by rfl) T.dtimes.g T.dtimes.F.kp T.dtimes.b (fun σ => L2N.passAt tk σ) (pda_cons (pd_var (pv 1)) (pda_cons (pd_var (pv 1)) pda_nil))) (pda_cons (pd_var (pv 2)) pda_nil))) pda_nil))))
      (pds_cons (pds_if (pdt_cmp (oo_eq hr.units) ol_eq (pd_var (pv 5)) pd_int (nomark _))
        (pds_one (pds_ret pd_int))
        pds_nil)
      (pds_cons (pds_if (pdt_cmp op_gt ol_gt (pd_var (pv 5)) pd_int (nomark _))
        (pds_one (pds_ret (pd_var (pv 3))))
        pds_nil)
      (pds_one (pds_ret (pd_var (pv 4))))))))))), fun ds Q E hl h => ?_⟩
  obtain ⟨p, f, u, rfl, ⟨⟨o1, o2⟩, o3, o4⟩, h⟩ := h
  have sb : ∀ q : Rat, Bi 1 (sgn q.num) := fun q => by
    unfold Bi
    rcases sg_cases q with ⟨_, e⟩ | ⟨_, e⟩ | ⟨_, e⟩ <;> (show (sg q).natAbs < 2 ^ 1; rw [e]; decide)
  have mul : sgn f.num * sgn u.num = sg (f * u) := by
    rw [← sg_mul]
    unfold sgn
    rcases Int.lt_trichotomy f.num 0 with a | a | a <;> rcases Int.lt_trichotomy u.num 0 with b | b | b
    · have := Int.mul_pos_of_neg_of_neg a b
      rw [if_neg (by omega), if_pos a, if_neg (by omega), if_pos b, if_pos (by omega)]
      rfl
    · rw [b, Int.mul_zero]
      simp
    · have := Int.mul_neg_of_neg_of_pos a b
      rw [if_neg (by omega), if_pos a, if_pos b, if_neg (by omega), if_pos this]
      rfl
    · rw [a, Int.zero_mul]
      simp
    · rw [a, Int.zero_mul]
      simp
    · rw [a, Int.zero_mul]
      simp
    · have := Int.mul_neg_of_pos_of_neg a b
      rw [if_pos a, if_neg (by omega), if_pos b, if_neg (by omega), if_pos this]
      rfl
    · rw [b, Int.mul_zero]
      simp
    · have := Int.mul_pos a b
      rw [if_pos a, if_pos b, if_pos (by omega)]
      rfl
  have rqe : ∀ q : Rat, rq q = .tup [.int q.num, .int q.den] := fun q => rfl
  have walkp : ∀ (q : Rat) (Q : D → Prop) (E : XD → Prop), m_sgn [rq q] Q E = Q (.int (sgn q.num)) := fun q Q E => rfl
  walk_at "wk"
  simp only [walkp]
  walk_at "wk"
  refine ⟨(sb f).cm (sb u) (by decide) (by decide) (by decide), ?_⟩
  rw [mul]
  have e1 : sgn p.num = sg p := rfl
  rw [e1]
  unfold rsQ at h
  have tail : ∀ a b : Int, a = sg p → b = sg (f * u) → ¬ a = b → ¬ b = 0 → ¬ a = 0 → (b = -a) := fun a b ea eb n1 n2 n3 => by
    rcases sg_cases p with ⟨_, e⟩ | ⟨_, e⟩ | ⟨_, e⟩ <;> rcases sg_cases (f * u) with ⟨_, e'⟩ | ⟨_, e'⟩ | ⟨_, e'⟩ <;> omega
  generalize hp1 : sg p = a at *
  generalize hu1 : sg (f * u) = b at *
  by_cases c1 : a = b
  · rw [decide_eq_true c1]
    subst c1
    walk_at "wk"
    by_cases c0 : a = 0
    · rw [if_pos c0] at h
      exact h
    · rw [if_neg c0, if_pos (.inr rfl)] at h
      exact h
  rw [decide_eq_false c1]
  walk_at "wk"
  by_cases c2 : b = 0
  · rw [if_pos (decide_eq_true c2)]
    have c0 : ¬ a = 0 := fun z => c1 (by omega)
    rw [if_neg c0, if_pos (.inl c2)] at h
    exact h
  rw [if_neg (by rw [decide_eq_true_iff]; exact c2)]
  by_cases c0 : a = 0
  · rw [if_pos (decide_eq_true c0)]
    rw [if_pos c0] at h
    exact h
  rw [if_neg (by rw [decide_eq_true_iff]; exact c0)]
  rw [if_neg c0, if_neg (fun z => by rcases z with z | z; exact c2 z; exact c1 z.symm)] at h
  have tl := tail a b rfl rfl c1 c2 c0
  refine ⟨p, p, rfl, o1.sq, f, f, rfl, o2.sq, _, u, rfl, o3.k, _, _, rfl, o4, ?_⟩
  dsimp only
  rcases sg_cases (p * p - f * f * u) with ⟨_, e⟩ | ⟨_, e⟩ | ⟨_, e⟩
  · rw [e] at h ⊢
    rw [Int.mul_one] at h
    walk_at "wk"
    exact h
  · rw [e] at h ⊢
    rw [Int.mul_neg_one] at h
    rw [← tl] at h
    walk_at "wk"
    exact h
  · rw [e] at h ⊢
    rw [Int.mul_zero] at h
    walk_at "wk"
    exact h
theorem ok_lspot_parts (T : Txt K mg) : FnOk P w K mg base (L2N.CX P w) 1 T.dlspot_parts.f T.dlspot_parts.fd P_lspot_parts (spD K 1 m_spot_parts) := by
  refine T.dlspot_parts.okD sc_lspot_parts fun cdv A outer s H E so A0 hr tk hp => ⟨_, (pds_cons (pds_if (pdt_cmp (oo_eq hr.units) ol_eq (pd_ix ix_seq ol_ix (pd_var (pv 0)) pd_int (fun _ _ => rfl)) pd_str (nomark _))
        (pds_one (pds_ret (pd_tup (pda_cons (pd_ix ix_seq ol_ix (pd_var (pv 0)) pd_int (fun _ _ => rfl)) (pda_cons (pd_tup (pda_cons (pd_tup (pda_cons pd_int (pda_cons pd_int pda_nil))) (pda_cons (pd_tup (pda_cons pd_int (pda_cons pd_int pda_nil))) pda_nil))) (pda_cons (pd_tup (pda_cons pd_int (pda_cons pd_int pda_nil))) pda_nil))))))
        pds_nil)
      (pds_one (pds_ret (pd_tail (pd_var (pv 0)))))), fun ds Q E hl h => ?_⟩
  obtain ⟨sp, a, b, c, d, u, rfl, hs, q⟩ := h
  rcases hs with ⟨rfl, rfl, rfl, rfl⟩ | ⟨rfl, u0⟩
  · walk_at "wk"
    exact q
  · walk_at "wk"
    exact ⟨by show 2 ≤ 4; decide, q⟩
theorem ok_spot_apart (T : Txt K mg) : FnOk P w K mg base (L2N.CX P w) 5 T.dspot_apart.f T.dspot_apart.fd P_spot_apart (spD K 3 m_spot_apart) := by
  have G_lspot_parts : FnOk P w K mg base (L2N.CX P w) 1 T.dlspot_parts.f T.dlspot_parts.fd P_lspot_parts (spD K 1 m_spot_parts) := ok_lspot_parts T
  have G_psub : FnOk P w K mg base (L2N.CX P w) 3 T.dpsub.f T.dpsub.fd P_psub (spD K 2 (m_p2 fun p q => p - q)) := ok_psub T
  have G_pdot : FnOk P w K mg base (L2N.CX P w) 3 T.dpdot.f T.dpdot.fd P_pdot (spD K 2 m_pdot) := ok_pdot T
  have G_psq : FnOk P w K mg base (L2N.CX P w) 4 T.dpsq.f T.dpsq.fd P_psq (spD K 1 m_psq) := ok_psq T
  have G_plus : FnOk P w K mg base (L2N.CX P w) 2 T.dplus.f T.dplus.fd P_plus (spD K 2 (m_r2 fun p q => p + q)) := ok_plus T
  have G_minus : FnOk P w K mg base (L2N.CX P w) 2 T.dminus.f T.dminus.fd P_minus (spD K 2 (m_r2 fun p q => p - q)) := ok_minus T
  have G_times : FnOk P w K mg base (L2N.CX P w) 2 T.dtimes.f T.dtimes.fd P_times (spD K 2 (m_r2 fun p q => p * q)) := ok_times T
  have G_lroot_sign : FnOk P w K mg base (L2N.CX P w) 3 T.dlroot_sign.f T.dlroot_sign.fd P_lroot_sign (spD K 3 m_lroot_sign5) := ok_lroot_sign5 T
  refine T.dspot_apart.okD sc_spot_apart fun cdv A outer s H E so A0 hr tk hp => ⟨_, (pds_cons (pds_set (i := 3) sc_spot_apart.nd rfl (by first | exact .inl rfl | exact .inr rfl) (pd_call G_lspot_parts (hr.mono (by omega)) (by rfl) T.dlspot_parts.g T.dlspot_parts.F.kp T.dlspot_parts.b (fun σ => L2N.passAt tk σ) (pda_cons (pd_var (pv 0)) pda_nil)))
      (pds_cons (pds_set (i := 4) sc_spot_apart.nd rfl (by first | exact .inl rfl | exact .inr rfl) (pd_call G_psub (hr.mono (by omega)) (by rfl) T.dpsub.g T.dpsub.F.kp T.dpsub.b (fun σ => L2N.passAt tk σ) (pda_cons (pd_ix ix_seq ol_ix (pd_var (pv 3)) pd_int (fun _ _ => rfl)) (pda_cons (pd_var (pv 1)) pda_nil))))
      (pds_cons (pds_set (i := 5) sc_spot_apart.nd rfl (by first | exact .inl rfl | exact .inr rfl) (pd_call G_plus (hr.mono (by omega)) (by rfl) T.dplus.g T.dplus.F.kp T.dplus.b (fun σ => L2N.passAt tk σ) (pda_cons (pd_call G_psq (hr.mono (by omega)) (by rfl) T.dpsq.g T.dpsq.F.kp T.dpsq.b (fun σ => L2N.passAt tk σ) (pda_cons (pd_var (pv 4)) pda_nil)) (pda_cons (pd_call G_times (hr.mono (by omega)) (by rfl) T.dtimes.g T.dtimes.F.kp T.dtimes.b (fun σ => L2N.passAt tk σ) (pda_cons (pd_call G_psq (hr.mono (by omega)) (by rfl) T.dpsq.g T.dpsq.F.kp T.dpsq.b (fun σ => L2N.passAt tk σ) (pda_cons (pd_ix ix_seq ol_ix (pd_var (pv 3)) pd_int (fun _ _ => rfl)) pda_nil)) (pda_cons (pd_ix ix_seq ol_ix (pd_var (pv 3)) pd_int (fun _ _ => rfl)) pda_nil))) pda_nil))))
      (pds_cons (pds_set (i := 6) sc_spot_apart.nd rfl (by first | exact .inl rfl | exact .inr rfl) (pd_call G_times (hr.mono (by omega)) (by rfl) T.dtimes.g T.dtimes.F.kp T.dtimes.b (fun σ => L2N.passAt tk σ) (pda_cons (pd_tup (pda_cons pd_int (pda_cons pd_int pda_nil))) (pda_cons (pd_call G_pdot (hr.mono (by omega)) (by rfl) T.dpdot.g T.dpdot.F.kp T.dpdot.b (fun σ => L2N.passAt tk σ) (pda_cons (pd_var (pv 4)) (pda_cons (pd_ix ix_seq ol_ix (pd_var (pv 3)) pd_int (fun _ _ => rfl)) pda_nil))) pda_nil))))
      (pds_one (pds_ret (pd_call G_lroot_sign (hr.mono (by omega)) (by rfl) T.dlroot_sign.g T.dlroot_sign.F.kp T.dlroot_sign.b (fun σ => L2N.passAt tk σ) (pda_cons (pd_call G_minus (hr.mono (by omega)) (by rfl) T.dminus.g T.dminus.F.kp T.dminus.b (fun σ => L2N.passAt tk σ) (pda_cons (pd_var (pv 5)) (pda_cons (pd_var (pv 2)) pda_nil))) (pda_cons (pd_var (pv 6)) (pda_cons (pd_ix ix_seq ol_ix (pd_var (pv 3)) pd_int (fun _ _ => rfl)) pda_nil)))))))))), fun ds Q E hl h => ?_⟩
  obtain ⟨s, x, y, v, a, b, c, e, u, rfl, sx, sv, hsp, ss, q⟩ := h
  walk_at "wk"
  have g1 := ss.a.sub sx.1
  have g2 := ss.b.sub sx.2
  have q1 := g1.mul g1
  have q2 := g2.mul g2
  have r := q1.add q2
  have c1 := ss.c.mul ss.c
  have c2 := ss.e.mul ss.e
  have cc := c1.add c2
  have cu := cc.mul ss.u
  have pl := r.add cu
  have d1 := g1.mul ss.c
  have d2 := g2.mul ss.e
  have dd := d1.add d2
  have pp := pl.sub sv
  have ff := sz2.mul dd
  have f2 := ff.mul ff
  refine ⟨s, a, b, c, e, u, rfl, hsp, ?_⟩
  walk_at "wk"
  exact ⟨_, _, _, _, rfl, ss.a.ok sx.1 (by decide), ss.b.ok sx.2 (by decide), _, _, rfl, g1.ok g1 (by decide), g2.ok g2 (by decide), q1.ok q2 (by decide), _, _, rfl, ss.c.ok ss.c (by decide), ss.e.ok ss.e (by decide), c1.ok c2 (by decide), _, _, rfl, cc.ok ss.u (by decide), _, _, rfl, r.ok cu (by decide), _, _, _, _, rfl, g1.ok ss.c (by decide), g2.ok ss.e (by decide), d1.ok d2 (by decide), 2, _, rfl, sz2.ok dd (by decide), _, _, rfl, pl.ok sv (by decide), _, _, _, rfl, ⟨⟨pp.sm (by decide), ff.sm (by decide)⟩, f2.ok ss.u (by decide), (pp.mul pp).sm (by decide), (f2.mul ss.u).sm (by decide)⟩, q⟩
end
end My
set_option exponentiation.threshold 100000
namespace My
open PySem PySem.Spec PyProof.Rows L2
local macro_rules | `(tactic| walk_at "dl") => `(tactic| simp only [startD, List.map_cons, List.map_nil, List.length_cons, List.length_nil, List.cons_append, List.nil_append, List.replicate_succ, List.replicate_zero, List.getElem?_cons_zero, List.getElem?_cons_succ, List.set_cons_zero, List.set_cons_succ,
  dVar, rdS, dC, dNew, dOp, onB, qB, dChain, qAnd, qOr, qNot, qTru, truD, dIf, dAnd, dOr, dNot, dUn, ddNeg, lNil, lCons, dTup, nLst, ddI, ddI0, ddAdd, isNonD, isBlD, ddIsN, ddIsB, ddIx_t0, ddIx_t1, ddIx_t2, ddIx_t3, ddIx_l0, ddIx_l1, ddIx_l2, dCB, ddLen, ddInt1, ddAbs, ddMM, ddTuple, nCB, nnList, ddIsi, dCall,
  sSkip, sSeq, sBreak, sCont, sExpr, sRet, sRetN, sIf, sNever, gdName, gdNil, gdCons, gdTup, sAsg, sSetN, sPar, sRaise, sFrz, owS, sApp, sIns, dLenO, dIxO, sTry, sFor, iL, iT, onL, onT, iR1, iR2, nComp, qYes,
  ddEq_ii, ddEq_ss, ddEq_bb, Bool.false_bne, Bool.true_bne, List.append_nil, true_and, and_true, if_true, if_false, Bool.not_true, Bool.not_false, Bool.true_eq_false, Bool.false_eq_true, ite_true, ite_false, id_eq])

local macro_rules | `(tactic| walk_at "is") => `(tactic| simp only [plain_non, isIn_non_int, isIn_non_str, isIn_non_bool, isIn_non_list, isIn_non_tuple, isIn_non_dict, plain_bl, isIn_bl_int, isIn_bl_str, isIn_bl_bool, isIn_bl_list, isIn_bl_tuple, isIn_bl_dict, plain_int, isIn_int_int, isIn_int_str, isIn_int_bool, isIn_int_list, isIn_int_tuple, isIn_int_dict, plain_str, isIn_str_int, isIn_str_str, isIn_str_bool, isIn_str_list, isIn_str_tuple, isIn_str_dict, plain_tup, isIn_tup_int, isIn_tup_str, isIn_tup_bool, isIn_tup_list, isIn_tup_tuple, isIn_tup_dict, plain_lst, isIn_lst_int, isIn_lst_str, isIn_lst_bool, isIn_lst_list, isIn_lst_tuple, isIn_lst_dict, sl0, sl1, sl2, sl3, sl4, decide_true, decide_false, ddIsi, ddIsi2, true_and, if_true, if_false, Bool.false_eq_true, Bool.not_true, Bool.not_false, Bool.or_true, Bool.or_false, Bool.true_or, and_true])
local macro_rules | `(tactic| walk_at "wk") => `(tactic| ((try walk_at "dl"); (try walk_at "is"); (try walk_at "dl")))

/-! ### the lines and circles that are drawn -/
structure LnPt (px py dx dy cx cy : Rat) : Prop where
  p1 : Sz 12 12 px
  p2 : Sz 12 12 py
  d1 : Sz 12 12 dx
  d2 : Sz 2 10 dy
  c1 : Sz 12 12 cx
  c2 : Sz 12 12 cy
  n : ¬ (dx = 0 ∧ dy = 0)
structure LnSz (px py dx dy cx cy S : Rat) : Prop where
  l : LnPt px py dx dy cx cy
  s : Sz 200 196 S
theorem LnSz.line {px py dx dy cx cy S : Rat} (h : LnSz px py dx dy cx cy S) : LineSz px py dx dy cx cy S := ⟨h.l.p1, h.l.p2, h.l.d1, h.l.d2, h.l.c1, h.l.c2, h.s.up (by decide) (by decide), h.l.n⟩
def crossQ (px py dx dy cx cy : Rat) : Rat := (cx - px) * dy - (cy - py) * dx
def gapQ (px py dx dy cx cy : Rat) : Rat := crossQ px py dx dy cx cy * crossQ px py dx dy cx cy / lenQ dx dy
theorem LnPt.len {px py dx dy cx cy : Rat} (h : LnPt px py dx dy cx cy) : Sz 45 44 (lenQ dx dy) := ((h.d1.mul h.d1).add (h.d2.mul h.d2)).up (by decide) (by decide)
theorem LnPt.cross {px py dx dy cx cy : Rat} (h : LnPt px py dx dy cx cy) : Sz 72 70 (crossQ px py dx dy cx cy) := (((h.c1.sub h.p1).mul h.d2).sub ((h.c2.sub h.p2).mul h.d1)).up (by decide) (by decide)
theorem LnPt.gap {px py dx dy cx cy : Rat} (h : LnPt px py dx dy cx cy) : Sz 188 185 (gapQ px py dx dy cx cy) := ((h.cross.mul h.cross).div h.len (len_ne h.n)).up (by decide) (by decide)
def m_gap : DF := fun ds Q _ => ∃ px py dx dy cx cy, ds = [pt px py, pt dx dy, pt cx cy] ∧ LnPt px py dx dy cx cy ∧ Q (rq (gapQ px py dx dy cx cy))
def m_line : DF := fun ds Q _ => match ds with
  | [.sto] => ∀ px py dx dy cx cy S, LnSz px py dx dy cx cy S → 0 < S → Q (askD px py dx dy cx cy S)
  | _ => False
theorem rq_sz {a b : Int} {n m : Nat} (h : isRat (ratD a b) = true) (l : a.natAbs < 10 ^ n ∧ b.natAbs < 10 ^ m) : ∃ q : Rat, ratD a b = rq q ∧ Sz n m q ∧ q.num = a := by
  obtain ⟨q, e⟩ := rq_of h
  have e1 : ratD a b = ratD q.num q.den := e
  unfold ratD at e1
  injection e1 with e1
  injection e1 with e1 e2
  injection e2 with e2 _
  injection e1 with e1
  injection e2 with e2
  refine ⟨q, e, ⟨by rw [← e1]; exact l.1, ?_⟩, e1.symm⟩
  have : q.den = b.natAbs := by omega
  rw [this]
  exact l.2
theorem one_rat {b : Int} (h : 1 ≤ b) : isRat (ratD 1 b) = true := by
  show (decide (1 ≤ b) && decide (G2 1 b = 1)) = true
  have e : G2 1 b = 1 := Nat.gcd_one_left _
  rw [e, decide_eq_true h]
  rfl
theorem sum_ge' (a b : Rat) : 0 ≤ a * a + b * b := sum_ge a b
theorem pt_inj {a b c d : Rat} (h : pt a b = pt c d) : a = c ∧ b = d := by
  unfold pt at h
  injection h with h
  injection h with h1 h2
  injection h2 with h2 _
  exact ⟨rq_inj h1, rq_inj h2⟩
theorem num_gt (q : Rat) : (0 < q.num) = (0 < q) := by
  rw [← sg_gt]
  show _ = (0 < sgn q.num)
  unfold sgn
  split
  · rename_i h
    exact propext ⟨fun _ => by decide, fun _ => h⟩
  · split
    · exact propext ⟨fun h => by omega, fun h => absurd h (by decide)⟩
    · exact propext ⟨fun h => by omega, fun h => absurd h (by decide)⟩
theorem pos_rq {v : Rat} (h : 0 < v) : isPos (rq v) = true := by
  have e : isPos (rq v) = (isRat (rq v) && decide (0 < v.num)) := rfl
  rw [e, rq_rat, decide_eq_true (by rw [num_gt]; exact h)]
  rfl
theorem Sp.is {s : D} {a b c e u : Rat} (h : Sp s a b c e u) : isSpot s = true := by
  rcases h with ⟨rfl, _⟩ | ⟨rfl, u0⟩
  · rw [isSpot_at, pt_pt, decide_eq_true rfl]
    rfl
  · have e1 : nnN (rq u) = decide (0 ≤ u.num) := rfl
    rw [isSpot_root, pt_pt, pt_pt, rq_rat, e1, decide_eq_true rfl, decide_eq_true (Rat.num_nonneg.mpr u0)]
    rfl
theorem Sp.pl {s : D} {a b c e u : Rat} (h : Sp s a b c e u) : Pl3 s := by
  rcases h with ⟨rfl, _⟩ | ⟨rfl, u0⟩
  · refine pl3_tup (.inl ⟨_, rfl⟩) fun x hx => ?_
    rw [List.mem_singleton.mp hx]
    exact pl2_pt a b
  · refine pl3_tup (.inl ⟨_, rfl⟩) fun x hx => ?_
    simp only [List.mem_cons, List.not_mem_nil, or_false] at hx
    rcases hx with rfl | rfl | rfl
    · exact pl2_pt a b
    · exact pl2_pt c e
    · exact pl2_rq u
theorem no_is {b : Bool} {P : Prop} (h : b = true) : b = false → P := fun e => by rw [h] at e; cases e
abbrev s_gap : Stmt := topS 90
abbrev N_gap : List Str := ["base", "along", "middle", "cross"]
abbrev P_gap : List Str := ["base", "along", "middle"]
theorem sc_gap : FnScope N_gap P_gap (defScope s_gap) := ⟨rfl, rfl, rfl, by decide +kernel, rfl, by decide +kernel, by decide +kernel⟩

abbrev s_line_circle : Stmt := topS 86
abbrev N_line_circle : List Str := ["store", "base", "along", "middle", "way", "common", "by"]
abbrev P_line_circle : List Str := ["store"]
theorem sc_line_circle : FnScope N_line_circle P_line_circle (defScope s_line_circle) := ⟨rfl, rfl, rfl, by decide +kernel, rfl, by decide +kernel, by decide +kernel⟩

abbrev s_wide_line : Stmt := topS 89
abbrev N_wide_line : List Str := ["store", "base", "along", "middle", "by"]
abbrev P_wide_line : List Str := ["store"]
theorem sc_wide_line : FnScope N_wide_line P_wide_line (defScope s_wide_line) := ⟨rfl, rfl, rfl, by decide +kernel, rfl, by decide +kernel, by decide +kernel⟩

abbrev s_drawn : Stmt := topS 91
abbrev N_drawn : List Str := ["store", "got", "nudge", "by"]
abbrev P_drawn : List Str := ["store"]
theorem sc_drawn : FnScope N_drawn P_drawn (defScope s_drawn) := ⟨rfl, rfl, rfl, by decide +kernel, rfl, by decide +kernel, by decide +kernel⟩

section
variable {P : Program} {w : World} {K : PySem.W.Frag} {mg : Str → Option Value} {base : Heap}
theorem ok_gap (T : Txt K mg) : FnOk P w K mg base (L2N.CX P w) 5 T.dgap.f T.dgap.fd P_gap (spD K 3 m_gap) := by
  have G_psub : FnOk P w K mg base (L2N.CX P w) 3 T.dpsub.f T.dpsub.fd P_psub (spD K 2 (m_p2 fun p q => p - q)) := ok_psub T
  have G_pcross : FnOk P w K mg base (L2N.CX P w) 3 T.dpcross.f T.dpcross.fd P_pcross (spD K 2 m_pcross) := ok_pcross T
  have G_psq : FnOk P w K mg base (L2N.CX P w) 4 T.dpsq.f T.dpsq.fd P_psq (spD K 1 m_psq) := ok_psq T
  have G_times : FnOk P w K mg base (L2N.CX P w) 2 T.dtimes.f T.dtimes.fd P_times (spD K 2 (m_r2 fun p q => p * q)) := ok_times T
  have G_over : FnOk P w K mg base (L2N.CX P w) 2 T.dover.f T.dover.fd P_over (spD K 2 m_div) := ok_over T
  refine T.dgap.okD sc_gap fun cdv A outer s H E so A0 hr tk hp => ⟨_, (pds_cons (pds_set (i := 3) sc_gap.nd rfl (by first | exact .inl rfl | exact .inr rfl) (pd_call G_pcross (hr.mono (by omega)) (by rfl) T.dpcross.g T.dpcross.F.kp T.dpcross.b (fun σ => L2N.passAt tk σ) (pda_cons (pd_call G_psub (hr.mono (by omega)) (by rfl) T.dpsub.g T.dpsub.F.kp T.dpsub.b (fun σ => L2N.passAt tk σ) (pda_cons (pd_var (pv 2)) (pda_cons (pd_var (pv 0)) pda_nil))) (pda_cons (pd_var (pv 1)) pda_nil))))
      (pds_one (pds_ret (pd_call G_over (hr.mono (by omega)) (by rfl) T.dover.g T.dover.F.kp T.dover.b (fun σ => L2N.passAt tk σ) (pda_cons (pd_call G_times (hr.mono (by omega)) (by rfl) T.dtimes.g T.dtimes.F.kp T.dtimes.b (fun σ => L2N.passAt tk σ) (pda_cons (pd_var (pv 3)) (pda_cons (pd_var (pv 3)) pda_nil))) (pda_cons (pd_call G_psq (hr.mono (by omega)) (by rfl) T.dpsq.g T.dpsq.F.kp T.dpsq.b (fun σ => L2N.passAt tk σ) (pda_cons (pd_var (pv 1)) pda_nil)) pda_nil)))))), fun ds Q E hl h => ?_⟩
  obtain ⟨px, py, dx, dy, cx, cy, rfl, sz, q⟩ := h
  walk_at "wk"
  have u1 := sz.c1.sub sz.p1
  have u2 := sz.c2.sub sz.p2
  have m1 := u1.mul sz.d2
  have m2 := u2.mul sz.d1
  have q1 := sz.d1.mul sz.d1
  have q2 := sz.d2.mul sz.d2
  exact ⟨_, _, _, _, rfl, sz.c1.ok sz.p1 (by decide), sz.c2.ok sz.p2 (by decide), _, _, _, _, rfl, u1.ok sz.d2 (by decide), u2.ok sz.d1 (by decide), m1.ok m2 (by decide), _, _, rfl, sz.cross.ok sz.cross (by decide), _, _, rfl, sz.d1.ok sz.d1 (by decide), sz.d2.ok sz.d2 (by decide), q1.ok q2 (by decide), _, _, rfl, dv_ok (sz.cross.mul sz.cross) sz.len (by decide), len_ne sz.n, q⟩
theorem ok_line_circle (T : Txt K mg) : FnOk P w K mg base (L2N.CX P w) 177 T.dline_circle.f T.dline_circle.fd P_line_circle (spD K 1 m_line) := by
  have G_point : FnOk P w K mg base (L2N.CX P w) 175 T.dpoint.f T.dpoint.fd P_point (spD K 1 m_point) := ok_point T
  have G_direction : FnOk P w K mg base (L2N.CX P w) 176 T.ddirection.f T.ddirection.fd P_direction (spD K 1 m_direction) := ok_direction T
  have G_take : FnOk P w K mg base (L2N.CX P w) 171 T.dtake.f T.dtake.fd P_take (spD K 2 m_take) := ok_takeD T
  have G_small : FnOk P w K mg base (L2N.CX P w) 174 T.dsmall.f T.dsmall.fd P_small (spD K 1 m_small) := ok_small T
  have G_positive : FnOk P w K mg base (L2N.CX P w) 174 T.dpositive.f T.dpositive.fd P_positive (spD K 1 m_positive) := ok_positive T
  have G_padd : FnOk P w K mg base (L2N.CX P w) 3 T.dpadd.f T.dpadd.fd P_padd (spD K 2 (m_p2 fun p q => p + q)) := ok_padd T
  have G_psub : FnOk P w K mg base (L2N.CX P w) 3 T.dpsub.f T.dpsub.fd P_psub (spD K 2 (m_p2 fun p q => p - q)) := ok_psub T
  have G_pmul : FnOk P w K mg base (L2N.CX P w) 3 T.dpmul.f T.dpmul.fd P_pmul (spD K 2 m_pmul) := ok_pmul T
  have G_pleft : FnOk P w K mg base (L2N.CX P w) 2 T.dpleft.f T.dpleft.fd P_pleft (spD K 1 m_left) := ok_pleft T
  have G_psq : FnOk P w K mg base (L2N.CX P w) 4 T.dpsq.f T.dpsq.fd P_psq (spD K 1 m_psq) := ok_psq T
  refine T.dline_circle.okD sc_line_circle fun cdv A outer s H E so A0 hr tk hp => ⟨_, (pds_cons (pds_set (i := 1) sc_line_circle.nd rfl (by first | exact .inl rfl | exact .inr rfl) (pd_call G_point (hr.mono (by omega)) (by rfl) T.dpoint.g T.dpoint.F.kp T.dpoint.b (fun σ => L2N.passAt tk σ) (pda_cons (pd_var (pv 0)) pda_nil)))
      (pds_cons (pds_set (i := 2) sc_line_circle.nd rfl (by first | exact .inl rfl | exact .inr rfl) (pd_call G_direction (hr.mono (by omega)) (by rfl) T.ddirection.g T.ddirection.F.kp T.ddirection.b (fun σ => L2N.passAt tk σ) (pda_cons (pd_var (pv 0)) pda_nil)))
      (pds_cons (pds_set (i := 3) sc_line_circle.nd rfl (by first | exact .inl rfl | exact .inr rfl) (pd_call G_point (hr.mono (by omega)) (by rfl) T.dpoint.g T.dpoint.F.kp T.dpoint.b (fun σ => L2N.passAt tk σ) (pda_cons (pd_var (pv 0)) pda_nil)))
      (pds_cons (pds_set (i := 4) sc_line_circle.nd rfl (by first | exact .inl rfl | exact .inr rfl) (pd_call G_take (hr.mono (by omega)) (by rfl) T.dtake.g T.dtake.F.kp T.dtake.b (fun σ => L2N.passAt tk σ) (pda_cons (pd_var (pv 0)) (pda_cons pd_int pda_nil))))
      (pds_cons (pds_set (i := 5) sc_line_circle.nd rfl (by first | exact .inl rfl | exact .inr rfl) (pd_call G_padd (hr.mono (by omega)) (by rfl) T.dpadd.g T.dpadd.F.kp T.dpadd.b (fun σ => L2N.passAt tk σ) (pda_cons (pd_var (pv 1)) (pda_cons (pd_call G_pmul (hr.mono (by omega)) (by rfl) T.dpmul.g T.dpmul.F.kp T.dpmul.b (fun σ => L2N.passAt tk σ) (pda_cons (pd_call G_small (hr.mono (by omega)) (by rfl) T.dsmall.g T.dsmall.F.kp T.dsmall.b (fun σ => L2N.passAt tk σ) (pda_cons (pd_var (pv 0)) pda_nil)) (pda_cons (pd_var (pv 2)) pda_nil))) pda_nil))))
      (pds_cons (pds_if (pdt_cmp (oo_eq hr.units) ol_eq (pd_var (pv 4)) pd_int (nomark _))
        (pds_one (pds_set (i := 3) sc_line_circle.nd rfl (by first | exact .inl rfl | exact .inr rfl) (pd_call G_padd (hr.mono (by omega)) (by rfl) T.dpadd.g T.dpadd.F.kp T.dpadd.b (fun σ => L2N.passAt tk σ) (pda_cons (pd_var (pv 5)) (pda_cons (pd_call G_pmul (hr.mono (by omega)) (by rfl) T.dpmul.g T.dpmul.F.kp T.dpmul.b (fun σ => L2N.passAt tk σ) (pda_cons (pd_call G_positive (hr.mono (by omega)) (by rfl) T.dpositive.g T.dpositive.F.kp T.dpositive.b (fun σ => L2N.passAt tk σ) (pda_cons (pd_var (pv 0)) pda_nil)) (pda_cons (pd_call G_pleft (hr.mono (by omega)) (by rfl) T.dpleft.g T.dpleft.F.kp T.dpleft.b (fun σ => L2N.passAt tk σ) (pda_cons (pd_var (pv 2)) pda_nil)) pda_nil))) pda_nil)))))
        pds_nil)
      (pds_cons (pds_set (i := 6) sc_line_circle.nd rfl (by first | exact .inl rfl | exact .inr rfl) (pd_call G_psq (hr.mono (by omega)) (by rfl) T.dpsq.g T.dpsq.F.kp T.dpsq.b (fun σ => L2N.passAt tk σ) (pda_cons (pd_call G_psub (hr.mono (by omega)) (by rfl) T.dpsub.g T.dpsub.F.kp T.dpsub.b (fun σ => L2N.passAt tk σ) (pda_cons (pd_var (pv 5)) (pda_cons (pd_var (pv 3)) pda_nil))) pda_nil)))
      (pds_cons (pds_if (PDW.t (pdw_or (pdt_cmp (oo_eq hr.units) ol_eq (pd_var (pv 4)) pd_int (nomark _)) (pdw_or1 (pdt_cmp (oo_eq hr.units) ol_eq (pd_ix ix_seq ol_ix (pd_var (pv 6)) pd_int (fun _ _ => rfl)) pd_int (nomark _)))))
        (pds_one (pds_set (i := 6) sc_line_circle.nd rfl (by first | exact .inl rfl | exact .inr rfl) (pd_call G_positive (hr.mono (by omega)) (by rfl) T.dpositive.g T.dpositive.F.kp T.dpositive.b (fun σ => L2N.passAt tk σ) (pda_cons (pd_var (pv 0)) pda_nil))))
        pds_nil)
      (pds_one (pds_ret (pd_new (pdn_lst (pda_cons (pd_var (pv 1)) (pda_cons (pd_var (pv 2)) (pda_cons (pd_var (pv 3)) (pda_cons (pd_var (pv 6)) pda_nil)))))))))))))))), fun ds Q E hl h => ?_⟩
  unfold m_line at h
  split at h
  · show sSeq _ _ _ [.fr .sto, .no, .no, .no, .no, .no, .no]
    refine seq_mid (P := fun ρ => ∃ x y, (Cd 6 24 x ∧ Cd 6 24 y) ∧ ρ = [.fr .sto, .fr (pt x y), .no, .no, .no, .no, .no]) (fun R hR => ?_) ?_
    · exact ⟨rfl, fun x y hx hy => hR _ ⟨x, y, ⟨hx, hy⟩, rfl⟩⟩
    rintro _ ⟨x, y, ⟨hx, hy⟩, rfl⟩
    refine seq_mid (P := fun ρ => ∃ a b, (Cd 6 24 a ∧ Cd 6 24 b ∧ ¬ (a = 0 ∧ b = 0)) ∧ ρ = [.fr .sto, .fr (pt x y), .fr (pt a b), .no, .no, .no, .no]) (fun R hR => ?_) ?_
    · exact ⟨rfl, fun a b ha hb n => hR _ ⟨a, b, ⟨ha, hb, n⟩, rfl⟩⟩
    rintro _ ⟨a, b, ⟨ha, hb, nz⟩, rfl⟩
    refine seq_mid (P := fun ρ => ∃ z v, (Cd 6 24 z ∧ Cd 6 24 v) ∧ ρ = [.fr .sto, .fr (pt x y), .fr (pt a b), .fr (pt z v), .no, .no, .no]) (fun R hR => ?_) ?_
    · exact ⟨rfl, fun x y hx hy => hR _ ⟨x, y, ⟨hx, hy⟩, rfl⟩⟩
    rintro _ ⟨z, v, ⟨hz, hv⟩, rfl⟩
    refine seq_mid (P := fun ρ => ∃ r : Int, ρ = [.fr .sto, .fr (pt x y), .fr (pt a b), .fr (pt z v), .fr (.int r), .no, .no]) (fun R hR => ?_) ?_
    · exact ⟨rfl, by decide, fun r r0 r1 => hR _ ⟨r, rfl⟩⟩
    rintro _ ⟨r, rfl⟩
    refine seq_mid (P := fun ρ => ∃ c d, (Cd 36 720 c ∧ Cd 36 720 d) ∧ ρ = [.fr .sto, .fr (pt x y), .fr (pt a b), .fr (pt z v), .fr (.int r), .fr (pt c d), .no]) (fun R hR => ?_) ?_
    · walk_at "wk"
      intro k hk
      have q1 := hk.mul ha
      have q2 := hk.mul hb
      have t1 : Sz 4 2 (k * a) := q1.sz (by decide)
      have t2 : Sz 4 2 (k * b) := q2.sz (by decide)
      exact ⟨_, _, _, rfl, (cd_sz hk).ok (cd_sz ha) (by decide), (cd_sz hk).ok (cd_sz hb) (by decide), _, _, _, _, rfl, (cd_sz hx).ok t1 (by decide), (cd_sz hy).ok t2 (by decide), hR _ ⟨_, _, ⟨(hx.up 6 144 (by decide)).add q1 |>.le (by decide), (hy.up 6 144 (by decide)).add q2 |>.le (by decide)⟩, rfl⟩⟩
    rintro _ ⟨c, d, ⟨hc, hd⟩, rfl⟩
    have sc : Sz 4 2 c := hc.sz (by decide)
    have sd : Sz 4 2 d := hd.sz (by decide)
    refine seq_mid (P := fun ρ => ∃ z v, (Cd 36 1584 z ∧ Cd 36 1584 v) ∧ ρ = [.fr .sto, .fr (pt x y), .fr (pt a b), .fr (pt z v), .fr (.int r), .fr (pt c d), .no]) (fun R hR => ?_) ?_
    · walk_at "wk"
      split
      · intro k hk k0
        have hnb := hb.neg
        have q1 := hk.mul hnb
        have q2 := hk.mul ha
        have sk : Sz 2 1 k := hk.sz (by decide)
        have t1 : Sz 4 2 (k * -b) := q1.sz (by decide)
        have t2 : Sz 4 2 (k * a) := q2.sz (by decide)
        exact ⟨_, _, rfl, _, _, _, rfl, sk.ok (cd_sz hnb) (by decide), sk.ok (cd_sz ha) (by decide), _, _, _, _, rfl, sc.ok t1 (by decide), sd.ok t2 (by decide), hR _ ⟨_, _, ⟨hc.add q1 |>.le (by decide), hd.add q2 |>.le (by decide)⟩, rfl⟩⟩
      · exact hR _ ⟨z, v, ⟨hz.up 6 1584 (by decide), hv.up 6 1584 (by decide)⟩, rfl⟩
    clear hz hv z v
    rintro _ ⟨z, v, ⟨hz, hv⟩, rfl⟩
    have sz' : Sz 4 2 z := hz.sz (by decide)
    have sv' : Sz 4 2 v := hv.sz (by decide)
    have g1 := hc.sub hz
    have g2 := hd.sub hv
    have e1 : Sz 4 2 (c - z) := g1.sz (by decide)
    have e2 : Sz 4 2 (d - v) := g2.sz (by decide)
    have hS := (g1.mul g1).add (g2.mul g2)
    refine seq_mid (P := fun ρ => ∃ S, (Sz 200 196 S ∧ 0 ≤ S) ∧ ρ = [.fr .sto, .fr (pt x y), .fr (pt a b), .fr (pt z v), .fr (.int r), .fr (pt c d), .fr (rq S)]) (fun R hR => ?_) ?_
    · walk_at "wk"
      exact ⟨_, _, _, _, rfl, sc.ok sz' (by decide), sd.ok sv' (by decide), _, _, rfl, e1.ok e1 (by decide), e2.ok e2 (by decide), (e1.mul e1).ok (e2.mul e2) (by decide), hR _ ⟨_, ⟨(hS.sz (a := 9) (b := 4) (by decide)).up (by decide) (by decide), sum_ge _ _⟩, rfl⟩⟩
    clear hS
    rintro _ ⟨S, ⟨hS, S0⟩, rfl⟩
    refine seq_mid (P := fun ρ => ∃ S, (Sz 200 196 S ∧ 0 < S) ∧ ρ = [.fr .sto, .fr (pt x y), .fr (pt a b), .fr (pt z v), .fr (.int r), .fr (pt c d), .fr (rq S)]) (fun R hR => ?_) ?_
    · have ps : ∀ q, Cd 6 36 q → Sz 200 196 q := fun q hq => (hq.sz (a := 2) (b := 1) (by decide)).up (by decide) (by decide)
      walk_at "wk"
      by_cases c3 : r = 3
      · rw [if_pos (decide_eq_true c3)]
        exact fun q hq q0 => hR _ ⟨q, ⟨ps q hq, q0⟩, rfl⟩
      · rw [if_neg (by rw [decide_eq_true_iff]; exact c3)]
        simp only [ix0]
        walk_at "wk"
        split
        · exact fun q hq q0 => hR _ ⟨q, ⟨ps q hq, q0⟩, rfl⟩
        · rename_i n
          rw [decide_eq_true_iff, num_zero] at n
          exact hR _ ⟨S, ⟨hS, by rcases pos_or S0 with e | e; exact absurd e n; exact e⟩, rfl⟩
    clear hS S0 S
    rintro _ ⟨S, ⟨hS, S0⟩, rfl⟩
    walk_at "wk"
    have up : ∀ {q : Rat}, Cd 6 24 q → Sz 12 12 q := fun h => (cd_sz h).up (by decide) (by decide)
    exact h x y a b z v S ⟨⟨up hx, up hy, up ha, (cd_sz hb).up (by decide) (by decide), sz'.up (by decide) (by decide), sv'.up (by decide) (by decide), nz⟩, hS⟩ S0
  · exact h.elim
end
end My
set_option exponentiation.threshold 100000
namespace My
open PySem PySem.Spec PyProof.Rows L2
local macro_rules | `(tactic| walk_at "dl") => `(tactic| simp only [startD, List.map_cons, List.map_nil, List.length_cons, List.length_nil, List.cons_append, List.nil_append, List.replicate_succ, List.replicate_zero, List.getElem?_cons_zero, List.getElem?_cons_succ, List.set_cons_zero, List.set_cons_succ,
  dVar, rdS, dC, dNew, dOp, onB, qB, dChain, qAnd, qOr, qNot, qTru, truD, dIf, dAnd, dOr, dNot, dUn, ddNeg, lNil, lCons, dTup, nLst, ddI, ddI0, ddAdd, isNonD, isBlD, ddIsN, ddIsB, ddIx_t0, ddIx_t1, ddIx_t2, ddIx_t3, ddIx_l0, ddIx_l1, ddIx_l2, dCB, ddLen, ddInt1, ddAbs, ddMM, ddTuple, nCB, nnList, ddIsi, dCall,
  sSkip, sSeq, sBreak, sCont, sExpr, sRet, sRetN, sIf, sNever, gdName, gdNil, gdCons, gdTup, sAsg, sSetN, sPar, sRaise, sFrz, owS, sApp, sIns, dLenO, dIxO, sTry, sFor, iL, iT, onL, onT, iR1, iR2, nComp, qYes,
  ddEq_ii, ddEq_ss, ddEq_bb, Bool.false_bne, Bool.true_bne, List.append_nil, true_and, and_true, if_true, if_false, Bool.not_true, Bool.not_false, Bool.true_eq_false, Bool.false_eq_true, ite_true, ite_false, id_eq])

local macro_rules | `(tactic| walk_at "is") => `(tactic| simp only [plain_non, isIn_non_int, isIn_non_str, isIn_non_bool, isIn_non_list, isIn_non_tuple, isIn_non_dict, plain_bl, isIn_bl_int, isIn_bl_str, isIn_bl_bool, isIn_bl_list, isIn_bl_tuple, isIn_bl_dict, plain_int, isIn_int_int, isIn_int_str, isIn_int_bool, isIn_int_list, isIn_int_tuple, isIn_int_dict, plain_str, isIn_str_int, isIn_str_str, isIn_str_bool, isIn_str_list, isIn_str_tuple, isIn_str_dict, plain_tup, isIn_tup_int, isIn_tup_str, isIn_tup_bool, isIn_tup_list, isIn_tup_tuple, isIn_tup_dict, plain_lst, isIn_lst_int, isIn_lst_str, isIn_lst_bool, isIn_lst_list, isIn_lst_tuple, isIn_lst_dict, sl0, sl1, sl2, sl3, sl4, decide_true, decide_false, ddIsi, ddIsi2, true_and, if_true, if_false, Bool.false_eq_true, Bool.not_true, Bool.not_false, Bool.or_true, Bool.or_false, Bool.true_or, and_true])
local macro_rules | `(tactic| walk_at "wk") => `(tactic| ((try walk_at "dl"); (try walk_at "is"); (try walk_at "dl")))

section
variable {P : Program} {w : World} {K : PySem.W.Frag} {mg : Str → Option Value} {base : Heap}
theorem ok_wide_line (T : Txt K mg) : FnOk P w K mg base (L2N.CX P w) 177 T.dwide_line.f T.dwide_line.fd P_wide_line (spD K 1 m_line) := by
  have G_long : FnOk P w K mg base (L2N.CX P w) 172 T.dlong.f T.dlong.fd P_long (spD K 1 m_long) := ok_long T
  have G_take : FnOk P w K mg base (L2N.CX P w) 171 T.dtake.f T.dtake.fd P_take (spD K 2 m_take) := ok_takeD T
  have G_small : FnOk P w K mg base (L2N.CX P w) 174 T.dsmall.f T.dsmall.fd P_small (spD K 1 m_small) := ok_small T
  have G_padd : FnOk P w K mg base (L2N.CX P w) 3 T.dpadd.f T.dpadd.fd P_padd (spD K 2 (m_p2 fun p q => p + q)) := ok_padd T
  have G_psub : FnOk P w K mg base (L2N.CX P w) 3 T.dpsub.f T.dpsub.fd P_psub (spD K 2 (m_p2 fun p q => p - q)) := ok_psub T
  have G_pmul : FnOk P w K mg base (L2N.CX P w) 3 T.dpmul.f T.dpmul.fd P_pmul (spD K 2 m_pmul) := ok_pmul T
  have G_psq : FnOk P w K mg base (L2N.CX P w) 4 T.dpsq.f T.dpsq.fd P_psq (spD K 1 m_psq) := ok_psq T
  have G_low : FnOk P w K mg base (L2N.CX P w) 1 T.dlow.f T.dlow.fd P_low (spD K 2 m_low) := ok_low T
  refine T.dwide_line.okD sc_wide_line fun cdv A outer s H E so A0 hr tk hp => ⟨_, (pds_cons (pds_set (i := 1) sc_wide_line.nd rfl (by first | exact .inl rfl | exact .inr rfl) (pd_tup (pda_cons (pd_call G_long (hr.mono (by omega)) (by rfl) T.dlong.g T.dlong.F.kp T.dlong.b (fun σ => L2N.passAt tk σ) (pda_cons (pd_var (pv 0)) pda_nil)) (pda_cons (pd_call G_long (hr.mono (by omega)) (by rfl) T.dlong.g T.dlong.F.kp T.dlong.b (fun σ => L2N.passAt tk σ) (pda_cons (pd_var (pv 0)) pda_nil)) pda_nil))))
      (pds_cons (pds_set (i := 2) sc_wide_line.nd rfl (by first | exact .inl rfl | exact .inr rfl) (pd_tup (pda_cons (pd_call G_long (hr.mono (by omega)) (by rfl) T.dlong.g T.dlong.F.kp T.dlong.b (fun σ => L2N.passAt tk σ) (pda_cons (pd_var (pv 0)) pda_nil)) (pda_cons (pd_tup (pda_cons pd_int (pda_cons (pd_op oo_add ol_add pd_int (pd_call G_take (hr.mono (by omega)) (by rfl) T.dtake.g T.dtake.F.kp T.dtake.b (fun σ => L2N.passAt tk σ) (pda_cons (pd_var (pv 0)) (pda_cons (pd_op op_pow ol_pow pd_int pd_int) pda_nil)))) pda_nil))) pda_nil))))
      (pds_cons (pds_set (i := 3) sc_wide_line.nd rfl (by first | exact .inl rfl | exact .inr rfl) (pd_tup (pda_cons (pd_call G_long (hr.mono (by omega)) (by rfl) T.dlong.g T.dlong.F.kp T.dlong.b (fun σ => L2N.passAt tk σ) (pda_cons (pd_var (pv 0)) pda_nil)) (pda_cons (pd_call G_long (hr.mono (by omega)) (by rfl) T.dlong.g T.dlong.F.kp T.dlong.b (fun σ => L2N.passAt tk σ) (pda_cons (pd_var (pv 0)) pda_nil)) pda_nil))))
      (pds_cons (pds_set (i := 4) sc_wide_line.nd rfl (by first | exact .inl rfl | exact .inr rfl) (pd_call G_psq (hr.mono (by omega)) (by rfl) T.dpsq.g T.dpsq.F.kp T.dpsq.b (fun σ => L2N.passAt tk σ) (pda_cons (pd_call G_psub (hr.mono (by omega)) (by rfl) T.dpsub.g T.dpsub.F.kp T.dpsub.b (fun σ => L2N.passAt tk σ) (pda_cons (pd_call G_padd (hr.mono (by omega)) (by rfl) T.dpadd.g T.dpadd.F.kp T.dpadd.b (fun σ => L2N.passAt tk σ) (pda_cons (pd_var (pv 1)) (pda_cons (pd_call G_pmul (hr.mono (by omega)) (by rfl) T.dpmul.g T.dpmul.F.kp T.dpmul.b (fun σ => L2N.passAt tk σ) (pda_cons (pd_call G_small (hr.mono (by omega)) (by rfl) T.dsmall.g T.dsmall.F.kp T.dsmall.b (fun σ => L2N.passAt tk σ) (pda_cons (pd_var (pv 0)) pda_nil)) (pda_cons (pd_var (pv 2)) pda_nil))) pda_nil))) (pda_cons (pd_var (pv 3)) pda_nil))) pda_nil)))
      (pds_cons (pds_if (PDW.t (pdw_or (pdt_cmp (oo_eq hr.units) ol_eq (pd_ix ix_seq ol_ix (pd_var (pv 4)) pd_int (fun _ _ => rfl)) pd_int (nomark _)) (pdw_or1 (pdt_cmp (oo_eq hr.units) ol_eq (pd_call G_take (hr.mono (by omega)) (by rfl) T.dtake.g T.dtake.F.kp T.dtake.b (fun σ => L2N.passAt tk σ) (pda_cons (pd_var (pv 0)) (pda_cons pd_int pda_nil))) pd_int (nomark _)))))
        (pds_one (pds_set (i := 4) sc_wide_line.nd rfl (by first | exact .inl rfl | exact .inr rfl) (pd_call G_low (hr.mono (by omega)) (by rfl) T.dlow.g T.dlow.F.kp T.dlow.b (fun σ => L2N.passAt tk σ) (pda_cons (pd_op oo_add ol_add pd_int (pd_call G_take (hr.mono (by omega)) (by rfl) T.dtake.g T.dtake.F.kp T.dtake.b (fun σ => L2N.passAt tk σ) (pda_cons (pd_var (pv 0)) (pda_cons (pd_op op_sub ol_sub (pd_op op_pow ol_pow pd_int pd_int) pd_int) pda_nil)))) (pda_cons (pd_op oo_add ol_add pd_int (pd_call G_take (hr.mono (by omega)) (by rfl) T.dtake.g T.dtake.F.kp T.dtake.b (fun σ => L2N.passAt tk σ) (pda_cons (pd_var (pv 0)) (pda_cons (pd_op op_pow ol_pow pd_int pd_int) pda_nil)))) pda_nil)))))
        pds_nil)
      (pds_one (pds_ret (pd_new (pdn_lst (pda_cons (pd_var (pv 1)) (pda_cons (pd_var (pv 2)) (pda_cons (pd_var (pv 3)) (pda_cons (pd_var (pv 4)) pda_nil))))))))))))), fun ds Q E hl h => ?_⟩
  have sl : ∀ n, n ≤ 12 → n ≤ sizeLine := fun n h => by rw [sizeLine_eq]; omega
  have t9 : (10 : Int) ^ Int.toNat 9 = 1000000000 := by decide
  have t12 : (10 : Int) ^ Int.toNat 12 = 1000000000000 := by decide
  have t11 : (10 : Int) ^ Int.toNat 11 = 100000000000 := by decide
  unfold m_line at h
  split at h
  · show sSeq _ _ _ [.fr .sto, .no, .no, .no, .no]
    refine seq_mid (P := fun ρ => ∃ x y, (Sz 12 12 x ∧ Sz 12 12 y) ∧ ρ = [.fr .sto, .fr (pt x y), .no, .no, .no]) (fun R hR => ?_) ?_
    · exact ⟨rfl, fun x hx => ⟨rfl, fun y hy => ⟨sl 2 (by decide), hR _ ⟨x, y, ⟨hx, hy⟩, rfl⟩⟩⟩⟩
    rintro _ ⟨x, y, ⟨hx, hy⟩, rfl⟩
    refine seq_mid (P := fun ρ => ∃ a b, (Sz 12 12 a ∧ Sz 2 10 b ∧ ¬ (a = 0 ∧ b = 0)) ∧ ρ = [.fr .sto, .fr (pt x y), .fr (pt a b), .no, .no]) (fun R hR => ?_) ?_
    · refine ⟨rfl, fun a ha => ?_⟩
      walk_at "wk"
      rw [t9]
      refine ⟨⟨by decide, by decide, by decide⟩, by decide, fun r r0 r1 => ?_⟩
      obtain ⟨b, eb, sb, nb⟩ := rq_sz (a := 1) (b := 1 + r) (n := 2) (m := 10) (one_rat (by omega)) ⟨by decide, by show _ < 10000000000; omega⟩
      have eb' : D.tup [.int 1, .int (1 + r)] = rq b := eb
      dsimp only
      rw [eb']
      exact hR _ ⟨a, b, ⟨ha, sb, fun z => by rw [z.2] at nb; exact absurd nb (by decide)⟩, rfl⟩
    rintro _ ⟨a, b, ⟨ha, hb, nz⟩, rfl⟩
    refine seq_mid (P := fun ρ => ∃ z v, (Sz 12 12 z ∧ Sz 12 12 v) ∧ ρ = [.fr .sto, .fr (pt x y), .fr (pt a b), .fr (pt z v), .no]) (fun R hR => ?_) ?_
    · exact ⟨rfl, fun x hx => ⟨rfl, fun y hy => ⟨sl 2 (by decide), hR _ ⟨x, y, ⟨hx, hy⟩, rfl⟩⟩⟩⟩
    rintro _ ⟨z, v, ⟨hz, hv⟩, rfl⟩
    refine seq_mid (P := fun ρ => ∃ S, (Sz 200 196 S ∧ 0 ≤ S) ∧ ρ = [.fr .sto, .fr (pt x y), .fr (pt a b), .fr (pt z v), .fr (rq S)]) (fun R hR => ?_) ?_
    · walk_at "wk"
      intro k hk
      have sk := cd_sz hk
      have k1 := sk.mul ha
      have k2 := sk.mul hb
      have s1 := hx.add k1
      have s2 := hy.add k2
      have g1 := s1.sub hz
      have g2 := s2.sub hv
      have q1 := g1.mul g1
      have q2 := g2.mul g2
      exact ⟨_, _, _, rfl, sk.ok ha (by decide), sk.ok hb (by decide), _, _, _, _, rfl, hx.ok k1 (by decide), hy.ok k2 (by decide), _, _, _, _, rfl, s1.ok hz (by decide), s2.ok hv (by decide), _, _, rfl, g1.ok g1 (by decide), g2.ok g2 (by decide), q1.ok q2 (by decide), hR _ ⟨_, ⟨(q1.add q2).up (by decide) (by decide), sum_ge _ _⟩, rfl⟩⟩
    rintro _ ⟨S, ⟨hS, S0⟩, rfl⟩
    refine seq_mid (P := fun ρ => ∃ S, (Sz 200 196 S ∧ 0 < S) ∧ ρ = [.fr .sto, .fr (pt x y), .fr (pt a b), .fr (pt z v), .fr (rq S)]) (fun R hR => ?_) ?_
    · have low : ∀ R' : D → Prop, (∀ q, Sz 200 196 q → 0 < q → R' (rq q)) → ∀ (r t : Int) E', 0 ≤ r → (r = 0 ∨ r < 10 ^ Int.toNat 12 - 1) → 0 ≤ t → (t = 0 ∨ t < 10 ^ Int.toNat 11) → m_low [.int (1 + r), .int (1 + t)] R' E' := fun R' k r t E' r0 r1 t0 u1 => by
        rw [t12] at r1
        rw [t11] at u1
        have hb : (1 : Int) + t ≠ 0 := by omega
        refine low_at _ _ _ hb ?_ (k _ ((sz_div (n := 13) (m := 12) ?_ ?_ hb).up (by decide) (by decide)) (pos_div (by omega) (by omega))) E'
        · exact Nat.lt_of_lt_of_le ((Nat.log2_lt (by omega)).mpr (show (1 + t).natAbs < 2 ^ 50 by omega)) (by decide)
        · show _ < 10000000000000
          omega
        · show _ < 1000000000000
          omega
      walk_at "wk"
      simp only [ix0]
      walk_at "wk"
      split
      · refine ⟨⟨by decide, by decide, by decide⟩, by decide, fun r r0 r1 => ⟨⟨by decide, by decide, by decide⟩, by decide, fun t t0 u1 => ?_⟩⟩
        exact low _ (fun q hq q0 => hR _ ⟨q, ⟨hq, q0⟩, rfl⟩) r t _ r0 r1 t0 u1
      · rename_i n
        rw [decide_eq_true_iff, num_zero] at n
        refine ⟨by decide, fun u u0 u1 => ?_⟩
        walk_at "wk"
        split
        · refine ⟨⟨by decide, by decide, by decide⟩, by decide, fun r r0 r1 => ⟨⟨by decide, by decide, by decide⟩, by decide, fun t t0 u1 => ?_⟩⟩
          exact low _ (fun q hq q0 => hR _ ⟨q, ⟨hq, q0⟩, rfl⟩) r t _ r0 r1 t0 u1
        · exact hR _ ⟨S, ⟨hS, by rcases pos_or S0 with e | e; exact absurd e n; exact e⟩, rfl⟩
    clear hS S0 S
    rintro _ ⟨S, ⟨hS, S0⟩, rfl⟩
    walk_at "wk"
    exact h x y a b z v S ⟨⟨hx, hy, ha, hb, hz, hv, nz⟩, hS⟩ S0
  · exact h.elim
theorem ok_drawn (T : Txt K mg) : FnOk P w K mg base (L2N.CX P w) 178 T.ddrawn.f T.ddrawn.fd P_drawn (spD K 1 m_line) := by
  have G_line_circle : FnOk P w K mg base (L2N.CX P w) 177 T.dline_circle.f T.dline_circle.fd P_line_circle (spD K 1 m_line) := ok_line_circle T
  have G_wide_line : FnOk P w K mg base (L2N.CX P w) 177 T.dwide_line.f T.dwide_line.fd P_wide_line (spD K 1 m_line) := ok_wide_line T
  have G_take : FnOk P w K mg base (L2N.CX P w) 171 T.dtake.f T.dtake.fd P_take (spD K 2 m_take) := ok_takeD T
  have G_gap : FnOk P w K mg base (L2N.CX P w) 5 T.dgap.f T.dgap.fd P_gap (spD K 3 m_gap) := ok_gap T
  have G_plus : FnOk P w K mg base (L2N.CX P w) 2 T.dplus.f T.dplus.fd P_plus (spD K 2 (m_r2 fun p q => p + q)) := ok_plus T
  refine T.ddrawn.okD sc_drawn fun cdv A outer s H E so A0 hr tk hp => ⟨_, (pds_cons (pds_setN (i := 1) sc_drawn.nd rfl (by first | exact .inl rfl | exact .inr rfl) (pdn_callF G_line_circle (hr.mono (by omega)) (by rfl) T.dline_circle.g T.dline_circle.F.kp T.dline_circle.b (fun σ => L2N.passAt tk σ) (pd_var (pv 0))))
      (pds_cons (pds_if (pdt_cmp (oo_eq hr.units) ol_eq (pd_call G_take (hr.mono (by omega)) (by rfl) T.dtake.g T.dtake.F.kp T.dtake.b (fun σ => L2N.passAt tk σ) (pda_cons (pd_var (pv 0)) (pda_cons pd_int pda_nil))) pd_int (nomark _))
        (pds_one (pds_setN (i := 1) sc_drawn.nd rfl (by first | exact .inl rfl | exact .inr rfl) (pdn_callF G_wide_line (hr.mono (by omega)) (by rfl) T.dwide_line.g T.dwide_line.F.kp T.dwide_line.b (fun σ => L2N.passAt tk σ) (pd_var (pv 0)))))
        pds_nil)
      (pds_cons (pds_if (pdt_cmp (oo_eq hr.units) ol_eq (pd_call G_take (hr.mono (by omega)) (by rfl) T.dtake.g T.dtake.F.kp T.dtake.b (fun σ => L2N.passAt tk σ) (pda_cons (pd_var (pv 0)) (pda_cons pd_int pda_nil))) pd_int (nomark _))
        (pds_cons (pds_set (i := 2) sc_drawn.nd rfl (by first | exact .inl rfl | exact .inr rfl) (pd_ix ix_seq ol_ix (pd_new (pdn_lst (pda_cons (pd_tup (pda_cons pd_int (pda_cons pd_int pda_nil))) (pda_cons (pd_tup (pda_cons pd_int (pda_cons (pd_op op_pow ol_pow pd_int pd_int) pda_nil))) (pda_cons (pd_tup (pda_cons (pd_neg pd_int) (pda_cons (pd_op op_pow ol_pow pd_int pd_int) pda_nil))) pda_nil))))) (pd_call G_take (hr.mono (by omega)) (by rfl) T.dtake.g T.dtake.F.kp T.dtake.b (fun σ => L2N.passAt tk σ) (pda_cons (pd_var (pv 0)) (pda_cons pd_int pda_nil))) (fun _ _ => rfl)))
        (pds_cons (pds_set (i := 3) sc_drawn.nd rfl (by first | exact .inl rfl | exact .inr rfl) (pd_call G_plus (hr.mono (by omega)) (by rfl) T.dplus.g T.dplus.F.kp T.dplus.b (fun σ => L2N.passAt tk σ) (pda_cons (pd_call G_gap (hr.mono (by omega)) (by rfl) T.dgap.g T.dgap.F.kp T.dgap.b (fun σ => L2N.passAt tk σ) (pda_cons (pd_ixO (pv 1) pd_int (fun _ _ => rfl)) (pda_cons (pd_ixO (pv 1) pd_int (fun _ _ => rfl)) (pda_cons (pd_ixO (pv 1) pd_int (fun _ _ => rfl)) pda_nil)))) (pda_cons (pd_var (pv 2)) pda_nil))))
        (pds_one (pds_if (pdt_cmp op_gt ol_gt (pd_ix ix_seq ol_ix (pd_var (pv 3)) pd_int (fun _ _ => rfl)) pd_int (nomark _))
          (pds_one (pds_setI (pv 1) (pd_var (pv 3)) pd_int))
          pds_nil))))
        pds_nil)
      (pds_frz 1 (pds_one (pds_ret (pd_var (pv 1)))))))), fun ds Q E hl h => ?_⟩
  have sl : ∀ n, n ≤ 12 → n ≤ sizeLine := fun n h => by rw [sizeLine_eq]; omega
  have t9 : (10 : Int) ^ Int.toNat 9 = 1000000000 := by decide
  unfold m_line at h
  split at h
  · show sSeq _ _ _ [.fr .sto, .no, .no, .no]
    refine seq_mid (P := fun ρ => ∃ px py dx dy cx cy S, (LnSz px py dx dy cx cy S ∧ 0 < S) ∧ ρ = [.fr .sto, .ow [pt px py, pt dx dy, pt cx cy, rq S], .no, .no]) (fun R hR => ?_) ?_
    · exact ⟨rfl, fun px py dx dy cx cy S h0 h1 => ⟨_, rfl, rfl, rfl, hR _ ⟨px, py, dx, dy, cx, cy, S, ⟨h0, h1⟩, rfl⟩⟩⟩
    rintro _ ⟨px, py, dx, dy, cx, cy, S, h01, rfl⟩
    refine seq_mid (P := fun ρ => ∃ px py dx dy cx cy S, (LnSz px py dx dy cx cy S ∧ 0 < S) ∧ ρ = [.fr .sto, .ow [pt px py, pt dx dy, pt cx cy, rq S], .no, .no]) (fun R hR => ?_) ?_
    · walk_at "wk"
      refine ⟨by decide, fun u u0 u1 => ?_⟩
      walk_at "wk"
      split
      · exact ⟨rfl, fun px py dx dy cx cy S h0 h1 => ⟨_, rfl, rfl, rfl, hR _ ⟨px, py, dx, dy, cx, cy, S, ⟨h0, h1⟩, rfl⟩⟩⟩
      · exact hR _ ⟨px, py, dx, dy, cx, cy, S, h01, rfl⟩
    clear h01 px py dx dy cx cy S
    rintro _ ⟨px, py, dx, dy, cx, cy, S, ⟨h0, h1⟩, rfl⟩
    refine seq_mid (P := fun ρ => ∃ S a b, (LnSz px py dx dy cx cy S ∧ 0 < S) ∧ ρ = [.fr .sto, .ow [pt px py, pt dx dy, pt cx cy, rq S], a, b]) (fun R hR => ?_) ?_
    · walk_at "wk"
      refine ⟨by decide, fun u u0 u1 => ?_⟩
      walk_at "wk"
      split
      · rw [t9]
        refine ⟨⟨by decide, by decide, by decide⟩, ⟨by decide, by decide, by decide⟩, by decide, fun i i0 i1 => ddIx_any i0 (by show i < 3; omega) fun d hd => ?_⟩
        have hn : ∃ n, d = rq n ∧ Sz 1 10 n := by
          simp only [List.mem_cons, List.not_mem_nil, or_false] at hd
          rcases hd with rfl | rfl | rfl
          · obtain ⟨q, e, s, _⟩ := rq_sz (a := 0) (b := 1) (n := 1) (m := 10) (by decide +kernel) (by decide)
            exact ⟨q, e, s⟩
          · obtain ⟨q, e, s, _⟩ := rq_sz (a := 1) (b := 1000000000) (n := 1) (m := 10) (by decide +kernel) (by decide)
            exact ⟨q, e, s⟩
          · obtain ⟨q, e, s, _⟩ := rq_sz (a := -1) (b := 1000000000) (n := 1) (m := 10) (by decide +kernel) (by decide)
            exact ⟨q, e, s⟩
        obtain ⟨n, rfl, sn⟩ := hn
        walk_at "wk"
        refine ⟨_, rfl, _, rfl, _, rfl, px, py, dx, dy, cx, cy, rfl, h0.l, _, n, rfl, h0.l.gap.ok sn (by decide), ?_⟩
        walk_at "wk"
        simp only [ix0]
        walk_at "wk"
        split
        · rename_i c
          rw [decide_eq_true_iff, num_gt] at c
          refine ⟨3, rfl, ?_⟩
          exact hR _ ⟨_, _, _, ⟨⟨h0.l, (h0.l.gap.add sn).up (by decide) (by decide)⟩, c⟩, rfl⟩
        · exact hR _ ⟨S, _, _, ⟨h0, h1⟩, rfl⟩
      · exact hR _ ⟨S, _, _, ⟨h0, h1⟩, rfl⟩
    clear h0 h1 S
    rintro _ ⟨S, a, b, ⟨h0, h1⟩, rfl⟩
    walk_at "wk"
    exact h px py dx dy cx cy S h0 h1
  · exact h.elim
end
end My
set_option exponentiation.threshold 100000
namespace My
open PySem PySem.Spec PyProof.Rows L2
local macro_rules | `(tactic| walk_at "dl") => `(tactic| simp only [startD, List.map_cons, List.map_nil, List.length_cons, List.length_nil, List.cons_append, List.nil_append, List.replicate_succ, List.replicate_zero, List.getElem?_cons_zero, List.getElem?_cons_succ, List.set_cons_zero, List.set_cons_succ,
  dVar, rdS, dC, dNew, dOp, onB, qB, dChain, qAnd, qOr, qNot, qTru, truD, dIf, dAnd, dOr, dNot, dUn, ddNeg, lNil, lCons, dTup, nLst, ddI, ddI0, ddAdd, isNonD, isBlD, ddIsN, ddIsB, ddIx_t0, ddIx_t1, ddIx_t2, ddIx_t3, ddIx_l0, ddIx_l1, ddIx_l2, dCB, ddLen, ddInt1, ddAbs, ddMM, ddTuple, nCB, nnList, ddIsi, dCall,
  sSkip, sSeq, sBreak, sCont, sExpr, sRet, sRetN, sIf, sNever, gdName, gdNil, gdCons, gdTup, sAsg, sSetN, sPar, sRaise, sFrz, owS, sApp, sIns, dLenO, dIxO, sTry, sFor, iL, iT, onL, onT, iR1, iR2, nComp, qYes,
  ddEq_ii, ddEq_ss, ddEq_bb, Bool.false_bne, Bool.true_bne, List.append_nil, true_and, and_true, if_true, if_false, Bool.not_true, Bool.not_false, Bool.true_eq_false, Bool.false_eq_true, ite_true, ite_false, id_eq])

local macro_rules | `(tactic| walk_at "is") => `(tactic| simp only [plain_non, isIn_non_int, isIn_non_str, isIn_non_bool, isIn_non_list, isIn_non_tuple, isIn_non_dict, plain_bl, isIn_bl_int, isIn_bl_str, isIn_bl_bool, isIn_bl_list, isIn_bl_tuple, isIn_bl_dict, plain_int, isIn_int_int, isIn_int_str, isIn_int_bool, isIn_int_list, isIn_int_tuple, isIn_int_dict, plain_str, isIn_str_int, isIn_str_str, isIn_str_bool, isIn_str_list, isIn_str_tuple, isIn_str_dict, plain_tup, isIn_tup_int, isIn_tup_str, isIn_tup_bool, isIn_tup_list, isIn_tup_tuple, isIn_tup_dict, plain_lst, isIn_lst_int, isIn_lst_str, isIn_lst_bool, isIn_lst_list, isIn_lst_tuple, isIn_lst_dict, sl0, sl1, sl2, sl3, sl4, decide_true, decide_false, ddIsi, ddIsi2, true_and, if_true, if_false, Bool.false_eq_true, Bool.not_true, Bool.not_false, Bool.or_true, Bool.or_false, Bool.true_or, and_true])
local macro_rules | `(tactic| walk_at "wk") => `(tactic| ((try walk_at "dl"); (try walk_at "is"); (try walk_at "dl")))

def m_like (n : Nat) : DF := fun ds Q _ => ∃ d, ds = [d, d] ∧ TreeD n d ∧ Q (.bl true)
abbrev s_like : Stmt := topS 87
abbrev N_like : List Str := ["got", "due", "k"]
abbrev P_like : List Str := ["got", "due"]
theorem sc_like : FnScope N_like P_like (defScope s_like) := ⟨rfl, rfl, rfl, by decide +kernel, rfl, by decide +kernel, by decide +kernel⟩

section
variable {P : Program} {w : World} {K : PySem.W.Frag} {mg : Str → Option Value} {base : Heap}
theorem ok_like (T : Txt K mg) (n : Nat) : FnOk P w K mg base (L2N.CX P w) n T.dlike.f T.dlike.fd P_like (spD K 2 (m_like n)) := by
  induction n with
  | zero =>
    refine ⟨fun _ _ _ _ h => ?_, fun _ _ _ _ _ _ _ _ _ _ _ _ _ h => ?_⟩ <;>
    · obtain ⟨_, _, _, _, _, _, _, _, ⟨d, _, h, _⟩, _⟩ := h
      unfold TreeD at h
      exact h.elim
  | succ n G_like =>
    refine T.dlike.okD sc_like fun cdv A outer s H E so A0 hr tk hp => ⟨_, (pds_cons (pds_if (pdt_tru (pd_isiT (by rfl) T.m_isinstance (pd_var (pv 1)) (pe_bltn (v := .ty "list") (by rfl) T.m_list bt_list rfl) (pe_bltn (v := .ty "tuple") (by rfl) T.m_tuple bt_tuple rfl) tq_list tq_tuple))
        (pds_cons (pds_if (PDW.t (pdw_or (pdt_not (pdt_tru (pd_isiT (by rfl) T.m_isinstance (pd_var (pv 0)) (pe_bltn (v := .ty "list") (by rfl) T.m_list bt_list rfl) (pe_bltn (v := .ty "tuple") (by rfl) T.m_tuple bt_tuple rfl) tq_list tq_tuple))) (pdw_or (pdt_cmp (oo_ne hr.units) ol_ne (pd_isi (by rfl) T.m_isinstance (pd_var (pv 0)) (pe_bltn (v := .ty "list") (by rfl) T.m_list bt_list rfl) tq_list) (pd_isi (by rfl) T.m_isinstance (pd_var (pv 1)) (pe_bltn (v := .ty "list") (by rfl) T.m_list bt_list rfl) tq_list) (nomark _)) (pdw_or1 (pdt_cmp (oo_ne hr.units) ol_ne (pd_callB oo_len cl_len (by rfl) T.m_len bt_len (pda_cons (pd_var (pv 0)) pda_nil)) (pd_callB oo_len cl_len (by rfl) T.m_len bt_len (pda_cons (pd_var (pv 1)) pda_nil)) (nomark _))))))
          (pds_one (pds_ret pd_bl))
          pds_nil)
        (pds_one (pds_ret (pd_callB (cr_all rfl) cl_all (by rfl) T.m_all bt_all (pda_cons (pd_new (pdn_lc (own := [("k", 2)]) rfl sc_like.nd (pdi_range1 (by rfl) T.m_range (pda_cons (pd_callB oo_len cl_len (by rfl) T.m_len bt_len (pda_cons (pd_var (pv 1)) pda_nil)) pda_nil)) (blkOk_by (own := [("k", 2)]) (N := N_like) (sc := defScope s_like) (by decide +kernel)) (fun _ _ _ _ _ => (pdgw_name (pg_name (i := 2) sc_like.nd rfl (by first | exact .inl rfl | exact .inr rfl)) (by simp))) (fun _ _ _ _ _ => pdts_nil) (fun _ _ _ _ _ => (pd_call G_like (hr.mono (by omega)) (by rfl) T.dlike.g T.dlike.F.kp T.dlike.b (fun σ => passN0 σ) (pda_cons (pd_ix ix_seq ol_ix (pd_var (pv 0)) (pd_var (pv 2)) (fun _ _ => rfl)) (pda_cons (pd_ix ix_seq ol_ix (pd_var (pv 1)) (pd_var (pv 2)) (fun _ _ => rfl)) pda_nil)))))) pda_nil)))))
        pds_nil)
      (pds_cons (pds_if (PDW.t (pdw_or (pdt_cmp o_isN ol_isN (pd_var (pv 1)) pd_non (nomark _)) (pdw_or1 (pdt_tru (pd_isi (by rfl) T.m_isinstance (pd_var (pv 1)) (pe_bltn (v := .ty "bool") (by rfl) T.m_bool bt_bool rfl) tq_bool)))))
        (pds_one (pds_ret (pd_or (pd_and (pd_cmp o_isN ol_isN (pd_var (pv 0)) pd_non (nomark _)) (pd_one (pd_cmp o_isN ol_isN (pd_var (pv 1)) pd_non (nomark _)))) (pd_or (pd_and (pd_cmp o_isB ol_isB (pd_var (pv 0)) pd_bl (nomark _)) (pd_one (pd_cmp o_isB ol_isB (pd_var (pv 1)) pd_bl (nomark _)))) (pd_one (pd_and (pd_cmp o_isB ol_isB (pd_var (pv 0)) pd_bl (nomark _)) (pd_one (pd_cmp o_isB ol_isB (pd_var (pv 1)) pd_bl (nomark _)))))))))
        pds_nil)
      (pds_cons (pds_if (pdt_tru (pd_isi (by rfl) T.m_isinstance (pd_var (pv 1)) (pe_bltn (v := .ty "str") (by rfl) T.m_str bt_str rfl) tq_str))
        (pds_one (pds_ret (pd_and (pd_isi (by rfl) T.m_isinstance (pd_var (pv 0)) (pe_bltn (v := .ty "str") (by rfl) T.m_str bt_str rfl) tq_str) (pd_one (pd_cmp (oo_eq hr.units) ol_eq (pd_var (pv 0)) (pd_var (pv 1)) (nomark _))))))
        pds_nil)
      (pds_one (pds_ret (pd_and (pd_isi (by rfl) T.m_isinstance (pd_var (pv 0)) (pe_bltn (v := .ty "int") (by rfl) T.m_int bt_int rfl) tq_int) (pd_and (pd_not (pd_isi (by rfl) T.m_isinstance (pd_var (pv 0)) (pe_bltn (v := .ty "bool") (by rfl) T.m_bool bt_bool rfl) tq_bool)) (pd_one (pd_cmp (oo_eq hr.units) ol_eq (pd_var (pv 0)) (pd_var (pv 1)) (nomark _)))))))))), fun ds Q E hl h => ?_⟩
    obtain ⟨d, rfl, t1, q⟩ := h
    have p1 := t1.plain
    cases d with
    | tup l =>
      unfold TreeD at t1
      walk_at "wk"
      have t23 := t1.1
      refine ⟨by omega, by omega, ?_⟩
      refine compL_map (fun _ => .bl true) _ _ (fun d hd R k => ?_) (by rw [rangeD_len]; rw [sizeLine_eq]; simp; omega) ?_
      · obtain ⟨i, hi⟩ := List.getElem?_of_mem hd
        obtain ⟨hj, rfl⟩ := rangeD_at hi
        have hi : i < l.length := by omega
        simp only [wipeD]
        walk_at "wk"
        refine ddIx_tup (List.getElem?_eq_getElem hi) ?_
        refine ddIx_tup (List.getElem?_eq_getElem hi) ?_
        exact ⟨_, rfl, t1.2 _ (List.getElem_mem hi), k⟩
      · refine ⟨(rangeD 0 (l.length : Int).toNat).map fun _ => true, by rw [List.map_map]; rfl, ?_⟩
        have e : ((rangeD 0 (l.length : Int).toNat).map fun _ => true).all id = true := by simp
        rw [e]
        exact q
    | lst l =>
      unfold TreeD at t1
      walk_at "wk"
      have t23 := t1.1
      refine ⟨by omega, by omega, ?_⟩
      refine compL_map (fun _ => .bl true) _ _ (fun d hd R k => ?_) (by rw [rangeD_len]; rw [sizeLine_eq]; simp; omega) ?_
      · obtain ⟨i, hi⟩ := List.getElem?_of_mem hd
        obtain ⟨hj, rfl⟩ := rangeD_at hi
        have hi : i < l.length := by omega
        simp only [wipeD]
        walk_at "wk"
        refine ddIx_lst (List.getElem?_eq_getElem hi) ?_
        refine ddIx_lst (List.getElem?_eq_getElem hi) ?_
        exact ⟨_, rfl, t1.2 _ (List.getElem_mem hi), k⟩
      · refine ⟨(rangeD 0 (l.length : Int).toNat).map fun _ => true, by rw [List.map_map]; rfl, ?_⟩
        have e : ((rangeD 0 (l.length : Int).toNat).map fun _ => true).all id = true := by simp
        rw [e]
        exact q
    | non =>
      walk_at "wk"
      exact q
    | bl b =>
      cases b
      · walk_at "wk"
        exact q
      · walk_at "wk"
        exact q
    | int i =>
      walk_at "wk"
      exact q
    | str z =>
      walk_at "wk"
      exact q
    | _ => unfold TreeD at t1; exact t1.elim
end
end My
set_option exponentiation.threshold 100000
namespace My
open PySem PySem.Spec PyProof.Rows L2
local macro_rules | `(tactic| walk_at "dl") => `(tactic| simp only [startD, List.map_cons, List.map_nil, List.length_cons, List.length_nil, List.cons_append, List.nil_append, List.replicate_succ, List.replicate_zero, List.getElem?_cons_zero, List.getElem?_cons_succ, List.set_cons_zero, List.set_cons_succ,
  dVar, rdS, dC, dNew, dOp, onB, qB, dChain, qAnd, qOr, qNot, qTru, truD, dIf, dAnd, dOr, dNot, dUn, ddNeg, lNil, lCons, dTup, nLst, ddI, ddI0, ddAdd, isNonD, isBlD, ddIsN, ddIsB, ddIx_t0, ddIx_t1, ddIx_t2, ddIx_t3, ddIx_l0, ddIx_l1, ddIx_l2, dCB, ddLen, ddInt1, ddAbs, ddMM, ddTuple, nCB, nnList, ddIsi, dCall,
  sSkip, sSeq, sBreak, sCont, sExpr, sRet, sRetN, sIf, sNever, gdName, gdNil, gdCons, gdTup, sAsg, sSetN, sPar, sRaise, sFrz, owS, sApp, sIns, dLenO, dIxO, sTry, sFor, iL, iT, onL, onT, iR1, iR2, nComp, qYes,
  ddEq_ii, ddEq_ss, ddEq_bb, Bool.false_bne, Bool.true_bne, List.append_nil, true_and, and_true, if_true, if_false, Bool.not_true, Bool.not_false, Bool.true_eq_false, Bool.false_eq_true, ite_true, ite_false, id_eq])

local macro_rules | `(tactic| walk_at "is") => `(tactic| simp only [plain_non, isIn_non_int, isIn_non_str, isIn_non_bool, isIn_non_list, isIn_non_tuple, isIn_non_dict, plain_bl, isIn_bl_int, isIn_bl_str, isIn_bl_bool, isIn_bl_list, isIn_bl_tuple, isIn_bl_dict, plain_int, isIn_int_int, isIn_int_str, isIn_int_bool, isIn_int_list, isIn_int_tuple, isIn_int_dict, plain_str, isIn_str_int, isIn_str_str, isIn_str_bool, isIn_str_list, isIn_str_tuple, isIn_str_dict, plain_tup, isIn_tup_int, isIn_tup_str, isIn_tup_bool, isIn_tup_list, isIn_tup_tuple, isIn_tup_dict, plain_lst, isIn_lst_int, isIn_lst_str, isIn_lst_bool, isIn_lst_list, isIn_lst_tuple, isIn_lst_dict, sl0, sl1, sl2, sl3, sl4, decide_true, decide_false, ddIsi, ddIsi2, true_and, if_true, if_false, Bool.false_eq_true, Bool.not_true, Bool.not_false, Bool.or_true, Bool.or_false, Bool.true_or, and_true])
local macro_rules | `(tactic| walk_at "wk") => `(tactic| ((try walk_at "dl"); (try walk_at "is"); (try walk_at "dl")))

/-! ### the plain law of a line and a circle -/
section
variable {px py dx dy cx cy S : Rat}
theorem t_eq (h : lenQ dx dy ≠ 0) : algL px py dx dy cx cy * lenQ dx dy = (cx - px) * dx + (cy - py) * dy := by
  unfold algL
  grind
theorem foot_dot (h : lenQ dx dy ≠ 0) : (px + dx * algL px py dx dy cx cy - cx) * dx + (py + dy * algL px py dx dy cx cy - cy) * dy = 0 := by
  have a := t_eq (px := px) (py := py) (cx := cx) (cy := cy) h
  generalize algL px py dx dy cx cy = t at *
  unfold lenQ at a
  grind
theorem nea_len (h : lenQ dx dy ≠ 0) : neaQ px py dx dy cx cy * lenQ dx dy = crossQ px py dx dy cx cy * crossQ px py dx dy cx cy := by
  have a := t_eq (px := px) (py := py) (cx := cx) (cy := cy) h
  unfold neaQ
  generalize algL px py dx dy cx cy = t at *
  unfold lenQ at a ⊢
  unfold crossQ
  have b : t * t * ((dx * dx + dy * dy) * (dx * dx + dy * dy)) = ((cx - px) * dx + (cy - py) * dy) * ((cx - px) * dx + (cy - py) * dy) := by
    rw [← a]
    grind
  grind
theorem gap_len (h : lenQ dx dy ≠ 0) : gapQ px py dx dy cx cy * lenQ dx dy = crossQ px py dx dy cx cy * crossQ px py dx dy cx cy := by
  unfold gapQ
  grind
theorem mul_can {a b c : Rat} (h : c ≠ 0) (e : a * c = b * c) : a = b := by
  have : (a - b) * c = 0 := by grind
  rcases Rat.mul_eq_zero.mp this with z | z
  · grind
  · exact absurd z h
theorem nea_gap (h : lenQ dx dy ≠ 0) : neaQ px py dx dy cx cy = gapQ px py dx dy cx cy := mul_can h ((nea_len h).trans (gap_len h).symm)
theorem heiL_eq (h : lenQ dx dy ≠ 0) : heiL px py dx dy cx cy S * lenQ dx dy = S - neaQ px py dx dy cx cy := by
  unfold heiL
  grind
theorem len_pos (h : ¬ (dx = 0 ∧ dy = 0)) : 0 < lenQ dx dy := by
  have a : 0 ≤ lenQ dx dy := sum_ge dx dy
  rcases pos_or a with e | e
  · exact absurd e (len_ne h)
  · exact e
theorem hei_neg (h : ¬ (dx = 0 ∧ dy = 0)) : (S - gapQ px py dx dy cx cy < 0) = (heiL px py dx dy cx cy S < 0) := by
  have a := heiL_eq (px := px) (py := py) (cx := cx) (cy := cy) (S := S) (len_ne h)
  rw [nea_gap (len_ne h)] at a
  rw [← a]
  have p := len_pos h
  refine propext ⟨fun k => ?_, fun k => ?_⟩
  · refine Rat.not_le.mp fun z => ?_
    exact absurd k (Rat.not_lt.mpr (Rat.mul_nonneg z (Rat.le_of_lt p)))
  · have := Rat.mul_pos (a := -heiL px py dx dy cx cy S) (by grind) p
    grind
theorem hei_posi (h : ¬ (dx = 0 ∧ dy = 0)) : (0 < S - gapQ px py dx dy cx cy) = (0 < heiL px py dx dy cx cy S) := by
  have a := heiL_eq (px := px) (py := py) (cx := cx) (cy := cy) (S := S) (len_ne h)
  rw [nea_gap (len_ne h)] at a
  rw [← a]
  have p := len_pos h
  refine propext ⟨fun k => ?_, fun k => Rat.mul_pos k p⟩
  refine Rat.not_le.mp fun z => ?_
  have := Rat.mul_nonneg (a := -heiL px py dx dy cx cy S) (by grind) (Rat.le_of_lt p)
  grind
/-- the numbers of a spot that meet_line tells: its parts, and what they solve -/
structure Spo (px py dx dy cx cy S σ a b c e u : Rat) : Prop where
  on : (a - px) * dy - (b - py) * dx = 0
  lin : dx * e - dy * c = 0
  far : (a - cx) * (a - cx) + (b - cy) * (b - cy) + (c * c + e * e) * u = S
  dot : (a - cx) * c + (b - cy) * e = 0
  arm : (∃ r, 0 ≤ r ∧ (r = 0 ↔ heiL px py dx dy cx cy S = 0) ∧ (a - cx) * dx + (b - cy) * dy = σ * r * lenQ dx dy ∧ c = 0 ∧ e = 0 ∧ u = 0) ∨
    ((a - cx) * dx + (b - cy) * dy = 0 ∧ c = dx * σ ∧ e = dy * σ ∧ u = heiL px py dx dy cx cy S ∧ 0 < u)
theorem LnPt.t (h : LnPt px py dx dy cx cy) : Sz 116 115 (algL px py dx dy cx cy) := ((((h.c1.sub h.p1).mul h.d1).add ((h.c2.sub h.p2).mul h.d2)).div h.len (len_ne h.n)).up (by decide) (by decide)
theorem LnPt.bx (h : LnPt px py dx dy cx cy) : Sz 141 139 (px + dx * algL px py dx dy cx cy) := (h.p1.add (h.d1.mul h.t)).up (by decide) (by decide)
theorem LnPt.by_ (h : LnPt px py dx dy cx cy) : Sz 141 139 (py + dy * algL px py dx dy cx cy) := (h.p2.add (h.d2.mul h.t)).up (by decide) (by decide)
theorem LnSz.h (h : LnSz px py dx dy cx cy S) : Sz 430 426 (heiL px py dx dy cx cy S) := by
  unfold heiL
  rw [nea_gap (len_ne h.l.n)]
  exact ((h.s.sub h.l.gap).div h.l.len (len_ne h.l.n)).up (by decide) (by decide)
theorem line_spot {σ : Rat} {side s : D} (h : LnSz px py dx dy cx cy S) (wy : Wy side σ) (h0 : ¬ heiL px py dx dy cx cy S < 0) (e : lineD px py dx dy cx cy S σ = s) :
    ∃ a b c e u, Sp s a b c e u ∧ SpSz a b c e u ∧ Spo px py dx dy cx cy S σ a b c e u := by
  have L0 := len_ne h.l.n
  have fd := foot_dot (px := px) (py := py) (cx := cx) (cy := cy) L0
  have he := heiL_eq (px := px) (py := py) (cx := cx) (cy := cy) (S := S) L0
  have sh := h.h
  have sx := h.l.bx
  have sy := h.l.by_
  have sw := wy.sz
  have ss : σ * σ = 1 := by rcases wy with ⟨_, rfl⟩ | ⟨_, rfl⟩ <;> decide +kernel
  unfold lineD at e
  rw [if_neg h0] at e
  have v0 := Rat.not_lt.mp h0
  unfold neaQ at he
  unfold spotD at e
  generalize hv : heiL px py dx dy cx cy S = v at *
  generalize hbx : px + dx * algL px py dx dy cx cy = bx at *
  generalize hby : py + dy * algL px py dx dy cx cy = by' at *
  have on0 : (bx - px) * dy - (by' - py) * dx = 0 := by
    rw [← hbx, ← hby]
    grind
  cases hr : rootR v with
  | some r =>
    rw [hr] at e
    obtain ⟨r0, r1⟩ := rootR_some hr
    have sr : Sz 215 213 r := Sz.half' r1 sh
    refine ⟨bx + dx * σ * r, by' + dy * σ * r, 0, 0, 0, .inl ⟨e.symm, rfl, rfl, rfl⟩, ⟨?_, ?_, ⟨by decide, by decide⟩, ⟨by decide, by decide⟩, ⟨by decide, by decide⟩⟩, ?_, ?_, ?_, ?_, .inl ⟨r, r0, ?_, ?_, rfl, rfl, rfl⟩⟩
    · exact (sx.add ((h.l.d1.mul sw).mul sr)).up (by decide) (by decide)
    · exact (sy.add ((h.l.d2.mul sw).mul sr)).up (by decide) (by decide)
    · grind
    · grind
    · unfold lenQ at he
      have k1 : σ * r * (σ * r) = v := by grind
      grind
    · grind
    · rw [hv]
      refine ⟨fun z => by rw [z] at r1; grind, fun z => ?_⟩
      rw [z] at r1
      rcases Rat.mul_eq_zero.mp r1 with k | k <;> exact k
    · unfold lenQ
      grind
  | none =>
    rw [hr] at e
    have v1 : 0 < v := by
      rcases pos_or v0 with z | z
      · have := rootR_is (p := v) (r := 0) Rat.le_refl (by rw [z]; grind)
        rw [this] at hr
        cases hr
      · exact z
    refine ⟨bx, by', dx * σ, dy * σ, v, .inr ⟨e.symm, v0⟩, ⟨sx.up (by decide) (by decide), sy.up (by decide) (by decide), (h.l.d1.mul sw).up (by decide) (by decide), (h.l.d2.mul sw).up (by decide) (by decide), sh.up (by decide) (by decide)⟩, on0, ?_, ?_, ?_, .inr ⟨fd, rfl, rfl, hv.symm, v1⟩⟩
    · grind
    · unfold lenQ at he
      have k1 : σ * σ * v = v := by grind
      grind
    · grind
end
end My
set_option exponentiation.threshold 100000
namespace My
open PySem PySem.Spec PyProof.Rows L2
local macro_rules | `(tactic| walk_at "dl") => `(tactic| simp only [startD, List.map_cons, List.map_nil, List.length_cons, List.length_nil, List.cons_append, List.nil_append, List.replicate_succ, List.replicate_zero, List.getElem?_cons_zero, List.getElem?_cons_succ, List.set_cons_zero, List.set_cons_succ,
  dVar, rdS, dC, dNew, dOp, onB, qB, dChain, qAnd, qOr, qNot, qTru, truD, dIf, dAnd, dOr, dNot, dUn, ddNeg, lNil, lCons, dTup, nLst, ddI, ddI0, ddAdd, isNonD, isBlD, ddIsN, ddIsB, ddIx_t0, ddIx_t1, ddIx_t2, ddIx_t3, ddIx_l0, ddIx_l1, ddIx_l2, dCB, ddLen, ddInt1, ddAbs, ddMM, ddTuple, nCB, nnList, ddIsi, dCall,
  sSkip, sSeq, sBreak, sCont, sExpr, sRet, sRetN, sIf, sNever, gdName, gdNil, gdCons, gdTup, sAsg, sSetN, sPar, sRaise, sFrz, owS, sApp, sIns, dLenO, dIxO, sTry, sFor, iL, iT, onL, onT, iR1, iR2, nComp, qYes,
  ddEq_ii, ddEq_ss, ddEq_bb, Bool.false_bne, Bool.true_bne, List.append_nil, true_and, and_true, if_true, if_false, Bool.not_true, Bool.not_false, Bool.true_eq_false, Bool.false_eq_true, ite_true, ite_false, id_eq])

local macro_rules | `(tactic| walk_at "is") => `(tactic| simp only [plain_non, isIn_non_int, isIn_non_str, isIn_non_bool, isIn_non_list, isIn_non_tuple, isIn_non_dict, plain_bl, isIn_bl_int, isIn_bl_str, isIn_bl_bool, isIn_bl_list, isIn_bl_tuple, isIn_bl_dict, plain_int, isIn_int_int, isIn_int_str, isIn_int_bool, isIn_int_list, isIn_int_tuple, isIn_int_dict, plain_str, isIn_str_int, isIn_str_str, isIn_str_bool, isIn_str_list, isIn_str_tuple, isIn_str_dict, plain_tup, isIn_tup_int, isIn_tup_str, isIn_tup_bool, isIn_tup_list, isIn_tup_tuple, isIn_tup_dict, plain_lst, isIn_lst_int, isIn_lst_str, isIn_lst_bool, isIn_lst_list, isIn_lst_tuple, isIn_lst_dict, sl0, sl1, sl2, sl3, sl4, decide_true, decide_false, ddIsi, ddIsi2, true_and, if_true, if_false, Bool.false_eq_true, Bool.not_true, Bool.not_false, Bool.or_true, Bool.or_false, Bool.true_or, and_true])
local macro_rules | `(tactic| walk_at "wk") => `(tactic| ((try walk_at "dl"); (try walk_at "is"); (try walk_at "dl")))

/-! ### the law's own judges -/
def m_lint : DF := fun ds Q _ => ∃ i, ds = [.int i] ∧ Q (.bl true)
def m_lrat : DF := fun ds Q _ => ∃ q, ds = [rq q] ∧ q.den.log2 < 9000 ∧ Q (.bl true)
def m_lpnt : DF := fun ds Q _ => ∃ a b, ds = [pt a b] ∧ (a.den.log2 < 9000 ∧ b.den.log2 < 9000) ∧ Q (.bl true)
def m_word : DF := fun ds Q _ => ∃ s l word many, ds = [.tup (.str s :: l), .str word, .int many] ∧ Q (.bl (decide ((l.length : Int) + 1 = many) && decide (s = word)))
def m_on_line : DF := fun ds Q _ => ∃ px py dx dy a b, ds = [pt px py, pt dx dy, pt a b] ∧ (Sz 12 12 px ∧ Sz 12 12 py ∧ Sz 12 12 dx ∧ Sz 2 10 dy) ∧ (Sz 370 370 a ∧ Sz 370 370 b) ∧ Q (.bl (decide ((a - px) * dy - (b - py) * dx = 0)))
theorem Sz.lg {n m : Nat} {q : Rat} (h : Sz n m q) (l : m ≤ 2700) : q.den.log2 < 9000 := log_lt h.m l
abbrev s_is_int : Stmt := topS 77
abbrev N_is_int : List Str := ["thing"]
abbrev P_is_int : List Str := ["thing"]
theorem sc_is_int : FnScope N_is_int P_is_int (defScope s_is_int) := ⟨rfl, rfl, rfl, by decide +kernel, rfl, by decide +kernel, by decide +kernel⟩

abbrev s_lis_ratio : Stmt := topS 78
abbrev N_lis_ratio : List Str := ["thing"]
abbrev P_lis_ratio : List Str := ["thing"]
theorem sc_lis_ratio : FnScope N_lis_ratio P_lis_ratio (defScope s_lis_ratio) := ⟨rfl, rfl, rfl, by decide +kernel, rfl, by decide +kernel, by decide +kernel⟩

abbrev s_lis_point : Stmt := topS 79
abbrev N_lis_point : List Str := ["thing"]
abbrev P_lis_point : List Str := ["thing"]
theorem sc_lis_point : FnScope N_lis_point P_lis_point (defScope s_lis_point) := ⟨rfl, rfl, rfl, by decide +kernel, rfl, by decide +kernel, by decide +kernel⟩

abbrev s_is_word : Stmt := topS 80
abbrev N_is_word : List Str := ["thing", "word", "many"]
abbrev P_is_word : List Str := ["thing", "word", "many"]
theorem sc_is_word : FnScope N_is_word P_is_word (defScope s_is_word) := ⟨rfl, rfl, rfl, by decide +kernel, rfl, by decide +kernel, by decide +kernel⟩

abbrev s_on_line : Stmt := topS 92
abbrev N_on_line : List Str := ["base", "along", "spot"]
abbrev P_on_line : List Str := ["base", "along", "spot"]
theorem sc_on_line : FnScope N_on_line P_on_line (defScope s_on_line) := ⟨rfl, rfl, rfl, by decide +kernel, rfl, by decide +kernel, by decide +kernel⟩

section
variable {P : Program} {w : World} {K : PySem.W.Frag} {mg : Str → Option Value} {base : Heap}
theorem ok_lint (T : Txt K mg) : FnOk P w K mg base (L2N.CX P w) 1 T.dis_int.f T.dis_int.fd P_is_int (spD K 1 m_lint) := by
  refine T.dis_int.okD sc_is_int fun cdv A outer s H E so A0 hr tk hp => ⟨_, (pds_one (pds_ret (pd_and (pd_isi (by rfl) T.m_isinstance (pd_var (pv 0)) (pe_bltn (v := .ty "int") (by rfl) T.m_int bt_int rfl) tq_int) (pd_one (pd_not (pd_isi (by rfl) T.m_isinstance (pd_var (pv 0)) (pe_bltn (v := .ty "bool") (by rfl) T.m_bool bt_bool rfl) tq_bool)))))), fun ds Q E hl h => ?_⟩
  obtain ⟨i, rfl, h⟩ := h
  walk_at "wk"
  exact h
theorem ok_lrat (T : Txt K mg) : FnOk P w K mg base (L2N.CX P w) 2 T.dlis_ratio.f T.dlis_ratio.fd P_lis_ratio (spD K 1 m_lrat) := by
  have G_is_int : FnOk P w K mg base (L2N.CX P w) 1 T.dis_int.f T.dis_int.fd P_is_int (spD K 1 m_lint) := ok_lint T
  have G_low : FnOk P w K mg base (L2N.CX P w) 1 T.dlow.f T.dlow.fd P_low (spD K 2 m_low) := ok_low T
  refine T.dlis_ratio.okD sc_lis_ratio fun cdv A outer s H E so A0 hr tk hp => ⟨_, (pds_cons (pds_if (PDW.t (pdw_or (pdt_not (pdt_tru (pd_isi (by rfl) T.m_isinstance (pd_var (pv 0)) (pe_bltn (v := .ty "tuple") (by rfl) T.m_tuple bt_tuple rfl) tq_tuple))) (pdw_or (pdt_cmp (oo_ne hr.units) ol_ne (pd_callB oo_len cl_len (by rfl) T.m_len bt_len (pda_cons (pd_var (pv 0)) pda_nil)) pd_int (nomark _)) (pdw_or (pdt_not (pdt_tru (pd_call G_is_int (hr.mono (by omega)) (by rfl) T.dis_int.g T.dis_int.F.kp T.dis_int.b (fun σ => L2N.passAt tk σ) (pda_cons (pd_ix ix_seq ol_ix (pd_var (pv 0)) pd_int (fun _ _ => rfl)) pda_nil)))) (pdw_or1 (pdt_not (pdt_tru (pd_call G_is_int (hr.mono (by omega)) (by rfl) T.dis_int.g T.dis_int.F.kp T.dis_int.b (fun σ => L2N.passAt tk σ) (pda_cons (pd_ix ix_seq ol_ix (pd_var (pv 0)) pd_int (fun _ _ => rfl)) pda_nil)))))))))
        (pds_one (pds_ret pd_bl))
        pds_nil)
      (pds_one (pds_ret (pd_and (pd_cmp op_ge ol_ge (pd_ix ix_seq ol_ix (pd_var (pv 0)) pd_int (fun _ _ => rfl)) pd_int (nomark _)) (pd_one (pd_cmp (oo_eq hr.units) ol_eq (pd_call G_low (hr.mono (by omega)) (by rfl) T.dlow.g T.dlow.F.kp T.dlow.b (fun σ => L2N.passAt tk σ) (pda_cons (pd_ix ix_seq ol_ix (pd_var (pv 0)) pd_int (fun _ _ => rfl)) (pda_cons (pd_ix ix_seq ol_ix (pd_var (pv 0)) pd_int (fun _ _ => rfl)) pda_nil))) (pd_var (pv 0)) (nomark _))))))), fun ds Q E hl h => ?_⟩
  obtain ⟨q, rfl, hz, h⟩ := h
  have d0 := q.den_pos
  have db : ((q.den : Int)) ≠ 0 := by omega
  have e : lowD (q.num, (q.den : Int)) = rq q := by rw [low_div_rq db, Rat.num_divInt_den]
  simp only [rq, ratD]
  walk_at "wk"
  rw [if_neg (by simp)]
  refine ⟨_, rfl, ?_⟩
  walk_at "wk"
  refine ⟨_, rfl, ?_⟩
  walk_at "wk"
  rw [decide_eq_true (by omega)]
  walk_at "wk"
  refine ⟨by rw [Int.natAbs_natCast]; exact hz, ?_⟩
  rw [if_neg db, e]
  show ddEq false (rq q) (rq q) Q
  rw [ddEq_rq]
  simpa using h
theorem ok_lpnt (T : Txt K mg) : FnOk P w K mg base (L2N.CX P w) 3 T.dlis_point.f T.dlis_point.fd P_lis_point (spD K 1 m_lpnt) := by
  have G_lis_ratio : FnOk P w K mg base (L2N.CX P w) 2 T.dlis_ratio.f T.dlis_ratio.fd P_lis_ratio (spD K 1 m_lrat) := ok_lrat T
  refine T.dlis_point.okD sc_lis_point fun cdv A outer s H E so A0 hr tk hp => ⟨_, (pds_one (pds_ret (pd_and (pd_isi (by rfl) T.m_isinstance (pd_var (pv 0)) (pe_bltn (v := .ty "tuple") (by rfl) T.m_tuple bt_tuple rfl) tq_tuple) (pd_and (pd_cmp (oo_eq hr.units) ol_eq (pd_callB oo_len cl_len (by rfl) T.m_len bt_len (pda_cons (pd_var (pv 0)) pda_nil)) pd_int (nomark _)) (pd_and (pd_call G_lis_ratio (hr.mono (by omega)) (by rfl) T.dlis_ratio.g T.dlis_ratio.F.kp T.dlis_ratio.b (fun σ => L2N.passAt tk σ) (pda_cons (pd_ix ix_seq ol_ix (pd_var (pv 0)) pd_int (fun _ _ => rfl)) pda_nil)) (pd_one (pd_call G_lis_ratio (hr.mono (by omega)) (by rfl) T.dlis_ratio.g T.dlis_ratio.F.kp T.dlis_ratio.b (fun σ => L2N.passAt tk σ) (pda_cons (pd_ix ix_seq ol_ix (pd_var (pv 0)) pd_int (fun _ _ => rfl)) pda_nil)))))))), fun ds Q E hl h => ?_⟩
  obtain ⟨a, b, rfl, ⟨ha, hb⟩, h⟩ := h
  simp only [pt]
  walk_at "wk"
  exact ⟨a, rfl, ha, b, rfl, hb, h⟩
theorem ok_word (T : Txt K mg) : FnOk P w K mg base (L2N.CX P w) 1 T.dis_word.f T.dis_word.fd P_is_word (spD K 3 m_word) := by
  refine T.dis_word.okD sc_is_word fun cdv A outer s H E so A0 hr tk hp => ⟨_, (pds_one (pds_ret (pd_and (pd_isi (by rfl) T.m_isinstance (pd_var (pv 0)) (pe_bltn (v := .ty "tuple") (by rfl) T.m_tuple bt_tuple rfl) tq_tuple) (pd_and (pd_cmp (oo_eq hr.units) ol_eq (pd_callB oo_len cl_len (by rfl) T.m_len bt_len (pda_cons (pd_var (pv 0)) pda_nil)) (pd_var (pv 2)) (nomark _)) (pd_and (pd_isi (by rfl) T.m_isinstance (pd_ix ix_seq ol_ix (pd_var (pv 0)) pd_int (fun _ _ => rfl)) (pe_bltn (v := .ty "str") (by rfl) T.m_str bt_str rfl) tq_str) (pd_one (pd_cmp (oo_eq hr.units) ol_eq (pd_ix ix_seq ol_ix (pd_var (pv 0)) pd_int (fun _ _ => rfl)) (pd_var (pv 1)) (nomark _)))))))), fun ds Q E hl h => ?_⟩
  obtain ⟨z, l, word, many, rfl, h⟩ := h
  walk_at "wk"
  have e : decide (((l.length + 1 : Nat) : Int) = many) = decide ((l.length : Int) + 1 = many) := by
    refine decide_eq_decide.mpr ?_
    omega
  rw [e]
  cases c : decide ((l.length : Int) + 1 = many) with
  | true =>
    rw [c] at h
    walk_at "wk"
    exact h
  | false =>
    rw [c] at h
    walk_at "wk"
    exact h
theorem ok_on_line (T : Txt K mg) : FnOk P w K mg base (L2N.CX P w) 4 T.don_line.f T.don_line.fd P_on_line (spD K 3 m_on_line) := by
  have G_psub : FnOk P w K mg base (L2N.CX P w) 3 T.dpsub.f T.dpsub.fd P_psub (spD K 2 (m_p2 fun p q => p - q)) := ok_psub T
  have G_pcross : FnOk P w K mg base (L2N.CX P w) 3 T.dpcross.f T.dpcross.fd P_pcross (spD K 2 m_pcross) := ok_pcross T
  refine T.don_line.okD sc_on_line fun cdv A outer s H E so A0 hr tk hp => ⟨_, (pds_one (pds_ret (pd_cmp (oo_eq hr.units) ol_eq (pd_ix ix_seq ol_ix (pd_call G_pcross (hr.mono (by omega)) (by rfl) T.dpcross.g T.dpcross.F.kp T.dpcross.b (fun σ => L2N.passAt tk σ) (pda_cons (pd_call G_psub (hr.mono (by omega)) (by rfl) T.dpsub.g T.dpsub.F.kp T.dpsub.b (fun σ => L2N.passAt tk σ) (pda_cons (pd_var (pv 2)) (pda_cons (pd_var (pv 0)) pda_nil))) (pda_cons (pd_var (pv 1)) pda_nil))) pd_int (fun _ _ => rfl)) pd_int (nomark _)))), fun ds Q E hl h => ?_⟩
  obtain ⟨px, py, dx, dy, a, b, rfl, ⟨s1, s2, s3, s4⟩, ⟨s5, s6⟩, h⟩ := h
  walk_at "wk"
  have u1 := s5.sub s1
  have u2 := s6.sub s2
  have m1 := u1.mul s4
  have m2 := u2.mul s3
  refine ⟨_, _, _, _, rfl, s5.ok s1 (by decide), s6.ok s2 (by decide), _, _, _, _, rfl, u1.ok s4 (by decide), u2.ok s3 (by decide), m1.ok m2 (by decide), ?_⟩
  simp only [ix0]
  walk_at "wk"
  simp only [num_zero]
  exact h
end
end My
set_option exponentiation.threshold 100000
namespace My
open PySem PySem.Spec PyProof.Rows L2
local macro_rules | `(tactic| walk_at "dl") => `(tactic| simp only [startD, List.map_cons, List.map_nil, List.length_cons, List.length_nil, List.cons_append, List.nil_append, List.replicate_succ, List.replicate_zero, List.getElem?_cons_zero, List.getElem?_cons_succ, List.set_cons_zero, List.set_cons_succ,
  dVar, rdS, dC, dNew, dOp, onB, qB, dChain, qAnd, qOr, qNot, qTru, truD, dIf, dAnd, dOr, dNot, dUn, ddNeg, lNil, lCons, dTup, nLst, ddI, ddI0, ddAdd, isNonD, isBlD, ddIsN, ddIsB, ddIx_t0, ddIx_t1, ddIx_t2, ddIx_t3, ddIx_l0, ddIx_l1, ddIx_l2, dCB, ddLen, ddInt1, ddAbs, ddMM, ddTuple, nCB, nnList, ddIsi, dCall,
  sSkip, sSeq, sBreak, sCont, sExpr, sRet, sRetN, sIf, sNever, gdName, gdNil, gdCons, gdTup, sAsg, sSetN, sPar, sRaise, sFrz, owS, sApp, sIns, dLenO, dIxO, sTry, sFor, iL, iT, onL, onT, iR1, iR2, nComp, qYes,
  ddEq_ii, ddEq_ss, ddEq_bb, Bool.false_bne, Bool.true_bne, List.append_nil, true_and, and_true, if_true, if_false, Bool.not_true, Bool.not_false, Bool.true_eq_false, Bool.false_eq_true, ite_true, ite_false, id_eq])

local macro_rules | `(tactic| walk_at "is") => `(tactic| simp only [plain_non, isIn_non_int, isIn_non_str, isIn_non_bool, isIn_non_list, isIn_non_tuple, isIn_non_dict, plain_bl, isIn_bl_int, isIn_bl_str, isIn_bl_bool, isIn_bl_list, isIn_bl_tuple, isIn_bl_dict, plain_int, isIn_int_int, isIn_int_str, isIn_int_bool, isIn_int_list, isIn_int_tuple, isIn_int_dict, plain_str, isIn_str_int, isIn_str_str, isIn_str_bool, isIn_str_list, isIn_str_tuple, isIn_str_dict, plain_tup, isIn_tup_int, isIn_tup_str, isIn_tup_bool, isIn_tup_list, isIn_tup_tuple, isIn_tup_dict, plain_lst, isIn_lst_int, isIn_lst_str, isIn_lst_bool, isIn_lst_list, isIn_lst_tuple, isIn_lst_dict, sl0, sl1, sl2, sl3, sl4, decide_true, decide_false, ddIsi, ddIsi2, true_and, if_true, if_false, Bool.false_eq_true, Bool.not_true, Bool.not_false, Bool.or_true, Bool.or_false, Bool.true_or, and_true])
local macro_rules | `(tactic| walk_at "wk") => `(tactic| ((try walk_at "dl"); (try walk_at "is"); (try walk_at "dl")))

/-! ### what meet_line tells is right -/
def Wi (i : Int) (σ : Rat) : Prop := (i = 1 ∧ σ = 1) ∨ (i = -1 ∧ σ = -1)
theorem Wi.wy {i : Int} {σ : Rat} (h : Wi i σ) : Wy (.int i) σ := by
  rcases h with ⟨rfl, rfl⟩ | ⟨rfl, rfl⟩
  · exact .inl ⟨rfl, rfl⟩
  · exact .inr ⟨rfl, rfl⟩
theorem Wi.q {i : Int} {σ : Rat} (h : Wi i σ) : σ = (i : Rat) := by
  rcases h with ⟨rfl, rfl⟩ | ⟨rfl, rfl⟩ <;> rfl
def m_right : DF := fun ds Q _ => ∃ px py dx dy cx cy S σ i, ds = [pt px py, pt dx dy, pt cx cy, rq S, .int i, lineD px py dx dy cx cy S σ] ∧ (LnSz px py dx dy cx cy S ∧ 0 < S) ∧ Wi i σ ∧ Q (.bl true)
theorem sgn_mul_ge {n i : Int} {q σ : Rat} (hn : n = q.num) (w : Wi i σ) (h : 0 ≤ q * σ) : 0 ≤ n * i := by
  subst hn
  rcases w with ⟨rfl, rfl⟩ | ⟨rfl, rfl⟩
  · rw [Int.mul_one]
    exact Rat.num_nonneg.mpr (by grind)
  · have : 0 ≤ (-q).num := Rat.num_nonneg.mpr (by grind)
    rw [Rat.neg_num] at this
    omega
abbrev s_right : Stmt := topS 93
abbrev N_right : List Str := ["base", "along", "middle", "by", "way", "told", "gap", "arm", "foot"]
abbrev P_right : List Str := ["base", "along", "middle", "by", "way", "told"]
theorem sc_right : FnScope N_right P_right (defScope s_right) := ⟨rfl, rfl, rfl, by decide +kernel, rfl, by decide +kernel, by decide +kernel⟩

section
variable {P : Program} {w : World} {K : PySem.W.Frag} {mg : Str → Option Value} {base : Heap}
theorem ok_right (T : Txt K mg) : FnOk P w K mg base (L2N.CX P w) 6 T.dright.f T.dright.fd P_right (spD K 6 m_right) := by
  have G_gap : FnOk P w K mg base (L2N.CX P w) 5 T.dgap.f T.dgap.fd P_gap (spD K 3 m_gap) := ok_gap T
  have G_cmp : FnOk P w K mg base (L2N.CX P w) 2 T.dcmp.f T.dcmp.fd P_cmp (spD K 2 m_cmp2) := ok_cmp T
  have G_like : FnOk P w K mg base (L2N.CX P w) 4 T.dlike.f T.dlike.fd P_like (spD K 2 (m_like 4)) := ok_like T 4
  have G_is_word : FnOk P w K mg base (L2N.CX P w) 1 T.dis_word.f T.dis_word.fd P_is_word (spD K 3 m_word) := ok_word T
  have G_lis_ratio : FnOk P w K mg base (L2N.CX P w) 2 T.dlis_ratio.f T.dlis_ratio.fd P_lis_ratio (spD K 1 m_lrat) := ok_lrat T
  have G_lis_point : FnOk P w K mg base (L2N.CX P w) 3 T.dlis_point.f T.dlis_point.fd P_lis_point (spD K 1 m_lpnt) := ok_lpnt T
  have G_on_line : FnOk P w K mg base (L2N.CX P w) 4 T.don_line.f T.don_line.fd P_on_line (spD K 3 m_on_line) := ok_on_line T
  have G_psub : FnOk P w K mg base (L2N.CX P w) 3 T.dpsub.f T.dpsub.fd P_psub (spD K 2 (m_p2 fun p q => p - q)) := ok_psub T
  have G_psq : FnOk P w K mg base (L2N.CX P w) 4 T.dpsq.f T.dpsq.fd P_psq (spD K 1 m_psq) := ok_psq T
  have G_pdot : FnOk P w K mg base (L2N.CX P w) 3 T.dpdot.f T.dpdot.fd P_pdot (spD K 2 m_pdot) := ok_pdot T
  have G_pmul : FnOk P w K mg base (L2N.CX P w) 3 T.dpmul.f T.dpmul.fd P_pmul (spD K 2 m_pmul) := ok_pmul T
  have G_plus : FnOk P w K mg base (L2N.CX P w) 2 T.dplus.f T.dplus.fd P_plus (spD K 2 (m_r2 fun p q => p + q)) := ok_plus T
  have G_times : FnOk P w K mg base (L2N.CX P w) 2 T.dtimes.f T.dtimes.fd P_times (spD K 2 (m_r2 fun p q => p * q)) := ok_times T
  have G_lroot : FnOk P w K mg base (L2N.CX P w) 2 T.dlroot.f T.dlroot.fd P_lroot (spD K 1 m_lroot) := ok_lroot T
  refine T.dright.okD sc_right fun cdv A outer s H E so A0 hr tk hp => ⟨_, (pds_cons (pds_set (i := 6) sc_right.nd rfl (by first | exact .inl rfl | exact .inr rfl) (pd_call G_gap (hr.mono (by omega)) (by rfl) T.dgap.g T.dgap.F.kp T.dgap.b (fun σ => L2N.passAt tk σ) (pda_cons (pd_var (pv 0)) (pda_cons (pd_var (pv 1)) (pda_cons (pd_var (pv 2)) pda_nil)))))
      (pds_cons (pds_if (pdt_cmp op_lt ol_lt (pd_call G_cmp (hr.mono (by omega)) (by rfl) T.dcmp.g T.dcmp.F.kp T.dcmp.b (fun σ => L2N.passAt tk σ) (pda_cons (pd_var (pv 3)) (pda_cons (pd_var (pv 6)) pda_nil))) pd_int (nomark _))
        (pds_one (pds_ret (pd_call G_like (hr.mono (by omega)) (by rfl) T.dlike.g T.dlike.F.kp T.dlike.b (fun σ => L2N.passAt tk σ) (pda_cons (pd_var (pv 5)) (pda_cons (pd_tup (pda_cons pd_str (pda_cons (pd_var (pv 6)) pda_nil))) pda_nil)))))
        pds_nil)
      (pds_cons (pds_if (pdt_tru (pd_call G_is_word (hr.mono (by omega)) (by rfl) T.dis_word.g T.dis_word.F.kp T.dis_word.b (fun σ => L2N.passAt tk σ) (pda_cons (pd_var (pv 5)) (pda_cons pd_str (pda_cons pd_int pda_nil)))))
        (pds_cons (pds_if (PDW.t (pdw_or (pdt_not (pdt_tru (pd_call G_lis_point (hr.mono (by omega)) (by rfl) T.dlis_point.g T.dlis_point.F.kp T.dlis_point.b (fun σ => L2N.passAt tk σ) (pda_cons (pd_ix ix_seq ol_ix (pd_var (pv 5)) pd_int (fun _ _ => rfl)) pda_nil)))) (pdw_or1 (pdt_not (pdt_tru (pd_call G_on_line (hr.mono (by omega)) (by rfl) T.don_line.g T.don_line.F.kp T.don_line.b (fun σ => L2N.passAt tk σ) (pda_cons (pd_var (pv 0)) (pda_cons (pd_var (pv 1)) (pda_cons (pd_ix ix_seq ol_ix (pd_var (pv 5)) pd_int (fun _ _ => rfl)) pda_nil)))))))))
          (pds_one (pds_ret pd_bl))
          pds_nil)
        (pds_cons (pds_set (i := 7) sc_right.nd rfl (by first | exact .inl rfl | exact .inr rfl) (pd_call G_psub (hr.mono (by omega)) (by rfl) T.dpsub.g T.dpsub.F.kp T.dpsub.b (fun σ => L2N.passAt tk σ) (pda_cons (pd_ix ix_seq ol_ix (pd_var (pv 5)) pd_int (fun _ _ => rfl)) (pda_cons (pd_var (pv 2)) pda_nil))))
        (pds_one (pds_ret (pd_and (pd_cmp (oo_eq hr.units) ol_eq (pd_call G_psq (hr.mono (by omega)) (by rfl) T.dpsq.g T.dpsq.F.kp T.dpsq.b (fun σ => L2N.passAt tk σ) (pda_cons (pd_var (pv 7)) pda_nil)) (pd_var (pv 3)) (nomark _)) (pd_one (pd_cmp op_ge ol_ge (pd_op op_mulW ol_mul (pd_ix ix_seq ol_ix (pd_call G_pdot (hr.mono (by omega)) (by rfl) T.dpdot.g T.dpdot.F.kp T.dpdot.b (fun σ => L2N.passAt tk σ) (pda_cons (pd_var (pv 7)) (pda_cons (pd_var (pv 1)) pda_nil))) pd_int (fun _ _ => rfl)) (pd_var (pv 4))) pd_int (nomark _))))))))
        pds_nil)
      (pds_cons (pds_if (PDW.t (pdw_or (pdt_not (pdt_tru (pd_call G_is_word (hr.mono (by omega)) (by rfl) T.dis_word.g T.dis_word.F.kp T.dis_word.b (fun σ => L2N.passAt tk σ) (pda_cons (pd_var (pv 5)) (pda_cons pd_str (pda_cons pd_int pda_nil)))))) (pdw_or (pdt_not (pdt_tru (pd_call G_lis_point (hr.mono (by omega)) (by rfl) T.dlis_point.g T.dlis_point.F.kp T.dlis_point.b (fun σ => L2N.passAt tk σ) (pda_cons (pd_ix ix_seq ol_ix (pd_var (pv 5)) pd_int (fun _ _ => rfl)) pda_nil)))) (pdw_or1 (pdt_not (pdt_tru (pd_call G_lis_point (hr.mono (by omega)) (by rfl) T.dlis_point.g T.dlis_point.F.kp T.dlis_point.b (fun σ => L2N.passAt tk σ) (pda_cons (pd_ix ix_seq ol_ix (pd_var (pv 5)) pd_int (fun _ _ => rfl)) pda_nil))))))))
        (pds_one (pds_ret pd_bl))
        pds_nil)
      (pds_cons (pds_if (PDW.t (pdw_or (pdt_not (pdt_tru (pd_call G_lis_ratio (hr.mono (by omega)) (by rfl) T.dlis_ratio.g T.dlis_ratio.F.kp T.dlis_ratio.b (fun σ => L2N.passAt tk σ) (pda_cons (pd_ix ix_seq ol_ix (pd_var (pv 5)) pd_int (fun _ _ => rfl)) pda_nil)))) (pdw_or1 (pdt_not (pdt_tru (pd_call G_on_line (hr.mono (by omega)) (by rfl) T.don_line.g T.don_line.F.kp T.don_line.b (fun σ => L2N.passAt tk σ) (pda_cons (pd_var (pv 0)) (pda_cons (pd_var (pv 1)) (pda_cons (pd_ix ix_seq ol_ix (pd_var (pv 5)) pd_int (fun _ _ => rfl)) pda_nil)))))))))
        (pds_one (pds_ret pd_bl))
        pds_nil)
      (pds_cons (pds_set (i := 8) sc_right.nd rfl (by first | exact .inl rfl | exact .inr rfl) (pd_call G_psub (hr.mono (by omega)) (by rfl) T.dpsub.g T.dpsub.F.kp T.dpsub.b (fun σ => L2N.passAt tk σ) (pda_cons (pd_ix ix_seq ol_ix (pd_var (pv 5)) pd_int (fun _ _ => rfl)) (pda_cons (pd_var (pv 2)) pda_nil))))
      (pds_cons (pds_if (PDW.t (pdw_or (pdt_cmp (oo_ne hr.units) ol_ne (pd_ix ix_seq ol_ix (pd_call G_pdot (hr.mono (by omega)) (by rfl) T.dpdot.g T.dpdot.F.kp T.dpdot.b (fun σ => L2N.passAt tk σ) (pda_cons (pd_var (pv 8)) (pda_cons (pd_var (pv 1)) pda_nil))) pd_int (fun _ _ => rfl)) pd_int (nomark _)) (pdw_or1 (pdt_cmp (oo_ne hr.units) ol_ne (pd_ix ix_seq ol_ix (pd_var (pv 5)) pd_int (fun _ _ => rfl)) (pd_call G_pmul (hr.mono (by omega)) (by rfl) T.dpmul.g T.dpmul.F.kp T.dpmul.b (fun σ => L2N.passAt tk σ) (pda_cons (pd_tup (pda_cons (pd_var (pv 4)) (pda_cons pd_int pda_nil))) (pda_cons (pd_var (pv 1)) pda_nil))) (nomark _)))))
        (pds_one (pds_ret pd_bl))
        pds_nil)
      (pds_one (pds_ret (pd_and (pd_cmp (oo_eq hr.units) ol_eq (pd_call G_plus (hr.mono (by omega)) (by rfl) T.dplus.g T.dplus.F.kp T.dplus.b (fun σ => L2N.passAt tk σ) (pda_cons (pd_call G_psq (hr.mono (by omega)) (by rfl) T.dpsq.g T.dpsq.F.kp T.dpsq.b (fun σ => L2N.passAt tk σ) (pda_cons (pd_var (pv 8)) pda_nil)) (pda_cons (pd_call G_times (hr.mono (by omega)) (by rfl) T.dtimes.g T.dtimes.F.kp T.dtimes.b (fun σ => L2N.passAt tk σ) (pda_cons (pd_ix ix_seq ol_ix (pd_var (pv 5)) pd_int (fun _ _ => rfl)) (pda_cons (pd_call G_psq (hr.mono (by omega)) (by rfl) T.dpsq.g T.dpsq.F.kp T.dpsq.b (fun σ => L2N.passAt tk σ) (pda_cons (pd_var (pv 1)) pda_nil)) pda_nil))) pda_nil))) (pd_var (pv 3)) (nomark _)) (pd_one (pd_cmp o_isN ol_isN (pd_call G_lroot (hr.mono (by omega)) (by rfl) T.dlroot.g T.dlroot.F.kp T.dlroot.b (fun σ => L2N.passAt tk σ) (pda_cons (pd_ix ix_seq ol_ix (pd_var (pv 5)) pd_int (fun _ _ => rfl)) pda_nil)) pd_non (nomark _))))))))))))), fun ds Q E hl h => ?_⟩
  obtain ⟨px, py, dx, dy, cx, cy, S, σ, i, rfl, ⟨hz, S0⟩, wi, h⟩ := h
  have wy := wi.wy
  have L0 := len_ne hz.l.n
  generalize hm : lineD px py dx dy cx cy S σ = m at *
  show sSeq _ _ _ [.fr (pt px py), .fr (pt dx dy), .fr (pt cx cy), .fr (rq S), .fr (.int i), .fr m, .no, .no, .no]
  refine seq_mid (P := fun ρ => ρ = [.fr (pt px py), .fr (pt dx dy), .fr (pt cx cy), .fr (rq S), .fr (.int i), .fr m, .fr (rq (gapQ px py dx dy cx cy)), .no, .no]) (fun R hR => ?_) ?_
  · exact ⟨rfl, px, py, dx, dy, cx, cy, rfl, hz.l, hR _ rfl⟩
  rintro _ rfl
  by_cases c : heiL px py dx dy cx cy S < 0
  · refine seq_mid (P := fun ρ => False) (fun R hR => ?_) (fun _ h => h.elim)
    walk_at "wk"
    refine ⟨S, _, rfl, hz.s.ok hz.l.gap (by decide), ?_⟩
    walk_at "wk"
    rw [if_pos (by rw [decide_eq_true_iff, sg_lt, hei_neg hz.l.n]; exact c)]
    unfold lineD at hm
    rw [if_pos c, nea_gap L0] at hm
    subst hm
    exact ⟨_, rfl, by simp [TreeD, rq, ratD], h⟩
  refine seq_mid (P := fun ρ => ρ = [.fr (pt px py), .fr (pt dx dy), .fr (pt cx cy), .fr (rq S), .fr (.int i), .fr m, .fr (rq (gapQ px py dx dy cx cy)), .no, .no]) (fun R hR => ?_) ?_
  · walk_at "wk"
    refine ⟨S, _, rfl, hz.s.ok hz.l.gap (by decide), ?_⟩
    walk_at "wk"
    rw [if_neg (by rw [decide_eq_true_iff, sg_lt, hei_neg hz.l.n]; exact c)]
    exact hR _ rfl
  rintro _ rfl
  obtain ⟨a, b, e1, e2, u, sp, ss, so⟩ := line_spot hz wy c hm
  have g1 := ss.a.sub hz.l.c1
  have g2 := ss.b.sub hz.l.c2
  have q1 := g1.mul g1
  have q2 := g2.mul g2
  have m1 := g1.mul hz.l.d1
  have m2 := g2.mul hz.l.d2
  have lg : a.den.log2 < 9000 ∧ b.den.log2 < 9000 := ⟨ss.a.lg (by decide), ss.b.lg (by decide)⟩
  rcases sp with ⟨rfl, rfl, rfl, rfl⟩ | ⟨rfl, u0⟩
  · refine seq_mid (P := fun ρ => False) (fun R hR => ?_) (fun _ h => h.elim)
    obtain ⟨r, r0, _, ar, _⟩ : ∃ r, 0 ≤ r ∧ (r = 0 ↔ heiL px py dx dy cx cy S = 0) ∧ (a - cx) * dx + (b - cy) * dy = σ * r * lenQ dx dy ∧ (0 : Rat) = 0 := by
      rcases so.arm with ⟨r, k0, k1, k2, _⟩ | ⟨_, _, _, _, k⟩
      · exact ⟨r, k0, k1, k2, rfl⟩
      · exact absurd k Rat.lt_irrefl
    have far : (a - cx) * (a - cx) + (b - cy) * (b - cy) = S := by
      have := so.far
      grind
    walk_at "wk"
    refine ⟨_, _, _, _, rfl, ?_⟩
    rw [decide_eq_true (by rfl), decide_eq_true rfl]
    walk_at "wk"
    refine ⟨a, b, rfl, lg, ?_⟩
    walk_at "wk"
    refine ⟨px, py, dx, dy, a, b, rfl, ⟨hz.l.p1, hz.l.p2, hz.l.d1, hz.l.d2⟩, ⟨ss.a, ss.b⟩, ?_⟩
    rw [decide_eq_true so.on]
    walk_at "wk"
    refine ⟨_, _, _, _, rfl, ss.a.ok hz.l.c1 (by decide), ss.b.ok hz.l.c2 (by decide), _, _, rfl, g1.ok g1 (by decide), g2.ok g2 (by decide), q1.ok q2 (by decide), ?_⟩
    dsimp only
    rw [far, ddEq_rq, decide_eq_true rfl]
    walk_at "wk"
    refine ⟨_, _, _, _, rfl, g1.ok hz.l.d1 (by decide), g2.ok hz.l.d2 (by decide), m1.ok m2 (by decide), ?_⟩
    simp only [ix0]
    walk_at "wk"
    have bi : Bi 10 i := by rcases wi with ⟨rfl, _⟩ | ⟨rfl, _⟩ <;> (show _ < _; decide)
    refine ⟨((m1.add m2).sm (by decide)).n.cm bi (by decide) (by decide) (by decide), ?_⟩
    have ge := sgn_mul_ge (q := (a - cx) * dx + (b - cy) * dy) rfl wi (by
      rw [ar]
      have e : σ * r * lenQ dx dy * σ = r * lenQ dx dy := by
        rcases wi with ⟨_, rfl⟩ | ⟨_, rfl⟩ <;> grind
      rw [e]
      exact Rat.mul_nonneg r0 (Rat.le_of_lt (len_pos hz.l.n)))
    rw [decide_eq_true ge]
    exact h
  · have k := hm
    unfold lineD at k
    rw [if_neg c] at k
    unfold spotD at k
    have rn : rootR u = none := by
      cases hr : rootR (heiL px py dx dy cx cy S) with
      | some r =>
        rw [hr] at k
        injection k with k
        injection k with k _
        injection k with k
        exact absurd k (by decide +kernel)
      | none =>
        rw [hr] at k
        injection k with k
        injection k with _ k
        injection k with _ k
        injection k with _ k
        injection k with k _
        rw [← rq_inj k]
        exact hr
    obtain ⟨dt, ce, ee, ue, up⟩ : (a - cx) * dx + (b - cy) * dy = 0 ∧ e1 = dx * σ ∧ e2 = dy * σ ∧ u = heiL px py dx dy cx cy S ∧ 0 < u := by
      rcases so.arm with ⟨_, _, _, _, _, _, k⟩ | k
      · rw [k] at rn
        have := rootR_is (p := 0) (r := 0) Rat.le_refl (by grind)
        rw [rn] at this
        cases this
      · exact k
    have far := so.far
    have ss2 : σ * σ = 1 := by rcases wi with ⟨_, rfl⟩ | ⟨_, rfl⟩ <;> decide +kernel
    have far : (a - cx) * (a - cx) + (b - cy) * (b - cy) + u * lenQ dx dy = S := by
      rw [ce, ee] at far
      unfold lenQ
      grind
    have su := ss.u
    have ul := su.mul hz.l.len
    have sw := wy.sz
    refine seq_mid (P := fun ρ => ρ = [.fr (pt px py), .fr (pt dx dy), .fr (pt cx cy), .fr (rq S), .fr (.int i), .fr (.tup [.str "root", pt a b, pt e1 e2, rq u]), .fr (rq (gapQ px py dx dy cx cy)), .no, .no]) (fun R hR => ?_) ?_
    · walk_at "wk"
      refine ⟨_, _, _, _, rfl, ?_⟩
      rw [decide_eq_false (by simp)]
      walk_at "wk"
      exact hR _ rfl
    rintro _ rfl
    refine seq_mid (P := fun ρ => ρ = [.fr (pt px py), .fr (pt dx dy), .fr (pt cx cy), .fr (rq S), .fr (.int i), .fr (.tup [.str "root", pt a b, pt e1 e2, rq u]), .fr (rq (gapQ px py dx dy cx cy)), .no, .no]) (fun R hR => ?_) ?_
    · walk_at "wk"
      refine ⟨_, _, _, _, rfl, ?_⟩
      rw [decide_eq_true (by rfl), decide_eq_true rfl]
      walk_at "wk"
      refine ⟨a, b, rfl, lg, ?_⟩
      walk_at "wk"
      refine ⟨e1, e2, rfl, ⟨ss.c.lg (by decide), ss.e.lg (by decide)⟩, ?_⟩
      walk_at "wk"
      exact hR _ rfl
    rintro _ rfl
    refine seq_mid (P := fun ρ => ρ = [.fr (pt px py), .fr (pt dx dy), .fr (pt cx cy), .fr (rq S), .fr (.int i), .fr (.tup [.str "root", pt a b, pt e1 e2, rq u]), .fr (rq (gapQ px py dx dy cx cy)), .no, .no]) (fun R hR => ?_) ?_
    · walk_at "wk"
      refine ⟨u, rfl, su.lg (by decide), ?_⟩
      walk_at "wk"
      refine ⟨px, py, dx, dy, a, b, rfl, ⟨hz.l.p1, hz.l.p2, hz.l.d1, hz.l.d2⟩, ⟨ss.a, ss.b⟩, ?_⟩
      rw [decide_eq_true so.on]
      walk_at "wk"
      exact hR _ rfl
    rintro _ rfl
    refine seq_mid (P := fun ρ => ρ = [.fr (pt px py), .fr (pt dx dy), .fr (pt cx cy), .fr (rq S), .fr (.int i), .fr (.tup [.str "root", pt a b, pt e1 e2, rq u]), .fr (rq (gapQ px py dx dy cx cy)), .no, .fr (pt (a - cx) (b - cy))]) (fun R hR => ?_) ?_
    · walk_at "wk"
      exact ⟨_, _, _, _, rfl, ss.a.ok hz.l.c1 (by decide), ss.b.ok hz.l.c2 (by decide), hR _ rfl⟩
    rintro _ rfl
    refine seq_mid (P := fun ρ => ρ = [.fr (pt px py), .fr (pt dx dy), .fr (pt cx cy), .fr (rq S), .fr (.int i), .fr (.tup [.str "root", pt a b, pt e1 e2, rq u]), .fr (rq (gapQ px py dx dy cx cy)), .no, .fr (pt (a - cx) (b - cy))]) (fun R hR => ?_) ?_
    · walk_at "wk"
      refine ⟨_, _, _, _, rfl, g1.ok hz.l.d1 (by decide), g2.ok hz.l.d2 (by decide), m1.ok m2 (by decide), ?_⟩
      simp only [ix0]
      walk_at "wk"
      rw [dt]
      simp only [num_zero]
      walk_at "wk"
      have ei : D.tup [.int i, .int 1] = rq σ := wy.d
      rw [ei]
      refine ⟨σ, _, _, rfl, sw.ok hz.l.d1 (by decide), sw.ok hz.l.d2 (by decide), ?_⟩
      dsimp only
      rw [ddEq_pt, decide_eq_true (by rw [ce]; grind), decide_eq_true (by rw [ee]; grind)]
      walk_at "wk"
      exact hR _ rfl
    rintro _ rfl
    walk_at "wk"
    refine ⟨_, _, rfl, g1.ok g1 (by decide), g2.ok g2 (by decide), q1.ok q2 (by decide), _, _, rfl, hz.l.d1.ok hz.l.d1 (by decide), hz.l.d2.ok hz.l.d2 (by decide), (hz.l.d1.mul hz.l.d1).ok (hz.l.d2.mul hz.l.d2) (by decide), u, _, rfl, su.ok hz.l.len (by decide), _, _, rfl, (q1.add q2).ok ul (by decide), ?_⟩
    have e3 : (a - cx) * (a - cx) + (b - cy) * (b - cy) + u * (dx * dx + dy * dy) = S := far
    dsimp only
    rw [e3, ddEq_rq, decide_eq_true rfl]
    walk_at "wk"
    refine ⟨u, rfl, su.up (by decide) (by decide), ?_⟩
    rw [rn]
    simp only [onR]
    walk_at "wk"
    exact h
end
end My
set_option exponentiation.threshold 100000
namespace My
open PySem PySem.Spec PyProof.Rows L2
local macro_rules | `(tactic| walk_at "dl") => `(tactic| simp only [startD, List.map_cons, List.map_nil, List.length_cons, List.length_nil, List.cons_append, List.nil_append, List.replicate_succ, List.replicate_zero, List.getElem?_cons_zero, List.getElem?_cons_succ, List.set_cons_zero, List.set_cons_succ,
  dVar, rdS, dC, dNew, dOp, onB, qB, dChain, qAnd, qOr, qNot, qTru, truD, dIf, dAnd, dOr, dNot, dUn, ddNeg, lNil, lCons, dTup, nLst, ddI, ddI0, ddAdd, isNonD, isBlD, ddIsN, ddIsB, ddIx_t0, ddIx_t1, ddIx_t2, ddIx_t3, ddIx_l0, ddIx_l1, ddIx_l2, dCB, ddLen, ddInt1, ddAbs, ddMM, ddTuple, nCB, nnList, ddIsi, dCall,
  sSkip, sSeq, sBreak, sCont, sExpr, sRet, sRetN, sIf, sNever, gdName, gdNil, gdCons, gdTup, sAsg, sSetN, sPar, sRaise, sFrz, owS, sApp, sIns, dLenO, dIxO, sTry, sFor, iL, iT, onL, onT, iR1, iR2, nComp, qYes,
  ddEq_ii, ddEq_ss, ddEq_bb, Bool.false_bne, Bool.true_bne, List.append_nil, true_and, and_true, if_true, if_false, Bool.not_true, Bool.not_false, Bool.true_eq_false, Bool.false_eq_true, ite_true, ite_false, id_eq])

local macro_rules | `(tactic| walk_at "is") => `(tactic| simp only [plain_non, isIn_non_int, isIn_non_str, isIn_non_bool, isIn_non_list, isIn_non_tuple, isIn_non_dict, plain_bl, isIn_bl_int, isIn_bl_str, isIn_bl_bool, isIn_bl_list, isIn_bl_tuple, isIn_bl_dict, plain_int, isIn_int_int, isIn_int_str, isIn_int_bool, isIn_int_list, isIn_int_tuple, isIn_int_dict, plain_str, isIn_str_int, isIn_str_str, isIn_str_bool, isIn_str_list, isIn_str_tuple, isIn_str_dict, plain_tup, isIn_tup_int, isIn_tup_str, isIn_tup_bool, isIn_tup_list, isIn_tup_tuple, isIn_tup_dict, plain_lst, isIn_lst_int, isIn_lst_str, isIn_lst_bool, isIn_lst_list, isIn_lst_tuple, isIn_lst_dict, sl0, sl1, sl2, sl3, sl4, decide_true, decide_false, ddIsi, ddIsi2, true_and, if_true, if_false, Bool.false_eq_true, Bool.not_true, Bool.not_false, Bool.or_true, Bool.or_false, Bool.true_or, and_true])
local macro_rules | `(tactic| walk_at "wk") => `(tactic| ((try walk_at "dl"); (try walk_at "is"); (try walk_at "dl")))

theorem rsQ_f0 (p u : Rat) : rsQ p 0 u = sg p := by
  unfold rsQ
  rw [Rat.zero_mul]
  by_cases c : sg p = 0
  · rw [if_pos c, c]
    rfl
  · rw [if_neg c, if_pos (.inl sg_zero)]
theorem rsQ_p0 (f u : Rat) : rsQ 0 f u = sg (f * u) := by
  unfold rsQ
  rw [if_pos sg_zero]
theorem due_sg {G v σ : Rat} {i : Int} (hG : 0 < G) (hv : 0 ≤ v) (h : (i = 1 ∧ σ = 1) ∨ (i = -1 ∧ σ = -1)) : sg (G * σ * v) = if v = 0 then 0 else i := by
  by_cases c : v = 0
  · rw [if_pos c, c, Rat.mul_zero]
    rfl
  · rw [if_neg c]
    have vp : 0 < v := by grind
    have gv := Rat.mul_pos hG vp
    rcases h with ⟨rfl, rfl⟩ | ⟨rfl, rfl⟩
    · rw [Rat.mul_one]
      exact sg_pos gv
    · have : G * -1 * v = -(G * v) := by grind
      rw [this, sg_neg', sg_pos gv]
/-! ### the spot on both sides -/
section
variable {px py dx dy cx cy S σ a b c e u : Rat} {i : Int}
theorem Spo.dist (h : Spo px py dx dy cx cy S σ a b c e u) (v : Rat) : rsQ ((a - cx) * (a - cx) + (b - cy) * (b - cy) + (c * c + e * e) * u - v) (2 * ((a - cx) * c + (b - cy) * e)) u = sg (S - v) := by
  have e1 := h.far
  have e2 := h.dot
  have e3 : (a - cx) * (a - cx) + (b - cy) * (b - cy) + (c * c + e * e) * u - v = S - v := by grind
  have e4 : 2 * ((a - cx) * c + (b - cy) * e) = 0 := by rw [e2, Rat.mul_zero]
  rw [e3, e4, rsQ_f0]
theorem Spo.s1 (h : Spo px py dx dy cx cy S σ a b c e u) : rsQ ((px + dx - px) * (b - py) - (py + dy - py) * (a - px)) ((px + dx - px) * e - (py + dy - py) * c) u = 0 := by
  have e1 := h.on
  have e2 := h.lin
  have e3 : (px + dx - px) * (b - py) - (py + dy - py) * (a - px) = 0 := by grind
  have e4 : (px + dx - px) * e - (py + dy - py) * c = 0 := by grind
  rw [e3, e4, rsQ_f0]
  rfl
theorem s2_zero : rsQ ((px - px) * (b - py) - (py - py) * (a - px)) ((px - px) * e - (py - py) * c) u = 0 := by
  have e3 : (px - px) * (b - py) - (py - py) * (a - px) = 0 := by grind
  have e4 : (px - px) * e - (py - py) * c = 0 := by grind
  rw [e3, e4, rsQ_f0]
  rfl
theorem Spo.s34 (h : Spo px py dx dy cx cy S σ a b c e u) (wi : Wi i σ) (nz : ¬ (dx = 0 ∧ dy = 0)) (h0 : ¬ heiL px py dx dy cx cy S < 0) :
    rsQ ((cx + -dy - cx) * (b - cy) - (cy + dx - cy) * (a - cx)) ((cx + -dy - cx) * e - (cy + dx - cy) * c) u = -(if heiL px py dx dy cx cy S = 0 then 0 else i) ∧
    rsQ ((cx - (cx + -dy)) * (b - (cy + dx)) - (cy - (cy + dx)) * (a - (cx + -dy))) ((cx - (cx + -dy)) * e - (cy - (cy + dx)) * c) u = (if heiL px py dx dy cx cy S = 0 then 0 else i) := by
  have Lp := len_pos nz
  have v0 := Rat.not_lt.mp h0
  rcases h.arm with ⟨r, r0, r1, ar, rfl, rfl, rfl⟩ | ⟨ar, rfl, rfl, eu, up⟩
  · have d := due_sg Lp r0 wi
    have e1 : (cx + -dy - cx) * (b - cy) - (cy + dx - cy) * (a - cx) = -(lenQ dx dy * σ * r) := by grind
    have e2 : (cx + -dy - cx) * (0 : Rat) - (cy + dx - cy) * 0 = 0 := by grind
    have e3 : (cx - (cx + -dy)) * (b - (cy + dx)) - (cy - (cy + dx)) * (a - (cx + -dy)) = lenQ dx dy * σ * r := by grind
    have e4 : (cx - (cx + -dy)) * (0 : Rat) - (cy - (cy + dx)) * 0 = 0 := by grind
    rw [e1, e2, e3, e4, rsQ_f0, rsQ_f0, sg_neg', d]
    have k : (r = 0) = (heiL px py dx dy cx cy S = 0) := propext r1
    simp only [k, and_self]
  · have d := due_sg Lp (Rat.le_of_lt up) wi
    have e1 : (cx + -dy - cx) * (b - cy) - (cy + dx - cy) * (a - cx) = 0 := by grind
    have e2 : ((cx + -dy - cx) * (dy * σ) - (cy + dx - cy) * (dx * σ)) * u = -(lenQ dx dy * σ * u) := by unfold lenQ; grind
    have e3 : (cx - (cx + -dy)) * (b - (cy + dx)) - (cy - (cy + dx)) * (a - (cx + -dy)) = 0 := by grind
    have e4 : ((cx - (cx + -dy)) * (dy * σ) - (cy - (cy + dx)) * (dx * σ)) * u = lenQ dx dy * σ * u := by unfold lenQ; grind
    rw [e1, e3, rsQ_p0, rsQ_p0, e2, e4, sg_neg', d, eu]
    exact ⟨rfl, rfl⟩
end
def m_t10 : DF := fun ds Q _ => ∃ p a b, ds = [rq p, ratD a b] ∧ (Sm1 p ∧ Bi 200 a ∧ Bi 200 b ∧ b ≠ 0 ∧ (p.den * b.natAbs).log2 < 9000) ∧ Q (rq (p * Rat.divInt a b))
section
variable {K : PySem.W.Frag} {mg : Str → Option Value} (T : Txt K mg)
theorem ask_side {s : D} {x y z w a b c e u : Rat} {Q : D → Prop} {E : XD → Prop} (hs : Sp s a b c e u) (ss : SpSz a b c e u) (p : PtSz x y) (q : PbSz z w)
    (k : Q (.int (rsQ ((z - x) * (b - y) - (w - y) * (a - x)) ((z - x) * e - (w - y) * c) u))) : m_side_of T [s, pt x y, pt z w] Q E := by
  refine ⟨hs.pl, no_is hs.is, fun _ => ⟨pl2_pt x y, no_is (pt_pt x y), fun _ => ⟨pl2_pt z w, no_is (pt_pt z w), fun x' y' z' w' e1 e2 => ?_⟩⟩⟩
  obtain ⟨rfl, rfl⟩ := pt_inj e1
  obtain ⟨rfl, rfl⟩ := pt_inj e2
  exact ⟨p, q, a, b, c, e, u, hs, ss, k⟩
theorem ask_dist {s : D} {x y v a b c e u : Rat} {Q : D → Prop} {E : XD → Prop} (hs : Sp s a b c e u) (ss : SpSz a b c e u) (p : PtSz x y) (q : Sz 250 250 v) (v0 : 0 < v)
    (k : Q (.int (rsQ ((a - x) * (a - x) + (b - y) * (b - y) + (c * c + e * e) * u - v) (2 * ((a - x) * c + (b - y) * e)) u))) : m_distance_sign T [s, pt x y, rq v] Q E := by
  refine ⟨hs.pl, no_is hs.is, fun _ => ⟨pl2_pt x y, no_is (pt_pt x y), fun _ => ⟨pl_rq v, no_is (pos_rq v0), fun x' y' v' e1 e2 _ => ?_⟩⟩⟩
  obtain ⟨rfl, rfl⟩ := pt_inj e1
  have := rq_inj e2
  subst this
  exact ⟨p, q, a, b, c, e, u, hs, ss, k⟩
end
theorem ix1 (q : Rat) (R : D → Prop) : ddIx (rq q) (.int 1) R = R (.int q.den) := ddIx_t1 _ _ _ _
theorem tree_int (i : Int) : TreeD 1 (.int i) := by simp [TreeD]
theorem ddIx_l3 (a b c d : D) (l : List D) (Q : D → Prop) : ddIx (.lst (a :: b :: c :: d :: l)) (.int 3) Q = Q d := by
  show (∃ e, atI (a :: b :: c :: d :: l) 3 = some e ∧ Q e) = Q d
  rw [atI_3]
  simp
def m_spot_right : DF := fun ds Q _ => ∃ px py dx dy cx cy S σ i told, ds = [.sto, askD px py dx dy cx cy S, .int i, told] ∧ (LnSz px py dx dy cx cy S ∧ 0 < S) ∧ Wi i σ ∧ ¬ heiL px py dx dy cx cy S < 0 ∧ lineD px py dx dy cx cy S σ = told ∧ Q (.bl true)
abbrev s_spot_right : Stmt := topS 94
abbrev N_spot_right : List Str := ["store", "asked", "way", "spot", "base", "along", "middle", "by", "more", "less", "due", "across", "other", "size"]
abbrev P_spot_right : List Str := ["store", "asked", "way", "spot"]
theorem sc_spot_right : FnScope N_spot_right P_spot_right (defScope s_spot_right) := ⟨rfl, rfl, rfl, by decide +kernel, rfl, by decide +kernel, by decide +kernel⟩

section
variable {P : Program} {w : World} {K : PySem.W.Frag} {mg : Str → Option Value} {base : Heap}
theorem ok_t10 (T : Txt K mg) : FnOk P w K mg base (L2N.CX P w) 2 T.dtimes.f T.dtimes.fd P_times (spD K 2 m_t10) := by
  have G_low : FnOk P w K mg base (L2N.CX P w) 1 T.dlow.f T.dlow.fd P_low (spD K 2 m_low) := ok_low T
  refine T.dtimes.okD sc_times fun cdv A outer s H E so A0 hr tk hp => ⟨_, (pds_one (pds_ret (pd_call G_low (hr.mono (by omega)) (by rfl) T.dlow.g T.dlow.F.kp T.dlow.b (fun σ => L2N.passAt tk σ) (pda_cons (pd_op op_mulW ol_mul (pd_ix ix_seq ol_ix (pd_var (pv 0)) pd_int (fun _ _ => rfl)) (pd_ix ix_seq ol_ix (pd_var (pv 1)) pd_int (fun _ _ => rfl))) (pda_cons (pd_op op_mulW ol_mul (pd_ix ix_seq ol_ix (pd_var (pv 0)) pd_int (fun _ _ => rfl)) (pd_ix ix_seq ol_ix (pd_var (pv 1)) pd_int (fun _ _ => rfl))) pda_nil))))), fun ds Q E hl h => ?_⟩
  obtain ⟨p, c, d, rfl, ⟨sp, k3, k4, hd, lg⟩, h⟩ := h
  simp only [rq, ratD, m_low]
  walk_at "dl"
  have hz : (p.den : Int) * d ≠ 0 := Int.mul_ne_zero SmR.den hd
  refine ⟨sp.n.cm k3 (by decide) (by decide) (by decide), sp.d.cm k4 (by decide) (by decide) (by decide), by rw [Int.natAbs_mul, Int.natAbs_natCast]; exact lg, ?_⟩
  rw [if_neg hz, low_div_rq hz, ← Rat.divInt_mul_divInt, Rat.num_divInt_den]
  exact h
theorem ok_spot_right (T : Txt K mg) : FnOk P w K mg base (L2N.CX P w) 176 T.dspot_right.f T.dspot_right.fd P_spot_right (spD K 4 m_spot_right) := by
  have G_plus : FnOk P w K mg base (L2N.CX P w) 2 T.dplus.f T.dplus.fd P_plus (spD K 2 (m_r2 fun p q => p + q)) := ok_plus T
  have G_positive : FnOk P w K mg base (L2N.CX P w) 174 T.dpositive.f T.dpositive.fd P_positive (spD K 1 m_positive) := ok_positive T
  have G_times : FnOk P w K mg base (L2N.CX P w) 2 T.dtimes.f T.dtimes.fd P_times (spD K 2 m_t10) := ok_t10 T
  have G_take : FnOk P w K mg base (L2N.CX P w) 171 T.dtake.f T.dtake.fd P_take (spD K 2 m_take) := ok_takeD T
  have G_low : FnOk P w K mg base (L2N.CX P w) 1 T.dlow.f T.dlow.fd P_low (spD K 2 m_low) := ok_low T
  have G_like : FnOk P w K mg base (L2N.CX P w) 1 T.dlike.f T.dlike.fd P_like (spD K 2 (m_like 1)) := ok_like T 1
  have G_distance_sign : FnOk P w K mg base (L2N.CX P w) 9 T.ddistance_sign.f T.ddistance_sign.fd P_distance_sign (spD K 3 (m_distance_sign T)) := ok_distance_sign T
  have G_side_of : FnOk P w K mg base (L2N.CX P w) 8 T.dside_of.f T.dside_of.fd P_side_of (spD K 3 (m_side_of T)) := ok_side_of T
  have G_padd : FnOk P w K mg base (L2N.CX P w) 3 T.dpadd.f T.dpadd.fd P_padd (spD K 2 (m_p2 fun p q => p + q)) := ok_padd T
  have G_pleft : FnOk P w K mg base (L2N.CX P w) 2 T.dpleft.f T.dpleft.fd P_pleft (spD K 1 m_left) := ok_pleft T
  have G_cmp : FnOk P w K mg base (L2N.CX P w) 2 T.dcmp.f T.dcmp.fd P_cmp (spD K 2 m_cmp2) := ok_cmp T
  have G_gap : FnOk P w K mg base (L2N.CX P w) 5 T.dgap.f T.dgap.fd P_gap (spD K 3 m_gap) := ok_gap T
  have G_point : FnOk P w K mg base (L2N.CX P w) 175 T.dpoint.f T.dpoint.fd P_point (spD K 1 m_point) := ok_point T
  have G_spot_apart : FnOk P w K mg base (L2N.CX P w) 5 T.dspot_apart.f T.dspot_apart.fd P_spot_apart (spD K 3 m_spot_apart) := ok_spot_apart T
  refine T.dspot_right.okD sc_spot_right fun cdv A outer s H E so A0 hr tk hp => ⟨_, (pds_cons (pds_set (i := 4) sc_spot_right.nd rfl (by first | exact .inl rfl | exact .inr rfl) (pd_ix ix_seq ol_ix (pd_var (pv 1)) pd_int (fun _ _ => rfl)))
      (pds_cons (pds_set (i := 5) sc_spot_right.nd rfl (by first | exact .inl rfl | exact .inr rfl) (pd_ix ix_seq ol_ix (pd_var (pv 1)) pd_int (fun _ _ => rfl)))
      (pds_cons (pds_set (i := 6) sc_spot_right.nd rfl (by first | exact .inl rfl | exact .inr rfl) (pd_ix ix_seq ol_ix (pd_var (pv 1)) pd_int (fun _ _ => rfl)))
      (pds_cons (pds_set (i := 7) sc_spot_right.nd rfl (by first | exact .inl rfl | exact .inr rfl) (pd_ix ix_seq ol_ix (pd_var (pv 1)) pd_int (fun _ _ => rfl)))
      (pds_cons (pds_set (i := 8) sc_spot_right.nd rfl (by first | exact .inl rfl | exact .inr rfl) (pd_call G_plus (hr.mono (by omega)) (by rfl) T.dplus.g T.dplus.F.kp T.dplus.b (fun σ => L2N.passAt tk σ) (pda_cons (pd_var (pv 7)) (pda_cons (pd_call G_positive (hr.mono (by omega)) (by rfl) T.dpositive.g T.dpositive.F.kp T.dpositive.b (fun σ => L2N.passAt tk σ) (pda_cons (pd_var (pv 0)) pda_nil)) pda_nil))))
      (pds_cons (pds_set (i := 9) sc_spot_right.nd rfl (by first | exact .inl rfl | exact .inr rfl) (pd_call G_times (hr.mono (by omega)) (by rfl) T.dtimes.g T.dtimes.F.kp T.dtimes.b (fun σ => L2N.passAt tk σ) (pda_cons (pd_var (pv 7)) (pda_cons (pd_tup (pda_cons (pd_op oo_add ol_add (pd_call G_take (hr.mono (by omega)) (by rfl) T.dtake.g T.dtake.F.kp T.dtake.b (fun σ => L2N.passAt tk σ) (pda_cons (pd_var (pv 0)) (pda_cons pd_int pda_nil))) pd_int) (pda_cons pd_int pda_nil))) pda_nil))))
      (pds_cons (pds_set (i := 9) sc_spot_right.nd rfl (by first | exact .inl rfl | exact .inr rfl) (pd_call G_low (hr.mono (by omega)) (by rfl) T.dlow.g T.dlow.F.kp T.dlow.b (fun σ => L2N.passAt tk σ) (pda_cons (pd_ix ix_seq ol_ix (pd_var (pv 9)) pd_int (fun _ _ => rfl)) (pda_cons (pd_ix ix_seq ol_ix (pd_var (pv 9)) pd_int (fun _ _ => rfl)) pda_nil))))
      (pds_cons (pds_if (PDW.t (pdw_or (pdt_not (pdt_tru (pd_call G_like (hr.mono (by omega)) (by rfl) T.dlike.g T.dlike.F.kp T.dlike.b (fun σ => L2N.passAt tk σ) (pda_cons (pd_call G_distance_sign (hr.mono (by omega)) (by rfl) T.ddistance_sign.g T.ddistance_sign.F.kp T.ddistance_sign.b (fun σ => L2N.passAt tk σ) (pda_cons (pd_var (pv 3)) (pda_cons (pd_var (pv 6)) (pda_cons (pd_var (pv 7)) pda_nil)))) (pda_cons pd_int pda_nil))))) (pdw_or1 (pdt_not (pdt_tru (pd_call G_like (hr.mono (by omega)) (by rfl) T.dlike.g T.dlike.F.kp T.dlike.b (fun σ => L2N.passAt tk σ) (pda_cons (pd_call G_distance_sign (hr.mono (by omega)) (by rfl) T.ddistance_sign.g T.ddistance_sign.F.kp T.ddistance_sign.b (fun σ => L2N.passAt tk σ) (pda_cons (pd_var (pv 3)) (pda_cons (pd_var (pv 6)) (pda_cons (pd_var (pv 8)) pda_nil)))) (pda_cons (pd_neg pd_int) pda_nil))))))))
        (pds_one (pds_ret pd_bl))
        pds_nil)
      (pds_cons (pds_if (pdt_not (pdt_tru (pd_call G_like (hr.mono (by omega)) (by rfl) T.dlike.g T.dlike.F.kp T.dlike.b (fun σ => L2N.passAt tk σ) (pda_cons (pd_call G_distance_sign (hr.mono (by omega)) (by rfl) T.ddistance_sign.g T.ddistance_sign.F.kp T.ddistance_sign.b (fun σ => L2N.passAt tk σ) (pda_cons (pd_var (pv 3)) (pda_cons (pd_var (pv 6)) (pda_cons (pd_var (pv 9)) pda_nil)))) (pda_cons pd_int pda_nil)))))
        (pds_one (pds_ret pd_bl))
        pds_nil)
      (pds_cons (pds_if (PDW.t (pdw_or (pdt_not (pdt_tru (pd_call G_like (hr.mono (by omega)) (by rfl) T.dlike.g T.dlike.F.kp T.dlike.b (fun σ => L2N.passAt tk σ) (pda_cons (pd_call G_side_of (hr.mono (by omega)) (by rfl) T.dside_of.g T.dside_of.F.kp T.dside_of.b (fun σ => L2N.passAt tk σ) (pda_cons (pd_var (pv 3)) (pda_cons (pd_var (pv 4)) (pda_cons (pd_call G_padd (hr.mono (by omega)) (by rfl) T.dpadd.g T.dpadd.F.kp T.dpadd.b (fun σ => L2N.passAt tk σ) (pda_cons (pd_var (pv 4)) (pda_cons (pd_var (pv 5)) pda_nil))) pda_nil)))) (pda_cons pd_int pda_nil))))) (pdw_or1 (pdt_not (pdt_tru (pd_call G_like (hr.mono (by omega)) (by rfl) T.dlike.g T.dlike.F.kp T.dlike.b (fun σ => L2N.passAt tk σ) (pda_cons (pd_call G_side_of (hr.mono (by omega)) (by rfl) T.dside_of.g T.dside_of.F.kp T.dside_of.b (fun σ => L2N.passAt tk σ) (pda_cons (pd_var (pv 3)) (pda_cons (pd_var (pv 4)) (pda_cons (pd_var (pv 4)) pda_nil)))) (pda_cons pd_int pda_nil))))))))
        (pds_one (pds_ret pd_bl))
        pds_nil)
      (pds_cons (pds_set (i := 10) sc_spot_right.nd rfl (by first | exact .inl rfl | exact .inr rfl) (pd_op op_mulW ol_mul (pd_neg (pd_var (pv 2))) (pd_callTy c_int1 cl_int1 (by rfl) T.m_int bt_int (pda_cons (pd_cmp op_gt ol_gt (pd_call G_cmp (hr.mono (by omega)) (by rfl) T.dcmp.g T.dcmp.F.kp T.dcmp.b (fun σ => L2N.passAt tk σ) (pda_cons (pd_var (pv 7)) (pda_cons (pd_call G_gap (hr.mono (by omega)) (by rfl) T.dgap.g T.dgap.F.kp T.dgap.b (fun σ => L2N.passAt tk σ) (pda_cons (pd_var (pv 4)) (pda_cons (pd_var (pv 5)) (pda_cons (pd_var (pv 6)) pda_nil)))) pda_nil))) pd_int (nomark _)) pda_nil))))
      (pds_cons (pds_set (i := 11) sc_spot_right.nd rfl (by first | exact .inl rfl | exact .inr rfl) (pd_call G_padd (hr.mono (by omega)) (by rfl) T.dpadd.g T.dpadd.F.kp T.dpadd.b (fun σ => L2N.passAt tk σ) (pda_cons (pd_var (pv 6)) (pda_cons (pd_call G_pleft (hr.mono (by omega)) (by rfl) T.dpleft.g T.dpleft.F.kp T.dpleft.b (fun σ => L2N.passAt tk σ) (pda_cons (pd_var (pv 5)) pda_nil)) pda_nil))))
      (pds_cons (pds_if (PDW.t (pdw_or (pdt_not (pdt_tru (pd_call G_like (hr.mono (by omega)) (by rfl) T.dlike.g T.dlike.F.kp T.dlike.b (fun σ => L2N.passAt tk σ) (pda_cons (pd_call G_side_of (hr.mono (by omega)) (by rfl) T.dside_of.g T.dside_of.F.kp T.dside_of.b (fun σ => L2N.passAt tk σ) (pda_cons (pd_var (pv 3)) (pda_cons (pd_var (pv 6)) (pda_cons (pd_var (pv 11)) pda_nil)))) (pda_cons (pd_var (pv 10)) pda_nil))))) (pdw_or1 (pdt_not (pdt_tru (pd_call G_like (hr.mono (by omega)) (by rfl) T.dlike.g T.dlike.F.kp T.dlike.b (fun σ => L2N.passAt tk σ) (pda_cons (pd_call G_side_of (hr.mono (by omega)) (by rfl) T.dside_of.g T.dside_of.F.kp T.dside_of.b (fun σ => L2N.passAt tk σ) (pda_cons (pd_var (pv 3)) (pda_cons (pd_var (pv 11)) (pda_cons (pd_var (pv 6)) pda_nil)))) (pda_cons (pd_neg (pd_var (pv 10))) pda_nil))))))))
        (pds_one (pds_ret pd_bl))
        pds_nil)
      (pds_cons (pds_set (i := 12) sc_spot_right.nd rfl (by first | exact .inl rfl | exact .inr rfl) (pd_call G_point (hr.mono (by omega)) (by rfl) T.dpoint.g T.dpoint.F.kp T.dpoint.b (fun σ => L2N.passAt tk σ) (pda_cons (pd_var (pv 0)) pda_nil)))
      (pds_cons (pds_set (i := 13) sc_spot_right.nd rfl (by first | exact .inl rfl | exact .inr rfl) (pd_call G_positive (hr.mono (by omega)) (by rfl) T.dpositive.g T.dpositive.F.kp T.dpositive.b (fun σ => L2N.passAt tk σ) (pda_cons (pd_var (pv 0)) pda_nil)))
      (pds_one (pds_ret (pd_call G_like (hr.mono (by omega)) (by rfl) T.dlike.g T.dlike.F.kp T.dlike.b (fun σ => L2N.passAt tk σ) (pda_cons (pd_call G_distance_sign (hr.mono (by omega)) (by rfl) T.ddistance_sign.g T.ddistance_sign.F.kp T.ddistance_sign.b (fun σ => L2N.passAt tk σ) (pda_cons (pd_var (pv 3)) (pda_cons (pd_var (pv 12)) (pda_cons (pd_var (pv 13)) pda_nil)))) (pda_cons (pd_call G_spot_apart (hr.mono (by omega)) (by rfl) T.dspot_apart.g T.dspot_apart.F.kp T.dspot_apart.b (fun σ => L2N.passAt tk σ) (pda_cons (pd_var (pv 3)) (pda_cons (pd_var (pv 12)) (pda_cons (pd_var (pv 13)) pda_nil)))) pda_nil)))))))))))))))))))), fun ds Q E hl h => ?_⟩
  obtain ⟨px, py, dx, dy, cx, cy, S, σ, i, told, rfl, ⟨hz, S0⟩, wi, hv, ht, h⟩ := h
  obtain ⟨a, b, c, e, u, sp, ss, so'⟩ := line_spot hz wi.wy hv ht
  have nz := hz.l.n
  have pc : PtSz cx cy := ⟨hz.l.c1.up (by decide) (by decide), hz.l.c2.up (by decide) (by decide)⟩
  have pb : PtSz px py := ⟨hz.l.p1.up (by decide) (by decide), hz.l.p2.up (by decide) (by decide)⟩
  have bi : Bi 10 i := by rcases wi with ⟨rfl, _⟩ | ⟨rfl, _⟩ <;> (show _ < _; decide)
  show sSeq _ _ _ [.fr .sto, .fr (askD px py dx dy cx cy S), .fr (.int i), .fr told, .no, .no, .no, .no, .no, .no, .no, .no, .no, .no]
  refine seq_mid (P := fun ρ => ρ = [.fr .sto, .fr (askD px py dx dy cx cy S), .fr (.int i), .fr told, .fr (pt px py), .no, .no, .no, .no, .no, .no, .no, .no, .no]) (fun R hR => ?_) ?_
  · simp only [askD] at hR ⊢
    walk_at "wk"
    exact hR _ rfl
  rintro _ rfl
  refine seq_mid (P := fun ρ => ρ = [.fr .sto, .fr (askD px py dx dy cx cy S), .fr (.int i), .fr told, .fr (pt px py), .fr (pt dx dy), .no, .no, .no, .no, .no, .no, .no, .no]) (fun R hR => ?_) ?_
  · simp only [askD] at hR ⊢
    walk_at "wk"
    exact hR _ rfl
  rintro _ rfl
  refine seq_mid (P := fun ρ => ρ = [.fr .sto, .fr (askD px py dx dy cx cy S), .fr (.int i), .fr told, .fr (pt px py), .fr (pt dx dy), .fr (pt cx cy), .no, .no, .no, .no, .no, .no, .no]) (fun R hR => ?_) ?_
  · simp only [askD] at hR ⊢
    walk_at "wk"
    exact hR _ rfl
  rintro _ rfl
  refine seq_mid (P := fun ρ => ρ = [.fr .sto, .fr (askD px py dx dy cx cy S), .fr (.int i), .fr told, .fr (pt px py), .fr (pt dx dy), .fr (pt cx cy), .fr (rq S), .no, .no, .no, .no, .no, .no]) (fun R hR => ?_) ?_
  · simp only [askD] at hR ⊢
    walk_at "wk"
    simp only [ddIx_l3]
    exact hR _ rfl
  rintro _ rfl
  generalize askD px py dx dy cx cy S = ask at *
  refine seq_mid (P := fun ρ => ∃ v, (Sz 250 250 v ∧ S < v) ∧ ρ = [.fr .sto, .fr ask, .fr (.int i), .fr told, .fr (pt px py), .fr (pt dx dy), .fr (pt cx cy), .fr (rq S), .fr (rq v), .no, .no, .no, .no, .no]) (fun R hR => ?_) ?_
  · walk_at "wk"
    intro q hq q0
    have sq : Sz 2 1 q := hq.sz (by decide)
    exact ⟨S, q, rfl, hz.s.ok sq (by decide), hR _ ⟨_, ⟨(hz.s.add sq).up (by decide) (by decide), by grind⟩, rfl⟩⟩
  rintro _ ⟨v, ⟨sv, v1⟩, rfl⟩
  have v0 : 0 < v := by grind
  refine seq_mid (P := fun ρ => ∃ t, (Sz 250 250 t ∧ 0 < t ∧ t < S) ∧ ρ = [.fr .sto, .fr ask, .fr (.int i), .fr told, .fr (pt px py), .fr (pt dx dy), .fr (pt cx cy), .fr (rq S), .fr (rq v), .fr (rq t), .no, .no, .no, .no]) (fun R hR => ?_) ?_
  · walk_at "wk"
    refine ⟨by decide, fun r r0 r1 => ⟨S, r + 1, 10, rfl, ⟨hz.s.sm (by decide), ?_, ?_, by decide, ?_⟩, hR _ ⟨_, ⟨(hz.s.mul (sz_div (a := r + 1) (b := 10) (n := 2) (m := 2) (by show _ < 100; omega) (by decide) (by decide))).up (by decide) (by decide), Rat.mul_pos S0 (pos_div (by omega) (by decide)), ?_⟩, rfl⟩⟩⟩
    · exact Nat.lt_of_lt_of_le (show (r + 1).natAbs < 2 ^ 10 by omega) (Nat.pow_le_pow_right (by decide) (by decide))
    · exact Nat.lt_of_lt_of_le (show (10 : Int).natAbs < 2 ^ 10 by decide) (Nat.pow_le_pow_right (by decide) (by decide))
    · exact log_lt (nat_lt_mul hz.s.m (show (10 : Int).natAbs < 10 ^ 2 by decide)) (by decide)
    · have k : Rat.divInt (r + 1) 10 < 1 := by
        rw [Rat.divInt_eq_div]
        have : ((r + 1 : Int) : Rat) < 10 := by
          have : ((r + 1 : Int) : Rat) < ((10 : Int) : Rat) := Rat.intCast_lt_intCast.mpr (by omega)
          exact this
        grind
      have := Rat.mul_lt_mul_of_pos_left k S0
      grind
  rintro _ ⟨t, ⟨st, t0, t1⟩, rfl⟩
  refine seq_mid (P := fun ρ => ρ = [.fr .sto, .fr ask, .fr (.int i), .fr told, .fr (pt px py), .fr (pt dx dy), .fr (pt cx cy), .fr (rq S), .fr (rq v), .fr (rq t), .no, .no, .no, .no]) (fun R hR => ?_) ?_
  · walk_at "wk"
    have dt := t.den_pos
    have db : ((t.den : Int)) ≠ 0 := by omega
    simp only [ix0, ix1]
    refine low_at _ _ _ db (by rw [Int.natAbs_natCast]; exact st.lg (by decide)) ?_ _
    rw [Rat.num_divInt_den]
    exact hR _ rfl
  rintro _ rfl
  have sg1 : sg (S - S) = 0 := by
    have : S - S = 0 := by grind
    rw [this]
    rfl
  have sg2 : sg (S - v) = -1 := sg_neg (by grind)
  have sg3 : sg (S - t) = 1 := sg_pos (by grind)
  have sS : Sz 250 250 S := hz.s.up (by decide) (by decide)
  refine seq_mid (P := fun ρ => ρ = [.fr .sto, .fr ask, .fr (.int i), .fr told, .fr (pt px py), .fr (pt dx dy), .fr (pt cx cy), .fr (rq S), .fr (rq v), .fr (rq t), .no, .no, .no, .no]) (fun R hR => ?_) ?_
  · walk_at "wk"
    refine ask_dist T sp ss pc sS S0 ?_
    rw [so'.dist, sg1]
    refine ⟨_, rfl, tree_int _, ?_⟩
    walk_at "wk"
    refine ask_dist T sp ss pc sv v0 ?_
    rw [so'.dist, sg2]
    refine ⟨_, rfl, tree_int _, ?_⟩
    walk_at "wk"
    exact hR _ rfl
  rintro _ rfl
  refine seq_mid (P := fun ρ => ρ = [.fr .sto, .fr ask, .fr (.int i), .fr told, .fr (pt px py), .fr (pt dx dy), .fr (pt cx cy), .fr (rq S), .fr (rq v), .fr (rq t), .no, .no, .no, .no]) (fun R hR => ?_) ?_
  · walk_at "wk"
    refine ask_dist T sp ss pc st t0 ?_
    rw [so'.dist, sg3]
    refine ⟨_, rfl, tree_int _, ?_⟩
    walk_at "wk"
    exact hR _ rfl
  rintro _ rfl
  refine seq_mid (P := fun ρ => ρ = [.fr .sto, .fr ask, .fr (.int i), .fr told, .fr (pt px py), .fr (pt dx dy), .fr (pt cx cy), .fr (rq S), .fr (rq v), .fr (rq t), .no, .no, .no, .no]) (fun R hR => ?_) ?_
  · walk_at "wk"
    refine ⟨_, _, _, _, rfl, hz.l.p1.ok hz.l.d1 (by decide), hz.l.p2.ok hz.l.d2 (by decide), ?_⟩
    refine ask_side T sp ss pb ⟨(hz.l.p1.add hz.l.d1).up (by decide) (by decide), (hz.l.p2.add hz.l.d2).up (by decide) (by decide)⟩ ?_
    rw [so'.s1]
    refine ⟨_, rfl, tree_int _, ?_⟩
    walk_at "wk"
    refine ask_side T sp ss pb pb.b ?_
    rw [s2_zero]
    refine ⟨_, rfl, tree_int _, ?_⟩
    walk_at "wk"
    exact hR _ rfl
  rintro _ rfl
  have s34 := so'.s34 wi nz hv
  have hh : (0 < S - gapQ px py dx dy cx cy) = ¬ (heiL px py dx dy cx cy S = 0) := by
    rw [hei_posi nz]
    have := Rat.not_lt.mp hv
    refine propext ⟨fun k z => by rw [z] at k; exact absurd k Rat.lt_irrefl, fun k => ?_⟩
    rcases pos_or this with z | z
    · exact absurd z k
    · exact z
  generalize hn : (if heiL px py dx dy cx cy S = 0 then 0 else i) = n at *
  refine seq_mid (P := fun ρ => ρ = [.fr .sto, .fr ask, .fr (.int i), .fr told, .fr (pt px py), .fr (pt dx dy), .fr (pt cx cy), .fr (rq S), .fr (rq v), .fr (rq t), .fr (.int (-n)), .no, .no, .no]) (fun R hR => ?_) ?_
  · walk_at "wk"
    refine ⟨px, py, dx, dy, cx, cy, rfl, hz.l, S, _, rfl, hz.s.ok hz.l.gap (by decide), ?_⟩
    walk_at "wk"
    have bn : Bi 10 (-i) := by rcases wi with ⟨rfl, _⟩ | ⟨rfl, _⟩ <;> (show _ < _; decide)
    have b1 : ∀ k : Bool, Bi 10 (if k = true then (1 : Int) else 0) := fun k => by cases k <;> (show _ < _; decide)
    refine ⟨bn.cm (b1 _) (by decide) (by decide) (by decide), ?_⟩
    have en : -i * (if decide (0 < sg (S - gapQ px py dx dy cx cy)) = true then 1 else 0) = -n := by
      rw [← hn]
      by_cases k : heiL px py dx dy cx cy S = 0
      · rw [if_neg (by rw [decide_eq_true_iff, sg_gt, hh]; exact not_not_intro k), if_pos k]
        exact Int.mul_zero _
      · rw [if_pos (by rw [decide_eq_true_iff, sg_gt, hh]; exact k), if_neg k]
        exact Int.mul_one _
    rw [en]
    exact hR _ rfl
  rintro _ rfl
  refine seq_mid (P := fun ρ => ρ = [.fr .sto, .fr ask, .fr (.int i), .fr told, .fr (pt px py), .fr (pt dx dy), .fr (pt cx cy), .fr (rq S), .fr (rq v), .fr (rq t), .fr (.int (-n)), .fr (pt (cx + -dy) (cy + dx)), .no, .no]) (fun R hR => ?_) ?_
  · walk_at "wk"
    exact ⟨_, _, rfl, _, _, _, _, rfl, hz.l.c1.ok hz.l.d2.neg (by decide), hz.l.c2.ok hz.l.d1 (by decide), hR _ rfl⟩
  rintro _ rfl
  have pa : PtSz (cx + -dy) (cy + dx) := ⟨(hz.l.c1.add hz.l.d2.neg).up (by decide) (by decide), (hz.l.c2.add hz.l.d1).up (by decide) (by decide)⟩
  refine seq_mid (P := fun ρ => ρ = [.fr .sto, .fr ask, .fr (.int i), .fr told, .fr (pt px py), .fr (pt dx dy), .fr (pt cx cy), .fr (rq S), .fr (rq v), .fr (rq t), .fr (.int (-n)), .fr (pt (cx + -dy) (cy + dx)), .no, .no]) (fun R hR => ?_) ?_
  · walk_at "wk"
    refine ask_side T sp ss pc pa.b ?_
    rw [s34.1]
    refine ⟨_, rfl, tree_int _, ?_⟩
    walk_at "wk"
    refine ask_side T sp ss pa pc.b ?_
    rw [s34.2]
    refine ⟨.int n, by rw [Int.neg_neg], tree_int _, ?_⟩
    walk_at "wk"
    exact hR _ rfl
  rintro _ rfl
  refine seq_mid (P := fun ρ => ∃ x y, (Cd 6 24 x ∧ Cd 6 24 y) ∧ ρ = [.fr .sto, .fr ask, .fr (.int i), .fr told, .fr (pt px py), .fr (pt dx dy), .fr (pt cx cy), .fr (rq S), .fr (rq v), .fr (rq t), .fr (.int (-n)), .fr (pt (cx + -dy) (cy + dx)), .fr (pt x y), .no]) (fun R hR => ?_) ?_
  · exact ⟨rfl, fun x y hx hy => hR _ ⟨x, y, ⟨hx, hy⟩, rfl⟩⟩
  rintro _ ⟨x, y, ⟨hx, hy⟩, rfl⟩
  refine seq_mid (P := fun ρ => ∃ q, (Cd 6 36 q ∧ 0 < q) ∧ ρ = [.fr .sto, .fr ask, .fr (.int i), .fr told, .fr (pt px py), .fr (pt dx dy), .fr (pt cx cy), .fr (rq S), .fr (rq v), .fr (rq t), .fr (.int (-n)), .fr (pt (cx + -dy) (cy + dx)), .fr (pt x y), .fr (rq q)]) (fun R hR => ?_) ?_
  · exact ⟨rfl, fun q hq q0 => hR _ ⟨q, ⟨hq, q0⟩, rfl⟩⟩
  rintro _ ⟨q, ⟨hq, q0⟩, rfl⟩
  have sq : Sz 2 1 q := hq.sz (by decide)
  have px' : PtSz x y := ⟨(cd_sz hx).up (by decide) (by decide), (cd_sz hy).up (by decide) (by decide)⟩
  walk_at "wk"
  refine ask_dist T sp ss px' (sq.up (by decide) (by decide)) q0 ?_
  exact ⟨_, _, _, _, _, _, _, _, _, rfl, ⟨cd_sz hx, cd_sz hy⟩, sq, sp, ss, _, rfl, tree_int _, h⟩
end
end My
set_option exponentiation.threshold 100000
namespace My
open PySem PySem.Spec PyProof.Rows L2
local macro_rules | `(tactic| walk_at "dl") => `(tactic| simp only [startD, List.map_cons, List.map_nil, List.length_cons, List.length_nil, List.cons_append, List.nil_append, List.replicate_succ, List.replicate_zero, List.getElem?_cons_zero, List.getElem?_cons_succ, List.set_cons_zero, List.set_cons_succ,
  dVar, rdS, dC, dNew, dOp, onB, qB, dChain, qAnd, qOr, qNot, qTru, truD, dIf, dAnd, dOr, dNot, dUn, ddNeg, lNil, lCons, dTup, nLst, ddI, ddI0, ddAdd, isNonD, isBlD, ddIsN, ddIsB, ddIx_t0, ddIx_t1, ddIx_t2, ddIx_t3, ddIx_l0, ddIx_l1, ddIx_l2, dCB, ddLen, ddInt1, ddAbs, ddMM, ddTuple, nCB, nnList, ddIsi, dCall,
  sSkip, sSeq, sBreak, sCont, sExpr, sRet, sRetN, sIf, sNever, gdName, gdNil, gdCons, gdTup, sAsg, sSetN, sPar, sRaise, sFrz, owS, sApp, sIns, dLenO, dIxO, sTry, sFor, iL, iT, onL, onT, iR1, iR2, nComp, qYes,
  ddEq_ii, ddEq_ss, ddEq_bb, Bool.false_bne, Bool.true_bne, List.append_nil, true_and, and_true, if_true, if_false, Bool.not_true, Bool.not_false, Bool.true_eq_false, Bool.false_eq_true, ite_true, ite_false, id_eq])

local macro_rules | `(tactic| walk_at "is") => `(tactic| simp only [plain_non, isIn_non_int, isIn_non_str, isIn_non_bool, isIn_non_list, isIn_non_tuple, isIn_non_dict, plain_bl, isIn_bl_int, isIn_bl_str, isIn_bl_bool, isIn_bl_list, isIn_bl_tuple, isIn_bl_dict, plain_int, isIn_int_int, isIn_int_str, isIn_int_bool, isIn_int_list, isIn_int_tuple, isIn_int_dict, plain_str, isIn_str_int, isIn_str_str, isIn_str_bool, isIn_str_list, isIn_str_tuple, isIn_str_dict, plain_tup, isIn_tup_int, isIn_tup_str, isIn_tup_bool, isIn_tup_list, isIn_tup_tuple, isIn_tup_dict, plain_lst, isIn_lst_int, isIn_lst_str, isIn_lst_bool, isIn_lst_list, isIn_lst_tuple, isIn_lst_dict, sl0, sl1, sl2, sl3, sl4, decide_true, decide_false, ddIsi, ddIsi2, true_and, if_true, if_false, Bool.false_eq_true, Bool.not_true, Bool.not_false, Bool.or_true, Bool.or_false, Bool.true_or, and_true])
local macro_rules | `(tactic| walk_at "wk") => `(tactic| ((try walk_at "dl"); (try walk_at "is"); (try walk_at "dl")))

abbrev s_failed : Stmt := topS 95
abbrev N_failed : List Str := ["e"]
abbrev P_failed : List Str := ["e"]
theorem sc_failed : FnScope N_failed P_failed (defScope s_failed) := ⟨rfl, rfl, rfl, by decide +kernel, rfl, by decide +kernel, by decide +kernel⟩

theorem _root_.L2H.RoomH.units {k : Nat} {A : Around} (r : L2H.RoomH k A) : A.units + 64 < cLine := by have := r.un; omega
theorem dIsP_var {K : PySem.W.Frag} {x : XD} {a : Addr} {cv : Value} {b : Bool} {l : DEnv} {Q : D → Prop} {E : XD → Prop} (hx : XC K x.C) (hk : PySem.W.kitOne K (.ref x.C) cv = some b) : dIsP K x a cv (dVar 0) (.fr (.exc a) :: l) Q E = Q (.bl b) := by
  show ((.exc a : D) = .exc a ∧ XC K x.C ∧ ∃ c, PySem.W.kitOne K (.ref x.C) cv = some c ∧ Q (.bl c)) = _
  rw [hk]
  simp [hx]
theorem dXg_var {K : PySem.W.Frag} {x : XD} {a : Addr} {n : Str} {l : DEnv} {Q : D → Prop} {E : XD → Prop} {d : D} (hx : XC K x.C) (hk : PySem.W.findIn K (.ref x.C) n = some none) (hl : (x.fs.zip x.vs).lookup n = some d) : dXg K x a n (dVar 0) (.fr (.exc a) :: l) Q E = Q d := by
  show ((.exc a : D) = .exc a ∧ XC K x.C ∧ PySem.W.findIn K (.ref x.C) n = some none ∧ ∃ c, (x.fs.zip x.vs).lookup n = some c ∧ Q c) = _
  rw [hk, hl]
  simp [hx]
def wkD (s : Str) : D := .tup [.str "WrongKind", .str s]
section
variable {K : PySem.W.Frag} {mg : Str → Option Value} (T : Txt K mg)
def m_failed : XD → (D → Prop) → Prop := fun x Q => ∃ s, x = wkX T s ∧ Q (wkD s)
end
section
variable {P : Program} {w : World} {K : PySem.W.Frag} {mg : Str → Option Value} {base : Heap}
theorem ok_failed (T : Txt K mg) : FnE P w K mg base 1 T.dfailed.f T.dfailed.fd P_failed (fun q => spXD K (m_failed T) q.1 q.2.cls q.2.dict) := by
  refine T.dfailed.okED sc_failed fun q cdv A outer s H E so A0 x dx us hr kx => ⟨_, (pds_cons (pds_if (PDW.t (pdw_or (pdt_not (pdt_tru (pd_isP kx (by rfl) T.m_isinstance (pd_var (pv 0)) (pe_glob (v := .ref T.cWrongKind.C) (by rfl) T.cWrongKind.g rfl) (.own _)))) (pdw_or1 (pdt_not (pdt_tru (pd_isP kx (by rfl) T.m_isinstance (pd_var (pv 0)) (pe_bltn (v := .ty "ValueError") (by rfl) T.m_ValueError bt_ValueError rfl) (.ty _)))))))
        (pds_one (pds_ret (pd_tup (pda_cons pd_str (pda_cons pd_non pda_nil)))))
        pds_nil)
      (pds_cons (pds_if (PDW.t (pdw_or (pdt_tru (pd_isP kx (by rfl) T.m_isinstance (pd_var (pv 0)) (pe_glob (v := .ref T.cOutOfBounds.C) (by rfl) T.cOutOfBounds.g rfl) (.own _))) (pdw_or (pdt_tru (pd_isP kx (by rfl) T.m_isinstance (pd_var (pv 0)) (pe_glob (v := .ref T.cRepeatedName.C) (by rfl) T.cRepeatedName.g rfl) (.own _))) (pdw_or1 (pdt_tru (pd_isP kx (by rfl) T.m_isinstance (pd_var (pv 0)) (pe_glob (v := .ref T.cUnknownName.C) (by rfl) T.cUnknownName.g rfl) (.own _)))))))
        (pds_one (pds_ret (pd_tup (pda_cons pd_str (pda_cons pd_non pda_nil)))))
        pds_nil)
      (pds_cons (pds_if (PDW.t (pdw_or (pdt_tru (pd_isP kx (by rfl) T.m_isinstance (pd_var (pv 0)) (pe_glob (v := .ref T.cUnfitError.C) (by rfl) T.cUnfitError.g rfl) (.own _))) (pdw_or (pdt_tru (pd_isP kx (by rfl) T.m_isinstance (pd_var (pv 0)) (pe_glob (v := .ref T.cUnsafe.C) (by rfl) T.cUnsafe.g rfl) (.own _))) (pdw_or1 (pdt_tru (pd_isP kx (by rfl) T.m_isinstance (pd_var (pv 0)) (pe_glob (v := .ref T.cBadText.C) (by rfl) T.cBadText.g rfl) (.own _)))))))
        (pds_one (pds_ret (pd_tup (pda_cons pd_str (pda_cons pd_non pda_nil)))))
        pds_nil)
      (pds_one (pds_ret (pd_tup (pda_cons pd_str (pda_cons (pd_xg kx (pd_var (pv 0))) pda_nil)))))))), fun Q h => ?_⟩
  obtain ⟨s, rfl, h⟩ := h
  dsimp only [L2H.cxH, cxOf, Cx.nox]
  simp only [↓dIsP_var (x := wkX T s) T.cWrongKind.x T.kWrongKind_WrongKind, ↓dIsP_var (x := wkX T s) T.cWrongKind.x T.kWrongKind_ValueError, ↓dIsP_var (x := wkX T s) T.cWrongKind.x T.kWrongKind_OutOfBounds, ↓dIsP_var (x := wkX T s) T.cWrongKind.x T.kWrongKind_RepeatedName, ↓dIsP_var (x := wkX T s) T.cWrongKind.x T.kWrongKind_UnknownName, ↓dIsP_var (x := wkX T s) T.cWrongKind.x T.kWrongKind_UnfitError, ↓dIsP_var (x := wkX T s) T.cWrongKind.x T.kWrongKind_Unsafe, ↓dIsP_var (x := wkX T s) T.cWrongKind.x T.kWrongKind_BadText, ↓reduceIte, ↓startD, ↓List.map_cons, ↓List.map_nil, ↓List.length_cons, ↓List.length_nil, ↓List.cons_append, ↓List.nil_append, ↓List.replicate_succ, ↓List.replicate_zero, ↓List.getElem?_cons_zero, ↓List.getElem?_cons_succ, ↓List.set_cons_zero, ↓List.set_cons_succ, ↓dVar, ↓rdS, ↓dC, ↓dNew, ↓dOp, ↓onB, ↓qB, ↓dChain, ↓qAnd, ↓qOr, ↓qNot, ↓qTru, ↓truD, ↓dIf, ↓dAnd, ↓dOr, ↓dNot, ↓dUn, ↓ddNeg, ↓lNil, ↓lCons, ↓dTup, ↓nLst, ↓ddI, ↓ddI0, ↓ddAdd, ↓isNonD, ↓isBlD, ↓ddIsN, ↓ddIsB, ↓ddIx_t0, ↓ddIx_t1, ↓ddIx_t2, ↓ddIx_t3, ↓ddIx_l0, ↓ddIx_l1, ↓ddIx_l2, ↓dCB, ↓ddLen, ↓ddInt1, ↓ddAbs, ↓ddMM, ↓ddTuple, ↓nCB, ↓nnList, ↓ddIsi, ↓dCall, ↓sSkip, ↓sSeq, ↓sBreak, ↓sCont, ↓sExpr, ↓sRet, ↓sRetN, ↓sIf, ↓sNever, ↓gdName, ↓gdNil, ↓gdCons, ↓gdTup, ↓sAsg, ↓sSetN, ↓sPar, ↓sRaise, ↓sFrz, ↓owS, ↓sApp, ↓sIns, ↓dLenO, ↓dIxO, ↓sTry, ↓sFor, ↓iL, ↓iT, ↓onL, ↓onT, ↓iR1, ↓iR2, ↓nComp, ↓qYes, ↓ddEq_ii, ↓ddEq_ss, ↓ddEq_bb, ↓Bool.false_bne, ↓Bool.true_bne, ↓List.append_nil, ↓true_and, ↓and_true, ↓if_true, ↓if_false, ↓Bool.not_true, ↓Bool.not_false, ↓Bool.true_eq_false, ↓Bool.false_eq_true, ↓ite_true, ↓ite_false, ↓id_eq, ↓plain_non, ↓isIn_non_int, ↓isIn_non_str, ↓isIn_non_bool, ↓isIn_non_list, ↓isIn_non_tuple, ↓isIn_non_dict, ↓plain_bl, ↓isIn_bl_int, ↓isIn_bl_str, ↓isIn_bl_bool, ↓isIn_bl_list, ↓isIn_bl_tuple, ↓isIn_bl_dict, ↓plain_int, ↓isIn_int_int, ↓isIn_int_str, ↓isIn_int_bool, ↓isIn_int_list, ↓isIn_int_tuple, ↓isIn_int_dict, ↓plain_str, ↓isIn_str_int, ↓isIn_str_str, ↓isIn_str_bool, ↓isIn_str_list, ↓isIn_str_tuple, ↓isIn_str_dict, ↓plain_tup, ↓isIn_tup_int, ↓isIn_tup_str, ↓isIn_tup_bool, ↓isIn_tup_list, ↓isIn_tup_tuple, ↓isIn_tup_dict, ↓plain_lst, ↓isIn_lst_int, ↓isIn_lst_str, ↓isIn_lst_bool, ↓isIn_lst_list, ↓isIn_lst_tuple, ↓isIn_lst_dict, ↓sl0, ↓sl1, ↓sl2, ↓sl3, ↓sl4, ↓decide_true, ↓decide_false, ↓ddIsi2, ↓Bool.or_true, ↓Bool.or_false, ↓Bool.true_or]
  rw [dXg_var T.cWrongKind.x (T.zWrongKind.nf _ (by simp)) (d := .str s) (by simp [wkX])]
  exact h
end
end My
set_option exponentiation.threshold 100000
namespace My
open PySem PySem.Spec PyProof.Rows L2
local macro_rules | `(tactic| walk_at "dl") => `(tactic| simp only [startD, List.map_cons, List.map_nil, List.length_cons, List.length_nil, List.cons_append, List.nil_append, List.replicate_succ, List.replicate_zero, List.getElem?_cons_zero, List.getElem?_cons_succ, List.set_cons_zero, List.set_cons_succ,
  dVar, rdS, dC, dNew, dOp, onB, qB, dChain, qAnd, qOr, qNot, qTru, truD, dIf, dAnd, dOr, dNot, dUn, ddNeg, lNil, lCons, dTup, nLst, ddI, ddI0, ddAdd, isNonD, isBlD, ddIsN, ddIsB, ddIx_t0, ddIx_t1, ddIx_t2, ddIx_t3, ddIx_l0, ddIx_l1, ddIx_l2, dCB, ddLen, ddInt1, ddAbs, ddMM, ddTuple, nCB, nnList, ddIsi, dCall,
  sSkip, sSeq, sBreak, sCont, sExpr, sRet, sRetN, sIf, sNever, gdName, gdNil, gdCons, gdTup, sAsg, sSetN, sPar, sRaise, sFrz, owS, sApp, sIns, dLenO, dIxO, sTry, sFor, iL, iT, onL, onT, iR1, iR2, nComp, qYes,
  ddEq_ii, ddEq_ss, ddEq_bb, Bool.false_bne, Bool.true_bne, List.append_nil, true_and, and_true, if_true, if_false, Bool.not_true, Bool.not_false, Bool.true_eq_false, Bool.false_eq_true, ite_true, ite_false, id_eq])

local macro_rules | `(tactic| walk_at "is") => `(tactic| simp only [plain_non, isIn_non_int, isIn_non_str, isIn_non_bool, isIn_non_list, isIn_non_tuple, isIn_non_dict, plain_bl, isIn_bl_int, isIn_bl_str, isIn_bl_bool, isIn_bl_list, isIn_bl_tuple, isIn_bl_dict, plain_int, isIn_int_int, isIn_int_str, isIn_int_bool, isIn_int_list, isIn_int_tuple, isIn_int_dict, plain_str, isIn_str_int, isIn_str_str, isIn_str_bool, isIn_str_list, isIn_str_tuple, isIn_str_dict, plain_tup, isIn_tup_int, isIn_tup_str, isIn_tup_bool, isIn_tup_list, isIn_tup_tuple, isIn_tup_dict, plain_lst, isIn_lst_int, isIn_lst_str, isIn_lst_bool, isIn_lst_list, isIn_lst_tuple, isIn_lst_dict, sl0, sl1, sl2, sl3, sl4, decide_true, decide_false, ddIsi, ddIsi2, true_and, if_true, if_false, Bool.false_eq_true, Bool.not_true, Bool.not_false, Bool.or_true, Bool.or_false, Bool.true_or, and_true])
local macro_rules | `(tactic| walk_at "wk") => `(tactic| ((try walk_at "dl"); (try walk_at "is"); (try walk_at "dl")))

/-! ### what a call tells -/
def tld (d : D) : D := .tup [.str "told", d]
theorem atI_4 {α : Type} (a b c d e : α) (l : List α) : atI (a :: b :: c :: d :: e :: l) 4 = some e := atI_nat (j := 4) rfl
theorem ddIx_l4 (a b c d e : D) (l : List D) (Q : D → Prop) : ddIx (.lst (a :: b :: c :: d :: e :: l)) (.int 4) Q = Q e := by
  show (∃ x, atI (a :: b :: c :: d :: e :: l) 4 = some x ∧ Q x) = Q e
  rw [atI_4]
  simp
section
variable {K : PySem.W.Frag} {mg : Str → Option Value} (T : Txt K mg)
def Wk (Q : D → Prop) : XD → Prop := fun x => PySem.W.exmOne K (.ref x.C) (.ref T.cFrameError.C) = some true ∧ m_failed T x Q
theorem wk_ok {Q : D → Prop} {s : Str} (q : Q (wkD s)) : Wk T Q (wkX T s) := ⟨T.xWrongKind, s, rfl, q⟩
def m_lcall : DF := fun ds Q _ => match ds with
  | [.int w, .lst l] => (w = 0 ∧ l.length = 5 ∧ m_meet_line T l (fun d => Q (tld d)) (Wk T Q)) ∨ (w = 1 ∧ l.length = 3 ∧ m_distance_sign T l (fun d => Q (tld d)) (Wk T Q)) ∨ (w = 2 ∧ l.length = 3 ∧ m_side_of T l (fun d => Q (tld d)) (Wk T Q))
  | _ => False
/-- names, good arguments, bad arguments of one of the calls -/
structure RowOk (w : Int) (nw : List Str) (gw bw : List D) : Prop where
  g : gw.length = nw.length
  b : bw.length = nw.length
  n : 3 ≤ nw.length ∧ nw.length ≤ 5
  bad : ∀ l : List D, l.length = nw.length → ∀ (m : Nat) (x : Str), nw[m]? = some x → l[m]? = bw[m]? → (∀ j, j < m → l[j]? = gw[j]?) → ∀ (Q : D → Prop) (E : XD → Prop), Q (wkD x) → m_lcall T [.int w, .lst l] Q E
  good : ∀ (Q : D → Prop) (E : XD → Prop), (∀ d, Q (tld d)) → m_lcall T [.int w, .lst gw] Q E
end
theorem yes_is {b : Bool} {P : Prop} (h : b = false) : b = true → P := fun e => by rw [h] at e; cases e
theorem wy_sd {d : D} {σ : Rat} (h : Wy d σ) : isSd d = true := by
  rcases h with ⟨rfl, _⟩ | ⟨rfl, _⟩ <;> rfl
def NotW (d : D) : Prop := plainD d = true ∧ isSd d = false
theorem get1 {l : List D} {a : D} {i : Nat} (h : l[i]? = some a) : l[i]? = some a := h
theorem lineD_one {px py dx dy cx cy S σ σ' : Rat} {d : D} (w : Wy d σ) (w' : Wy d σ') : σ = σ' := by
  rcases w with ⟨a, rfl⟩ | ⟨a, rfl⟩ <;> rcases w' with ⟨b, rfl⟩ | ⟨b, rfl⟩
  · rfl
  · rw [a] at b; cases b
  · rw [a] at b; cases b
  · rfl
section
variable {K : PySem.W.Frag} {mg : Str → Option Value} (T : Txt K mg)
theorem tell_line {px py dx dy cx cy S σ : Rat} {side : D} {Q : D → Prop} {E : XD → Prop} (h : LnSz px py dx dy cx cy S) (S0 : 0 < S) (wy : Wy side σ) (k : Q (lineD px py dx dy cx cy S σ)) : m_meet_line T [pt px py, pt dx dy, pt cx cy, rq S, side] Q E := by
  have pl : plainD side = true := by rcases wy with ⟨rfl, _⟩ | ⟨rfl, _⟩ <;> rfl
  have dk : dirOk (pt dx dy) = true := by
    rw [dir_of]
    by_cases c1 : dx = 0
    · by_cases c2 : dy = 0
      · exact absurd ⟨c1, c2⟩ h.l.n
      · rw [decide_eq_false c2, Bool.and_false]
        rfl
    · rw [decide_eq_false c1]
      rfl
  refine ⟨pl2_pt px py, no_is (pt_pt px py), fun _ => ⟨pl2_pt dx dy, no_is dk, fun _ => ⟨pl2_pt cx cy, no_is (pt_pt cx cy), fun _ => ⟨pl_rq S, no_is (pos_rq S0), fun _ => ⟨pl, no_is (wy_sd wy), fun px' py' dx' dy' cx' cy' S' σ' e1 e2 e3 e4 wy' => ?_⟩⟩⟩⟩⟩
  obtain ⟨rfl, rfl⟩ := pt_inj e1
  obtain ⟨rfl, rfl⟩ := pt_inj e2
  obtain ⟨rfl, rfl⟩ := pt_inj e3
  have := rq_inj e4
  subst this
  have := lineD_one (px := 0) (py := 0) (dx := 0) (dy := 0) (cx := 0) (cy := 0) (S := 0) wy wy'
  subst this
  exact ⟨h.line, k⟩
theorem row0 {px py dx dy cx cy S : Rat} {b0 b1 b2 b3 b4 : D} (h : LnSz px py dx dy cx cy S) (S0 : 0 < S) (n0 : NotP b0) (n1 : NotV b1) (n2 : NotP b2) (n3 : NotQ b3) (n4 : NotW b4) :
    RowOk T 0 ["place", "direction", "centre", "squared", "side"] [pt px py, pt dx dy, pt cx cy, rq S, .int 1] [b0, b1, b2, b3, b4] := by
  have dk : dirOk (pt dx dy) = true := by
    rw [dir_of]
    by_cases c1 : dx = 0
    · by_cases c2 : dy = 0
      · exact absurd ⟨c1, c2⟩ h.l.n
      · rw [decide_eq_false c2, Bool.and_false]
        rfl
    · rw [decide_eq_false c1]
      rfl
  refine ⟨rfl, rfl, by decide, fun l hl m x hx hm hj Q E q => .inl ⟨rfl, hl, ?_⟩, fun Q E q => .inl ⟨rfl, rfl, tell_line T h S0 (.inl ⟨rfl, rfl⟩) (q _)⟩⟩
  match l, hl with
  | [l0, l1, l2, l3, l4], _ =>
    match m, hx with
    | 0, hx =>
      cases hx
      cases hm
      exact ⟨n0.1, fun _ => wk_ok T q, yes_is n0.2⟩
    | 1, hx =>
      cases hx
      cases hm
      have e0 := hj 0 (by decide)
      cases e0
      exact ⟨pl2_pt px py, no_is (pt_pt px py), fun _ => ⟨n1.1, fun _ => wk_ok T q, yes_is n1.2⟩⟩
    | 2, hx =>
      cases hx
      cases hm
      have e0 := hj 0 (by decide)
      cases e0
      have e1 := hj 1 (by decide)
      cases e1
      exact ⟨pl2_pt px py, no_is (pt_pt px py), fun _ => ⟨pl2_pt dx dy, no_is dk, fun _ => ⟨n2.1, fun _ => wk_ok T q, yes_is n2.2⟩⟩⟩
    | 3, hx =>
      cases hx
      cases hm
      have e0 := hj 0 (by decide)
      cases e0
      have e1 := hj 1 (by decide)
      cases e1
      have e2 := hj 2 (by decide)
      cases e2
      exact ⟨pl2_pt px py, no_is (pt_pt px py), fun _ => ⟨pl2_pt dx dy, no_is dk, fun _ => ⟨pl2_pt cx cy, no_is (pt_pt cx cy), fun _ => ⟨n3.1, fun _ => wk_ok T q, yes_is n3.2⟩⟩⟩⟩
    | 4, hx =>
      cases hx
      cases hm
      have e0 := hj 0 (by decide)
      cases e0
      have e1 := hj 1 (by decide)
      cases e1
      have e2 := hj 2 (by decide)
      cases e2
      have e3 := hj 3 (by decide)
      cases e3
      refine ⟨pl2_pt px py, no_is (pt_pt px py), fun _ => ⟨pl2_pt dx dy, no_is dk, fun _ => ⟨pl2_pt cx cy, no_is (pt_pt cx cy), fun _ => ⟨pl_rq S, no_is (pos_rq S0), fun _ => ⟨n4.1, fun _ => wk_ok T q, fun _ _ _ _ _ _ _ _ _ _ _ _ wy => ?_⟩⟩⟩⟩⟩
      have := wy_sd wy
      rw [n4.2] at this
      cases this
    | m + 5, hx => cases hx
theorem row1 {s : D} {cx cy S a b c e u : Rat} {b0 b1 b2 : D} (sp : Sp s a b c e u) (ss : SpSz a b c e u) (pc : PtSz cx cy) (sS : Sz 250 250 S) (S0 : 0 < S) (n0 : NotS b0) (n1 : NotP b1) (n2 : NotQ b2) :
    RowOk T 1 ["spot", "centre", "squared"] [s, pt cx cy, rq S] [b0, b1, b2] := by
  refine ⟨rfl, rfl, by decide, fun l hl m x hx hm hj Q E q => .inr (.inl ⟨rfl, hl, ?_⟩), fun Q E q => .inr (.inl ⟨rfl, rfl, ask_dist T sp ss pc sS S0 (q _)⟩)⟩
  match l, hl with
  | [l0, l1, l2], _ =>
    match m, hx with
    | 0, hx =>
      cases hx
      cases hm
      exact ⟨n0.1, fun _ => wk_ok T q, yes_is n0.2⟩
    | 1, hx =>
      cases hx
      cases hm
      have e0 := hj 0 (by decide)
      cases e0
      exact ⟨sp.pl, no_is sp.is, fun _ => ⟨n1.1, fun _ => wk_ok T q, yes_is n1.2⟩⟩
    | 2, hx =>
      cases hx
      cases hm
      have e0 := hj 0 (by decide)
      cases e0
      have e1 := hj 1 (by decide)
      cases e1
      exact ⟨sp.pl, no_is sp.is, fun _ => ⟨pl2_pt cx cy, no_is (pt_pt cx cy), fun _ => ⟨n2.1, fun _ => wk_ok T q, fun _ _ _ _ _ k => by rw [n2.2] at k; cases k⟩⟩⟩
    | m + 3, hx => cases hx
theorem row2 {s : D} {px py cx cy a b c e u : Rat} {b0 b1 b2 : D} (sp : Sp s a b c e u) (ss : SpSz a b c e u) (pp : PtSz px py) (pc : PtSz cx cy) (n0 : NotS b0) (n1 : NotP b1) (n2 : NotP b2) :
    RowOk T 2 ["spot", "one", "other"] [s, pt px py, pt cx cy] [b0, b1, b2] := by
  refine ⟨rfl, rfl, by decide, fun l hl m x hx hm hj Q E q => .inr (.inr ⟨rfl, hl, ?_⟩), fun Q E q => .inr (.inr ⟨rfl, rfl, ask_side T sp ss pp pc.b (q _)⟩)⟩
  match l, hl with
  | [l0, l1, l2], _ =>
    match m, hx with
    | 0, hx =>
      cases hx
      cases hm
      exact ⟨n0.1, fun _ => wk_ok T q, yes_is n0.2⟩
    | 1, hx =>
      cases hx
      cases hm
      have e0 := hj 0 (by decide)
      cases e0
      exact ⟨sp.pl, no_is sp.is, fun _ => ⟨n1.1, fun _ => wk_ok T q, yes_is n1.2⟩⟩
    | 2, hx =>
      cases hx
      cases hm
      have e0 := hj 0 (by decide)
      cases e0
      have e1 := hj 1 (by decide)
      cases e1
      exact ⟨sp.pl, no_is sp.is, fun _ => ⟨pl2_pt px py, no_is (pt_pt px py), fun _ => ⟨n2.1, fun _ => wk_ok T q, fun _ _ _ _ _ k => by have := n2.2; rw [k, pt_pt] at this; cases this⟩⟩⟩
    | m + 3, hx => cases hx
end
abbrev s_call : Stmt := topS 96
abbrev N_call : List Str := ["which", "asked", "e"]
abbrev P_call : List Str := ["which", "asked"]
theorem sc_call : FnScope N_call P_call (defScope s_call) := ⟨rfl, rfl, rfl, by decide +kernel, rfl, by decide +kernel, by decide +kernel⟩

section
variable {P : Program} {w : World} {K : PySem.W.Frag} {mg : Str → Option Value} {base : Heap}
theorem ok_lcall (T : Txt K mg) : FnOk P w K mg base (L2N.CX P w) 10 T.dcall.f T.dcall.fd P_call (spD K 2 (m_lcall T)) := by
  have G_failed : FnE P w K mg base 1 T.dfailed.f T.dfailed.fd P_failed (fun q => spXD K (m_failed T) q.1 q.2.cls q.2.dict) := ok_failed T
  have G_meet_line : FnOk P w K mg base (L2N.CX P w) 9 T.dmeet_line.f T.dmeet_line.fd P_meet_line (spD K 5 (m_meet_line T)) := ok_meet_line T
  have G_distance_sign : FnOk P w K mg base (L2N.CX P w) 9 T.ddistance_sign.f T.ddistance_sign.fd P_distance_sign (spD K 3 (m_distance_sign T)) := ok_distance_sign T
  have G_side_of : FnOk P w K mg base (L2N.CX P w) 8 T.dside_of.f T.dside_of.fd P_side_of (spD K 3 (m_side_of T)) := ok_side_of T
  refine T.dcall.okD sc_call fun cdv A outer s H E so A0 hr tk hp => ⟨_, (pds_one (pds_tryE (i := 2) rfl rfl sc_call.nd rfl rfl ⟨rfl, by decide, .inl T.cFrameError.g⟩ (fun W pn xe tk hp =>
        (pds_cons (pds_if (pdt_cmp (oo_eq hr.units) ol_eq (pd_var (pv 0)) pd_int (nomark _))
          (pds_one (pds_ret (pd_tup (pda_cons pd_str (pda_cons (pd_callK G_meet_line (hr.mono (by omega)) (by rfl) T.dmeet_line.g T.dmeet_line.F.kp T.dmeet_line.kb (fun σ => L2N.passAt tk σ) (pda_cons (pd_ix ix_seq ol_ix (pd_var (pv 1)) pd_int (fun _ _ => rfl)) (pda_cons (pd_ix ix_seq ol_ix (pd_var (pv 1)) pd_int (fun _ _ => rfl)) (pda_cons (pd_ix ix_seq ol_ix (pd_var (pv 1)) pd_int (fun _ _ => rfl)) (pda_cons (pd_ix ix_seq ol_ix (pd_var (pv 1)) pd_int (fun _ _ => rfl)) pda_nil)))) (pd_ix ix_seq ol_ix (pd_var (pv 1)) pd_int (fun _ _ => rfl))) pda_nil)))))
          pds_nil)
        (pds_cons (pds_if (pdt_cmp (oo_eq hr.units) ol_eq (pd_var (pv 0)) pd_int (nomark _))
          (pds_one (pds_ret (pd_tup (pda_cons pd_str (pda_cons (pd_call G_distance_sign (hr.mono (by omega)) (by rfl) T.ddistance_sign.g T.ddistance_sign.F.kp T.ddistance_sign.b (fun σ => L2N.passAt tk σ) (pda_cons (pd_ix ix_seq ol_ix (pd_var (pv 1)) pd_int (fun _ _ => rfl)) (pda_cons (pd_ix ix_seq ol_ix (pd_var (pv 1)) pd_int (fun _ _ => rfl)) (pda_cons (pd_ix ix_seq ol_ix (pd_var (pv 1)) pd_int (fun _ _ => rfl)) pda_nil)))) pda_nil)))))
          pds_nil)
        (pds_one (pds_ret (pd_tup (pda_cons pd_str (pda_cons (pd_call G_side_of (hr.mono (by omega)) (by rfl) T.dside_of.g T.dside_of.F.kp T.dside_of.b (fun σ => L2N.passAt tk σ) (pda_cons (pd_ix ix_seq ol_ix (pd_var (pv 1)) pd_int (fun _ _ => rfl)) (pda_cons (pd_ix ix_seq ol_ix (pd_var (pv 1)) pd_int (fun _ _ => rfl)) (pda_cons (pd_ix ix_seq ol_ix (pd_var (pv 1)) pd_int (fun _ _ => rfl)) pda_nil)))) pda_nil))))))))
        G_failed (hr.mono (by omega)) rfl T.dfailed.g T.dfailed.F.kp T.dfailed.b (fun _ _ => pv 2))), fun ds Q E hl h => ?_⟩
  unfold m_lcall at h
  split at h
  · rename_i w l
    rcases h with ⟨rfl, hl, h⟩ | ⟨rfl, hl, h⟩ | ⟨rfl, hl, h⟩
    · match l, hl with
      | [l0, l1, l2, l3, l4], _ =>
        walk_at "wk"
        simp only [ddIx_l3, ddIx_l4, dCallK]
        walk_at "wk"
        simp only [ddIx_l3, ddIx_l4, dCallK]
        exact ⟨by decide, h⟩
    · match l, hl with
      | [l0, l1, l2], _ =>
        walk_at "wk"
        exact ⟨by decide, h⟩
    · match l, hl with
      | [l0, l1, l2], _ =>
        walk_at "wk"
        exact ⟨by decide, h⟩
  · exact h.elim
end
end My
set_option exponentiation.threshold 100000
namespace My
open PySem PySem.Spec PyProof.Rows L2
local macro_rules | `(tactic| walk_at "dl") => `(tactic| simp only [startD, List.map_cons, List.map_nil, List.length_cons, List.length_nil, List.cons_append, List.nil_append, List.replicate_succ, List.replicate_zero, List.getElem?_cons_zero, List.getElem?_cons_succ, List.set_cons_zero, List.set_cons_succ,
  dVar, rdS, dC, dNew, dOp, onB, qB, dChain, qAnd, qOr, qNot, qTru, truD, dIf, dAnd, dOr, dNot, dUn, ddNeg, lNil, lCons, dTup, nLst, ddI, ddI0, ddAdd, isNonD, isBlD, ddIsN, ddIsB, ddIx_t0, ddIx_t1, ddIx_t2, ddIx_t3, ddIx_l0, ddIx_l1, ddIx_l2, dCB, ddLen, ddInt1, ddAbs, ddMM, ddTuple, nCB, nnList, ddIsi, dCall,
  sSkip, sSeq, sBreak, sCont, sExpr, sRet, sRetN, sIf, sNever, gdName, gdNil, gdCons, gdTup, sAsg, sSetN, sPar, sRaise, sFrz, owS, sApp, sIns, dLenO, dIxO, sTry, sFor, iL, iT, onL, onT, iR1, iR2, nComp, qYes,
  ddEq_ii, ddEq_ss, ddEq_bb, Bool.false_bne, Bool.true_bne, List.append_nil, true_and, and_true, if_true, if_false, Bool.not_true, Bool.not_false, Bool.true_eq_false, Bool.false_eq_true, ite_true, ite_false, id_eq])

local macro_rules | `(tactic| walk_at "is") => `(tactic| simp only [plain_non, isIn_non_int, isIn_non_str, isIn_non_bool, isIn_non_list, isIn_non_tuple, isIn_non_dict, plain_bl, isIn_bl_int, isIn_bl_str, isIn_bl_bool, isIn_bl_list, isIn_bl_tuple, isIn_bl_dict, plain_int, isIn_int_int, isIn_int_str, isIn_int_bool, isIn_int_list, isIn_int_tuple, isIn_int_dict, plain_str, isIn_str_int, isIn_str_str, isIn_str_bool, isIn_str_list, isIn_str_tuple, isIn_str_dict, plain_tup, isIn_tup_int, isIn_tup_str, isIn_tup_bool, isIn_tup_list, isIn_tup_tuple, isIn_tup_dict, plain_lst, isIn_lst_int, isIn_lst_str, isIn_lst_bool, isIn_lst_list, isIn_lst_tuple, isIn_lst_dict, sl0, sl1, sl2, sl3, sl4, decide_true, decide_false, ddIsi, ddIsi2, true_and, if_true, if_false, Bool.false_eq_true, Bool.not_true, Bool.not_false, Bool.or_true, Bool.or_false, Bool.true_or, and_true])
local macro_rules | `(tactic| walk_at "wk") => `(tactic| ((try walk_at "dl"); (try walk_at "is"); (try walk_at "dl")))

/-! ### refusals -/
def ways8 : List D := [.int 0, .int 2, .int (-2), .bl true, .non, .str "1", ratD 1 1, .lst [.int 1]]
theorem ways8_ok : ∀ d ∈ ways8, NotW d := fun d hd => by
  simp only [ways8, List.mem_cons, List.not_mem_nil, or_false] at hd
  rcases hd with rfl | rfl | rfl | rfl | rfl | rfl | rfl | rfl <;> exact ⟨rfl, rfl⟩
def m_refusals : DF := fun ds Q _ => ∃ px py dx dy cx cy S s a b c e u, ds = [.sto, askD px py dx dy cx cy S, s] ∧ (LnSz px py dx dy cx cy S ∧ 0 < S) ∧ Sp s a b c e u ∧ SpSz a b c e u ∧ Q (.bl true)
theorem range_ints {n : Nat} {l : List D} (h : ∀ d ∈ l, d ∈ rangeD 0 n) : ∃ ns : List Int, l = ns.map D.int ∧ ∀ k ∈ ns, 0 ≤ k ∧ k < n := by
  induction l with
  | nil => exact ⟨[], rfl, fun k hk => by cases hk⟩
  | cons d l ih =>
    obtain ⟨ns, e, hn⟩ := ih fun x hx => h x (List.mem_cons_of_mem _ hx)
    obtain ⟨i, hi⟩ := List.getElem?_of_mem (h d (List.mem_cons_self ..))
    obtain ⟨hj, rfl⟩ := rangeD_at hi
    refine ⟨(0 + (i : Int)) :: ns, by rw [e]; rfl, fun k hk => ?_⟩
    rcases List.mem_cons.mp hk with rfl | hk
    · omega
    · exact hn k hk
theorem atI_of {α : Type} {l : List α} {k : Int} {x : α} (h0 : 0 ≤ k) (h : l[k.toNat]? = some x) : atI l k = some x := by
  have : k = ((k.toNat : Nat) : Int) := by omega
  rw [this]
  exact atI_nat h
theorem ixN_of {n : Nat} {k : Int} (h0 : 0 ≤ k) (h1 : k < n) : ixN n k = some k.toNat := by
  unfold ixN
  rw [if_pos h0, if_pos (by omega)]
abbrev s_refusals : Stmt := topS 99
abbrev N_refusals : List Str := ["store", "asked", "spot", "names", "goods", "side_bad", "way_bad", "size_bad", "bads", "which", "bent", "call", "at"]
abbrev P_refusals : List Str := ["store", "asked", "spot"]
theorem sc_refusals : FnScope N_refusals P_refusals (defScope s_refusals) := ⟨rfl, rfl, rfl, by decide +kernel, rfl, by decide +kernel, by decide +kernel⟩

abbrev rR (ask s g sb wb zb : D) (nm bd : List D) (w b c a : Sl) : DEnv := [.fr .sto, .fr ask, .fr s, .ow nm, .fr g, .fr sb, .fr wb, .fr zb, .ow bd, w, b, c, a]
section
variable {P : Program} {w : World} {K : PySem.W.Frag} {mg : Str → Option Value} {base : Heap}
theorem ok_refusals (T : Txt K mg) : FnOk P w K mg base (L2N.CX P w) 178 T.drefusals.f T.drefusals.fd P_refusals (spD K 3 m_refusals) := by
  have G_take : FnOk P w K mg base (L2N.CX P w) 171 T.dtake.f T.dtake.fd P_take (spD K 2 m_take) := ok_takeD T
  have G_mixed : FnOk P w K mg base (L2N.CX P w) 172 T.dmixed.f T.dmixed.fd P_mixed (spD K 2 m_mixed) := ok_mixedD T
  have G_not_point : FnOk P w K mg base (L2N.CX P w) 175 T.dnot_point.f T.dnot_point.fd P_not_point (spD K 1 m_not_point) := ok_not_point T
  have G_not_direction : FnOk P w K mg base (L2N.CX P w) 175 T.dnot_direction.f T.dnot_direction.fd P_not_direction (spD K 1 m_not_direction) := ok_not_direction T
  have G_bad_size : FnOk P w K mg base (L2N.CX P w) 175 T.dbad_size.f T.dbad_size.fd P_bad_size (spD K 1 m_bad_size) := ok_bad_size T
  have G_bad_spot : FnOk P w K mg base (L2N.CX P w) 176 T.dbad_spot.f T.dbad_spot.fd P_bad_spot (spD K 1 m_bad_spot) := ok_bad_spot T
  have G_like : FnOk P w K mg base (L2N.CX P w) 3 T.dlike.f T.dlike.fd P_like (spD K 2 (m_like 3)) := ok_like T 3
  have G_call : FnOk P w K mg base (L2N.CX P w) 10 T.dcall.f T.dcall.fd P_call (spD K 2 (m_lcall T)) := ok_lcall T
  refine T.drefusals.okD sc_refusals fun cdv A outer s H E so A0 hr tk hp => ⟨_, (pds_cons (pds_setN (i := 3) sc_refusals.nd rfl (by first | exact .inl rfl | exact .inr rfl) (pdn_lst (pda_cons (pd_new (pdn_lst (pda_cons pd_str (pda_cons pd_str (pda_cons pd_str (pda_cons pd_str (pda_cons pd_str pda_nil))))))) (pda_cons (pd_new (pdn_lst (pda_cons pd_str (pda_cons pd_str (pda_cons pd_str pda_nil))))) pda_nil))))
      (pds_cons (pds_app (pv 3) (pd_new (pdn_lst (pda_cons pd_str (pda_cons pd_str (pda_cons pd_str pda_nil))))) rfl rfl rfl rfl rfl rfl)
      (pds_cons (pds_set (i := 4) sc_refusals.nd rfl (by first | exact .inl rfl | exact .inr rfl) (pd_new (pdn_lst (pda_cons (pd_op oo_add ol_add (pd_var (pv 1)) (pd_new (pdn_lst (pda_cons pd_int pda_nil)))) (pda_cons (pd_new (pdn_lst (pda_cons (pd_var (pv 2)) (pda_cons (pd_ix ix_seq ol_ix (pd_var (pv 1)) pd_int (fun _ _ => rfl)) (pda_cons (pd_ix ix_seq ol_ix (pd_var (pv 1)) pd_int (fun _ _ => rfl)) pda_nil))))) (pda_cons (pd_new (pdn_lst (pda_cons (pd_var (pv 2)) (pda_cons (pd_ix ix_seq ol_ix (pd_var (pv 1)) pd_int (fun _ _ => rfl)) (pda_cons (pd_ix ix_seq ol_ix (pd_var (pv 1)) pd_int (fun _ _ => rfl)) pda_nil))))) pda_nil))))))
      (pds_cons (pds_set (i := 5) sc_refusals.nd rfl (by first | exact .inl rfl | exact .inr rfl) (pd_ix ix_seq ol_ix (pd_new (pdn_lst (pda_cons pd_int (pda_cons pd_int (pda_cons (pd_neg pd_int) (pda_cons pd_bl (pda_cons pd_non (pda_cons pd_str (pda_cons (pd_tup (pda_cons pd_int (pda_cons pd_int pda_nil))) (pda_cons (pd_new (pdn_lst (pda_cons pd_int pda_nil))) pda_nil)))))))))) (pd_call G_take (hr.mono (by omega)) (by rfl) T.dtake.g T.dtake.F.kp T.dtake.b (fun σ => L2N.passAt tk σ) (pda_cons (pd_var (pv 0)) (pda_cons pd_int pda_nil))) (fun _ _ => rfl)))
      (pds_cons (pds_set (i := 6) sc_refusals.nd rfl (by first | exact .inl rfl | exact .inr rfl) (pd_call G_not_direction (hr.mono (by omega)) (by rfl) T.dnot_direction.g T.dnot_direction.F.kp T.dnot_direction.b (fun σ => L2N.passAt tk σ) (pda_cons (pd_var (pv 0)) pda_nil)))
      (pds_cons (pds_set (i := 7) sc_refusals.nd rfl (by first | exact .inl rfl | exact .inr rfl) (pd_call G_bad_size (hr.mono (by omega)) (by rfl) T.dbad_size.g T.dbad_size.F.kp T.dbad_size.b (fun σ => L2N.passAt tk σ) (pda_cons (pd_var (pv 0)) pda_nil)))
      (pds_cons (pds_setN (i := 8) sc_refusals.nd rfl (by first | exact .inl rfl | exact .inr rfl) (pdn_lst (pda_cons (pd_new (pdn_lst (pda_cons (pd_call G_not_point (hr.mono (by omega)) (by rfl) T.dnot_point.g T.dnot_point.F.kp T.dnot_point.b (fun σ => L2N.passAt tk σ) (pda_cons (pd_var (pv 0)) pda_nil)) (pda_cons (pd_var (pv 6)) (pda_cons (pd_call G_not_point (hr.mono (by omega)) (by rfl) T.dnot_point.g T.dnot_point.F.kp T.dnot_point.b (fun σ => L2N.passAt tk σ) (pda_cons (pd_var (pv 0)) pda_nil)) (pda_cons (pd_var (pv 7)) (pda_cons (pd_var (pv 5)) pda_nil))))))) pda_nil)))
      (pds_cons (pds_app (pv 8) (pd_new (pdn_lst (pda_cons (pd_call G_bad_spot (hr.mono (by omega)) (by rfl) T.dbad_spot.g T.dbad_spot.F.kp T.dbad_spot.b (fun σ => L2N.passAt tk σ) (pda_cons (pd_var (pv 0)) pda_nil)) (pda_cons (pd_call G_not_point (hr.mono (by omega)) (by rfl) T.dnot_point.g T.dnot_point.F.kp T.dnot_point.b (fun σ => L2N.passAt tk σ) (pda_cons (pd_var (pv 0)) pda_nil)) (pda_cons (pd_var (pv 7)) pda_nil))))) rfl rfl rfl rfl rfl rfl)
      (pds_cons (pds_app (pv 8) (pd_new (pdn_lst (pda_cons (pd_call G_bad_spot (hr.mono (by omega)) (by rfl) T.dbad_spot.g T.dbad_spot.F.kp T.dbad_spot.b (fun σ => L2N.passAt tk σ) (pda_cons (pd_var (pv 0)) pda_nil)) (pda_cons (pd_call G_not_point (hr.mono (by omega)) (by rfl) T.dnot_point.g T.dnot_point.F.kp T.dnot_point.b (fun σ => L2N.passAt tk σ) (pda_cons (pd_var (pv 0)) pda_nil)) (pda_cons (pd_call G_not_point (hr.mono (by omega)) (by rfl) T.dnot_point.g T.dnot_point.F.kp T.dnot_point.b (fun σ => L2N.passAt tk σ) (pda_cons (pd_var (pv 0)) pda_nil)) pda_nil))))) rfl rfl rfl rfl rfl rfl)
      (pds_cons (pds_for hp rfl (pdi_range1 (by rfl) T.m_range (pda_cons pd_int pda_nil)) (pdg_name (pg_name (i := 9) sc_refusals.nd rfl (by first | exact .inl rfl | exact .inr rfl)))
        (pds_cons (pds_set (i := 10) sc_refusals.nd rfl (by first | exact .inl rfl | exact .inr rfl) (pd_new (pdn_sorted (by rfl) T.m_sorted (pda_cons (pd_new (pdn_headE (pd_call G_mixed (hr.mono (by omega)) (by rfl) T.dmixed.g T.dmixed.F.kp T.dmixed.b (fun σ => L2N.passAt tk σ) (pda_cons (pd_var (pv 0)) (pda_cons (pd_new (pdn_listRg rfl (by rfl) T.m_list (by rfl) T.m_range (pd_callB oo_len cl_len (by rfl) T.m_len bt_len (pda_cons (pd_ixO (pv 3) (pd_var (pv 9)) (fun _ _ => rfl)) pda_nil)))) pda_nil))) (pd_op oo_add ol_add pd_int (pd_call G_take (hr.mono (by omega)) (by rfl) T.dtake.g T.dtake.F.kp T.dtake.b (fun σ => L2N.passAt tk σ) (pda_cons (pd_var (pv 0)) (pda_cons pd_int pda_nil)))))) pda_nil))))
        (pds_cons (pds_setN (i := 11) sc_refusals.nd rfl (by first | exact .inl rfl | exact .inr rfl) (pdn_list (by rfl) T.m_list (pda_cons (pd_ix ix_seq ol_ix (pd_var (pv 4)) (pd_var (pv 9)) (fun _ _ => rfl)) pda_nil)))
        (pds_cons (pds_for hp rfl (pdi_list (pd_var (pv 10))) (pdg_name (pg_name (i := 12) sc_refusals.nd rfl (by first | exact .inl rfl | exact .inr rfl)))
          (pds_one (pds_setI (pv 11) (pd_ix ix_seq ol_ix (pd_ixO (pv 8) (pd_var (pv 9)) (fun _ _ => rfl)) (pd_var (pv 12)) (fun _ _ => rfl)) (pd_var (pv 12)))))
        (pds_frz 11 (pds_cons (pds_if (pdt_not (pdt_tru (pd_call G_like (hr.mono (by omega)) (by rfl) T.dlike.g T.dlike.F.kp T.dlike.b (fun σ => L2N.passAt tk σ) (pda_cons (pd_call G_call (hr.mono (by omega)) (by rfl) T.dcall.g T.dcall.F.kp T.dcall.b (fun σ => L2N.passAt tk σ) (pda_cons (pd_var (pv 9)) (pda_cons (pd_var (pv 11)) pda_nil))) (pda_cons (pd_tup (pda_cons pd_str (pda_cons (pd_ix ix_seq ol_ix (pd_ixO (pv 3) (pd_var (pv 9)) (fun _ _ => rfl)) (pd_ix ix_seq ol_ix (pd_var (pv 10)) pd_int (fun _ _ => rfl)) (fun _ _ => rfl)) pda_nil))) pda_nil)))))
          (pds_one (pds_ret pd_bl))
          pds_nil)
        (pds_one (pds_if (pdt_cmp (oo_ne hr.units) ol_ne (pd_ix ix_seq ol_ix (pd_call G_call (hr.mono (by omega)) (by rfl) T.dcall.g T.dcall.F.kp T.dcall.b (fun σ => L2N.passAt tk σ) (pda_cons (pd_var (pv 9)) (pda_cons (pd_ix ix_seq ol_ix (pd_var (pv 4)) (pd_var (pv 9)) (fun _ _ => rfl)) pda_nil))) pd_int (fun _ _ => rfl)) pd_str (nomark _))
          (pds_one (pds_ret pd_bl))
          pds_nil))))))))
      (pds_one (pds_ret pd_bl)))))))))))), fun ds Q E hl h => ?_⟩
  obtain ⟨px, py, dx, dy, cx, cy, S, sp0, a, b, c, e, u, rfl, ⟨hz, S0⟩, sp, ss, h⟩ := h
  have sl : ∀ n, n ≤ 12 → n ≤ sizeLine := fun n h => by rw [sizeLine_eq]; omega
  have pc : PtSz cx cy := ⟨hz.l.c1.up (by decide) (by decide), hz.l.c2.up (by decide) (by decide)⟩
  have pp : PtSz px py := ⟨hz.l.p1.up (by decide) (by decide), hz.l.p2.up (by decide) (by decide)⟩
  show sSeq _ _ _ [.fr .sto, .fr (askD px py dx dy cx cy S), .fr sp0, .no, .no, .no, .no, .no, .no, .no, .no, .no, .no]
  let N0 : List Str := ["place", "direction", "centre", "squared", "side"]
  let N1 : List Str := ["spot", "centre", "squared"]
  let N2 : List Str := ["spot", "one", "other"]
  let NM : List D := [.lst (N0.map D.str), .lst (N1.map D.str), .lst (N2.map D.str)]
  let GG : D := .lst [.lst [pt px py, pt dx dy, pt cx cy, rq S, .int 1], .lst [sp0, pt cx cy, rq S], .lst [sp0, pt px py, pt cx cy]]
  refine seq_mid (P := fun ρ => ρ = [.fr .sto, .fr (askD px py dx dy cx cy S), .fr sp0, .ow (NM.take 2), .no, .no, .no, .no, .no, .no, .no, .no, .no]) (fun R hR => ?_) ?_
  · exact ⟨sl 5 (by decide), sl 3 (by decide), sl 2 (by decide), hR _ rfl⟩
  rintro _ rfl
  refine seq_mid (P := fun ρ => ρ = [.fr .sto, .fr (askD px py dx dy cx cy S), .fr sp0, .ow NM, .no, .no, .no, .no, .no, .no, .no, .no, .no]) (fun R hR => ?_) ?_
  · exact ⟨sl 3 (by decide), sl 3 (by decide), hR _ rfl⟩
  rintro _ rfl
  refine seq_mid (P := fun ρ => ρ = [.fr .sto, .fr (askD px py dx dy cx cy S), .fr sp0, .ow NM, .fr GG, .no, .no, .no, .no, .no, .no, .no, .no]) (fun R hR => ?_) ?_
  · simp only [askD] at hR ⊢
    walk_at "wk"
    simp only [ddIx_l3]
    exact ⟨sl 5 (by decide), hR _ rfl⟩
  rintro _ rfl
  generalize askD px py dx dy cx cy S = ask at *
  refine seq_mid (P := fun ρ => ∃ sb, NotW sb ∧ ρ = [.fr .sto, .fr ask, .fr sp0, .ow NM, .fr GG, .fr sb, .no, .no, .no, .no, .no, .no, .no]) (fun R hR => ?_) ?_
  · exact ⟨sl 2 (by decide), sl 1 (by decide), sl 8 (by decide), rfl, by decide, fun i i0 i1 => ddIx_any (l := ways8) i0 (by show i < 8; have : i = 0 ∨ i < 8 := i1; omega) fun d hd => hR _ ⟨d, ways8_ok d hd, rfl⟩⟩
  rintro _ ⟨sb, nsb, rfl⟩
  refine seq_mid (P := fun ρ => ∃ wb, NotV wb ∧ ρ = [.fr .sto, .fr ask, .fr sp0, .ow NM, .fr GG, .fr sb, .fr wb, .no, .no, .no, .no, .no, .no]) (fun R hR => ?_) ?_
  · exact ⟨rfl, fun d hd => hR _ ⟨d, hd, rfl⟩⟩
  rintro _ ⟨wb, nwb, rfl⟩
  refine seq_mid (P := fun ρ => ∃ zb, NotQ zb ∧ ρ = [.fr .sto, .fr ask, .fr sp0, .ow NM, .fr GG, .fr sb, .fr wb, .fr zb, .no, .no, .no, .no, .no]) (fun R hR => ?_) ?_
  · exact ⟨rfl, fun d hd => hR _ ⟨d, hd, rfl⟩⟩
  rintro _ ⟨zb, nzb, rfl⟩
  refine seq_mid (P := fun ρ => ∃ p1 p2, (NotP p1 ∧ NotP p2) ∧ ρ = [.fr .sto, .fr ask, .fr sp0, .ow NM, .fr GG, .fr sb, .fr wb, .fr zb, .ow [.lst [p1, wb, p2, zb, sb]], .no, .no, .no, .no]) (fun R hR => ?_) ?_
  · exact ⟨rfl, fun p1 h1 => ⟨rfl, fun p2 h2 => ⟨sl 5 (by decide), sl 1 (by decide), hR _ ⟨p1, p2, ⟨h1, h2⟩, rfl⟩⟩⟩⟩
  rintro _ ⟨p1, p2, ⟨n1, n2⟩, rfl⟩
  refine seq_mid (P := fun ρ => ∃ s1 p3, (NotS s1 ∧ NotP p3) ∧ ρ = [.fr .sto, .fr ask, .fr sp0, .ow NM, .fr GG, .fr sb, .fr wb, .fr zb, .ow [.lst [p1, wb, p2, zb, sb], .lst [s1, p3, zb]], .no, .no, .no, .no]) (fun R hR => ?_) ?_
  · exact ⟨rfl, fun s1 h1 => ⟨rfl, fun p3 h2 => ⟨sl 3 (by decide), sl 2 (by decide), hR _ ⟨s1, p3, ⟨h1, h2⟩, rfl⟩⟩⟩⟩
  rintro _ ⟨s1, p3, ⟨n3, n4⟩, rfl⟩
  refine seq_mid (P := fun ρ => ∃ s2 p4 p5, (NotS s2 ∧ NotP p4 ∧ NotP p5) ∧ ρ = [.fr .sto, .fr ask, .fr sp0, .ow NM, .fr GG, .fr sb, .fr wb, .fr zb, .ow [.lst [p1, wb, p2, zb, sb], .lst [s1, p3, zb], .lst [s2, p4, p5]], .no, .no, .no, .no]) (fun R hR => ?_) ?_
  · exact ⟨rfl, fun s1 h1 => ⟨rfl, fun p3 h2 => ⟨rfl, fun p4 h3 => ⟨sl 3 (by decide), sl 3 (by decide), hR _ ⟨s1, p3, p4, ⟨h1, h2, h3⟩, rfl⟩⟩⟩⟩⟩
  rintro _ ⟨s2, p4, p5, ⟨n5, n6, n7⟩, rfl⟩
  have rows : ∀ i : Nat, i < 3 → ∃ nw gw bw, NM[i]? = some (.lst (nw.map D.str)) ∧ atI [D.lst [pt px py, pt dx dy, pt cx cy, rq S, .int 1], .lst [sp0, pt cx cy, rq S], .lst [sp0, pt px py, pt cx cy]] (0 + (i : Int)) = some (.lst gw) ∧ [D.lst [p1, wb, p2, zb, sb], .lst [s1, p3, zb], .lst [s2, p4, p5]][i]? = some (.lst bw) ∧ RowOk T (0 + (i : Int)) nw gw bw := fun i hi => by
    match i, hi with
    | 0, _ => exact ⟨_, _, _, rfl, atI_0 _ _, rfl, row0 T hz S0 n1 nwb n2 nzb nsb⟩
    | 1, _ => exact ⟨_, _, _, rfl, atI_1 _ _ _, rfl, row1 T sp ss pc (hz.s.up (by decide) (by decide)) S0 n3 n4 nzb⟩
    | 2, _ => exact ⟨_, _, _, rfl, atI_2 _ _ _ _, rfl, row2 T sp ss pp pc n5 n6 n7⟩
  have NMl : NM.length = 3 := rfl
  generalize NM = NM at *
  generalize hB : [D.lst [p1, wb, p2, zb, sb], .lst [s1, p3, zb], .lst [s2, p4, p5]] = BD at *
  have BDl : BD.length = 3 := by rw [← hB]; rfl
  clear hB n1 n2 n3 n4 n5 n6 n7 nsb nwb nzb
  refine seq_mid (P := fun ρ => ∃ x1 x2 x3 x4, ρ = rR ask sp0 GG sb wb zb NM BD x1 x2 x3 x4) (fun R hR => ?_) ?_
  · walk_at "wk"
    refine ⟨by decide, by decide, ?_⟩
    refine forL_inv (P := fun i ρ => ∃ x1 x2 x3 x4, ρ = rR ask sp0 GG sb wb zb NM BD x1 x2 x3 x4) _ _ 0 ?_ ?_ ⟨_, _, _, _, rfl⟩
    · rintro i d ρ R' hi ⟨x1, x2, x3, x4, rfl⟩ hR'
      obtain ⟨hj, rfl⟩ := rangeD_at hi
      have hj : i < 3 := by have : (3 : Int).toNat = 3 := rfl; omega
      obtain ⟨nw, gw, bw, hN, hG, hB, row⟩ := rows i hj
      obtain ⟨r3, r5⟩ := row.n
      have hiN : (0 + (i : Int)).toNat = i := by omega
      show sSeq _ _ _ (rR ask sp0 GG sb wb zb NM BD (.fr (.int (0 + (i : Int)))) x2 x3 x4)
      refine seq_mid (P := fun ρ => ∃ ks : List Int, (ks ≠ [] ∧ ks.Pairwise (· ≤ ·) ∧ ∀ k ∈ ks, 0 ≤ k ∧ k < nw.length) ∧ ρ = rR ask sp0 GG sb wb zb NM BD (.fr (.int (0 + (i : Int)))) (.fr (.lst (ks.map D.int))) x3 x4) (fun R hR => ?_) ?_
      · simp only [rR] at hR ⊢
        walk_at "wk"
        simp only [nHeadE, nListRg]
        walk_at "wk"
        refine ⟨_, atI_of (by omega) (by rw [hiN]; exact hN), ?_⟩
        walk_at "wk"
        have el : ((List.map D.str nw).length : Int).toNat = nw.length := by rw [List.length_map]; omega
        rw [el]
        refine ⟨by omega, by rw [List.length_map]; omega, by rw [rangeD_len]; omega, fun l' hl' hm => ?_⟩
        obtain ⟨ns, rfl, hn⟩ := range_ints hm
        rw [rangeD_len, List.length_map] at hl'
        dsimp only
        refine ⟨by decide, fun r r0 r1 => ?_⟩
        dsimp only
        refine ⟨by omega, ns.take (1 + r).toNat, by rw [List.map_take], fun ns' hp hs => ?_⟩
        refine hR _ ⟨ns', ⟨fun z => ?_, hs, fun k hk => hn k (List.mem_of_mem_take (hp.mem_iff.mp hk))⟩, rfl⟩
        have := hp.length_eq
        rw [z, List.length_take, List.length_nil] at this
        omega
      rintro _ ⟨ks, ⟨k0, k1, k2⟩, rfl⟩
      refine seq_mid (P := fun ρ => ρ = rR ask sp0 GG sb wb zb NM BD (.fr (.int (0 + (i : Int)))) (.fr (.lst (ks.map D.int))) (.ow gw) x4) (fun R hR => ?_) ?_
      · simp only [rR] at hR ⊢
        walk_at "wk"
        exact ⟨_, hG, hR _ rfl⟩
      rintro _ rfl
      obtain ⟨m, kr, rfl⟩ : ∃ m kr, ks = m :: kr := by
        cases ks with
        | nil => exact absurd rfl k0
        | cons m kr => exact ⟨m, kr, rfl⟩
      have hm := k2 m (List.mem_cons_self ..)
      refine seq_mid (P := fun ρ => ∃ (l : List D) (x5 : Sl), (l.length = nw.length ∧ l[m.toNat]? = bw[m.toNat]? ∧ ∀ j, j < m.toNat → l[j]? = gw[j]?) ∧ ρ = rR ask sp0 GG sb wb zb NM BD (.fr (.int (0 + (i : Int)))) (.fr (.lst ((m :: kr).map D.int))) (.ow l) x5) (fun R hR => ?_) ?_
      · simp only [rR] at hR ⊢
        walk_at "wk"
        refine forL_inv (P := fun t ρ => ∃ (l : List D) (x5 : Sl), (l.length = nw.length ∧ (0 < t → l[m.toNat]? = bw[m.toNat]?) ∧ ∀ j, j < m.toNat → l[j]? = gw[j]?) ∧ ρ = rR ask sp0 GG sb wb zb NM BD (.fr (.int (0 + (i : Int)))) (.fr (.lst ((m :: kr).map D.int))) (.ow l) x5) _ _ 0 ?_ ?_ ⟨gw, _, ⟨row.g, fun z => absurd z (by decide), fun j _ => rfl⟩, rfl⟩
        · rintro t d ρ R2 ht ⟨l, x5, ⟨q1, q2, q3⟩, rfl⟩ hR2
          have hd : ∃ k, d = .int k ∧ k ∈ m :: kr ∧ (t = 0 → k = m) := by
            rw [← List.map_cons (f := D.int), List.getElem?_map] at ht
            cases e : (m :: kr)[t]? with
            | none =>
              rw [e] at ht
              cases ht
            | some k =>
              rw [e] at ht
              cases ht
              refine ⟨k, rfl, List.mem_of_getElem? e, fun z => ?_⟩
              subst z
              cases e
              rfl
          obtain ⟨k, rfl, hk, hk0⟩ := hd
          have hkr := k2 k hk
          have mk : m ≤ k := by
            rcases List.mem_cons.mp hk with rfl | hk'
            · exact Int.le_refl _
            · exact (List.pairwise_cons.mp k1).1 k hk'
          simp only [rR] at hR2 ⊢
          walk_at "wk"
          have hb : k.toNat < bw.length := by rw [row.b]; omega
          refine ⟨_, atI_of (by omega) (by rw [hiN]; exact hB), ?_⟩
          refine ⟨bw[k.toNat], atI_of hkr.1 (List.getElem?_eq_getElem hb), ?_⟩
          refine ⟨k.toNat, ixN_of hkr.1 (by rw [q1]; exact hkr.2), ?_⟩
          refine hR2 _ ⟨l.set k.toNat bw[k.toNat], _, ⟨by rw [List.length_set]; exact q1, fun _ => ?_, fun j hj => ?_⟩, rfl⟩
          · by_cases e : k = m
            · subst e
              rw [List.getElem?_set_self (by rw [q1]; omega), List.getElem?_eq_getElem hb]
            · rw [List.getElem?_set_ne (by omega)]
              refine q2 ?_
              rcases Nat.eq_zero_or_pos t with z | z
              · exact absurd (hk0 z) e
              · omega
          · rw [List.getElem?_set_ne (by omega)]
            exact q3 j hj
        · rintro ρ ⟨l, x5, ⟨q1, q2, q3⟩, rfl⟩
          exact hR _ ⟨l, x5, ⟨q1, q2 (by rw [List.length_cons]; omega), q3⟩, rfl⟩
      rintro _ ⟨l, x5, ⟨q1, q2, q3⟩, rfl⟩
      refine frz_at (l := l) rfl ?_
      have hnw : m.toNat < nw.length := by omega
      refine seq_mid (P := fun ρ => ρ = rR ask sp0 GG sb wb zb NM BD (.fr (.int (0 + (i : Int)))) (.fr (.lst ((m :: kr).map D.int))) (.fr (.lst l)) x5) (fun R hR => ?_) ?_
      · simp only [rR] at hR ⊢
        walk_at "wk"
        refine row.bad l q1 m.toNat nw[m.toNat] (List.getElem?_eq_getElem hnw) q2 q3 _ _ ?_
        refine ⟨_, atI_of (by omega) (by rw [hiN]; exact hN), ?_⟩
        refine ⟨.str nw[m.toNat], atI_of hm.1 (by rw [List.getElem?_map, List.getElem?_eq_getElem hnw]; rfl), ?_⟩
        refine ⟨_, rfl, by simp [TreeD, wkD], ?_⟩
        walk_at "wk"
        exact hR _ rfl
      rintro _ rfl
      simp only [rR] at hR' ⊢
      walk_at "wk"
      refine ⟨_, hG, ?_⟩
      refine row.good _ _ fun d => ?_
      simp only [tld]
      walk_at "wk"
      exact hR' _ ⟨_, _, _, _, rfl⟩
    · rintro ρ ⟨x1, x2, x3, x4, rfl⟩
      exact hR _ ⟨_, _, _, _, rfl⟩
  rintro _ ⟨x1, x2, x3, x4, rfl⟩
  exact h
end
end My
set_option exponentiation.threshold 100000
namespace My
open PySem PySem.Spec PyProof.Rows L2
local macro_rules | `(tactic| walk_at "dl") => `(tactic| simp only [startD, List.map_cons, List.map_nil, List.length_cons, List.length_nil, List.cons_append, List.nil_append, List.replicate_succ, List.replicate_zero, List.getElem?_cons_zero, List.getElem?_cons_succ, List.set_cons_zero, List.set_cons_succ,
  dVar, rdS, dC, dNew, dOp, onB, qB, dChain, qAnd, qOr, qNot, qTru, truD, dIf, dAnd, dOr, dNot, dUn, ddNeg, lNil, lCons, dTup, nLst, ddI, ddI0, ddAdd, isNonD, isBlD, ddIsN, ddIsB, ddIx_t0, ddIx_t1, ddIx_t2, ddIx_t3, ddIx_l0, ddIx_l1, ddIx_l2, dCB, ddLen, ddInt1, ddAbs, ddMM, ddTuple, nCB, nnList, ddIsi, dCall,
  sSkip, sSeq, sBreak, sCont, sExpr, sRet, sRetN, sIf, sNever, gdName, gdNil, gdCons, gdTup, sAsg, sSetN, sPar, sRaise, sFrz, owS, sApp, sIns, dLenO, dIxO, sTry, sFor, iL, iT, onL, onT, iR1, iR2, nComp, qYes,
  ddEq_ii, ddEq_ss, ddEq_bb, Bool.false_bne, Bool.true_bne, List.append_nil, true_and, and_true, if_true, if_false, Bool.not_true, Bool.not_false, Bool.true_eq_false, Bool.false_eq_true, ite_true, ite_false, id_eq])

local macro_rules | `(tactic| walk_at "is") => `(tactic| simp only [plain_non, isIn_non_int, isIn_non_str, isIn_non_bool, isIn_non_list, isIn_non_tuple, isIn_non_dict, plain_bl, isIn_bl_int, isIn_bl_str, isIn_bl_bool, isIn_bl_list, isIn_bl_tuple, isIn_bl_dict, plain_int, isIn_int_int, isIn_int_str, isIn_int_bool, isIn_int_list, isIn_int_tuple, isIn_int_dict, plain_str, isIn_str_int, isIn_str_str, isIn_str_bool, isIn_str_list, isIn_str_tuple, isIn_str_dict, plain_tup, isIn_tup_int, isIn_tup_str, isIn_tup_bool, isIn_tup_list, isIn_tup_tuple, isIn_tup_dict, plain_lst, isIn_lst_int, isIn_lst_str, isIn_lst_bool, isIn_lst_list, isIn_lst_tuple, isIn_lst_dict, sl0, sl1, sl2, sl3, sl4, decide_true, decide_false, ddIsi, ddIsi2, true_and, if_true, if_false, Bool.false_eq_true, Bool.not_true, Bool.not_false, Bool.or_true, Bool.or_false, Bool.true_or, and_true])
local macro_rules | `(tactic| walk_at "wk") => `(tactic| ((try walk_at "dl"); (try walk_at "is"); (try walk_at "dl")))

theorem line_shape (px py dx dy cx cy S σ : Rat) : ∃ w l, lineD px py dx dy cx cy S σ = .tup (.str w :: l) ∧ (heiL px py dx dy cx cy S < 0 → w = "far") ∧ (¬ heiL px py dx dy cx cy S < 0 → w ≠ "far") := by
  unfold lineD
  split
  · rename_i h
    exact ⟨_, _, rfl, fun _ => rfl, fun k => absurd h k⟩
  · rename_i h
    unfold spotD
    split
    · exact ⟨_, _, rfl, fun k => absurd k h, fun _ => by decide⟩
    · exact ⟨_, _, rfl, fun k => absurd k h, fun _ => by decide⟩
theorem tree_line (px py dx dy cx cy S σ : Rat) : TreeD 4 (lineD px py dx dy cx cy S σ) := by
  unfold lineD
  split
  · simp [TreeD, rq, ratD]
  · unfold spotD
    split <;> simp [TreeD, pt, rq, ratD]
abbrev s_law : Stmt := topS 100
abbrev N_law : List Str := ["script", "store", "asked", "first", "spot", "way", "told", "other"]
abbrev P_law : List Str := ["script"]
theorem sc_law : FnScope N_law P_law (defScope s_law) := ⟨rfl, rfl, rfl, by decide +kernel, rfl, by decide +kernel, by decide +kernel⟩

abbrev lL (a f p w t o : Sl) : DEnv := [.no, .fr .sto, a, f, p, w, t, o]
section
variable {P : Program} {w : World} {K : PySem.W.Frag} {mg : Str → Option Value} {base : Heap}
theorem ok_law (T : Txt K mg) : FnOk P w K mg base (L2N.CX P w) 179 T.dlaw.f T.dlaw.fd P_law (spLaw K) := by
  have G_store : FnOk P w K mg base CX0 1 T.dstore.f T.dstore.fd P_store (spStoreL K) := ok_storeL T
  have G_drawn : FnOk P w K mg base (L2N.CX P w) 178 T.ddrawn.f T.ddrawn.fd P_drawn (spD K 1 m_line) := ok_drawn T
  have G_line_circle : FnOk P w K mg base (L2N.CX P w) 177 T.dline_circle.f T.dline_circle.fd P_line_circle (spD K 1 m_line) := ok_line_circle T
  have G_meet_line : FnOk P w K mg base (L2N.CX P w) 9 T.dmeet_line.f T.dmeet_line.fd P_meet_line (spD K 5 (m_meet_line T)) := ok_meet_line T
  have G_right : FnOk P w K mg base (L2N.CX P w) 6 T.dright.f T.dright.fd P_right (spD K 6 m_right) := ok_right T
  have G_spot_right : FnOk P w K mg base (L2N.CX P w) 176 T.dspot_right.f T.dspot_right.fd P_spot_right (spD K 4 m_spot_right) := ok_spot_right T
  have G_like : FnOk P w K mg base (L2N.CX P w) 4 T.dlike.f T.dlike.fd P_like (spD K 2 (m_like 4)) := ok_like T 4
  have G_refusals : FnOk P w K mg base (L2N.CX P w) 178 T.drefusals.f T.drefusals.fd P_refusals (spD K 3 m_refusals) := ok_refusals T
  refine T.dlaw.okLaw sc_law fun cdv A outer s H E g hr tk hp => ⟨_, (pds_storeL (i := 1) G_store (hr.mono (by omega)) (by rfl) T.dstore.g T.dstore.F.kp T.dstore.b (pv 0) sc_law.nd rfl (by first | exact .inl rfl | exact .inr rfl) (hs1 := rfl) (hsw := rfl) (hf := by first | exact .inl rfl | exact .inr rfl) (h := fun _ => (pds_cons (pds_set (i := 2) sc_law.nd rfl (by first | exact .inl rfl | exact .inr rfl) (pd_call G_drawn (hr.mono (by omega)) (by rfl) T.ddrawn.g T.ddrawn.F.kp T.ddrawn.b (fun σ => L2N.passAt tk σ) (pda_cons (pd_var (pv 1)) pda_nil)))
      (pds_cons (pds_set (i := 3) sc_law.nd rfl (by first | exact .inl rfl | exact .inr rfl) pd_non)
      (pds_cons (pds_set (i := 4) sc_law.nd rfl (by first | exact .inl rfl | exact .inr rfl) (pd_tup (pda_cons pd_str (pda_cons (pd_ix ix_seq ol_ix (pd_var (pv 2)) pd_int (fun _ _ => rfl)) pda_nil))))
      (pds_cons (pds_for hp rfl (pdi_list (pd_new (pdn_lst (pda_cons pd_int (pda_cons (pd_neg pd_int) (pda_cons pd_int pda_nil)))))) (pdg_name (pg_name (i := 5) sc_law.nd rfl (by first | exact .inl rfl | exact .inr rfl)))
        (pds_cons (pds_set (i := 6) sc_law.nd rfl (by first | exact .inl rfl | exact .inr rfl) (pd_callK G_meet_line (hr.mono (by omega)) (by rfl) T.dmeet_line.g T.dmeet_line.F.kp T.dmeet_line.kb (fun σ => L2N.passAt tk σ) (pda_cons (pd_ix ix_seq ol_ix (pd_var (pv 2)) pd_int (fun _ _ => rfl)) (pda_cons (pd_ix ix_seq ol_ix (pd_var (pv 2)) pd_int (fun _ _ => rfl)) (pda_cons (pd_ix ix_seq ol_ix (pd_var (pv 2)) pd_int (fun _ _ => rfl)) (pda_cons (pd_ix ix_seq ol_ix (pd_var (pv 2)) pd_int (fun _ _ => rfl)) pda_nil)))) (pd_var (pv 5))))
        (pds_cons (pds_if (pdt_not (pdt_tru (pd_call G_right (hr.mono (by omega)) (by rfl) T.dright.g T.dright.F.kp T.dright.b (fun σ => L2N.passAt tk σ) (pda_cons (pd_ix ix_seq ol_ix (pd_var (pv 2)) pd_int (fun _ _ => rfl)) (pda_cons (pd_ix ix_seq ol_ix (pd_var (pv 2)) pd_int (fun _ _ => rfl)) (pda_cons (pd_ix ix_seq ol_ix (pd_var (pv 2)) pd_int (fun _ _ => rfl)) (pda_cons (pd_ix ix_seq ol_ix (pd_var (pv 2)) pd_int (fun _ _ => rfl)) (pda_cons (pd_var (pv 5)) (pda_cons (pd_var (pv 6)) pda_nil)))))))))
          (pds_one (pds_ret pd_bl))
          pds_nil)
        (pds_cons (pds_if (pdt_cmp o_isN ol_isN (pd_var (pv 3)) pd_non (nomark _))
          (pds_one (pds_set (i := 3) sc_law.nd rfl (by first | exact .inl rfl | exact .inr rfl) (pd_var (pv 6))))
          pds_nil)
        (pds_one (pds_if (pdt_cmp (oo_ne hr.units) ol_ne (pd_ix ix_seq ol_ix (pd_var (pv 6)) pd_int (fun _ _ => rfl)) pd_str (nomark _))
          (pds_cons (pds_set (i := 4) sc_law.nd rfl (by first | exact .inl rfl | exact .inr rfl) (pd_var (pv 6)))
          (pds_one (pds_if (pdt_not (pdt_tru (pd_call G_spot_right (hr.mono (by omega)) (by rfl) T.dspot_right.g T.dspot_right.F.kp T.dspot_right.b (fun σ => L2N.passAt tk σ) (pda_cons (pd_var (pv 1)) (pda_cons (pd_var (pv 2)) (pda_cons (pd_var (pv 5)) (pda_cons (pd_var (pv 6)) pda_nil)))))))
            (pds_one (pds_ret pd_bl))
            pds_nil)))
          pds_nil))))))
      (pds_cons (pds_if (pdt_not (pdt_tru (pd_call G_like (hr.mono (by omega)) (by rfl) T.dlike.g T.dlike.F.kp T.dlike.b (fun σ => L2N.passAt tk σ) (pda_cons (pd_callD (dds := [.int 1]) G_meet_line (hr.mono (by omega)) (by rfl) T.dmeet_line.g T.dmeet_line.F.kp T.dmeet_line.bd T.dmeet_line.vd (fun _ _ => DaL.one rfl) (fun σ => L2N.passAt tk σ) (pda_cons (pd_ix ix_seq ol_ix (pd_var (pv 2)) pd_int (fun _ _ => rfl)) (pda_cons (pd_ix ix_seq ol_ix (pd_var (pv 2)) pd_int (fun _ _ => rfl)) (pda_cons (pd_ix ix_seq ol_ix (pd_var (pv 2)) pd_int (fun _ _ => rfl)) (pda_cons (pd_ix ix_seq ol_ix (pd_var (pv 2)) pd_int (fun _ _ => rfl)) pda_nil))))) (pda_cons (pd_var (pv 3)) pda_nil)))))
        (pds_one (pds_ret pd_bl))
        pds_nil)
      (pds_cons (pds_set (i := 7) sc_law.nd rfl (by first | exact .inl rfl | exact .inr rfl) (pd_call G_line_circle (hr.mono (by omega)) (by rfl) T.dline_circle.g T.dline_circle.F.kp T.dline_circle.b (fun σ => L2N.passAt tk σ) (pda_cons (pd_var (pv 1)) pda_nil)))
      (pds_cons (pds_if (pdt_not (pdt_tru (pd_call G_right (hr.mono (by omega)) (by rfl) T.dright.g T.dright.F.kp T.dright.b (fun σ => L2N.passAt tk σ) (pda_cons (pd_ix ix_seq ol_ix (pd_var (pv 7)) pd_int (fun _ _ => rfl)) (pda_cons (pd_ix ix_seq ol_ix (pd_var (pv 7)) pd_int (fun _ _ => rfl)) (pda_cons (pd_ix ix_seq ol_ix (pd_var (pv 7)) pd_int (fun _ _ => rfl)) (pda_cons (pd_ix ix_seq ol_ix (pd_var (pv 7)) pd_int (fun _ _ => rfl)) (pda_cons pd_int (pda_cons (pd_callD (dds := [.int 1]) G_meet_line (hr.mono (by omega)) (by rfl) T.dmeet_line.g T.dmeet_line.F.kp T.dmeet_line.bd T.dmeet_line.vd (fun _ _ => DaL.one rfl) (fun σ => L2N.passAt tk σ) (pda_cons (pd_ix ix_seq ol_ix (pd_var (pv 7)) pd_int (fun _ _ => rfl)) (pda_cons (pd_ix ix_seq ol_ix (pd_var (pv 7)) pd_int (fun _ _ => rfl)) (pda_cons (pd_ix ix_seq ol_ix (pd_var (pv 7)) pd_int (fun _ _ => rfl)) (pda_cons (pd_ix ix_seq ol_ix (pd_var (pv 7)) pd_int (fun _ _ => rfl)) pda_nil))))) pda_nil)))))))))
        (pds_one (pds_ret pd_bl))
        pds_nil)
      (pds_one (pds_ret (pd_call G_refusals (hr.mono (by omega)) (by rfl) T.drefusals.g T.drefusals.F.kp T.drefusals.b (fun σ => L2N.passAt tk σ) (pda_cons (pd_var (pv 1)) (pda_cons (pd_var (pv 2)) (pda_cons (pd_var (pv 4)) pda_nil))))))))))))))), fun ns hns => ?_⟩
  refine ⟨trivial, (by show 1 < 8; decide), ns, rfl, hns, ?_⟩
  show sSeq _ _ lawEnds (lL .no .no .no .no .no .no)
  refine seq_mid (P := fun ρ => ∃ px py dx dy cx cy S, (LnSz px py dx dy cx cy S ∧ 0 < S) ∧ ρ = lL (.fr (askD px py dx dy cx cy S)) .no .no .no .no .no) (fun R hR => ?_) ?_
  · exact ⟨rfl, fun px py dx dy cx cy S h0 h1 => hR _ ⟨px, py, dx, dy, cx, cy, S, ⟨h0, h1⟩, rfl⟩⟩
  rintro _ ⟨px, py, dx, dy, cx, cy, S, ⟨hz, S0⟩, rfl⟩
  refine seq_mid (P := fun ρ => ρ = lL (.fr (askD px py dx dy cx cy S)) (.fr .non) .no .no .no .no) (fun R hR => ?_) ?_
  · exact hR _ rfl
  rintro _ rfl
  refine seq_mid (P := fun ρ => ρ = lL (.fr (askD px py dx dy cx cy S)) (.fr .non) (.fr (.tup [.str "at", pt cx cy])) .no .no .no) (fun R hR => ?_) ?_
  · simp only [askD, lL] at hR ⊢
    walk_at "wk"
    exact hR _ rfl
  rintro _ rfl
  refine seq_mid (P := fun ρ => ∃ s a b c e u x5 x6, (Sp s a b c e u ∧ SpSz a b c e u) ∧ ρ = lL (.fr (askD px py dx dy cx cy S)) (.fr (lineD px py dx dy cx cy S 1)) (.fr s) x5 x6 .no) (fun R hR => ?_) ?_
  · obtain ⟨w1, l1, h1, _⟩ := line_shape px py dx dy cx cy S 1
    simp only [lL] at hR ⊢
    walk_at "wk"
    refine forL_inv (P := fun i ρ => ∃ s a b c e u x5 x6 f, (Sp s a b c e u ∧ SpSz a b c e u) ∧ (i = 0 → f = .non) ∧ (0 < i → f = .tup (.str w1 :: l1)) ∧ ρ = lL (.fr (askD px py dx dy cx cy S)) (.fr f) (.fr s) x5 x6 .no) _ _ 0 ?_ ?_
      ⟨_, cx, cy, 0, 0, 0, _, _, _, ⟨.inl ⟨rfl, rfl, rfl, rfl⟩, ⟨hz.l.c1.up (by decide) (by decide), hz.l.c2.up (by decide) (by decide), ⟨by decide, by decide⟩, ⟨by decide, by decide⟩, ⟨by decide, by decide⟩⟩⟩, fun _ => rfl, fun h => absurd h (by decide), rfl⟩
    · rintro i d ρ R' hi ⟨s, a, b, c, e, u, x5, x6, f, ⟨sp, ss⟩, f0, f1, rfl⟩ hR'
      have hd : ∃ (j : Int) (σ : Rat), d = .int j ∧ Wi j σ ∧ (0 + i = 0 → σ = 1) := by
        match i, hi with
        | 0, hi => cases hi; exact ⟨1, 1, rfl, .inl ⟨rfl, rfl⟩, fun _ => rfl⟩
        | 1, hi => cases hi; exact ⟨-1, -1, rfl, .inr ⟨rfl, rfl⟩, fun h => absurd h (by decide)⟩
        | 2, hi => cases hi; exact ⟨1, 1, rfl, .inl ⟨rfl, rfl⟩, fun _ => rfl⟩
        | i + 3, hi => cases hi
      obtain ⟨j, σ, rfl, wi, first⟩ := hd
      obtain ⟨wd, tl, hL, hf, hnf⟩ := line_shape px py dx dy cx cy S σ
      simp only [lL] at hR' ⊢
      have fin : ∀ s' a b c e u, Sp s' a b c e u → SpSz a b c e u → R' [.no, .fr .sto, .fr (askD px py dx dy cx cy S), .fr (.tup (.str w1 :: l1)), .fr s', .fr (.int j), .fr (lineD px py dx dy cx cy S σ), .no] := fun s' a b c e u sp ss => hR' _ ⟨s', a, b, c, e, u, _, _, _, ⟨sp, ss⟩, fun z => absurd z (by omega), fun _ => rfl, rfl⟩
      simp only [askD] at fin ⊢
      rcases Nat.eq_zero_or_pos (0 + i) with z | z
      · have := f0 z
        subst this
        have := first z
        subst this
        walk_at "wk"
        simp only [dCallK]
        walk_at "wk"
        simp only [ddIx_l3]
        refine tell_line T hz S0 wi.wy ?_
        refine ⟨px, py, dx, dy, cx, cy, S, 1, j, rfl, ⟨hz, S0⟩, wi, ?_⟩
        walk_at "wk"
        by_cases hc : heiL px py dx dy cx cy S < 0
        · have := hf hc
          subst this
          rw [hL] at fin ⊢
          rw [hL] at h1
          cases h1
          walk_at "wk"
          exact fin _ _ _ _ _ _ sp ss
        · have nf := hnf hc
          obtain ⟨a', b', c', e', u', sp', ss', _⟩ := line_spot hz wi.wy hc hL
          rw [h1] at hL
          cases hL
          rw [h1] at fin ⊢
          walk_at "wk"
          rw [decide_eq_false nf]
          walk_at "wk"
          refine ⟨px, py, dx, dy, cx, cy, S, 1, j, _, rfl, ⟨hz, S0⟩, wi, hc, h1, ?_⟩
          walk_at "wk"
          exact fin _ _ _ _ _ _ sp' ss'
      · have := f1 z
        subst this
        walk_at "wk"
        simp only [dCallK]
        walk_at "wk"
        simp only [ddIx_l3]
        refine tell_line T hz S0 wi.wy ?_
        refine ⟨px, py, dx, dy, cx, cy, S, σ, j, rfl, ⟨hz, S0⟩, wi, ?_⟩
        walk_at "wk"
        by_cases hc : heiL px py dx dy cx cy S < 0
        · have := hf hc
          subst this
          rw [hL] at fin ⊢
          walk_at "wk"
          exact fin _ _ _ _ _ _ sp ss
        · have nf := hnf hc
          obtain ⟨a', b', c', e', u', sp', ss', _⟩ := line_spot hz wi.wy hc hL
          rw [hL] at fin ⊢
          walk_at "wk"
          rw [decide_eq_false nf]
          walk_at "wk"
          refine ⟨px, py, dx, dy, cx, cy, S, σ, j, _, rfl, ⟨hz, S0⟩, wi, hc, hL, ?_⟩
          walk_at "wk"
          exact fin _ _ _ _ _ _ sp' ss'
    · rintro ρ ⟨s, a, b, c, e, u, x5, x6, f, ⟨sp, ss⟩, f0, f1, rfl⟩
      have := f1 (by simp)
      subst this
      rw [← h1]
      exact hR _ ⟨s, a, b, c, e, u, x5, x6, ⟨sp, ss⟩, rfl⟩
  rintro _ ⟨s, a, b, c, e, u, x5, x6, ⟨sp, ss⟩, rfl⟩
  refine seq_mid (P := fun ρ => ρ = lL (.fr (askD px py dx dy cx cy S)) (.fr (lineD px py dx dy cx cy S 1)) (.fr s) x5 x6 .no) (fun R hR => ?_) ?_
  · simp only [lL, askD] at hR ⊢
    walk_at "wk"
    simp only [ddIx_l3]
    refine tell_line T hz S0 (.inl ⟨rfl, rfl⟩ : Wy (.int 1) 1) ?_
    refine ⟨_, rfl, tree_line .., ?_⟩
    walk_at "wk"
    exact hR _ rfl
  rintro _ rfl
  refine seq_mid (P := fun ρ => ∃ px' py' dx' dy' cx' cy' S', (LnSz px' py' dx' dy' cx' cy' S' ∧ 0 < S') ∧ ρ = lL (.fr (askD px py dx dy cx cy S)) (.fr (lineD px py dx dy cx cy S 1)) (.fr s) x5 x6 (.fr (askD px' py' dx' dy' cx' cy' S'))) (fun R hR => ?_) ?_
  · exact ⟨rfl, fun px py dx dy cx cy S h0 h1 => hR _ ⟨px, py, dx, dy, cx, cy, S, ⟨h0, h1⟩, rfl⟩⟩
  rintro _ ⟨px', py', dx', dy', cx', cy', S', ⟨hz', S0'⟩, rfl⟩
  refine seq_mid (P := fun ρ => ρ = lL (.fr (askD px py dx dy cx cy S)) (.fr (lineD px py dx dy cx cy S 1)) (.fr s) x5 x6 (.fr (askD px' py' dx' dy' cx' cy' S'))) (fun R hR => ?_) ?_
  · generalize askD px py dx dy cx cy S = ak at *
    simp only [lL, askD] at hR ⊢
    walk_at "wk"
    simp only [ddIx_l3]
    refine tell_line T hz' S0' (.inl ⟨rfl, rfl⟩ : Wy (.int 1) 1) ?_
    refine ⟨_, _, _, _, _, _, _, 1, 1, rfl, ⟨hz', S0'⟩, .inl ⟨rfl, rfl⟩, ?_⟩
    walk_at "wk"
    exact hR _ rfl
  rintro _ rfl
  simp only [lL]
  walk_at "wk"
  exact ⟨px, py, dx, dy, cx, cy, S, s, a, b, c, e, u, rfl, ⟨hz, S0⟩, sp, ss, rfl⟩
end
end My
namespace My
open PySem PySem.Spec PyProof.Rows L2
theorem cl_of {K : PySem.W.Frag} {C N : Addr} {nm q : Str} {bs bm : List Value} {sn : List Str} {sub : List Value} {ab : Bool} {col : Option Bool} {dd : Option Addr} {m0 m1 m2 m3 m5 : Option Value}
    (h : K.lookup C = some (excClassObj nm q C N bs bm true sn sub ab col dd m0 m1 m2 m3 m5 "ValueError.__new__")) : (PySem.W.clsIn K C).isSome = true := by
  unfold PySem.W.clsIn
  rw [h]
  rfl
theorem kcls_r {K : PySem.W.Frag} {C D : Addr} {v : Bool} (h1 : PySem.W.isClsIn K D = true) (h2 : PySem.W.typeIn K (.ref D) = some (.type "type")) (h : PySem.W.subIn K (.ref C) (.ref D) = some v) : PySem.W.kitCls K (.ref C) (.ref D) = some v := by
  unfold PySem.W.kitCls
  dsimp only
  rw [h2, show (PySem.W.clsIn K D).isSome = true from h1, h]
  rfl
theorem kit_tR {K : PySem.W.Frag} {C D : Addr} (h1 : PySem.W.isClsIn K D = true) (h2 : PySem.W.typeIn K (.ref D) = some (.type "type")) (h : PySem.W.subIn K (.ref C) (.ref D) = some true) : PySem.W.kitOne K (.ref C) (.ref D) = some true := by
  unfold PySem.W.kitOne
  split
  · rfl
  · exact kcls_r h1 h2 h
theorem kit_fR {K : PySem.W.Frag} {C D : Addr} (h0 : Nat.beq C D = false) (h1 : PySem.W.isClsIn K D = true) (h2 : PySem.W.typeIn K (.ref D) = some (.type "type")) (h : PySem.W.subIn K (.ref C) (.ref D) = some false) : PySem.W.kitOne K (.ref C) (.ref D) = some false := by
  unfold PySem.W.kitOne
  split
  · rename_i e
    cases beq_iff_eq.mp e
    rw [Nat.beq_refl] at h0
    cases h0
  · exact kcls_r h1 h2 h
theorem kit_tT {K : PySem.W.Frag} {C : Addr} (h : PySem.W.subIn K (.ref C) (.type "ValueError") = some true) : PySem.W.kitOne K (.ref C) (.type "ValueError") = some true := by
  unfold PySem.W.kitOne
  split
  · rfl
  · unfold PySem.W.kitCls
    dsimp only
    rw [show PySem.W.kitMeta "ValueError" = true from by kernel_rfl]
    exact h
theorem exm_t {K : PySem.W.Frag} {C D : Addr} (h0 : PySem.W.subIn K (.ref D) (.type "BaseException") = some true) (h1 : PySem.W.isClsIn K D = true) (h2 : PySem.W.typeIn K (.ref D) = some (.type "type")) (h : PySem.W.subIn K (.ref C) (.ref D) = some true) : PySem.W.exmOne K (.ref C) (.ref D) = some true := by
  unfold PySem.W.exmOne
  rw [h0]
  exact kcls_r h1 h2 h
theorem all_mk {l : PySem.W.OpenLaw} {w : World} {K : PySem.W.Frag} {h : Heap} {mg : Str → Option Value} {fa : Addr} (X : K.In h) (G : h.Ns mainGlobals mg) (hfa : mg "law" = some (.ref fa))
    {CFrameError CWrongKind COutOfBounds CRepeatedName CUnknownName CUnfitError CZeroDivisor CNegativeRoot CUnsafe CBadText : Addr}
    {f_is_whole : Addr} {od_is_whole an_is_whole : Option Addr} {sl_is_whole : Array (Option Value)} {oc_is_whole kV_is_whole dc_is_whole pm_is_whole cd_is_whole ct_is_whole : Value}
    {f_divisor : Addr} {od_divisor an_divisor : Option Addr} {sl_divisor : Array (Option Value)} {oc_divisor kV_divisor dc_divisor pm_divisor cd_divisor ct_divisor : Value}
    {f_lowest : Addr} {od_lowest an_lowest : Option Addr} {sl_lowest : Array (Option Value)} {oc_lowest kV_lowest dc_lowest pm_lowest cd_lowest ct_lowest : Value}
    {f_sign_of : Addr} {od_sign_of an_sign_of : Option Addr} {sl_sign_of : Array (Option Value)} {oc_sign_of kV_sign_of dc_sign_of pm_sign_of cd_sign_of ct_sign_of : Value}
    {f_floor_root : Addr} {od_floor_root an_floor_root : Option Addr} {sl_floor_root : Array (Option Value)} {oc_floor_root kV_floor_root dc_floor_root pm_floor_root cd_floor_root ct_floor_root : Value}
    {f_need_ratio : Addr} {od_need_ratio an_need_ratio : Option Addr} {sl_need_ratio : Array (Option Value)} {oc_need_ratio kV_need_ratio dc_need_ratio pm_need_ratio cd_need_ratio ct_need_ratio : Value}
    {f_need_two : Addr} {od_need_two an_need_two : Option Addr} {sl_need_two : Array (Option Value)} {oc_need_two kV_need_two dc_need_two pm_need_two cd_need_two ct_need_two : Value}
    {f_is_ratio : Addr} {od_is_ratio an_is_ratio : Option Addr} {sl_is_ratio : Array (Option Value)} {oc_is_ratio kV_is_ratio dc_is_ratio pm_is_ratio cd_is_ratio ct_is_ratio : Value}
    {f_add : Addr} {od_add an_add : Option Addr} {sl_add : Array (Option Value)} {oc_add kV_add dc_add pm_add cd_add ct_add : Value}
    {f_subtract : Addr} {od_subtract an_subtract : Option Addr} {sl_subtract : Array (Option Value)} {oc_subtract kV_subtract dc_subtract pm_subtract cd_subtract ct_subtract : Value}
    {f_multiply : Addr} {od_multiply an_multiply : Option Addr} {sl_multiply : Array (Option Value)} {oc_multiply kV_multiply dc_multiply pm_multiply cd_multiply ct_multiply : Value}
    {f_divide : Addr} {od_divide an_divide : Option Addr} {sl_divide : Array (Option Value)} {oc_divide kV_divide dc_divide pm_divide cd_divide ct_divide : Value}
    {f_sign : Addr} {od_sign an_sign : Option Addr} {sl_sign : Array (Option Value)} {oc_sign kV_sign dc_sign pm_sign cd_sign ct_sign : Value}
    {f_root : Addr} {od_root an_root : Option Addr} {sl_root : Array (Option Value)} {oc_root kV_root dc_root pm_root cd_root ct_root : Value}
    {f_root_sign : Addr} {od_root_sign an_root_sign : Option Addr} {sl_root_sign : Array (Option Value)} {oc_root_sign kV_root_sign dc_root_sign pm_root_sign cd_root_sign ct_root_sign : Value}
    {f_is_point : Addr} {od_is_point an_is_point : Option Addr} {sl_is_point : Array (Option Value)} {oc_is_point kV_is_point dc_is_point pm_is_point cd_is_point ct_is_point : Value}
    {f_point_sum : Addr} {od_point_sum an_point_sum : Option Addr} {sl_point_sum : Array (Option Value)} {oc_point_sum kV_point_sum dc_point_sum pm_point_sum cd_point_sum ct_point_sum : Value}
    {f_point_gap : Addr} {od_point_gap an_point_gap : Option Addr} {sl_point_gap : Array (Option Value)} {oc_point_gap kV_point_gap dc_point_gap pm_point_gap cd_point_gap ct_point_gap : Value}
    {f_point_times : Addr} {od_point_times an_point_times : Option Addr} {sl_point_times : Array (Option Value)} {oc_point_times kV_point_times dc_point_times pm_point_times cd_point_times ct_point_times : Value}
    {f_point_dot : Addr} {od_point_dot an_point_dot : Option Addr} {sl_point_dot : Array (Option Value)} {oc_point_dot kV_point_dot dc_point_dot pm_point_dot cd_point_dot ct_point_dot : Value}
    {f_point_cross : Addr} {od_point_cross an_point_cross : Option Addr} {sl_point_cross : Array (Option Value)} {oc_point_cross kV_point_cross dc_point_cross pm_point_cross cd_point_cross ct_point_cross : Value}
    {f_point_square : Addr} {od_point_square an_point_square : Option Addr} {sl_point_square : Array (Option Value)} {oc_point_square kV_point_square dc_point_square pm_point_square cd_point_square ct_point_square : Value}
    {f_is_positive : Addr} {od_is_positive an_is_positive : Option Addr} {sl_is_positive : Array (Option Value)} {oc_is_positive kV_is_positive dc_is_positive pm_is_positive cd_is_positive ct_is_positive : Value}
    {f_is_side : Addr} {od_is_side an_is_side : Option Addr} {sl_is_side : Array (Option Value)} {oc_is_side kV_is_side dc_is_side pm_is_side cd_is_side ct_is_side : Value}
    {f_is_spot : Addr} {od_is_spot an_is_spot : Option Addr} {sl_is_spot : Array (Option Value)} {oc_is_spot kV_is_spot dc_is_spot pm_is_spot cd_is_spot ct_is_spot : Value}
    {f_check_point : Addr} {od_check_point an_check_point : Option Addr} {sl_check_point : Array (Option Value)} {oc_check_point kV_check_point dc_check_point pm_check_point cd_check_point ct_check_point : Value}
    {f_check_positive : Addr} {od_check_positive an_check_positive : Option Addr} {sl_check_positive : Array (Option Value)} {oc_check_positive kV_check_positive dc_check_positive pm_check_positive cd_check_positive ct_check_positive : Value}
    {f_spot_at : Addr} {od_spot_at an_spot_at : Option Addr} {sl_spot_at : Array (Option Value)} {oc_spot_at kV_spot_at dc_spot_at pm_spot_at cd_spot_at ct_spot_at : Value}
    {f_meet_line : Addr} {od_meet_line an_meet_line : Option Addr} {sl_meet_line : Array (Option Value)} {oc_meet_line dc_meet_line pm_meet_line cd_meet_line ct_meet_line : Value}
    {Dkw : Addr} {tkw : Tok}
    {f_spot_parts : Addr} {od_spot_parts an_spot_parts : Option Addr} {sl_spot_parts : Array (Option Value)} {oc_spot_parts kV_spot_parts dc_spot_parts pm_spot_parts cd_spot_parts ct_spot_parts : Value}
    {f_side_of : Addr} {od_side_of an_side_of : Option Addr} {sl_side_of : Array (Option Value)} {oc_side_of kV_side_of dc_side_of pm_side_of cd_side_of ct_side_of : Value}
    {f_distance_sign : Addr} {od_distance_sign an_distance_sign : Option Addr} {sl_distance_sign : Array (Option Value)} {oc_distance_sign kV_distance_sign dc_distance_sign pm_distance_sign cd_distance_sign ct_distance_sign : Value}
    {f_store : Addr} {od_store an_store : Option Addr} {sl_store : Array (Option Value)} {oc_store kV_store dc_store pm_store cd_store ct_store : Value}
    {f_take : Addr} {od_take an_take : Option Addr} {sl_take : Array (Option Value)} {oc_take kV_take dc_take pm_take cd_take ct_take : Value}
    {f_edge : Addr} {od_edge an_edge : Option Addr} {sl_edge : Array (Option Value)} {oc_edge kV_edge dc_edge pm_edge cd_edge ct_edge : Value}
    {f_between : Addr} {od_between an_between : Option Addr} {sl_between : Array (Option Value)} {oc_between kV_between dc_between pm_between cd_between ct_between : Value}
    {f_mixed : Addr} {od_mixed an_mixed : Option Addr} {sl_mixed : Array (Option Value)} {oc_mixed kV_mixed dc_mixed pm_mixed cd_mixed ct_mixed : Value}
    {f_low : Addr} {od_low an_low : Option Addr} {sl_low : Array (Option Value)} {oc_low kV_low dc_low pm_low cd_low ct_low : Value}
    {f_plus : Addr} {od_plus an_plus : Option Addr} {sl_plus : Array (Option Value)} {oc_plus kV_plus dc_plus pm_plus cd_plus ct_plus : Value}
    {f_minus : Addr} {od_minus an_minus : Option Addr} {sl_minus : Array (Option Value)} {oc_minus kV_minus dc_minus pm_minus cd_minus ct_minus : Value}
    {f_times : Addr} {od_times an_times : Option Addr} {sl_times : Array (Option Value)} {oc_times kV_times dc_times pm_times cd_times ct_times : Value}
    {f_over : Addr} {od_over an_over : Option Addr} {sl_over : Array (Option Value)} {oc_over kV_over dc_over pm_over cd_over ct_over : Value}
    {f_neg : Addr} {od_neg an_neg : Option Addr} {sl_neg : Array (Option Value)} {oc_neg kV_neg dc_neg pm_neg cd_neg ct_neg : Value}
    {f_sgn : Addr} {od_sgn an_sgn : Option Addr} {sl_sgn : Array (Option Value)} {oc_sgn kV_sgn dc_sgn pm_sgn cd_sgn ct_sgn : Value}
    {f_cmp : Addr} {od_cmp an_cmp : Option Addr} {sl_cmp : Array (Option Value)} {oc_cmp kV_cmp dc_cmp pm_cmp cd_cmp ct_cmp : Value}
    {f_padd : Addr} {od_padd an_padd : Option Addr} {sl_padd : Array (Option Value)} {oc_padd kV_padd dc_padd pm_padd cd_padd ct_padd : Value}
    {f_psub : Addr} {od_psub an_psub : Option Addr} {sl_psub : Array (Option Value)} {oc_psub kV_psub dc_psub pm_psub cd_psub ct_psub : Value}
    {f_pmul : Addr} {od_pmul an_pmul : Option Addr} {sl_pmul : Array (Option Value)} {oc_pmul kV_pmul dc_pmul pm_pmul cd_pmul ct_pmul : Value}
    {f_pdot : Addr} {od_pdot an_pdot : Option Addr} {sl_pdot : Array (Option Value)} {oc_pdot kV_pdot dc_pdot pm_pdot cd_pdot ct_pdot : Value}
    {f_pcross : Addr} {od_pcross an_pcross : Option Addr} {sl_pcross : Array (Option Value)} {oc_pcross kV_pcross dc_pcross pm_pcross cd_pcross ct_pcross : Value}
    {f_pleft : Addr} {od_pleft an_pleft : Option Addr} {sl_pleft : Array (Option Value)} {oc_pleft kV_pleft dc_pleft pm_pleft cd_pleft ct_pleft : Value}
    {f_psq : Addr} {od_psq an_psq : Option Addr} {sl_psq : Array (Option Value)} {oc_psq kV_psq dc_psq pm_psq cd_psq ct_psq : Value}
    {f_pzero : Addr} {od_pzero an_pzero : Option Addr} {sl_pzero : Array (Option Value)} {oc_pzero kV_pzero dc_pzero pm_pzero cd_pzero ct_pzero : Value}
    {f_small : Addr} {od_small an_small : Option Addr} {sl_small : Array (Option Value)} {oc_small kV_small dc_small pm_small cd_small ct_small : Value}
    {f_positive : Addr} {od_positive an_positive : Option Addr} {sl_positive : Array (Option Value)} {oc_positive kV_positive dc_positive pm_positive cd_positive ct_positive : Value}
    {f_point : Addr} {od_point an_point : Option Addr} {sl_point : Array (Option Value)} {oc_point kV_point dc_point pm_point cd_point ct_point : Value}
    {f_direction : Addr} {od_direction an_direction : Option Addr} {sl_direction : Array (Option Value)} {oc_direction kV_direction dc_direction pm_direction cd_direction ct_direction : Value}
    {f_not_ratio : Addr} {od_not_ratio an_not_ratio : Option Addr} {sl_not_ratio : Array (Option Value)} {oc_not_ratio kV_not_ratio dc_not_ratio pm_not_ratio cd_not_ratio ct_not_ratio : Value}
    {f_not_point : Addr} {od_not_point an_not_point : Option Addr} {sl_not_point : Array (Option Value)} {oc_not_point kV_not_point dc_not_point pm_not_point cd_not_point ct_not_point : Value}
    {f_not_direction : Addr} {od_not_direction an_not_direction : Option Addr} {sl_not_direction : Array (Option Value)} {oc_not_direction kV_not_direction dc_not_direction pm_not_direction cd_not_direction ct_not_direction : Value}
    {f_is_int : Addr} {od_is_int an_is_int : Option Addr} {sl_is_int : Array (Option Value)} {oc_is_int kV_is_int dc_is_int pm_is_int cd_is_int ct_is_int : Value}
    {f_lis_ratio : Addr} {od_lis_ratio an_lis_ratio : Option Addr} {sl_lis_ratio : Array (Option Value)} {oc_lis_ratio kV_lis_ratio dc_lis_ratio pm_lis_ratio cd_lis_ratio ct_lis_ratio : Value}
    {f_lis_point : Addr} {od_lis_point an_lis_point : Option Addr} {sl_lis_point : Array (Option Value)} {oc_lis_point kV_lis_point dc_lis_point pm_lis_point cd_lis_point ct_lis_point : Value}
    {f_is_word : Addr} {od_is_word an_is_word : Option Addr} {sl_is_word : Array (Option Value)} {oc_is_word kV_is_word dc_is_word pm_is_word cd_is_word ct_is_word : Value}
    {f_whole_root : Addr} {od_whole_root an_whole_root : Option Addr} {sl_whole_root : Array (Option Value)} {oc_whole_root kV_whole_root dc_whole_root pm_whole_root cd_whole_root ct_whole_root : Value}
    {f_lroot : Addr} {od_lroot an_lroot : Option Addr} {sl_lroot : Array (Option Value)} {oc_lroot kV_lroot dc_lroot pm_lroot cd_lroot ct_lroot : Value}
    {f_lroot_sign : Addr} {od_lroot_sign an_lroot_sign : Option Addr} {sl_lroot_sign : Array (Option Value)} {oc_lroot_sign kV_lroot_sign dc_lroot_sign pm_lroot_sign cd_lroot_sign ct_lroot_sign : Value}
    {f_lspot_parts : Addr} {od_lspot_parts an_lspot_parts : Option Addr} {sl_lspot_parts : Array (Option Value)} {oc_lspot_parts kV_lspot_parts dc_lspot_parts pm_lspot_parts cd_lspot_parts ct_lspot_parts : Value}
    {f_spot_apart : Addr} {od_spot_apart an_spot_apart : Option Addr} {sl_spot_apart : Array (Option Value)} {oc_spot_apart kV_spot_apart dc_spot_apart pm_spot_apart cd_spot_apart ct_spot_apart : Value}
    {f_line_circle : Addr} {od_line_circle an_line_circle : Option Addr} {sl_line_circle : Array (Option Value)} {oc_line_circle kV_line_circle dc_line_circle pm_line_circle cd_line_circle ct_line_circle : Value}
    {f_like : Addr} {od_like an_like : Option Addr} {sl_like : Array (Option Value)} {oc_like kV_like dc_like pm_like cd_like ct_like : Value}
    {f_long : Addr} {od_long an_long : Option Addr} {sl_long : Array (Option Value)} {oc_long kV_long dc_long pm_long cd_long ct_long : Value}
    {f_wide_line : Addr} {od_wide_line an_wide_line : Option Addr} {sl_wide_line : Array (Option Value)} {oc_wide_line kV_wide_line dc_wide_line pm_wide_line cd_wide_line ct_wide_line : Value}
    {f_gap : Addr} {od_gap an_gap : Option Addr} {sl_gap : Array (Option Value)} {oc_gap kV_gap dc_gap pm_gap cd_gap ct_gap : Value}
    {f_drawn : Addr} {od_drawn an_drawn : Option Addr} {sl_drawn : Array (Option Value)} {oc_drawn kV_drawn dc_drawn pm_drawn cd_drawn ct_drawn : Value}
    {f_on_line : Addr} {od_on_line an_on_line : Option Addr} {sl_on_line : Array (Option Value)} {oc_on_line kV_on_line dc_on_line pm_on_line cd_on_line ct_on_line : Value}
    {f_right : Addr} {od_right an_right : Option Addr} {sl_right : Array (Option Value)} {oc_right kV_right dc_right pm_right cd_right ct_right : Value}
    {f_spot_right : Addr} {od_spot_right an_spot_right : Option Addr} {sl_spot_right : Array (Option Value)} {oc_spot_right kV_spot_right dc_spot_right pm_spot_right cd_spot_right ct_spot_right : Value}
    {f_failed : Addr} {od_failed an_failed : Option Addr} {sl_failed : Array (Option Value)} {oc_failed kV_failed dc_failed pm_failed cd_failed ct_failed : Value}
    {f_call : Addr} {od_call an_call : Option Addr} {sl_call : Array (Option Value)} {oc_call kV_call dc_call pm_call cd_call ct_call : Value}
    {f_bad_size : Addr} {od_bad_size an_bad_size : Option Addr} {sl_bad_size : Array (Option Value)} {oc_bad_size kV_bad_size dc_bad_size pm_bad_size cd_bad_size ct_bad_size : Value}
    {f_bad_spot : Addr} {od_bad_spot an_bad_spot : Option Addr} {sl_bad_spot : Array (Option Value)} {oc_bad_spot kV_bad_spot dc_bad_spot pm_bad_spot cd_bad_spot ct_bad_spot : Value}
    {f_refusals : Addr} {od_refusals an_refusals : Option Addr} {sl_refusals : Array (Option Value)} {oc_refusals kV_refusals dc_refusals pm_refusals cd_refusals ct_refusals : Value}
    {f_law : Addr} {od_law an_law : Option Addr} {sl_law : Array (Option Value)} {oc_law kV_law dc_law pm_law cd_law ct_law : Value}
    {nmWrongKind qnWrongKind : Str} {NWrongKind : Addr} {bsWrongKind bmWrongKind : List Value} {snWrongKind : List Str} {subWrongKind : List Value} {abWrongKind : Bool} {colWrongKind : Option Bool} {ddWrongKind : Option Addr} {m0WrongKind m1WrongKind m2WrongKind m3WrongKind m5WrongKind : Option Value}
    {fiWrongKind : Addr} {odiWrongKind aniWrongKind : Option Addr} {sliWrongKind : Array (Option Value)} {ociWrongKind kViWrongKind dciWrongKind pmiWrongKind cdiWrongKind ctiWrongKind : Value}
    {aORIGIN aOA aOB : Addr} {dNORIGIN : Option Addr} {nNORIGIN : Nat} {sNORIGIN : Array (Option Value)}
    {aZERO_RATIO : Addr} {dNZERO_RATIO : Option Addr} {nNZERO_RATIO : Nat} {sNZERO_RATIO : Array (Option Value)} {tk0ZERO_RATIO tk1ZERO_RATIO : Tok}
    {dNOA : Option Addr} {nNOA : Nat} {sNOA : Array (Option Value)} {tk0OA tk1OA : Tok}
    {dNOB : Option Addr} {nNOB : Nat} {sNOB : Array (Option Value)} {tk0OB tk1OB : Tok}
    (aFrameError : PySem.W.nsIn K mainGlobals "FrameError" = some (some (.ref CFrameError)))
    (aWrongKind : PySem.W.nsIn K mainGlobals "WrongKind" = some (some (.ref CWrongKind)))
    (aOutOfBounds : PySem.W.nsIn K mainGlobals "OutOfBounds" = some (some (.ref COutOfBounds)))
    (aRepeatedName : PySem.W.nsIn K mainGlobals "RepeatedName" = some (some (.ref CRepeatedName)))
    (aUnknownName : PySem.W.nsIn K mainGlobals "UnknownName" = some (some (.ref CUnknownName)))
    (aUnfitError : PySem.W.nsIn K mainGlobals "UnfitError" = some (some (.ref CUnfitError)))
    (aZeroDivisor : PySem.W.nsIn K mainGlobals "ZeroDivisor" = some (some (.ref CZeroDivisor)))
    (aNegativeRoot : PySem.W.nsIn K mainGlobals "NegativeRoot" = some (some (.ref CNegativeRoot)))
    (aUnsafe : PySem.W.nsIn K mainGlobals "Unsafe" = some (some (.ref CUnsafe)))
    (aBadText : PySem.W.nsIn K mainGlobals "BadText" = some (some (.ref CBadText)))
    (a_is_whole : PySem.W.nsIn K mainGlobals "is_whole" = some (some (.ref f_is_whole)))
    (l_is_whole : K.lookup f_is_whole = some ⟨oc_is_whole, od_is_whole, .func (PySem.W.fnOf "is_whole" "is_whole" (defArgs (topS 12)) (defBody (topS 12)) (defScope (topS 12)) .none kV_is_whole dc_is_whole pm_is_whole an_is_whole cd_is_whole ct_is_whole), sl_is_whole⟩)
    (c_is_whole : PySem.W.codeIn K cd_is_whole "is_whole" = true)
    (k_is_whole : PySem.W.keepIn K (.ref f_is_whole) = true)
    (a_divisor : PySem.W.nsIn K mainGlobals "divisor" = some (some (.ref f_divisor)))
    (l_divisor : K.lookup f_divisor = some ⟨oc_divisor, od_divisor, .func (PySem.W.fnOf "divisor" "divisor" (defArgs (topS 13)) (defBody (topS 13)) (defScope (topS 13)) .none kV_divisor dc_divisor pm_divisor an_divisor cd_divisor ct_divisor), sl_divisor⟩)
    (c_divisor : PySem.W.codeIn K cd_divisor "divisor" = true)
    (k_divisor : PySem.W.keepIn K (.ref f_divisor) = true)
    (a_lowest : PySem.W.nsIn K mainGlobals "lowest" = some (some (.ref f_lowest)))
    (l_lowest : K.lookup f_lowest = some ⟨oc_lowest, od_lowest, .func (PySem.W.fnOf "lowest" "lowest" (defArgs (topS 14)) (defBody (topS 14)) (defScope (topS 14)) .none kV_lowest dc_lowest pm_lowest an_lowest cd_lowest ct_lowest), sl_lowest⟩)
    (c_lowest : PySem.W.codeIn K cd_lowest "lowest" = true)
    (k_lowest : PySem.W.keepIn K (.ref f_lowest) = true)
    (a_sign_of : PySem.W.nsIn K mainGlobals "sign_of" = some (some (.ref f_sign_of)))
    (l_sign_of : K.lookup f_sign_of = some ⟨oc_sign_of, od_sign_of, .func (PySem.W.fnOf "sign_of" "sign_of" (defArgs (topS 15)) (defBody (topS 15)) (defScope (topS 15)) .none kV_sign_of dc_sign_of pm_sign_of an_sign_of cd_sign_of ct_sign_of), sl_sign_of⟩)
    (c_sign_of : PySem.W.codeIn K cd_sign_of "sign_of" = true)
    (k_sign_of : PySem.W.keepIn K (.ref f_sign_of) = true)
    (a_floor_root : PySem.W.nsIn K mainGlobals "floor_root" = some (some (.ref f_floor_root)))
    (l_floor_root : K.lookup f_floor_root = some ⟨oc_floor_root, od_floor_root, .func (PySem.W.fnOf "floor_root" "floor_root" (defArgs (topS 16)) (defBody (topS 16)) (defScope (topS 16)) .none kV_floor_root dc_floor_root pm_floor_root an_floor_root cd_floor_root ct_floor_root), sl_floor_root⟩)
    (c_floor_root : PySem.W.codeIn K cd_floor_root "floor_root" = true)
    (k_floor_root : PySem.W.keepIn K (.ref f_floor_root) = true)
    (a_need_ratio : PySem.W.nsIn K mainGlobals "need_ratio" = some (some (.ref f_need_ratio)))
    (l_need_ratio : K.lookup f_need_ratio = some ⟨oc_need_ratio, od_need_ratio, .func (PySem.W.fnOf "need_ratio" "need_ratio" (defArgs (topS 17)) (defBody (topS 17)) (defScope (topS 17)) .none kV_need_ratio dc_need_ratio pm_need_ratio an_need_ratio cd_need_ratio ct_need_ratio), sl_need_ratio⟩)
    (c_need_ratio : PySem.W.codeIn K cd_need_ratio "need_ratio" = true)
    (k_need_ratio : PySem.W.keepIn K (.ref f_need_ratio) = true)
    (a_need_two : PySem.W.nsIn K mainGlobals "need_two" = some (some (.ref f_need_two)))
    (l_need_two : K.lookup f_need_two = some ⟨oc_need_two, od_need_two, .func (PySem.W.fnOf "need_two" "need_two" (defArgs (topS 18)) (defBody (topS 18)) (defScope (topS 18)) .none kV_need_two dc_need_two pm_need_two an_need_two cd_need_two ct_need_two), sl_need_two⟩)
    (c_need_two : PySem.W.codeIn K cd_need_two "need_two" = true)
    (k_need_two : PySem.W.keepIn K (.ref f_need_two) = true)
    (a_is_ratio : PySem.W.nsIn K mainGlobals "is_ratio" = some (some (.ref f_is_ratio)))
    (l_is_ratio : K.lookup f_is_ratio = some ⟨oc_is_ratio, od_is_ratio, .func (PySem.W.fnOf "is_ratio" "is_ratio" (defArgs (topS 19)) (defBody (topS 19)) (defScope (topS 19)) .none kV_is_ratio dc_is_ratio pm_is_ratio an_is_ratio cd_is_ratio ct_is_ratio), sl_is_ratio⟩)
    (c_is_ratio : PySem.W.codeIn K cd_is_ratio "is_ratio" = true)
    (k_is_ratio : PySem.W.keepIn K (.ref f_is_ratio) = true)
    (a_add : PySem.W.nsIn K mainGlobals "add" = some (some (.ref f_add)))
    (l_add : K.lookup f_add = some ⟨oc_add, od_add, .func (PySem.W.fnOf "add" "add" (defArgs (topS 20)) (defBody (topS 20)) (defScope (topS 20)) .none kV_add dc_add pm_add an_add cd_add ct_add), sl_add⟩)
    (c_add : PySem.W.codeIn K cd_add "add" = true)
    (k_add : PySem.W.keepIn K (.ref f_add) = true)
    (a_subtract : PySem.W.nsIn K mainGlobals "subtract" = some (some (.ref f_subtract)))
    (l_subtract : K.lookup f_subtract = some ⟨oc_subtract, od_subtract, .func (PySem.W.fnOf "subtract" "subtract" (defArgs (topS 21)) (defBody (topS 21)) (defScope (topS 21)) .none kV_subtract dc_subtract pm_subtract an_subtract cd_subtract ct_subtract), sl_subtract⟩)
    (c_subtract : PySem.W.codeIn K cd_subtract "subtract" = true)
    (k_subtract : PySem.W.keepIn K (.ref f_subtract) = true)
    (a_multiply : PySem.W.nsIn K mainGlobals "multiply" = some (some (.ref f_multiply)))
    (l_multiply : K.lookup f_multiply = some ⟨oc_multiply, od_multiply, .func (PySem.W.fnOf "multiply" "multiply" (defArgs (topS 22)) (defBody (topS 22)) (defScope (topS 22)) .none kV_multiply dc_multiply pm_multiply an_multiply cd_multiply ct_multiply), sl_multiply⟩)
    (c_multiply : PySem.W.codeIn K cd_multiply "multiply" = true)
    (k_multiply : PySem.W.keepIn K (.ref f_multiply) = true)
    (a_divide : PySem.W.nsIn K mainGlobals "divide" = some (some (.ref f_divide)))
    (l_divide : K.lookup f_divide = some ⟨oc_divide, od_divide, .func (PySem.W.fnOf "divide" "divide" (defArgs (topS 23)) (defBody (topS 23)) (defScope (topS 23)) .none kV_divide dc_divide pm_divide an_divide cd_divide ct_divide), sl_divide⟩)
    (c_divide : PySem.W.codeIn K cd_divide "divide" = true)
    (k_divide : PySem.W.keepIn K (.ref f_divide) = true)
    (a_sign : PySem.W.nsIn K mainGlobals "sign" = some (some (.ref f_sign)))
    (l_sign : K.lookup f_sign = some ⟨oc_sign, od_sign, .func (PySem.W.fnOf "sign" "sign" (defArgs (topS 24)) (defBody (topS 24)) (defScope (topS 24)) .none kV_sign dc_sign pm_sign an_sign cd_sign ct_sign), sl_sign⟩)
    (c_sign : PySem.W.codeIn K cd_sign "sign" = true)
    (k_sign : PySem.W.keepIn K (.ref f_sign) = true)
    (a_root : PySem.W.nsIn K mainGlobals "root" = some (some (.ref f_root)))
    (l_root : K.lookup f_root = some ⟨oc_root, od_root, .func (PySem.W.fnOf "root" "root" (defArgs (topS 25)) (defBody (topS 25)) (defScope (topS 25)) .none kV_root dc_root pm_root an_root cd_root ct_root), sl_root⟩)
    (c_root : PySem.W.codeIn K cd_root "root" = true)
    (k_root : PySem.W.keepIn K (.ref f_root) = true)
    (a_root_sign : PySem.W.nsIn K mainGlobals "root_sign" = some (some (.ref f_root_sign)))
    (l_root_sign : K.lookup f_root_sign = some ⟨oc_root_sign, od_root_sign, .func (PySem.W.fnOf "root_sign" "root_sign" (defArgs (topS 26)) (defBody (topS 26)) (defScope (topS 26)) .none kV_root_sign dc_root_sign pm_root_sign an_root_sign cd_root_sign ct_root_sign), sl_root_sign⟩)
    (c_root_sign : PySem.W.codeIn K cd_root_sign "root_sign" = true)
    (k_root_sign : PySem.W.keepIn K (.ref f_root_sign) = true)
    (a_is_point : PySem.W.nsIn K mainGlobals "is_point" = some (some (.ref f_is_point)))
    (l_is_point : K.lookup f_is_point = some ⟨oc_is_point, od_is_point, .func (PySem.W.fnOf "is_point" "is_point" (defArgs (topS 30)) (defBody (topS 30)) (defScope (topS 30)) .none kV_is_point dc_is_point pm_is_point an_is_point cd_is_point ct_is_point), sl_is_point⟩)
    (c_is_point : PySem.W.codeIn K cd_is_point "is_point" = true)
    (k_is_point : PySem.W.keepIn K (.ref f_is_point) = true)
    (a_point_sum : PySem.W.nsIn K mainGlobals "point_sum" = some (some (.ref f_point_sum)))
    (l_point_sum : K.lookup f_point_sum = some ⟨oc_point_sum, od_point_sum, .func (PySem.W.fnOf "point_sum" "point_sum" (defArgs (topS 31)) (defBody (topS 31)) (defScope (topS 31)) .none kV_point_sum dc_point_sum pm_point_sum an_point_sum cd_point_sum ct_point_sum), sl_point_sum⟩)
    (c_point_sum : PySem.W.codeIn K cd_point_sum "point_sum" = true)
    (k_point_sum : PySem.W.keepIn K (.ref f_point_sum) = true)
    (a_point_gap : PySem.W.nsIn K mainGlobals "point_gap" = some (some (.ref f_point_gap)))
    (l_point_gap : K.lookup f_point_gap = some ⟨oc_point_gap, od_point_gap, .func (PySem.W.fnOf "point_gap" "point_gap" (defArgs (topS 32)) (defBody (topS 32)) (defScope (topS 32)) .none kV_point_gap dc_point_gap pm_point_gap an_point_gap cd_point_gap ct_point_gap), sl_point_gap⟩)
    (c_point_gap : PySem.W.codeIn K cd_point_gap "point_gap" = true)
    (k_point_gap : PySem.W.keepIn K (.ref f_point_gap) = true)
    (a_point_times : PySem.W.nsIn K mainGlobals "point_times" = some (some (.ref f_point_times)))
    (l_point_times : K.lookup f_point_times = some ⟨oc_point_times, od_point_times, .func (PySem.W.fnOf "point_times" "point_times" (defArgs (topS 33)) (defBody (topS 33)) (defScope (topS 33)) .none kV_point_times dc_point_times pm_point_times an_point_times cd_point_times ct_point_times), sl_point_times⟩)
    (c_point_times : PySem.W.codeIn K cd_point_times "point_times" = true)
    (k_point_times : PySem.W.keepIn K (.ref f_point_times) = true)
    (a_point_dot : PySem.W.nsIn K mainGlobals "point_dot" = some (some (.ref f_point_dot)))
    (l_point_dot : K.lookup f_point_dot = some ⟨oc_point_dot, od_point_dot, .func (PySem.W.fnOf "point_dot" "point_dot" (defArgs (topS 34)) (defBody (topS 34)) (defScope (topS 34)) .none kV_point_dot dc_point_dot pm_point_dot an_point_dot cd_point_dot ct_point_dot), sl_point_dot⟩)
    (c_point_dot : PySem.W.codeIn K cd_point_dot "point_dot" = true)
    (k_point_dot : PySem.W.keepIn K (.ref f_point_dot) = true)
    (a_point_cross : PySem.W.nsIn K mainGlobals "point_cross" = some (some (.ref f_point_cross)))
    (l_point_cross : K.lookup f_point_cross = some ⟨oc_point_cross, od_point_cross, .func (PySem.W.fnOf "point_cross" "point_cross" (defArgs (topS 35)) (defBody (topS 35)) (defScope (topS 35)) .none kV_point_cross dc_point_cross pm_point_cross an_point_cross cd_point_cross ct_point_cross), sl_point_cross⟩)
    (c_point_cross : PySem.W.codeIn K cd_point_cross "point_cross" = true)
    (k_point_cross : PySem.W.keepIn K (.ref f_point_cross) = true)
    (a_point_square : PySem.W.nsIn K mainGlobals "point_square" = some (some (.ref f_point_square)))
    (l_point_square : K.lookup f_point_square = some ⟨oc_point_square, od_point_square, .func (PySem.W.fnOf "point_square" "point_square" (defArgs (topS 36)) (defBody (topS 36)) (defScope (topS 36)) .none kV_point_square dc_point_square pm_point_square an_point_square cd_point_square ct_point_square), sl_point_square⟩)
    (c_point_square : PySem.W.codeIn K cd_point_square "point_square" = true)
    (k_point_square : PySem.W.keepIn K (.ref f_point_square) = true)
    (a_is_positive : PySem.W.nsIn K mainGlobals "is_positive" = some (some (.ref f_is_positive)))
    (l_is_positive : K.lookup f_is_positive = some ⟨oc_is_positive, od_is_positive, .func (PySem.W.fnOf "is_positive" "is_positive" (defArgs (topS 38)) (defBody (topS 38)) (defScope (topS 38)) .none kV_is_positive dc_is_positive pm_is_positive an_is_positive cd_is_positive ct_is_positive), sl_is_positive⟩)
    (c_is_positive : PySem.W.codeIn K cd_is_positive "is_positive" = true)
    (k_is_positive : PySem.W.keepIn K (.ref f_is_positive) = true)
    (a_is_side : PySem.W.nsIn K mainGlobals "is_side" = some (some (.ref f_is_side)))
    (l_is_side : K.lookup f_is_side = some ⟨oc_is_side, od_is_side, .func (PySem.W.fnOf "is_side" "is_side" (defArgs (topS 39)) (defBody (topS 39)) (defScope (topS 39)) .none kV_is_side dc_is_side pm_is_side an_is_side cd_is_side ct_is_side), sl_is_side⟩)
    (c_is_side : PySem.W.codeIn K cd_is_side "is_side" = true)
    (k_is_side : PySem.W.keepIn K (.ref f_is_side) = true)
    (a_is_spot : PySem.W.nsIn K mainGlobals "is_spot" = some (some (.ref f_is_spot)))
    (l_is_spot : K.lookup f_is_spot = some ⟨oc_is_spot, od_is_spot, .func (PySem.W.fnOf "is_spot" "is_spot" (defArgs (topS 40)) (defBody (topS 40)) (defScope (topS 40)) .none kV_is_spot dc_is_spot pm_is_spot an_is_spot cd_is_spot ct_is_spot), sl_is_spot⟩)
    (c_is_spot : PySem.W.codeIn K cd_is_spot "is_spot" = true)
    (k_is_spot : PySem.W.keepIn K (.ref f_is_spot) = true)
    (a_check_point : PySem.W.nsIn K mainGlobals "check_point" = some (some (.ref f_check_point)))
    (l_check_point : K.lookup f_check_point = some ⟨oc_check_point, od_check_point, .func (PySem.W.fnOf "check_point" "check_point" (defArgs (topS 41)) (defBody (topS 41)) (defScope (topS 41)) .none kV_check_point dc_check_point pm_check_point an_check_point cd_check_point ct_check_point), sl_check_point⟩)
    (c_check_point : PySem.W.codeIn K cd_check_point "check_point" = true)
    (k_check_point : PySem.W.keepIn K (.ref f_check_point) = true)
    (a_check_positive : PySem.W.nsIn K mainGlobals "check_positive" = some (some (.ref f_check_positive)))
    (l_check_positive : K.lookup f_check_positive = some ⟨oc_check_positive, od_check_positive, .func (PySem.W.fnOf "check_positive" "check_positive" (defArgs (topS 42)) (defBody (topS 42)) (defScope (topS 42)) .none kV_check_positive dc_check_positive pm_check_positive an_check_positive cd_check_positive ct_check_positive), sl_check_positive⟩)
    (c_check_positive : PySem.W.codeIn K cd_check_positive "check_positive" = true)
    (k_check_positive : PySem.W.keepIn K (.ref f_check_positive) = true)
    (a_spot_at : PySem.W.nsIn K mainGlobals "spot_at" = some (some (.ref f_spot_at)))
    (l_spot_at : K.lookup f_spot_at = some ⟨oc_spot_at, od_spot_at, .func (PySem.W.fnOf "spot_at" "spot_at" (defArgs (topS 43)) (defBody (topS 43)) (defScope (topS 43)) .none kV_spot_at dc_spot_at pm_spot_at an_spot_at cd_spot_at ct_spot_at), sl_spot_at⟩)
    (c_spot_at : PySem.W.codeIn K cd_spot_at "spot_at" = true)
    (k_spot_at : PySem.W.keepIn K (.ref f_spot_at) = true)
    (a_meet_line : PySem.W.nsIn K mainGlobals "meet_line" = some (some (.ref f_meet_line)))
    (l_meet_line : K.lookup f_meet_line = some ⟨oc_meet_line, od_meet_line, .func (PySem.W.fnOf "meet_line" "meet_line" (defArgs (topS 44)) (defBody (topS 44)) (defScope (topS 44)) .none (.ref Dkw) dc_meet_line pm_meet_line an_meet_line cd_meet_line ct_meet_line), sl_meet_line⟩)
    (kwmeet : PySem.W.nsIn K Dkw "side" = some (some (.int 1 tkw)))
    (c_meet_line : PySem.W.codeIn K cd_meet_line "meet_line" = true)
    (k_meet_line : PySem.W.keepIn K (.ref f_meet_line) = true)
    (a_spot_parts : PySem.W.nsIn K mainGlobals "spot_parts" = some (some (.ref f_spot_parts)))
    (l_spot_parts : K.lookup f_spot_parts = some ⟨oc_spot_parts, od_spot_parts, .func (PySem.W.fnOf "spot_parts" "spot_parts" (defArgs (topS 45)) (defBody (topS 45)) (defScope (topS 45)) .none kV_spot_parts dc_spot_parts pm_spot_parts an_spot_parts cd_spot_parts ct_spot_parts), sl_spot_parts⟩)
    (c_spot_parts : PySem.W.codeIn K cd_spot_parts "spot_parts" = true)
    (k_spot_parts : PySem.W.keepIn K (.ref f_spot_parts) = true)
    (a_side_of : PySem.W.nsIn K mainGlobals "side_of" = some (some (.ref f_side_of)))
    (l_side_of : K.lookup f_side_of = some ⟨oc_side_of, od_side_of, .func (PySem.W.fnOf "side_of" "side_of" (defArgs (topS 46)) (defBody (topS 46)) (defScope (topS 46)) .none kV_side_of dc_side_of pm_side_of an_side_of cd_side_of ct_side_of), sl_side_of⟩)
    (c_side_of : PySem.W.codeIn K cd_side_of "side_of" = true)
    (k_side_of : PySem.W.keepIn K (.ref f_side_of) = true)
    (a_distance_sign : PySem.W.nsIn K mainGlobals "distance_sign" = some (some (.ref f_distance_sign)))
    (l_distance_sign : K.lookup f_distance_sign = some ⟨oc_distance_sign, od_distance_sign, .func (PySem.W.fnOf "distance_sign" "distance_sign" (defArgs (topS 47)) (defBody (topS 47)) (defScope (topS 47)) .none kV_distance_sign dc_distance_sign pm_distance_sign an_distance_sign cd_distance_sign ct_distance_sign), sl_distance_sign⟩)
    (c_distance_sign : PySem.W.codeIn K cd_distance_sign "distance_sign" = true)
    (k_distance_sign : PySem.W.keepIn K (.ref f_distance_sign) = true)
    (a_store : PySem.W.nsIn K mainGlobals "_law_store" = some (some (.ref f_store)))
    (l_store : K.lookup f_store = some ⟨oc_store, od_store, .func (PySem.W.fnOf "_law_store" "_law_store" (defArgs (topS 49)) (defBody (topS 49)) (defScope (topS 49)) .none kV_store dc_store pm_store an_store cd_store ct_store), sl_store⟩)
    (c_store : PySem.W.codeIn K cd_store "_law_store" = true)
    (k_store : PySem.W.keepIn K (.ref f_store) = true)
    (a_take : PySem.W.nsIn K mainGlobals "_law_take" = some (some (.ref f_take)))
    (l_take : K.lookup f_take = some ⟨oc_take, od_take, .func (PySem.W.fnOf "_law_take" "_law_take" (defArgs (topS 50)) (defBody (topS 50)) (defScope (topS 50)) .none kV_take dc_take pm_take an_take cd_take ct_take), sl_take⟩)
    (c_take : PySem.W.codeIn K cd_take "_law_take" = true)
    (k_take : PySem.W.keepIn K (.ref f_take) = true)
    (a_edge : PySem.W.nsIn K mainGlobals "_law_edge" = some (some (.ref f_edge)))
    (l_edge : K.lookup f_edge = some ⟨oc_edge, od_edge, .func (PySem.W.fnOf "_law_edge" "_law_edge" (defArgs (topS 51)) (defBody (topS 51)) (defScope (topS 51)) .none kV_edge dc_edge pm_edge an_edge cd_edge ct_edge), sl_edge⟩)
    (c_edge : PySem.W.codeIn K cd_edge "_law_edge" = true)
    (k_edge : PySem.W.keepIn K (.ref f_edge) = true)
    (a_between : PySem.W.nsIn K mainGlobals "_law_between" = some (some (.ref f_between)))
    (l_between : K.lookup f_between = some ⟨oc_between, od_between, .func (PySem.W.fnOf "_law_between" "_law_between" (defArgs (topS 52)) (defBody (topS 52)) (defScope (topS 52)) .none kV_between dc_between pm_between an_between cd_between ct_between), sl_between⟩)
    (c_between : PySem.W.codeIn K cd_between "_law_between" = true)
    (k_between : PySem.W.keepIn K (.ref f_between) = true)
    (a_mixed : PySem.W.nsIn K mainGlobals "_law_mixed" = some (some (.ref f_mixed)))
    (l_mixed : K.lookup f_mixed = some ⟨oc_mixed, od_mixed, .func (PySem.W.fnOf "_law_mixed" "_law_mixed" (defArgs (topS 53)) (defBody (topS 53)) (defScope (topS 53)) .none kV_mixed dc_mixed pm_mixed an_mixed cd_mixed ct_mixed), sl_mixed⟩)
    (c_mixed : PySem.W.codeIn K cd_mixed "_law_mixed" = true)
    (k_mixed : PySem.W.keepIn K (.ref f_mixed) = true)
    (a_low : PySem.W.nsIn K mainGlobals "_law_low" = some (some (.ref f_low)))
    (l_low : K.lookup f_low = some ⟨oc_low, od_low, .func (PySem.W.fnOf "_law_low" "_law_low" (defArgs (topS 54)) (defBody (topS 54)) (defScope (topS 54)) .none kV_low dc_low pm_low an_low cd_low ct_low), sl_low⟩)
    (c_low : PySem.W.codeIn K cd_low "_law_low" = true)
    (k_low : PySem.W.keepIn K (.ref f_low) = true)
    (a_plus : PySem.W.nsIn K mainGlobals "_law_plus" = some (some (.ref f_plus)))
    (l_plus : K.lookup f_plus = some ⟨oc_plus, od_plus, .func (PySem.W.fnOf "_law_plus" "_law_plus" (defArgs (topS 55)) (defBody (topS 55)) (defScope (topS 55)) .none kV_plus dc_plus pm_plus an_plus cd_plus ct_plus), sl_plus⟩)
    (c_plus : PySem.W.codeIn K cd_plus "_law_plus" = true)
    (k_plus : PySem.W.keepIn K (.ref f_plus) = true)
    (a_minus : PySem.W.nsIn K mainGlobals "_law_minus" = some (some (.ref f_minus)))
    (l_minus : K.lookup f_minus = some ⟨oc_minus, od_minus, .func (PySem.W.fnOf "_law_minus" "_law_minus" (defArgs (topS 56)) (defBody (topS 56)) (defScope (topS 56)) .none kV_minus dc_minus pm_minus an_minus cd_minus ct_minus), sl_minus⟩)
    (c_minus : PySem.W.codeIn K cd_minus "_law_minus" = true)
    (k_minus : PySem.W.keepIn K (.ref f_minus) = true)
    (a_times : PySem.W.nsIn K mainGlobals "_law_times" = some (some (.ref f_times)))
    (l_times : K.lookup f_times = some ⟨oc_times, od_times, .func (PySem.W.fnOf "_law_times" "_law_times" (defArgs (topS 57)) (defBody (topS 57)) (defScope (topS 57)) .none kV_times dc_times pm_times an_times cd_times ct_times), sl_times⟩)
    (c_times : PySem.W.codeIn K cd_times "_law_times" = true)
    (k_times : PySem.W.keepIn K (.ref f_times) = true)
    (a_over : PySem.W.nsIn K mainGlobals "_law_over" = some (some (.ref f_over)))
    (l_over : K.lookup f_over = some ⟨oc_over, od_over, .func (PySem.W.fnOf "_law_over" "_law_over" (defArgs (topS 58)) (defBody (topS 58)) (defScope (topS 58)) .none kV_over dc_over pm_over an_over cd_over ct_over), sl_over⟩)
    (c_over : PySem.W.codeIn K cd_over "_law_over" = true)
    (k_over : PySem.W.keepIn K (.ref f_over) = true)
    (a_neg : PySem.W.nsIn K mainGlobals "_law_neg" = some (some (.ref f_neg)))
    (l_neg : K.lookup f_neg = some ⟨oc_neg, od_neg, .func (PySem.W.fnOf "_law_neg" "_law_neg" (defArgs (topS 59)) (defBody (topS 59)) (defScope (topS 59)) .none kV_neg dc_neg pm_neg an_neg cd_neg ct_neg), sl_neg⟩)
    (c_neg : PySem.W.codeIn K cd_neg "_law_neg" = true)
    (k_neg : PySem.W.keepIn K (.ref f_neg) = true)
    (a_sgn : PySem.W.nsIn K mainGlobals "_law_sgn" = some (some (.ref f_sgn)))
    (l_sgn : K.lookup f_sgn = some ⟨oc_sgn, od_sgn, .func (PySem.W.fnOf "_law_sgn" "_law_sgn" (defArgs (topS 60)) (defBody (topS 60)) (defScope (topS 60)) .none kV_sgn dc_sgn pm_sgn an_sgn cd_sgn ct_sgn), sl_sgn⟩)
    (c_sgn : PySem.W.codeIn K cd_sgn "_law_sgn" = true)
    (k_sgn : PySem.W.keepIn K (.ref f_sgn) = true)
    (a_cmp : PySem.W.nsIn K mainGlobals "_law_cmp" = some (some (.ref f_cmp)))
    (l_cmp : K.lookup f_cmp = some ⟨oc_cmp, od_cmp, .func (PySem.W.fnOf "_law_cmp" "_law_cmp" (defArgs (topS 61)) (defBody (topS 61)) (defScope (topS 61)) .none kV_cmp dc_cmp pm_cmp an_cmp cd_cmp ct_cmp), sl_cmp⟩)
    (c_cmp : PySem.W.codeIn K cd_cmp "_law_cmp" = true)
    (k_cmp : PySem.W.keepIn K (.ref f_cmp) = true)
    (a_padd : PySem.W.nsIn K mainGlobals "_law_padd" = some (some (.ref f_padd)))
    (l_padd : K.lookup f_padd = some ⟨oc_padd, od_padd, .func (PySem.W.fnOf "_law_padd" "_law_padd" (defArgs (topS 62)) (defBody (topS 62)) (defScope (topS 62)) .none kV_padd dc_padd pm_padd an_padd cd_padd ct_padd), sl_padd⟩)
    (c_padd : PySem.W.codeIn K cd_padd "_law_padd" = true)
    (k_padd : PySem.W.keepIn K (.ref f_padd) = true)
    (a_psub : PySem.W.nsIn K mainGlobals "_law_psub" = some (some (.ref f_psub)))
    (l_psub : K.lookup f_psub = some ⟨oc_psub, od_psub, .func (PySem.W.fnOf "_law_psub" "_law_psub" (defArgs (topS 63)) (defBody (topS 63)) (defScope (topS 63)) .none kV_psub dc_psub pm_psub an_psub cd_psub ct_psub), sl_psub⟩)
    (c_psub : PySem.W.codeIn K cd_psub "_law_psub" = true)
    (k_psub : PySem.W.keepIn K (.ref f_psub) = true)
    (a_pmul : PySem.W.nsIn K mainGlobals "_law_pmul" = some (some (.ref f_pmul)))
    (l_pmul : K.lookup f_pmul = some ⟨oc_pmul, od_pmul, .func (PySem.W.fnOf "_law_pmul" "_law_pmul" (defArgs (topS 64)) (defBody (topS 64)) (defScope (topS 64)) .none kV_pmul dc_pmul pm_pmul an_pmul cd_pmul ct_pmul), sl_pmul⟩)
    (c_pmul : PySem.W.codeIn K cd_pmul "_law_pmul" = true)
    (k_pmul : PySem.W.keepIn K (.ref f_pmul) = true)
    (a_pdot : PySem.W.nsIn K mainGlobals "_law_pdot" = some (some (.ref f_pdot)))
    (l_pdot : K.lookup f_pdot = some ⟨oc_pdot, od_pdot, .func (PySem.W.fnOf "_law_pdot" "_law_pdot" (defArgs (topS 65)) (defBody (topS 65)) (defScope (topS 65)) .none kV_pdot dc_pdot pm_pdot an_pdot cd_pdot ct_pdot), sl_pdot⟩)
    (c_pdot : PySem.W.codeIn K cd_pdot "_law_pdot" = true)
    (k_pdot : PySem.W.keepIn K (.ref f_pdot) = true)
    (a_pcross : PySem.W.nsIn K mainGlobals "_law_pcross" = some (some (.ref f_pcross)))
    (l_pcross : K.lookup f_pcross = some ⟨oc_pcross, od_pcross, .func (PySem.W.fnOf "_law_pcross" "_law_pcross" (defArgs (topS 66)) (defBody (topS 66)) (defScope (topS 66)) .none kV_pcross dc_pcross pm_pcross an_pcross cd_pcross ct_pcross), sl_pcross⟩)
    (c_pcross : PySem.W.codeIn K cd_pcross "_law_pcross" = true)
    (k_pcross : PySem.W.keepIn K (.ref f_pcross) = true)
    (a_pleft : PySem.W.nsIn K mainGlobals "_law_pleft" = some (some (.ref f_pleft)))
    (l_pleft : K.lookup f_pleft = some ⟨oc_pleft, od_pleft, .func (PySem.W.fnOf "_law_pleft" "_law_pleft" (defArgs (topS 67)) (defBody (topS 67)) (defScope (topS 67)) .none kV_pleft dc_pleft pm_pleft an_pleft cd_pleft ct_pleft), sl_pleft⟩)
    (c_pleft : PySem.W.codeIn K cd_pleft "_law_pleft" = true)
    (k_pleft : PySem.W.keepIn K (.ref f_pleft) = true)
    (a_psq : PySem.W.nsIn K mainGlobals "_law_psq" = some (some (.ref f_psq)))
    (l_psq : K.lookup f_psq = some ⟨oc_psq, od_psq, .func (PySem.W.fnOf "_law_psq" "_law_psq" (defArgs (topS 68)) (defBody (topS 68)) (defScope (topS 68)) .none kV_psq dc_psq pm_psq an_psq cd_psq ct_psq), sl_psq⟩)
    (c_psq : PySem.W.codeIn K cd_psq "_law_psq" = true)
    (k_psq : PySem.W.keepIn K (.ref f_psq) = true)
    (a_pzero : PySem.W.nsIn K mainGlobals "_law_pzero" = some (some (.ref f_pzero)))
    (l_pzero : K.lookup f_pzero = some ⟨oc_pzero, od_pzero, .func (PySem.W.fnOf "_law_pzero" "_law_pzero" (defArgs (topS 69)) (defBody (topS 69)) (defScope (topS 69)) .none kV_pzero dc_pzero pm_pzero an_pzero cd_pzero ct_pzero), sl_pzero⟩)
    (c_pzero : PySem.W.codeIn K cd_pzero "_law_pzero" = true)
    (k_pzero : PySem.W.keepIn K (.ref f_pzero) = true)
    (a_small : PySem.W.nsIn K mainGlobals "_law_small" = some (some (.ref f_small)))
    (l_small : K.lookup f_small = some ⟨oc_small, od_small, .func (PySem.W.fnOf "_law_small" "_law_small" (defArgs (topS 70)) (defBody (topS 70)) (defScope (topS 70)) .none kV_small dc_small pm_small an_small cd_small ct_small), sl_small⟩)
    (c_small : PySem.W.codeIn K cd_small "_law_small" = true)
    (k_small : PySem.W.keepIn K (.ref f_small) = true)
    (a_positive : PySem.W.nsIn K mainGlobals "_law_positive" = some (some (.ref f_positive)))
    (l_positive : K.lookup f_positive = some ⟨oc_positive, od_positive, .func (PySem.W.fnOf "_law_positive" "_law_positive" (defArgs (topS 71)) (defBody (topS 71)) (defScope (topS 71)) .none kV_positive dc_positive pm_positive an_positive cd_positive ct_positive), sl_positive⟩)
    (c_positive : PySem.W.codeIn K cd_positive "_law_positive" = true)
    (k_positive : PySem.W.keepIn K (.ref f_positive) = true)
    (a_point : PySem.W.nsIn K mainGlobals "_law_point" = some (some (.ref f_point)))
    (l_point : K.lookup f_point = some ⟨oc_point, od_point, .func (PySem.W.fnOf "_law_point" "_law_point" (defArgs (topS 72)) (defBody (topS 72)) (defScope (topS 72)) .none kV_point dc_point pm_point an_point cd_point ct_point), sl_point⟩)
    (c_point : PySem.W.codeIn K cd_point "_law_point" = true)
    (k_point : PySem.W.keepIn K (.ref f_point) = true)
    (a_direction : PySem.W.nsIn K mainGlobals "_law_direction" = some (some (.ref f_direction)))
    (l_direction : K.lookup f_direction = some ⟨oc_direction, od_direction, .func (PySem.W.fnOf "_law_direction" "_law_direction" (defArgs (topS 73)) (defBody (topS 73)) (defScope (topS 73)) .none kV_direction dc_direction pm_direction an_direction cd_direction ct_direction), sl_direction⟩)
    (c_direction : PySem.W.codeIn K cd_direction "_law_direction" = true)
    (k_direction : PySem.W.keepIn K (.ref f_direction) = true)
    (a_not_ratio : PySem.W.nsIn K mainGlobals "_law_not_ratio" = some (some (.ref f_not_ratio)))
    (l_not_ratio : K.lookup f_not_ratio = some ⟨oc_not_ratio, od_not_ratio, .func (PySem.W.fnOf "_law_not_ratio" "_law_not_ratio" (defArgs (topS 74)) (defBody (topS 74)) (defScope (topS 74)) .none kV_not_ratio dc_not_ratio pm_not_ratio an_not_ratio cd_not_ratio ct_not_ratio), sl_not_ratio⟩)
    (c_not_ratio : PySem.W.codeIn K cd_not_ratio "_law_not_ratio" = true)
    (k_not_ratio : PySem.W.keepIn K (.ref f_not_ratio) = true)
    (a_not_point : PySem.W.nsIn K mainGlobals "_law_not_point" = some (some (.ref f_not_point)))
    (l_not_point : K.lookup f_not_point = some ⟨oc_not_point, od_not_point, .func (PySem.W.fnOf "_law_not_point" "_law_not_point" (defArgs (topS 75)) (defBody (topS 75)) (defScope (topS 75)) .none kV_not_point dc_not_point pm_not_point an_not_point cd_not_point ct_not_point), sl_not_point⟩)
    (c_not_point : PySem.W.codeIn K cd_not_point "_law_not_point" = true)
    (k_not_point : PySem.W.keepIn K (.ref f_not_point) = true)
    (a_not_direction : PySem.W.nsIn K mainGlobals "_law_not_direction" = some (some (.ref f_not_direction)))
    (l_not_direction : K.lookup f_not_direction = some ⟨oc_not_direction, od_not_direction, .func (PySem.W.fnOf "_law_not_direction" "_law_not_direction" (defArgs (topS 76)) (defBody (topS 76)) (defScope (topS 76)) .none kV_not_direction dc_not_direction pm_not_direction an_not_direction cd_not_direction ct_not_direction), sl_not_direction⟩)
    (c_not_direction : PySem.W.codeIn K cd_not_direction "_law_not_direction" = true)
    (k_not_direction : PySem.W.keepIn K (.ref f_not_direction) = true)
    (a_is_int : PySem.W.nsIn K mainGlobals "_law_is_int" = some (some (.ref f_is_int)))
    (l_is_int : K.lookup f_is_int = some ⟨oc_is_int, od_is_int, .func (PySem.W.fnOf "_law_is_int" "_law_is_int" (defArgs (topS 77)) (defBody (topS 77)) (defScope (topS 77)) .none kV_is_int dc_is_int pm_is_int an_is_int cd_is_int ct_is_int), sl_is_int⟩)
    (c_is_int : PySem.W.codeIn K cd_is_int "_law_is_int" = true)
    (k_is_int : PySem.W.keepIn K (.ref f_is_int) = true)
    (a_lis_ratio : PySem.W.nsIn K mainGlobals "_law_is_ratio" = some (some (.ref f_lis_ratio)))
    (l_lis_ratio : K.lookup f_lis_ratio = some ⟨oc_lis_ratio, od_lis_ratio, .func (PySem.W.fnOf "_law_is_ratio" "_law_is_ratio" (defArgs (topS 78)) (defBody (topS 78)) (defScope (topS 78)) .none kV_lis_ratio dc_lis_ratio pm_lis_ratio an_lis_ratio cd_lis_ratio ct_lis_ratio), sl_lis_ratio⟩)
    (c_lis_ratio : PySem.W.codeIn K cd_lis_ratio "_law_is_ratio" = true)
    (k_lis_ratio : PySem.W.keepIn K (.ref f_lis_ratio) = true)
    (a_lis_point : PySem.W.nsIn K mainGlobals "_law_is_point" = some (some (.ref f_lis_point)))
    (l_lis_point : K.lookup f_lis_point = some ⟨oc_lis_point, od_lis_point, .func (PySem.W.fnOf "_law_is_point" "_law_is_point" (defArgs (topS 79)) (defBody (topS 79)) (defScope (topS 79)) .none kV_lis_point dc_lis_point pm_lis_point an_lis_point cd_lis_point ct_lis_point), sl_lis_point⟩)
    (c_lis_point : PySem.W.codeIn K cd_lis_point "_law_is_point" = true)
    (k_lis_point : PySem.W.keepIn K (.ref f_lis_point) = true)
    (a_is_word : PySem.W.nsIn K mainGlobals "_law_is_word" = some (some (.ref f_is_word)))
    (l_is_word : K.lookup f_is_word = some ⟨oc_is_word, od_is_word, .func (PySem.W.fnOf "_law_is_word" "_law_is_word" (defArgs (topS 80)) (defBody (topS 80)) (defScope (topS 80)) .none kV_is_word dc_is_word pm_is_word an_is_word cd_is_word ct_is_word), sl_is_word⟩)
    (c_is_word : PySem.W.codeIn K cd_is_word "_law_is_word" = true)
    (k_is_word : PySem.W.keepIn K (.ref f_is_word) = true)
    (a_whole_root : PySem.W.nsIn K mainGlobals "_law_whole_root" = some (some (.ref f_whole_root)))
    (l_whole_root : K.lookup f_whole_root = some ⟨oc_whole_root, od_whole_root, .func (PySem.W.fnOf "_law_whole_root" "_law_whole_root" (defArgs (topS 81)) (defBody (topS 81)) (defScope (topS 81)) .none kV_whole_root dc_whole_root pm_whole_root an_whole_root cd_whole_root ct_whole_root), sl_whole_root⟩)
    (c_whole_root : PySem.W.codeIn K cd_whole_root "_law_whole_root" = true)
    (k_whole_root : PySem.W.keepIn K (.ref f_whole_root) = true)
    (a_lroot : PySem.W.nsIn K mainGlobals "_law_root" = some (some (.ref f_lroot)))
    (l_lroot : K.lookup f_lroot = some ⟨oc_lroot, od_lroot, .func (PySem.W.fnOf "_law_root" "_law_root" (defArgs (topS 82)) (defBody (topS 82)) (defScope (topS 82)) .none kV_lroot dc_lroot pm_lroot an_lroot cd_lroot ct_lroot), sl_lroot⟩)
    (c_lroot : PySem.W.codeIn K cd_lroot "_law_root" = true)
    (k_lroot : PySem.W.keepIn K (.ref f_lroot) = true)
    (a_lroot_sign : PySem.W.nsIn K mainGlobals "_law_root_sign" = some (some (.ref f_lroot_sign)))
    (l_lroot_sign : K.lookup f_lroot_sign = some ⟨oc_lroot_sign, od_lroot_sign, .func (PySem.W.fnOf "_law_root_sign" "_law_root_sign" (defArgs (topS 83)) (defBody (topS 83)) (defScope (topS 83)) .none kV_lroot_sign dc_lroot_sign pm_lroot_sign an_lroot_sign cd_lroot_sign ct_lroot_sign), sl_lroot_sign⟩)
    (c_lroot_sign : PySem.W.codeIn K cd_lroot_sign "_law_root_sign" = true)
    (k_lroot_sign : PySem.W.keepIn K (.ref f_lroot_sign) = true)
    (a_lspot_parts : PySem.W.nsIn K mainGlobals "_law_spot_parts" = some (some (.ref f_lspot_parts)))
    (l_lspot_parts : K.lookup f_lspot_parts = some ⟨oc_lspot_parts, od_lspot_parts, .func (PySem.W.fnOf "_law_spot_parts" "_law_spot_parts" (defArgs (topS 84)) (defBody (topS 84)) (defScope (topS 84)) .none kV_lspot_parts dc_lspot_parts pm_lspot_parts an_lspot_parts cd_lspot_parts ct_lspot_parts), sl_lspot_parts⟩)
    (c_lspot_parts : PySem.W.codeIn K cd_lspot_parts "_law_spot_parts" = true)
    (k_lspot_parts : PySem.W.keepIn K (.ref f_lspot_parts) = true)
    (a_spot_apart : PySem.W.nsIn K mainGlobals "_law_spot_apart" = some (some (.ref f_spot_apart)))
    (l_spot_apart : K.lookup f_spot_apart = some ⟨oc_spot_apart, od_spot_apart, .func (PySem.W.fnOf "_law_spot_apart" "_law_spot_apart" (defArgs (topS 85)) (defBody (topS 85)) (defScope (topS 85)) .none kV_spot_apart dc_spot_apart pm_spot_apart an_spot_apart cd_spot_apart ct_spot_apart), sl_spot_apart⟩)
    (c_spot_apart : PySem.W.codeIn K cd_spot_apart "_law_spot_apart" = true)
    (k_spot_apart : PySem.W.keepIn K (.ref f_spot_apart) = true)
    (a_line_circle : PySem.W.nsIn K mainGlobals "_law_line_circle" = some (some (.ref f_line_circle)))
    (l_line_circle : K.lookup f_line_circle = some ⟨oc_line_circle, od_line_circle, .func (PySem.W.fnOf "_law_line_circle" "_law_line_circle" (defArgs (topS 86)) (defBody (topS 86)) (defScope (topS 86)) .none kV_line_circle dc_line_circle pm_line_circle an_line_circle cd_line_circle ct_line_circle), sl_line_circle⟩)
    (c_line_circle : PySem.W.codeIn K cd_line_circle "_law_line_circle" = true)
    (k_line_circle : PySem.W.keepIn K (.ref f_line_circle) = true)
    (a_like : PySem.W.nsIn K mainGlobals "_law_like" = some (some (.ref f_like)))
    (l_like : K.lookup f_like = some ⟨oc_like, od_like, .func (PySem.W.fnOf "_law_like" "_law_like" (defArgs (topS 87)) (defBody (topS 87)) (defScope (topS 87)) .none kV_like dc_like pm_like an_like cd_like ct_like), sl_like⟩)
    (c_like : PySem.W.codeIn K cd_like "_law_like" = true)
    (k_like : PySem.W.keepIn K (.ref f_like) = true)
    (a_long : PySem.W.nsIn K mainGlobals "_law_long" = some (some (.ref f_long)))
    (l_long : K.lookup f_long = some ⟨oc_long, od_long, .func (PySem.W.fnOf "_law_long" "_law_long" (defArgs (topS 88)) (defBody (topS 88)) (defScope (topS 88)) .none kV_long dc_long pm_long an_long cd_long ct_long), sl_long⟩)
    (c_long : PySem.W.codeIn K cd_long "_law_long" = true)
    (k_long : PySem.W.keepIn K (.ref f_long) = true)
    (a_wide_line : PySem.W.nsIn K mainGlobals "_law_wide_line" = some (some (.ref f_wide_line)))
    (l_wide_line : K.lookup f_wide_line = some ⟨oc_wide_line, od_wide_line, .func (PySem.W.fnOf "_law_wide_line" "_law_wide_line" (defArgs (topS 89)) (defBody (topS 89)) (defScope (topS 89)) .none kV_wide_line dc_wide_line pm_wide_line an_wide_line cd_wide_line ct_wide_line), sl_wide_line⟩)
    (c_wide_line : PySem.W.codeIn K cd_wide_line "_law_wide_line" = true)
    (k_wide_line : PySem.W.keepIn K (.ref f_wide_line) = true)
    (a_gap : PySem.W.nsIn K mainGlobals "_law_gap" = some (some (.ref f_gap)))
    (l_gap : K.lookup f_gap = some ⟨oc_gap, od_gap, .func (PySem.W.fnOf "_law_gap" "_law_gap" (defArgs (topS 90)) (defBody (topS 90)) (defScope (topS 90)) .none kV_gap dc_gap pm_gap an_gap cd_gap ct_gap), sl_gap⟩)
    (c_gap : PySem.W.codeIn K cd_gap "_law_gap" = true)
    (k_gap : PySem.W.keepIn K (.ref f_gap) = true)
    (a_drawn : PySem.W.nsIn K mainGlobals "_law_drawn" = some (some (.ref f_drawn)))
    (l_drawn : K.lookup f_drawn = some ⟨oc_drawn, od_drawn, .func (PySem.W.fnOf "_law_drawn" "_law_drawn" (defArgs (topS 91)) (defBody (topS 91)) (defScope (topS 91)) .none kV_drawn dc_drawn pm_drawn an_drawn cd_drawn ct_drawn), sl_drawn⟩)
    (c_drawn : PySem.W.codeIn K cd_drawn "_law_drawn" = true)
    (k_drawn : PySem.W.keepIn K (.ref f_drawn) = true)
    (a_on_line : PySem.W.nsIn K mainGlobals "_law_on_line" = some (some (.ref f_on_line)))
    (l_on_line : K.lookup f_on_line = some ⟨oc_on_line, od_on_line, .func (PySem.W.fnOf "_law_on_line" "_law_on_line" (defArgs (topS 92)) (defBody (topS 92)) (defScope (topS 92)) .none kV_on_line dc_on_line pm_on_line an_on_line cd_on_line ct_on_line), sl_on_line⟩)
    (c_on_line : PySem.W.codeIn K cd_on_line "_law_on_line" = true)
    (k_on_line : PySem.W.keepIn K (.ref f_on_line) = true)
    (a_right : PySem.W.nsIn K mainGlobals "_law_right" = some (some (.ref f_right)))
    (l_right : K.lookup f_right = some ⟨oc_right, od_right, .func (PySem.W.fnOf "_law_right" "_law_right" (defArgs (topS 93)) (defBody (topS 93)) (defScope (topS 93)) .none kV_right dc_right pm_right an_right cd_right ct_right), sl_right⟩)
    (c_right : PySem.W.codeIn K cd_right "_law_right" = true)
    (k_right : PySem.W.keepIn K (.ref f_right) = true)
    (a_spot_right : PySem.W.nsIn K mainGlobals "_law_spot_right" = some (some (.ref f_spot_right)))
    (l_spot_right : K.lookup f_spot_right = some ⟨oc_spot_right, od_spot_right, .func (PySem.W.fnOf "_law_spot_right" "_law_spot_right" (defArgs (topS 94)) (defBody (topS 94)) (defScope (topS 94)) .none kV_spot_right dc_spot_right pm_spot_right an_spot_right cd_spot_right ct_spot_right), sl_spot_right⟩)
    (c_spot_right : PySem.W.codeIn K cd_spot_right "_law_spot_right" = true)
    (k_spot_right : PySem.W.keepIn K (.ref f_spot_right) = true)
    (a_failed : PySem.W.nsIn K mainGlobals "_law_failed" = some (some (.ref f_failed)))
    (l_failed : K.lookup f_failed = some ⟨oc_failed, od_failed, .func (PySem.W.fnOf "_law_failed" "_law_failed" (defArgs (topS 95)) (defBody (topS 95)) (defScope (topS 95)) .none kV_failed dc_failed pm_failed an_failed cd_failed ct_failed), sl_failed⟩)
    (c_failed : PySem.W.codeIn K cd_failed "_law_failed" = true)
    (k_failed : PySem.W.keepIn K (.ref f_failed) = true)
    (a_call : PySem.W.nsIn K mainGlobals "_law_call" = some (some (.ref f_call)))
    (l_call : K.lookup f_call = some ⟨oc_call, od_call, .func (PySem.W.fnOf "_law_call" "_law_call" (defArgs (topS 96)) (defBody (topS 96)) (defScope (topS 96)) .none kV_call dc_call pm_call an_call cd_call ct_call), sl_call⟩)
    (c_call : PySem.W.codeIn K cd_call "_law_call" = true)
    (k_call : PySem.W.keepIn K (.ref f_call) = true)
    (a_bad_size : PySem.W.nsIn K mainGlobals "_law_bad_size" = some (some (.ref f_bad_size)))
    (l_bad_size : K.lookup f_bad_size = some ⟨oc_bad_size, od_bad_size, .func (PySem.W.fnOf "_law_bad_size" "_law_bad_size" (defArgs (topS 97)) (defBody (topS 97)) (defScope (topS 97)) .none kV_bad_size dc_bad_size pm_bad_size an_bad_size cd_bad_size ct_bad_size), sl_bad_size⟩)
    (c_bad_size : PySem.W.codeIn K cd_bad_size "_law_bad_size" = true)
    (k_bad_size : PySem.W.keepIn K (.ref f_bad_size) = true)
    (a_bad_spot : PySem.W.nsIn K mainGlobals "_law_bad_spot" = some (some (.ref f_bad_spot)))
    (l_bad_spot : K.lookup f_bad_spot = some ⟨oc_bad_spot, od_bad_spot, .func (PySem.W.fnOf "_law_bad_spot" "_law_bad_spot" (defArgs (topS 98)) (defBody (topS 98)) (defScope (topS 98)) .none kV_bad_spot dc_bad_spot pm_bad_spot an_bad_spot cd_bad_spot ct_bad_spot), sl_bad_spot⟩)
    (c_bad_spot : PySem.W.codeIn K cd_bad_spot "_law_bad_spot" = true)
    (k_bad_spot : PySem.W.keepIn K (.ref f_bad_spot) = true)
    (a_refusals : PySem.W.nsIn K mainGlobals "_law_refusals" = some (some (.ref f_refusals)))
    (l_refusals : K.lookup f_refusals = some ⟨oc_refusals, od_refusals, .func (PySem.W.fnOf "_law_refusals" "_law_refusals" (defArgs (topS 99)) (defBody (topS 99)) (defScope (topS 99)) .none kV_refusals dc_refusals pm_refusals an_refusals cd_refusals ct_refusals), sl_refusals⟩)
    (c_refusals : PySem.W.codeIn K cd_refusals "_law_refusals" = true)
    (k_refusals : PySem.W.keepIn K (.ref f_refusals) = true)
    (a_law : PySem.W.nsIn K mainGlobals "law" = some (some (.ref f_law)))
    (l_law : K.lookup f_law = some ⟨oc_law, od_law, .func (PySem.W.fnOf "law" "law" (defArgs (topS 100)) (defBody (topS 100)) (defScope (topS 100)) .none kV_law dc_law pm_law an_law cd_law ct_law), sl_law⟩)
    (c_law : PySem.W.codeIn K cd_law "law" = true)
    (k_law : PySem.W.keepIn K (.ref f_law) = true)
    (xLWrongKind : K.lookup CWrongKind = some (excClassObj nmWrongKind qnWrongKind CWrongKind NWrongKind bsWrongKind bmWrongKind true snWrongKind subWrongKind abWrongKind colWrongKind ddWrongKind m0WrongKind m1WrongKind m2WrongKind m3WrongKind m5WrongKind "ValueError.__new__"))
    (rvWrongKind : PySem.HandSPX.refsVE bmWrongKind = true)
    (saWrongKind : PySem.W.findIn K (.ref CWrongKind) "__setattr__" = some (some (.builtin "object.__setattr__")))
    (exWrongKind : PySem.W.subIn K (.ref CWrongKind) (.type "BaseException") = some true)
    (tyWrongKind : PySem.W.typeIn K (.ref CWrongKind) = some (.type "type"))
    (kcWrongKind : PySem.W.keepIn K (.ref CWrongKind) = true)
    (hgWrongKind : PySem.W.findIn K (.ref CWrongKind) "__getattribute__" = some (some (.builtin "BaseException.__getattribute__")))
    (hkWrongKind : PySem.W.findIn K (.ref CWrongKind) "__getattr__" = some none)
    (hdWrongKind : PySem.W.hasDictIn K CWrongKind = true)
    (haWrongKind : PySem.W.findIn K (.ref CWrongKind) "__class__" = some (some (.builtin "object.__class__")))
    (hmWrongKind : PySem.W.mroIn K CWrongKind (.type "object") = some true)
    (aiWrongKind : PySem.W.findIn K (.ref CWrongKind) "__init__" = some (some (.ref fiWrongKind)))
    (liWrongKind : K.lookup fiWrongKind = some ⟨ociWrongKind, odiWrongKind, .func (PySem.W.fnOf "__init__" "WrongKind.__init__" (defArgs (inClass (topS 2) 0)) (defBody (inClass (topS 2) 0)) (defScope (inClass (topS 2) 0)) .none kViWrongKind dciWrongKind pmiWrongKind aniWrongKind cdiWrongKind ctiWrongKind), sliWrongKind⟩)
    (ciWrongKind : PySem.W.codeIn K cdiWrongKind "WrongKind.__init__" = true)
    (kiWrongKind : PySem.W.keepIn K (.ref fiWrongKind) = true)
    (tiWrongKind : PySem.W.typeIn K (.ref fiWrongKind) = some (.type "function"))
    (nWrongKind_argument : PySem.W.findIn K (.ref CWrongKind) "argument" = some none)
    (kWrongKind_WrongKind : PySem.W.subIn K (.ref CWrongKind) (.ref CWrongKind) = some true)
    (kWrongKind_OutOfBounds : PySem.W.subIn K (.ref CWrongKind) (.ref COutOfBounds) = some false)
    (neWrongKind_OutOfBounds : Nat.beq CWrongKind COutOfBounds = false)
    (kWrongKind_RepeatedName : PySem.W.subIn K (.ref CWrongKind) (.ref CRepeatedName) = some false)
    (neWrongKind_RepeatedName : Nat.beq CWrongKind CRepeatedName = false)
    (kWrongKind_UnknownName : PySem.W.subIn K (.ref CWrongKind) (.ref CUnknownName) = some false)
    (neWrongKind_UnknownName : Nat.beq CWrongKind CUnknownName = false)
    (kWrongKind_UnfitError : PySem.W.subIn K (.ref CWrongKind) (.ref CUnfitError) = some false)
    (neWrongKind_UnfitError : Nat.beq CWrongKind CUnfitError = false)
    (kWrongKind_Unsafe : PySem.W.subIn K (.ref CWrongKind) (.ref CUnsafe) = some false)
    (neWrongKind_Unsafe : Nat.beq CWrongKind CUnsafe = false)
    (kWrongKind_BadText : PySem.W.subIn K (.ref CWrongKind) (.ref CBadText) = some false)
    (neWrongKind_BadText : Nat.beq CWrongKind CBadText = false)
    (kWrongKind_ValueError : PySem.W.subIn K (.ref CWrongKind) (.type "ValueError") = some true)
    (kWrongKind_FrameError : PySem.W.subIn K (.ref CWrongKind) (.ref CFrameError) = some true)
    (isWrongKind : PySem.W.isClsIn K CWrongKind = true)
    (tyOutOfBounds : PySem.W.typeIn K (.ref COutOfBounds) = some (.type "type"))
    (isOutOfBounds : PySem.W.isClsIn K COutOfBounds = true)
    (tyRepeatedName : PySem.W.typeIn K (.ref CRepeatedName) = some (.type "type"))
    (isRepeatedName : PySem.W.isClsIn K CRepeatedName = true)
    (tyUnknownName : PySem.W.typeIn K (.ref CUnknownName) = some (.type "type"))
    (isUnknownName : PySem.W.isClsIn K CUnknownName = true)
    (tyUnfitError : PySem.W.typeIn K (.ref CUnfitError) = some (.type "type"))
    (isUnfitError : PySem.W.isClsIn K CUnfitError = true)
    (tyUnsafe : PySem.W.typeIn K (.ref CUnsafe) = some (.type "type"))
    (isUnsafe : PySem.W.isClsIn K CUnsafe = true)
    (tyBadText : PySem.W.typeIn K (.ref CBadText) = some (.type "type"))
    (isBadText : PySem.W.isClsIn K CBadText = true)
    (tyFrameError : PySem.W.typeIn K (.ref CFrameError) = some (.type "type"))
    (isFrameError : PySem.W.isClsIn K CFrameError = true)
    (exFrameError : PySem.W.subIn K (.ref CFrameError) (.type "BaseException") = some true)
    (qZERO_RATIO : PySem.W.nsIn K mainGlobals "ZERO_RATIO" = some (some (.ref aZERO_RATIO)))
    (lNZERO_RATIO : K.lookup aZERO_RATIO = some ⟨.type "tuple", dNZERO_RATIO, .seq [.int 0 tk0ZERO_RATIO, .int 1 tk1ZERO_RATIO].toArray nNZERO_RATIO, sNZERO_RATIO⟩)
    (qORIGIN : PySem.W.nsIn K mainGlobals "ORIGIN" = some (some (.ref aORIGIN)))
    (lNORIGIN : K.lookup aORIGIN = some ⟨.type "tuple", dNORIGIN, .seq [.ref aOA, .ref aOB].toArray nNORIGIN, sNORIGIN⟩)
    (lNOA : K.lookup aOA = some ⟨.type "tuple", dNOA, .seq [.int 0 tk0OA, .int 1 tk1OA].toArray nNOA, sNOA⟩)
    (lNOB : K.lookup aOB = some ⟨.type "tuple", dNOB, .seq [.int 0 tk0OB, .int 1 tk1OB].toArray nNOB, sNOB⟩)
    (hn : PySem.W.specialIn K (.builtin "object.__class__") "__get__" = some (some (.builtin "getset_descriptor.__get__")))
    (ht : PySem.W.takesIn K (.builtin "object.__class__") = some true)
    (z_sorted : PySem.W.nsIn K mainGlobals "sorted" = some none)
    (z_reversed : PySem.W.nsIn K mainGlobals "reversed" = some none)
    (z_len : PySem.W.nsIn K mainGlobals "len" = some none)
    (z_max : PySem.W.nsIn K mainGlobals "max" = some none)
    (z_min : PySem.W.nsIn K mainGlobals "min" = some none)
    (z_abs : PySem.W.nsIn K mainGlobals "abs" = some none)
    (z_int : PySem.W.nsIn K mainGlobals "int" = some none)
    (z_str : PySem.W.nsIn K mainGlobals "str" = some none)
    (z_bool : PySem.W.nsIn K mainGlobals "bool" = some none)
    (z_list : PySem.W.nsIn K mainGlobals "list" = some none)
    (z_tuple : PySem.W.nsIn K mainGlobals "tuple" = some none)
    (z_dict : PySem.W.nsIn K mainGlobals "dict" = some none)
    (z_isinstance : PySem.W.nsIn K mainGlobals "isinstance" = some none)
    (z_range : PySem.W.nsIn K mainGlobals "range" = some none)
    (z_all : PySem.W.nsIn K mainGlobals "all" = some none)
    (z_ValueError : PySem.W.nsIn K mainGlobals "ValueError" = some none)
    (dig : PySem.W.nsIn K cStatics "sys.int_max_str_digits" = some none) :
    ∃ fd : FuncData, (∀ (s : Shared) (v : Value), BindsTo s fd ⟨[v], []⟩ [("script", v)]) ∧ ∀ base : Heap, K.In base → base.Ns mainGlobals mg → FnOk l.prog w K mg base (L2N.CX l.prog w) 179 fa fd ["script"] (spLaw K) := by
  have e := hfa.symm.trans (PySem.W.mg_of X G a_law)
  cases e
  have F_is_whole := fun_mk (st := topS 12) l_is_whole c_is_whole k_is_whole
  have b_is_whole := F_is_whole.binds (ps := ["value"]) fun _ _ _ _ _ _ us hl => match us, hl with | [_], _ => rfl
  have F_divisor := fun_mk (st := topS 13) l_divisor c_divisor k_divisor
  have b_divisor := F_divisor.binds (ps := ["one", "other"]) fun _ _ _ _ _ _ us hl => match us, hl with | [_, _], _ => rfl
  have F_lowest := fun_mk (st := topS 14) l_lowest c_lowest k_lowest
  have b_lowest := F_lowest.binds (ps := ["top", "bottom"]) fun _ _ _ _ _ _ us hl => match us, hl with | [_, _], _ => rfl
  have F_sign_of := fun_mk (st := topS 15) l_sign_of c_sign_of k_sign_of
  have b_sign_of := F_sign_of.binds (ps := ["number"]) fun _ _ _ _ _ _ us hl => match us, hl with | [_], _ => rfl
  have F_floor_root := fun_mk (st := topS 16) l_floor_root c_floor_root k_floor_root
  have b_floor_root := F_floor_root.binds (ps := ["number"]) fun _ _ _ _ _ _ us hl => match us, hl with | [_], _ => rfl
  have F_need_ratio := fun_mk (st := topS 17) l_need_ratio c_need_ratio k_need_ratio
  have b_need_ratio := F_need_ratio.binds (ps := ["value", "argument"]) fun _ _ _ _ _ _ us hl => match us, hl with | [_, _], _ => rfl
  have F_need_two := fun_mk (st := topS 18) l_need_two c_need_two k_need_two
  have b_need_two := F_need_two.binds (ps := ["one", "other"]) fun _ _ _ _ _ _ us hl => match us, hl with | [_, _], _ => rfl
  have F_is_ratio := fun_mk (st := topS 19) l_is_ratio c_is_ratio k_is_ratio
  have b_is_ratio := F_is_ratio.binds (ps := ["value"]) fun _ _ _ _ _ _ us hl => match us, hl with | [_], _ => rfl
  have F_add := fun_mk (st := topS 20) l_add c_add k_add
  have b_add := F_add.binds (ps := ["one", "other"]) fun _ _ _ _ _ _ us hl => match us, hl with | [_, _], _ => rfl
  have F_subtract := fun_mk (st := topS 21) l_subtract c_subtract k_subtract
  have b_subtract := F_subtract.binds (ps := ["one", "other"]) fun _ _ _ _ _ _ us hl => match us, hl with | [_, _], _ => rfl
  have F_multiply := fun_mk (st := topS 22) l_multiply c_multiply k_multiply
  have b_multiply := F_multiply.binds (ps := ["one", "other"]) fun _ _ _ _ _ _ us hl => match us, hl with | [_, _], _ => rfl
  have F_divide := fun_mk (st := topS 23) l_divide c_divide k_divide
  have b_divide := F_divide.binds (ps := ["one", "other"]) fun _ _ _ _ _ _ us hl => match us, hl with | [_, _], _ => rfl
  have F_sign := fun_mk (st := topS 24) l_sign c_sign k_sign
  have b_sign := F_sign.binds (ps := ["one"]) fun _ _ _ _ _ _ us hl => match us, hl with | [_], _ => rfl
  have F_root := fun_mk (st := topS 25) l_root c_root k_root
  have b_root := F_root.binds (ps := ["one"]) fun _ _ _ _ _ _ us hl => match us, hl with | [_], _ => rfl
  have F_root_sign := fun_mk (st := topS 26) l_root_sign c_root_sign k_root_sign
  have b_root_sign := F_root_sign.binds (ps := ["plain", "factor", "under"]) fun _ _ _ _ _ _ us hl => match us, hl with | [_, _, _], _ => rfl
  have F_is_point := fun_mk (st := topS 30) l_is_point c_is_point k_is_point
  have b_is_point := F_is_point.binds (ps := ["value"]) fun _ _ _ _ _ _ us hl => match us, hl with | [_], _ => rfl
  have F_point_sum := fun_mk (st := topS 31) l_point_sum c_point_sum k_point_sum
  have b_point_sum := F_point_sum.binds (ps := ["one", "other"]) fun _ _ _ _ _ _ us hl => match us, hl with | [_, _], _ => rfl
  have F_point_gap := fun_mk (st := topS 32) l_point_gap c_point_gap k_point_gap
  have b_point_gap := F_point_gap.binds (ps := ["one", "other"]) fun _ _ _ _ _ _ us hl => match us, hl with | [_, _], _ => rfl
  have F_point_times := fun_mk (st := topS 33) l_point_times c_point_times k_point_times
  have b_point_times := F_point_times.binds (ps := ["point", "factor"]) fun _ _ _ _ _ _ us hl => match us, hl with | [_, _], _ => rfl
  have F_point_dot := fun_mk (st := topS 34) l_point_dot c_point_dot k_point_dot
  have b_point_dot := F_point_dot.binds (ps := ["one", "other"]) fun _ _ _ _ _ _ us hl => match us, hl with | [_, _], _ => rfl
  have F_point_cross := fun_mk (st := topS 35) l_point_cross c_point_cross k_point_cross
  have b_point_cross := F_point_cross.binds (ps := ["one", "other"]) fun _ _ _ _ _ _ us hl => match us, hl with | [_, _], _ => rfl
  have F_point_square := fun_mk (st := topS 36) l_point_square c_point_square k_point_square
  have b_point_square := F_point_square.binds (ps := ["point"]) fun _ _ _ _ _ _ us hl => match us, hl with | [_], _ => rfl
  have F_is_positive := fun_mk (st := topS 38) l_is_positive c_is_positive k_is_positive
  have b_is_positive := F_is_positive.binds (ps := ["value"]) fun _ _ _ _ _ _ us hl => match us, hl with | [_], _ => rfl
  have F_is_side := fun_mk (st := topS 39) l_is_side c_is_side k_is_side
  have b_is_side := F_is_side.binds (ps := ["value"]) fun _ _ _ _ _ _ us hl => match us, hl with | [_], _ => rfl
  have F_is_spot := fun_mk (st := topS 40) l_is_spot c_is_spot k_is_spot
  have b_is_spot := F_is_spot.binds (ps := ["value"]) fun _ _ _ _ _ _ us hl => match us, hl with | [_], _ => rfl
  have F_check_point := fun_mk (st := topS 41) l_check_point c_check_point k_check_point
  have b_check_point := F_check_point.binds (ps := ["value", "argument"]) fun _ _ _ _ _ _ us hl => match us, hl with | [_, _], _ => rfl
  have F_check_positive := fun_mk (st := topS 42) l_check_positive c_check_positive k_check_positive
  have b_check_positive := F_check_positive.binds (ps := ["value", "argument"]) fun _ _ _ _ _ _ us hl => match us, hl with | [_, _], _ => rfl
  have F_spot_at := fun_mk (st := topS 43) l_spot_at c_spot_at k_spot_at
  have b_spot_at := F_spot_at.binds (ps := ["base", "lean", "under"]) fun _ _ _ _ _ _ us hl => match us, hl with | [_, _, _], _ => rfl
  have F_meet_line : FunD K "meet_line" "meet_line" (defArgs (topS 44)) (defBody (topS 44)) (defScope (topS 44)) [] [("side", .int 1)] f_meet_line _ := ⟨⟨_, _, _, _, _, _, _, _, _, _, rfl, l_meet_line, c_meet_line, .inl ⟨rfl, rfl⟩, .inr ⟨Dkw, rfl, fun q hq => (by rw [List.mem_singleton.mp hq]; exact ⟨_, kwmeet, ⟨tkw, rfl⟩⟩)⟩⟩, k_meet_line⟩
  obtain ⟨ds_meet_line, vd_meet_line, bd_meet_line⟩ := F_meet_line.binds0 (ps := ["place", "direction", "centre", "squared", "side"]) 4 (by simp) rfl fun _ _ _ _ _ _ us ks h1 h2 => match us, ks, h1, h2 with | [_, _, _, _], [_], _, _ => ⟨_, _, _, _, _, _, rfl, rfl, rfl⟩
  obtain ⟨_, kb_meet_line⟩ := F_meet_line.kbinds0 (ps := ["place", "direction", "centre", "squared", "side"]) 4 ["side"] [] (fun us mv ws => us ++ ws) (by simp) (by simp) (fun r1 _ r3 => r1.append r3) fun _ _ _ _ _ _ us mv ws h1 h2 h3 => match us, mv, ws, h1, h2, h3 with | [_, _, _, _], [], [_], _, _, _ => rfl
  have F_spot_parts := fun_mk (st := topS 45) l_spot_parts c_spot_parts k_spot_parts
  have b_spot_parts := F_spot_parts.binds (ps := ["spot"]) fun _ _ _ _ _ _ us hl => match us, hl with | [_], _ => rfl
  have F_side_of := fun_mk (st := topS 46) l_side_of c_side_of k_side_of
  have b_side_of := F_side_of.binds (ps := ["spot", "one", "other"]) fun _ _ _ _ _ _ us hl => match us, hl with | [_, _, _], _ => rfl
  have F_distance_sign := fun_mk (st := topS 47) l_distance_sign c_distance_sign k_distance_sign
  have b_distance_sign := F_distance_sign.binds (ps := ["spot", "centre", "squared"]) fun _ _ _ _ _ _ us hl => match us, hl with | [_, _, _], _ => rfl
  have F_store := fun_mk (st := topS 49) l_store c_store k_store
  have b_store := F_store.binds (ps := ["script"]) fun _ _ _ _ _ _ us hl => match us, hl with | [_], _ => rfl
  have F_take := fun_mk (st := topS 50) l_take c_take k_take
  have b_take := F_take.binds (ps := ["store", "many"]) fun _ _ _ _ _ _ us hl => match us, hl with | [_, _], _ => rfl
  have F_edge := fun_mk (st := topS 51) l_edge c_edge k_edge
  have b_edge := F_edge.binds (ps := ["store", "many"]) fun _ _ _ _ _ _ us hl => match us, hl with | [_, _], _ => rfl
  have F_between := fun_mk (st := topS 52) l_between c_between k_between
  have b_between := F_between.binds (ps := ["store", "low", "high"]) fun _ _ _ _ _ _ us hl => match us, hl with | [_, _, _], _ => rfl
  have F_mixed := fun_mk (st := topS 53) l_mixed c_mixed k_mixed
  have b_mixed := F_mixed.binds (ps := ["store", "items"]) fun _ _ _ _ _ _ us hl => match us, hl with | [_, _], _ => rfl
  have F_low := fun_mk (st := topS 54) l_low c_low k_low
  have b_low := F_low.binds (ps := ["up", "down"]) fun _ _ _ _ _ _ us hl => match us, hl with | [_, _], _ => rfl
  have F_plus := fun_mk (st := topS 55) l_plus c_plus k_plus
  have b_plus := F_plus.binds (ps := ["one", "two"]) fun _ _ _ _ _ _ us hl => match us, hl with | [_, _], _ => rfl
  have F_minus := fun_mk (st := topS 56) l_minus c_minus k_minus
  have b_minus := F_minus.binds (ps := ["one", "two"]) fun _ _ _ _ _ _ us hl => match us, hl with | [_, _], _ => rfl
  have F_times := fun_mk (st := topS 57) l_times c_times k_times
  have b_times := F_times.binds (ps := ["one", "two"]) fun _ _ _ _ _ _ us hl => match us, hl with | [_, _], _ => rfl
  have F_over := fun_mk (st := topS 58) l_over c_over k_over
  have b_over := F_over.binds (ps := ["one", "two"]) fun _ _ _ _ _ _ us hl => match us, hl with | [_, _], _ => rfl
  have F_neg := fun_mk (st := topS 59) l_neg c_neg k_neg
  have b_neg := F_neg.binds (ps := ["one"]) fun _ _ _ _ _ _ us hl => match us, hl with | [_], _ => rfl
  have F_sgn := fun_mk (st := topS 60) l_sgn c_sgn k_sgn
  have b_sgn := F_sgn.binds (ps := ["one"]) fun _ _ _ _ _ _ us hl => match us, hl with | [_], _ => rfl
  have F_cmp := fun_mk (st := topS 61) l_cmp c_cmp k_cmp
  have b_cmp := F_cmp.binds (ps := ["one", "two"]) fun _ _ _ _ _ _ us hl => match us, hl with | [_, _], _ => rfl
  have F_padd := fun_mk (st := topS 62) l_padd c_padd k_padd
  have b_padd := F_padd.binds (ps := ["one", "two"]) fun _ _ _ _ _ _ us hl => match us, hl with | [_, _], _ => rfl
  have F_psub := fun_mk (st := topS 63) l_psub c_psub k_psub
  have b_psub := F_psub.binds (ps := ["one", "two"]) fun _ _ _ _ _ _ us hl => match us, hl with | [_, _], _ => rfl
  have F_pmul := fun_mk (st := topS 64) l_pmul c_pmul k_pmul
  have b_pmul := F_pmul.binds (ps := ["by", "one"]) fun _ _ _ _ _ _ us hl => match us, hl with | [_, _], _ => rfl
  have F_pdot := fun_mk (st := topS 65) l_pdot c_pdot k_pdot
  have b_pdot := F_pdot.binds (ps := ["one", "two"]) fun _ _ _ _ _ _ us hl => match us, hl with | [_, _], _ => rfl
  have F_pcross := fun_mk (st := topS 66) l_pcross c_pcross k_pcross
  have b_pcross := F_pcross.binds (ps := ["one", "two"]) fun _ _ _ _ _ _ us hl => match us, hl with | [_, _], _ => rfl
  have F_pleft := fun_mk (st := topS 67) l_pleft c_pleft k_pleft
  have b_pleft := F_pleft.binds (ps := ["one"]) fun _ _ _ _ _ _ us hl => match us, hl with | [_], _ => rfl
  have F_psq := fun_mk (st := topS 68) l_psq c_psq k_psq
  have b_psq := F_psq.binds (ps := ["one"]) fun _ _ _ _ _ _ us hl => match us, hl with | [_], _ => rfl
  have F_pzero := fun_mk (st := topS 69) l_pzero c_pzero k_pzero
  have b_pzero := F_pzero.binds (ps := ["one"]) fun _ _ _ _ _ _ us hl => match us, hl with | [_], _ => rfl
  have F_small := fun_mk (st := topS 70) l_small c_small k_small
  have b_small := F_small.binds (ps := ["store"]) fun _ _ _ _ _ _ us hl => match us, hl with | [_], _ => rfl
  have F_positive := fun_mk (st := topS 71) l_positive c_positive k_positive
  have b_positive := F_positive.binds (ps := ["store"]) fun _ _ _ _ _ _ us hl => match us, hl with | [_], _ => rfl
  have F_point := fun_mk (st := topS 72) l_point c_point k_point
  have b_point := F_point.binds (ps := ["store"]) fun _ _ _ _ _ _ us hl => match us, hl with | [_], _ => rfl
  have F_direction := fun_mk (st := topS 73) l_direction c_direction k_direction
  have b_direction := F_direction.binds (ps := ["store"]) fun _ _ _ _ _ _ us hl => match us, hl with | [_], _ => rfl
  have F_not_ratio := fun_mk (st := topS 74) l_not_ratio c_not_ratio k_not_ratio
  have b_not_ratio := F_not_ratio.binds (ps := ["store", "none_too"]) fun _ _ _ _ _ _ us hl => match us, hl with | [_, _], _ => rfl
  have F_not_point := fun_mk (st := topS 75) l_not_point c_not_point k_not_point
  have b_not_point := F_not_point.binds (ps := ["store"]) fun _ _ _ _ _ _ us hl => match us, hl with | [_], _ => rfl
  have F_not_direction := fun_mk (st := topS 76) l_not_direction c_not_direction k_not_direction
  have b_not_direction := F_not_direction.binds (ps := ["store"]) fun _ _ _ _ _ _ us hl => match us, hl with | [_], _ => rfl
  have F_is_int := fun_mk (st := topS 77) l_is_int c_is_int k_is_int
  have b_is_int := F_is_int.binds (ps := ["thing"]) fun _ _ _ _ _ _ us hl => match us, hl with | [_], _ => rfl
  have F_lis_ratio := fun_mk (st := topS 78) l_lis_ratio c_lis_ratio k_lis_ratio
  have b_lis_ratio := F_lis_ratio.binds (ps := ["thing"]) fun _ _ _ _ _ _ us hl => match us, hl with | [_], _ => rfl
  have F_lis_point := fun_mk (st := topS 79) l_lis_point c_lis_point k_lis_point
  have b_lis_point := F_lis_point.binds (ps := ["thing"]) fun _ _ _ _ _ _ us hl => match us, hl with | [_], _ => rfl
  have F_is_word := fun_mk (st := topS 80) l_is_word c_is_word k_is_word
  have b_is_word := F_is_word.binds (ps := ["thing", "word", "many"]) fun _ _ _ _ _ _ us hl => match us, hl with | [_, _, _], _ => rfl
  have F_whole_root := fun_mk (st := topS 81) l_whole_root c_whole_root k_whole_root
  have b_whole_root := F_whole_root.binds (ps := ["number"]) fun _ _ _ _ _ _ us hl => match us, hl with | [_], _ => rfl
  have F_lroot := fun_mk (st := topS 82) l_lroot c_lroot k_lroot
  have b_lroot := F_lroot.binds (ps := ["one"]) fun _ _ _ _ _ _ us hl => match us, hl with | [_], _ => rfl
  have F_lroot_sign := fun_mk (st := topS 83) l_lroot_sign c_lroot_sign k_lroot_sign
  have b_lroot_sign := F_lroot_sign.binds (ps := ["plain", "factor", "under"]) fun _ _ _ _ _ _ us hl => match us, hl with | [_, _, _], _ => rfl
  have F_lspot_parts := fun_mk (st := topS 84) l_lspot_parts c_lspot_parts k_lspot_parts
  have b_lspot_parts := F_lspot_parts.binds (ps := ["spot"]) fun _ _ _ _ _ _ us hl => match us, hl with | [_], _ => rfl
  have F_spot_apart := fun_mk (st := topS 85) l_spot_apart c_spot_apart k_spot_apart
  have b_spot_apart := F_spot_apart.binds (ps := ["spot", "middle", "squared_by"]) fun _ _ _ _ _ _ us hl => match us, hl with | [_, _, _], _ => rfl
  have F_line_circle := fun_mk (st := topS 86) l_line_circle c_line_circle k_line_circle
  have b_line_circle := F_line_circle.binds (ps := ["store"]) fun _ _ _ _ _ _ us hl => match us, hl with | [_], _ => rfl
  have F_like := fun_mk (st := topS 87) l_like c_like k_like
  have b_like := F_like.binds (ps := ["got", "due"]) fun _ _ _ _ _ _ us hl => match us, hl with | [_, _], _ => rfl
  have F_long := fun_mk (st := topS 88) l_long c_long k_long
  have b_long := F_long.binds (ps := ["store"]) fun _ _ _ _ _ _ us hl => match us, hl with | [_], _ => rfl
  have F_wide_line := fun_mk (st := topS 89) l_wide_line c_wide_line k_wide_line
  have b_wide_line := F_wide_line.binds (ps := ["store"]) fun _ _ _ _ _ _ us hl => match us, hl with | [_], _ => rfl
  have F_gap := fun_mk (st := topS 90) l_gap c_gap k_gap
  have b_gap := F_gap.binds (ps := ["base", "along", "middle"]) fun _ _ _ _ _ _ us hl => match us, hl with | [_, _, _], _ => rfl
  have F_drawn := fun_mk (st := topS 91) l_drawn c_drawn k_drawn
  have b_drawn := F_drawn.binds (ps := ["store"]) fun _ _ _ _ _ _ us hl => match us, hl with | [_], _ => rfl
  have F_on_line := fun_mk (st := topS 92) l_on_line c_on_line k_on_line
  have b_on_line := F_on_line.binds (ps := ["base", "along", "spot"]) fun _ _ _ _ _ _ us hl => match us, hl with | [_, _, _], _ => rfl
  have F_right := fun_mk (st := topS 93) l_right c_right k_right
  have b_right := F_right.binds (ps := ["base", "along", "middle", "by", "way", "told"]) fun _ _ _ _ _ _ us hl => match us, hl with | [_, _, _, _, _, _], _ => rfl
  have F_spot_right := fun_mk (st := topS 94) l_spot_right c_spot_right k_spot_right
  have b_spot_right := F_spot_right.binds (ps := ["store", "asked", "way", "spot"]) fun _ _ _ _ _ _ us hl => match us, hl with | [_, _, _, _], _ => rfl
  have F_failed := fun_mk (st := topS 95) l_failed c_failed k_failed
  have b_failed := F_failed.binds (ps := ["e"]) fun _ _ _ _ _ _ us hl => match us, hl with | [_], _ => rfl
  have F_call := fun_mk (st := topS 96) l_call c_call k_call
  have b_call := F_call.binds (ps := ["which", "asked"]) fun _ _ _ _ _ _ us hl => match us, hl with | [_, _], _ => rfl
  have F_bad_size := fun_mk (st := topS 97) l_bad_size c_bad_size k_bad_size
  have b_bad_size := F_bad_size.binds (ps := ["store"]) fun _ _ _ _ _ _ us hl => match us, hl with | [_], _ => rfl
  have F_bad_spot := fun_mk (st := topS 98) l_bad_spot c_bad_spot k_bad_spot
  have b_bad_spot := F_bad_spot.binds (ps := ["store"]) fun _ _ _ _ _ _ us hl => match us, hl with | [_], _ => rfl
  have F_refusals := fun_mk (st := topS 99) l_refusals c_refusals k_refusals
  have b_refusals := F_refusals.binds (ps := ["store", "asked", "spot"]) fun _ _ _ _ _ _ us hl => match us, hl with | [_, _, _], _ => rfl
  have F_law := fun_mk (st := topS 100) l_law c_law k_law
  have b_law := F_law.binds (ps := ["script"]) fun _ _ _ _ _ _ us hl => match us, hl with | [_], _ => rfl
  have FiWrongKind : FunD K "__init__" "WrongKind.__init__" (defArgs (inClass (topS 2) 0)) (defBody (inClass (topS 2) 0)) (defScope (inClass (topS 2) 0)) [] [] fiWrongKind _ := ⟨⟨_, _, _, _, _, _, _, _, _, _, rfl, liWrongKind, ciWrongKind, .inl ⟨rfl, rfl⟩, .inl rfl⟩, kiWrongKind⟩
  have b1iWrongKind := FiWrongKind.bindsN (ps := ["self", "argument"]) fun _ _ _ _ _ _ us hl => match us, hl with | [_, _], _ => rfl
  let T : Txt K mg := {
    dis_whole := ⟨f_is_whole, _, F_is_whole, b_is_whole, PySem.W.mg_of X G a_is_whole⟩
    ddivisor := ⟨f_divisor, _, F_divisor, b_divisor, PySem.W.mg_of X G a_divisor⟩
    dlowest := ⟨f_lowest, _, F_lowest, b_lowest, PySem.W.mg_of X G a_lowest⟩
    dsign_of := ⟨f_sign_of, _, F_sign_of, b_sign_of, PySem.W.mg_of X G a_sign_of⟩
    dfloor_root := ⟨f_floor_root, _, F_floor_root, b_floor_root, PySem.W.mg_of X G a_floor_root⟩
    dneed_ratio := ⟨f_need_ratio, _, F_need_ratio, b_need_ratio, PySem.W.mg_of X G a_need_ratio⟩
    dneed_two := ⟨f_need_two, _, F_need_two, b_need_two, PySem.W.mg_of X G a_need_two⟩
    dis_ratio := ⟨f_is_ratio, _, F_is_ratio, b_is_ratio, PySem.W.mg_of X G a_is_ratio⟩
    dadd := ⟨f_add, _, F_add, b_add, PySem.W.mg_of X G a_add⟩
    dsubtract := ⟨f_subtract, _, F_subtract, b_subtract, PySem.W.mg_of X G a_subtract⟩
    dmultiply := ⟨f_multiply, _, F_multiply, b_multiply, PySem.W.mg_of X G a_multiply⟩
    ddivide := ⟨f_divide, _, F_divide, b_divide, PySem.W.mg_of X G a_divide⟩
    dsign := ⟨f_sign, _, F_sign, b_sign, PySem.W.mg_of X G a_sign⟩
    droot := ⟨f_root, _, F_root, b_root, PySem.W.mg_of X G a_root⟩
    droot_sign := ⟨f_root_sign, _, F_root_sign, b_root_sign, PySem.W.mg_of X G a_root_sign⟩
    dis_point := ⟨f_is_point, _, F_is_point, b_is_point, PySem.W.mg_of X G a_is_point⟩
    dpoint_sum := ⟨f_point_sum, _, F_point_sum, b_point_sum, PySem.W.mg_of X G a_point_sum⟩
    dpoint_gap := ⟨f_point_gap, _, F_point_gap, b_point_gap, PySem.W.mg_of X G a_point_gap⟩
    dpoint_times := ⟨f_point_times, _, F_point_times, b_point_times, PySem.W.mg_of X G a_point_times⟩
    dpoint_dot := ⟨f_point_dot, _, F_point_dot, b_point_dot, PySem.W.mg_of X G a_point_dot⟩
    dpoint_cross := ⟨f_point_cross, _, F_point_cross, b_point_cross, PySem.W.mg_of X G a_point_cross⟩
    dpoint_square := ⟨f_point_square, _, F_point_square, b_point_square, PySem.W.mg_of X G a_point_square⟩
    dis_positive := ⟨f_is_positive, _, F_is_positive, b_is_positive, PySem.W.mg_of X G a_is_positive⟩
    dis_side := ⟨f_is_side, _, F_is_side, b_is_side, PySem.W.mg_of X G a_is_side⟩
    dis_spot := ⟨f_is_spot, _, F_is_spot, b_is_spot, PySem.W.mg_of X G a_is_spot⟩
    dcheck_point := ⟨f_check_point, _, F_check_point, b_check_point, PySem.W.mg_of X G a_check_point⟩
    dcheck_positive := ⟨f_check_positive, _, F_check_positive, b_check_positive, PySem.W.mg_of X G a_check_positive⟩
    dspot_at := ⟨f_spot_at, _, F_spot_at, b_spot_at, PySem.W.mg_of X G a_spot_at⟩
    dmeet_line := ⟨f_meet_line, _, F_meet_line, ds_meet_line, vd_meet_line, bd_meet_line, kb_meet_line, PySem.W.mg_of X G a_meet_line⟩
    dspot_parts := ⟨f_spot_parts, _, F_spot_parts, b_spot_parts, PySem.W.mg_of X G a_spot_parts⟩
    dside_of := ⟨f_side_of, _, F_side_of, b_side_of, PySem.W.mg_of X G a_side_of⟩
    ddistance_sign := ⟨f_distance_sign, _, F_distance_sign, b_distance_sign, PySem.W.mg_of X G a_distance_sign⟩
    dstore := ⟨f_store, _, F_store, b_store, PySem.W.mg_of X G a_store⟩
    dtake := ⟨f_take, _, F_take, b_take, PySem.W.mg_of X G a_take⟩
    dedge := ⟨f_edge, _, F_edge, b_edge, PySem.W.mg_of X G a_edge⟩
    dbetween := ⟨f_between, _, F_between, b_between, PySem.W.mg_of X G a_between⟩
    dmixed := ⟨f_mixed, _, F_mixed, b_mixed, PySem.W.mg_of X G a_mixed⟩
    dlow := ⟨f_low, _, F_low, b_low, PySem.W.mg_of X G a_low⟩
    dplus := ⟨f_plus, _, F_plus, b_plus, PySem.W.mg_of X G a_plus⟩
    dminus := ⟨f_minus, _, F_minus, b_minus, PySem.W.mg_of X G a_minus⟩
    dtimes := ⟨f_times, _, F_times, b_times, PySem.W.mg_of X G a_times⟩
    dover := ⟨f_over, _, F_over, b_over, PySem.W.mg_of X G a_over⟩
    dneg := ⟨f_neg, _, F_neg, b_neg, PySem.W.mg_of X G a_neg⟩
    dsgn := ⟨f_sgn, _, F_sgn, b_sgn, PySem.W.mg_of X G a_sgn⟩
    dcmp := ⟨f_cmp, _, F_cmp, b_cmp, PySem.W.mg_of X G a_cmp⟩
    dpadd := ⟨f_padd, _, F_padd, b_padd, PySem.W.mg_of X G a_padd⟩
    dpsub := ⟨f_psub, _, F_psub, b_psub, PySem.W.mg_of X G a_psub⟩
    dpmul := ⟨f_pmul, _, F_pmul, b_pmul, PySem.W.mg_of X G a_pmul⟩
    dpdot := ⟨f_pdot, _, F_pdot, b_pdot, PySem.W.mg_of X G a_pdot⟩
    dpcross := ⟨f_pcross, _, F_pcross, b_pcross, PySem.W.mg_of X G a_pcross⟩
    dpleft := ⟨f_pleft, _, F_pleft, b_pleft, PySem.W.mg_of X G a_pleft⟩
    dpsq := ⟨f_psq, _, F_psq, b_psq, PySem.W.mg_of X G a_psq⟩
    dpzero := ⟨f_pzero, _, F_pzero, b_pzero, PySem.W.mg_of X G a_pzero⟩
    dsmall := ⟨f_small, _, F_small, b_small, PySem.W.mg_of X G a_small⟩
    dpositive := ⟨f_positive, _, F_positive, b_positive, PySem.W.mg_of X G a_positive⟩
    dpoint := ⟨f_point, _, F_point, b_point, PySem.W.mg_of X G a_point⟩
    ddirection := ⟨f_direction, _, F_direction, b_direction, PySem.W.mg_of X G a_direction⟩
    dnot_ratio := ⟨f_not_ratio, _, F_not_ratio, b_not_ratio, PySem.W.mg_of X G a_not_ratio⟩
    dnot_point := ⟨f_not_point, _, F_not_point, b_not_point, PySem.W.mg_of X G a_not_point⟩
    dnot_direction := ⟨f_not_direction, _, F_not_direction, b_not_direction, PySem.W.mg_of X G a_not_direction⟩
    dis_int := ⟨f_is_int, _, F_is_int, b_is_int, PySem.W.mg_of X G a_is_int⟩
    dlis_ratio := ⟨f_lis_ratio, _, F_lis_ratio, b_lis_ratio, PySem.W.mg_of X G a_lis_ratio⟩
    dlis_point := ⟨f_lis_point, _, F_lis_point, b_lis_point, PySem.W.mg_of X G a_lis_point⟩
    dis_word := ⟨f_is_word, _, F_is_word, b_is_word, PySem.W.mg_of X G a_is_word⟩
    dwhole_root := ⟨f_whole_root, _, F_whole_root, b_whole_root, PySem.W.mg_of X G a_whole_root⟩
    dlroot := ⟨f_lroot, _, F_lroot, b_lroot, PySem.W.mg_of X G a_lroot⟩
    dlroot_sign := ⟨f_lroot_sign, _, F_lroot_sign, b_lroot_sign, PySem.W.mg_of X G a_lroot_sign⟩
    dlspot_parts := ⟨f_lspot_parts, _, F_lspot_parts, b_lspot_parts, PySem.W.mg_of X G a_lspot_parts⟩
    dspot_apart := ⟨f_spot_apart, _, F_spot_apart, b_spot_apart, PySem.W.mg_of X G a_spot_apart⟩
    dline_circle := ⟨f_line_circle, _, F_line_circle, b_line_circle, PySem.W.mg_of X G a_line_circle⟩
    dlike := ⟨f_like, _, F_like, b_like, PySem.W.mg_of X G a_like⟩
    dlong := ⟨f_long, _, F_long, b_long, PySem.W.mg_of X G a_long⟩
    dwide_line := ⟨f_wide_line, _, F_wide_line, b_wide_line, PySem.W.mg_of X G a_wide_line⟩
    dgap := ⟨f_gap, _, F_gap, b_gap, PySem.W.mg_of X G a_gap⟩
    ddrawn := ⟨f_drawn, _, F_drawn, b_drawn, PySem.W.mg_of X G a_drawn⟩
    don_line := ⟨f_on_line, _, F_on_line, b_on_line, PySem.W.mg_of X G a_on_line⟩
    dright := ⟨f_right, _, F_right, b_right, PySem.W.mg_of X G a_right⟩
    dspot_right := ⟨f_spot_right, _, F_spot_right, b_spot_right, PySem.W.mg_of X G a_spot_right⟩
    dfailed := ⟨f_failed, _, F_failed, b_failed, PySem.W.mg_of X G a_failed⟩
    dcall := ⟨f_call, _, F_call, b_call, PySem.W.mg_of X G a_call⟩
    dbad_size := ⟨f_bad_size, _, F_bad_size, b_bad_size, PySem.W.mg_of X G a_bad_size⟩
    dbad_spot := ⟨f_bad_spot, _, F_bad_spot, b_bad_spot, PySem.W.mg_of X G a_bad_spot⟩
    drefusals := ⟨f_refusals, _, F_refusals, b_refusals, PySem.W.mg_of X G a_refusals⟩
    dlaw := ⟨fa, _, F_law, b_law, PySem.W.mg_of X G a_law⟩
    m_sorted := PySem.W.mg_none_of X G z_sorted
    m_reversed := PySem.W.mg_none_of X G z_reversed
    m_len := PySem.W.mg_none_of X G z_len
    m_max := PySem.W.mg_none_of X G z_max
    m_min := PySem.W.mg_none_of X G z_min
    m_abs := PySem.W.mg_none_of X G z_abs
    m_int := PySem.W.mg_none_of X G z_int
    m_str := PySem.W.mg_none_of X G z_str
    m_bool := PySem.W.mg_none_of X G z_bool
    m_list := PySem.W.mg_none_of X G z_list
    m_tuple := PySem.W.mg_none_of X G z_tuple
    m_dict := PySem.W.mg_none_of X G z_dict
    m_isinstance := PySem.W.mg_none_of X G z_isinstance
    m_range := PySem.W.mg_none_of X G z_range
    m_all := PySem.W.mg_none_of X G z_all
    m_ValueError := PySem.W.mg_none_of X G z_ValueError
    dig := dig
    aZERO_RATIO := aZERO_RATIO
    kZERO_RATIO := PySem.W.mg_of X G qZERO_RATIO
    vZERO_RATIO := fun so A => ⟨aZERO_RATIO, [.int 0, .int 1], rfl, (.inr ⟨_, _, nNZERO_RATIO, lNZERO_RATIO, rfl, rfl, (by show 2 ≤ sizeLine; decide), .cons ⟨tk0ZERO_RATIO, rfl⟩ (.cons ⟨tk1ZERO_RATIO, rfl⟩ .nil)⟩), .int 0, [.int 1], rfl, rfl, .int 1, [], rfl, rfl, rfl⟩
    aORIGIN := aORIGIN
    kORIGIN := PySem.W.mg_of X G qORIGIN
    vORIGIN := fun so A => ⟨aORIGIN, [.ref aOA, .ref aOB], rfl, (.inr ⟨_, _, nNORIGIN, lNORIGIN, rfl, rfl, (by show 2 ≤ sizeLine; decide), .cons rfl (.cons rfl .nil)⟩), .ref aOA, [.ref aOB], rfl, ⟨aOA, [.int 0, .int 1], rfl, (.inr ⟨_, _, nNOA, lNOA, rfl, rfl, (by show 2 ≤ sizeLine; decide), .cons ⟨tk0OA, rfl⟩ (.cons ⟨tk1OA, rfl⟩ .nil)⟩), .int 0, [.int 1], rfl, rfl, .int 1, [], rfl, rfl, rfl⟩, .ref aOB, [], rfl, ⟨aOB, [.int 0, .int 1], rfl, (.inr ⟨_, _, nNOB, lNOB, rfl, rfl, (by show 2 ≤ sizeLine; decide), .cons ⟨tk0OB, rfl⟩ (.cons ⟨tk1OB, rfl⟩ .nil)⟩), .int 0, [.int 1], rfl, rfl, .int 1, [], rfl, rfl, rfl⟩, rfl⟩
    cFrameError := ⟨CFrameError, PySem.W.mg_of X G aFrameError⟩
    cWrongKind := ⟨CWrongKind, PySem.W.mg_of X G aWrongKind, ⟨⟨nmWrongKind, qnWrongKind, NWrongKind, bsWrongKind, bmWrongKind, snWrongKind, subWrongKind, abWrongKind, colWrongKind, ddWrongKind, m0WrongKind, m1WrongKind, m2WrongKind, m3WrongKind, m5WrongKind, xLWrongKind, rvWrongKind⟩, saWrongKind, exWrongKind, tyWrongKind, kcWrongKind⟩, ⟨⟨hgWrongKind, hkWrongKind, exWrongKind, hdWrongKind, haWrongKind, hn, ht, hmWrongKind⟩, cl_of xLWrongKind⟩⟩
    cOutOfBounds := ⟨COutOfBounds, PySem.W.mg_of X G aOutOfBounds⟩
    cRepeatedName := ⟨CRepeatedName, PySem.W.mg_of X G aRepeatedName⟩
    cUnknownName := ⟨CUnknownName, PySem.W.mg_of X G aUnknownName⟩
    cUnfitError := ⟨CUnfitError, PySem.W.mg_of X G aUnfitError⟩
    cZeroDivisor := ⟨CZeroDivisor, PySem.W.mg_of X G aZeroDivisor⟩
    cNegativeRoot := ⟨CNegativeRoot, PySem.W.mg_of X G aNegativeRoot⟩
    cUnsafe := ⟨CUnsafe, PySem.W.mg_of X G aUnsafe⟩
    cBadText := ⟨CBadText, PySem.W.mg_of X G aBadText⟩
    iWrongKind := ⟨fiWrongKind, _, FiWrongKind, b1iWrongKind, [], .nil, b1iWrongKind, aiWrongKind, tiWrongKind⟩
    zWrongKind := ⟨fun f hf => by rw [List.mem_singleton.mp hf]; exact nWrongKind_argument, ⟨⟨nmWrongKind, qnWrongKind, NWrongKind, bsWrongKind, bmWrongKind, snWrongKind, subWrongKind, abWrongKind, colWrongKind, ddWrongKind, m0WrongKind, m1WrongKind, m2WrongKind, m3WrongKind, m5WrongKind, xLWrongKind, rvWrongKind⟩, saWrongKind, exWrongKind, tyWrongKind, kcWrongKind⟩, mk1_da⟩
    kWrongKind_WrongKind := kit_tR isWrongKind tyWrongKind kWrongKind_WrongKind
    kWrongKind_OutOfBounds := kit_fR neWrongKind_OutOfBounds isOutOfBounds tyOutOfBounds kWrongKind_OutOfBounds
    kWrongKind_RepeatedName := kit_fR neWrongKind_RepeatedName isRepeatedName tyRepeatedName kWrongKind_RepeatedName
    kWrongKind_UnknownName := kit_fR neWrongKind_UnknownName isUnknownName tyUnknownName kWrongKind_UnknownName
    kWrongKind_UnfitError := kit_fR neWrongKind_UnfitError isUnfitError tyUnfitError kWrongKind_UnfitError
    kWrongKind_Unsafe := kit_fR neWrongKind_Unsafe isUnsafe tyUnsafe kWrongKind_Unsafe
    kWrongKind_BadText := kit_fR neWrongKind_BadText isBadText tyBadText kWrongKind_BadText
    kWrongKind_ValueError := kit_tT kWrongKind_ValueError
    xWrongKind := exm_t exFrameError isFrameError tyFrameError kWrongKind_FrameError
  }
  exact ⟨PySem.W.fnOf "law" "law" (defArgs (topS 100)) (defBody (topS 100)) (defScope (topS 100)) .none kV_law dc_law pm_law an_law cd_law ct_law, fun s v => .of_eq rfl, fun base _ _ => ok_law T⟩
theorem walk {l : PySem.W.OpenLaw} {q : Program} {loose : List Str} {XP : (Str → Option Value) → Heap → Prop} {YP : World → Heap → Prop} {d : DefRec} {K : Params → PySem.W.Frag} (hn : l.most = some 63) (hdf : d.params.defaults = [])
    (hY : ∀ (w : World) (h : Heap), YP w h → (K w.params).In h)
    (F : ∀ (w : World) (mg : Str → Option Value) (fa : Addr) (h : Heap), (K w.params).In h → h.Ns mainGlobals mg → mg d.name = some (.ref fa) →
      ∃ fd : FuncData, (∀ (s : Shared) (u : Value), BindsTo s fd ⟨[u], []⟩ [("script", u)]) ∧ ∀ base : Heap, (K w.params).In base → base.Ns mainGlobals mg → FnOk l.prog w (K w.params) mg base (L2N.CX l.prog w) 179 fa fd ["script"] (spLaw (K w.params))) :
    PySem.W.WalkO q loose XP YP l.row.toRowW d [] (fun f vs => PySem.call f vs) :=
  L2.walk_of (n := 63) (k := 179) (x := "script") (CX := fun w => L2N.CX l.prog w) (sp := fun w => spLaw (K w.params)) hn (by decide) hdf ⟨rfl, by decide, by decide⟩ hY F (fun _ _ a ns hl _ hS => ⟨a, ns, rfl, hS, hl, fun _ => rfl⟩) fun w H s e s' z => by
    obtain ⟨_, _, _, _, _, _, _, _, _, _, _, _, z⟩ := z
    exact z
end My
open PySem PySem.W PyProof.Rows in
set_option maxRecDepth 100000 in
set_option maxHeartbeats 0 in
theorem PySem.Challenge.cw_standframes_k75_line_meets_circle_holds : PySem.Challenge.rw_standframes_k75_line_meets_circle.Holds := by
  w_on; o_law; k_head; (case hw => w_witness2)
  k_fill
  refine My.walk (l := PySem.Challenge.rw_standframes_k75_line_meets_circle) rfl rfl (fun w h Y => PySem.W.kIn_of Y) ?F
  case F =>
    intro w mg fa h KX G hmg
    refine' My.all_mk KX G hmg ?aFrameError ?aWrongKind ?aOutOfBounds ?aRepeatedName ?aUnknownName ?aUnfitError ?aZeroDivisor ?aNegativeRoot ?aUnsafe ?aBadText ?a_is_whole ?l_is_whole ?c_is_whole ?k_is_whole ?a_divisor ?l_divisor ?c_divisor ?k_divisor ?a_lowest ?l_lowest ?c_lowest ?k_lowest ?a_sign_of ?l_sign_of ?c_sign_of ?k_sign_of ?a_floor_root ?l_floor_root ?c_floor_root ?k_floor_root ?a_need_ratio ?l_need_ratio ?c_need_ratio ?k_need_ratio ?a_need_two ?l_need_two ?c_need_two ?k_need_two ?a_is_ratio ?l_is_ratio ?c_is_ratio ?k_is_ratio ?a_add ?l_add ?c_add ?k_add ?a_subtract ?l_subtract ?c_subtract ?k_subtract ?a_multiply ?l_multiply ?c_multiply ?k_multiply ?a_divide ?l_divide ?c_divide ?k_divide ?a_sign ?l_sign ?c_sign ?k_sign ?a_root ?l_root ?c_root ?k_root ?a_root_sign ?l_root_sign ?c_root_sign ?k_root_sign ?a_is_point ?l_is_point ?c_is_point ?k_is_point ?a_point_sum ?l_point_sum ?c_point_sum ?k_point_sum ?a_point_gap ?l_point_gap ?c_point_gap ?k_point_gap ?a_point_times ?l_point_times ?c_point_times ?k_point_times ?a_point_dot ?l_point_dot ?c_point_dot ?k_point_dot ?a_point_cross ?l_point_cross ?c_point_cross ?k_point_cross ?a_point_square ?l_point_square ?c_point_square ?k_point_square ?a_is_positive ?l_is_positive ?c_is_positive ?k_is_positive ?a_is_side ?l_is_side ?c_is_side ?k_is_side ?a_is_spot ?l_is_spot ?c_is_spot ?k_is_spot ?a_check_point ?l_check_point ?c_check_point ?k_check_point ?a_check_positive ?l_check_positive ?c_check_positive ?k_check_positive ?a_spot_at ?l_spot_at ?c_spot_at ?k_spot_at ?a_meet_line ?l_meet_line ?kwmeet ?c_meet_line ?k_meet_line ?a_spot_parts ?l_spot_parts ?c_spot_parts ?k_spot_parts ?a_side_of ?l_side_of ?c_side_of ?k_side_of ?a_distance_sign ?l_distance_sign ?c_distance_sign ?k_distance_sign ?a_store ?l_store ?c_store ?k_store ?a_take ?l_take ?c_take ?k_take ?a_edge ?l_edge ?c_edge ?k_edge ?a_between ?l_between ?c_between ?k_between ?a_mixed ?l_mixed ?c_mixed ?k_mixed ?a_low ?l_low ?c_low ?k_low ?a_plus ?l_plus ?c_plus ?k_plus ?a_minus ?l_minus ?c_minus ?k_minus ?a_times ?l_times ?c_times ?k_times ?a_over ?l_over ?c_over ?k_over ?a_neg ?l_neg ?c_neg ?k_neg ?a_sgn ?l_sgn ?c_sgn ?k_sgn ?a_cmp ?l_cmp ?c_cmp ?k_cmp ?a_padd ?l_padd ?c_padd ?k_padd ?a_psub ?l_psub ?c_psub ?k_psub ?a_pmul ?l_pmul ?c_pmul ?k_pmul ?a_pdot ?l_pdot ?c_pdot ?k_pdot ?a_pcross ?l_pcross ?c_pcross ?k_pcross ?a_pleft ?l_pleft ?c_pleft ?k_pleft ?a_psq ?l_psq ?c_psq ?k_psq ?a_pzero ?l_pzero ?c_pzero ?k_pzero ?a_small ?l_small ?c_small ?k_small ?a_positive ?l_positive ?c_positive ?k_positive ?a_point ?l_point ?c_point ?k_point ?a_direction ?l_direction ?c_direction ?k_direction ?a_not_ratio ?l_not_ratio ?c_not_ratio ?k_not_ratio ?a_not_point ?l_not_point ?c_not_point ?k_not_point ?a_not_direction ?l_not_direction ?c_not_direction ?k_not_direction ?a_is_int ?l_is_int ?c_is_int ?k_is_int ?a_lis_ratio ?l_lis_ratio ?c_lis_ratio ?k_lis_ratio ?a_lis_point ?l_lis_point ?c_lis_point ?k_lis_point ?a_is_word ?l_is_word ?c_is_word ?k_is_word ?a_whole_root ?l_whole_root ?c_whole_root ?k_whole_root ?a_lroot ?l_lroot ?c_lroot ?k_lroot ?a_lroot_sign ?l_lroot_sign ?c_lroot_sign ?k_lroot_sign ?a_lspot_parts ?l_lspot_parts ?c_lspot_parts ?k_lspot_parts ?a_spot_apart ?l_spot_apart ?c_spot_apart ?k_spot_apart ?a_line_circle ?l_line_circle ?c_line_circle ?k_line_circle ?a_like ?l_like ?c_like ?k_like ?a_long ?l_long ?c_long ?k_long ?a_wide_line ?l_wide_line ?c_wide_line ?k_wide_line ?a_gap ?l_gap ?c_gap ?k_gap ?a_drawn ?l_drawn ?c_drawn ?k_drawn ?a_on_line ?l_on_line ?c_on_line ?k_on_line ?a_right ?l_right ?c_right ?k_right ?a_spot_right ?l_spot_right ?c_spot_right ?k_spot_right ?a_failed ?l_failed ?c_failed ?k_failed ?a_call ?l_call ?c_call ?k_call ?a_bad_size ?l_bad_size ?c_bad_size ?k_bad_size ?a_bad_spot ?l_bad_spot ?c_bad_spot ?k_bad_spot ?a_refusals ?l_refusals ?c_refusals ?k_refusals ?a_law ?l_law ?c_law ?k_law ?xLWrongKind ?rvWrongKind ?saWrongKind ?exWrongKind ?tyWrongKind ?kcWrongKind ?hgWrongKind ?hkWrongKind ?hdWrongKind ?haWrongKind ?hmWrongKind ?aiWrongKind ?liWrongKind ?ciWrongKind ?kiWrongKind ?tiWrongKind ?nWrongKind_argument ?kWrongKind_WrongKind ?kWrongKind_OutOfBounds ?neWrongKind_OutOfBounds ?kWrongKind_RepeatedName ?neWrongKind_RepeatedName ?kWrongKind_UnknownName ?neWrongKind_UnknownName ?kWrongKind_UnfitError ?neWrongKind_UnfitError ?kWrongKind_Unsafe ?neWrongKind_Unsafe ?kWrongKind_BadText ?neWrongKind_BadText ?kWrongKind_ValueError ?kWrongKind_FrameError ?isWrongKind ?tyOutOfBounds ?isOutOfBounds ?tyRepeatedName ?isRepeatedName ?tyUnknownName ?isUnknownName ?tyUnfitError ?isUnfitError ?tyUnsafe ?isUnsafe ?tyBadText ?isBadText ?tyFrameError ?isFrameError ?exFrameError ?qZERO_RATIO ?lNZERO_RATIO ?qORIGIN ?lNORIGIN ?lNOA ?lNOB ?hn ?ht ?z_sorted ?z_reversed ?z_len ?z_max ?z_min ?z_abs ?z_int ?z_str ?z_bool ?z_list ?z_tuple ?z_dict ?z_isinstance ?z_range ?z_all ?z_ValueError ?dig
    (case aFrameError => k_is)
    (case aWrongKind => k_is)
    (case aOutOfBounds => k_is)
    (case aRepeatedName => k_is)
    (case aUnknownName => k_is)
    (case aUnfitError => k_is)
    (case aZeroDivisor => k_is)
    (case aNegativeRoot => k_is)
    (case aUnsafe => k_is)
    (case aBadText => k_is)
    (case a_is_whole => k_is)
    (case l_is_whole => k_is)
    (case c_is_whole => k_is)
    (case k_is_whole => k_is)
    (case a_divisor => k_is)
    (case l_divisor => k_is)
    (case c_divisor => k_is)
    (case k_divisor => k_is)
    (case a_lowest => k_is)
    (case l_lowest => k_is)
    (case c_lowest => k_is)
    (case k_lowest => k_is)
    (case a_sign_of => k_is)
    (case l_sign_of => k_is)
    (case c_sign_of => k_is)
    (case k_sign_of => k_is)
    (case a_floor_root => k_is)
    (case l_floor_root => k_is)
    (case c_floor_root => k_is)
    (case k_floor_root => k_is)
    (case a_need_ratio => k_is)
    (case l_need_ratio => k_is)
    (case c_need_ratio => k_is)
    (case k_need_ratio => k_is)
    (case a_need_two => k_is)
    (case l_need_two => k_is)
    (case c_need_two => k_is)
    (case k_need_two => k_is)
    (case a_is_ratio => k_is)
    (case l_is_ratio => k_is)
    (case c_is_ratio => k_is)
    (case k_is_ratio => k_is)
    (case a_add => k_is)
    (case l_add => k_is)
    (case c_add => k_is)
    (case k_add => k_is)
    (case a_subtract => k_is)
    (case l_subtract => k_is)
    (case c_subtract => k_is)
    (case k_subtract => k_is)
    (case a_multiply => k_is)
    (case l_multiply => k_is)
    (case c_multiply => k_is)
    (case k_multiply => k_is)
    (case a_divide => k_is)
    (case l_divide => k_is)
    (case c_divide => k_is)
    (case k_divide => k_is)
    (case a_sign => k_is)
    (case l_sign => k_is)
    (case c_sign => k_is)
    (case k_sign => k_is)
    (case a_root => k_is)
    (case l_root => k_is)
    (case c_root => k_is)
    (case k_root => k_is)
    (case a_root_sign => k_is)
    (case l_root_sign => k_is)
    (case c_root_sign => k_is)
    (case k_root_sign => k_is)
    (case a_is_point => k_is)
    (case l_is_point => k_is)
    (case c_is_point => k_is)
    (case k_is_point => k_is)
    (case a_point_sum => k_is)
    (case l_point_sum => k_is)
    (case c_point_sum => k_is)
    (case k_point_sum => k_is)
    (case a_point_gap => k_is)
    (case l_point_gap => k_is)
    (case c_point_gap => k_is)
    (case k_point_gap => k_is)
    (case a_point_times => k_is)
    (case l_point_times => k_is)
    (case c_point_times => k_is)
    (case k_point_times => k_is)
    (case a_point_dot => k_is)
    (case l_point_dot => k_is)
    (case c_point_dot => k_is)
    (case k_point_dot => k_is)
    (case a_point_cross => k_is)
    (case l_point_cross => k_is)
    (case c_point_cross => k_is)
    (case k_point_cross => k_is)
    (case a_point_square => k_is)
    (case l_point_square => k_is)
    (case c_point_square => k_is)
    (case k_point_square => k_is)
    (case a_is_positive => k_is)
    (case l_is_positive => k_is)
    (case c_is_positive => k_is)
    (case k_is_positive => k_is)
    (case a_is_side => k_is)
    (case l_is_side => k_is)
    (case c_is_side => k_is)
    (case k_is_side => k_is)
    (case a_is_spot => k_is)
    (case l_is_spot => k_is)
    (case c_is_spot => k_is)
    (case k_is_spot => k_is)
    (case a_check_point => k_is)
    (case l_check_point => k_is)
    (case c_check_point => k_is)
    (case k_check_point => k_is)
    (case a_check_positive => k_is)
    (case l_check_positive => k_is)
    (case c_check_positive => k_is)
    (case k_check_positive => k_is)
    (case a_spot_at => k_is)
    (case l_spot_at => k_is)
    (case c_spot_at => k_is)
    (case k_spot_at => k_is)
    (case a_meet_line => k_is)
    (case l_meet_line => k_is)
    (case kwmeet => k_is)
    (case c_meet_line => k_is)
    (case k_meet_line => k_is)
    (case a_spot_parts => k_is)
    (case l_spot_parts => k_is)
    (case c_spot_parts => k_is)
    (case k_spot_parts => k_is)
    (case a_side_of => k_is)
    (case l_side_of => k_is)
    (case c_side_of => k_is)
    (case k_side_of => k_is)
    (case a_distance_sign => k_is)
    (case l_distance_sign => k_is)
    (case c_distance_sign => k_is)
    (case k_distance_sign => k_is)
    (case a_store => k_is)
    (case l_store => k_is)
    (case c_store => k_is)
    (case k_store => k_is)
    (case a_take => k_is)
    (case l_take => k_is)
    (case c_take => k_is)
    (case k_take => k_is)
    (case a_edge => k_is)
    (case l_edge => k_is)
    (case c_edge => k_is)
    (case k_edge => k_is)
    (case a_between => k_is)
    (case l_between => k_is)
    (case c_between => k_is)
    (case k_between => k_is)
    (case a_mixed => k_is)
    (case l_mixed => k_is)
    (case c_mixed => k_is)
    (case k_mixed => k_is)
    (case a_low => k_is)
    (case l_low => k_is)
    (case c_low => k_is)
    (case k_low => k_is)
    (case a_plus => k_is)
    (case l_plus => k_is)
    (case c_plus => k_is)
    (case k_plus => k_is)
    (case a_minus => k_is)
    (case l_minus => k_is)
    (case c_minus => k_is)
    (case k_minus => k_is)
    (case a_times => k_is)
    (case l_times => k_is)
    (case c_times => k_is)
    (case k_times => k_is)
    (case a_over => k_is)
    (case l_over => k_is)
    (case c_over => k_is)
    (case k_over => k_is)
    (case a_neg => k_is)
    (case l_neg => k_is)
    (case c_neg => k_is)
    (case k_neg => k_is)
    (case a_sgn => k_is)
    (case l_sgn => k_is)
    (case c_sgn => k_is)
    (case k_sgn => k_is)
    (case a_cmp => k_is)
    (case l_cmp => k_is)
    (case c_cmp => k_is)
    (case k_cmp => k_is)
    (case a_padd => k_is)
    (case l_padd => k_is)
    (case c_padd => k_is)
    (case k_padd => k_is)
    (case a_psub => k_is)
    (case l_psub => k_is)
    (case c_psub => k_is)
    (case k_psub => k_is)
    (case a_pmul => k_is)
    (case l_pmul => k_is)
    (case c_pmul => k_is)
    (case k_pmul => k_is)
    (case a_pdot => k_is)
    (case l_pdot => k_is)
    (case c_pdot => k_is)
    (case k_pdot => k_is)
    (case a_pcross => k_is)
    (case l_pcross => k_is)
    (case c_pcross => k_is)
    (case k_pcross => k_is)
    (case a_pleft => k_is)
    (case l_pleft => k_is)
    (case c_pleft => k_is)
    (case k_pleft => k_is)
    (case a_psq => k_is)
    (case l_psq => k_is)
    (case c_psq => k_is)
    (case k_psq => k_is)
    (case a_pzero => k_is)
    (case l_pzero => k_is)
    (case c_pzero => k_is)
    (case k_pzero => k_is)
    (case a_small => k_is)
    (case l_small => k_is)
    (case c_small => k_is)
    (case k_small => k_is)
    (case a_positive => k_is)
    (case l_positive => k_is)
    (case c_positive => k_is)
    (case k_positive => k_is)
    (case a_point => k_is)
    (case l_point => k_is)
    (case c_point => k_is)
    (case k_point => k_is)
    (case a_direction => k_is)
    (case l_direction => k_is)
    (case c_direction => k_is)
    (case k_direction => k_is)
    (case a_not_ratio => k_is)
    (case l_not_ratio => k_is)
    (case c_not_ratio => k_is)
    (case k_not_ratio => k_is)
    (case a_not_point => k_is)
    (case l_not_point => k_is)
    (case c_not_point => k_is)
    (case k_not_point => k_is)
    (case a_not_direction => k_is)
    (case l_not_direction => k_is)
    (case c_not_direction => k_is)
    (case k_not_direction => k_is)
    (case a_is_int => k_is)
    (case l_is_int => k_is)
    (case c_is_int => k_is)
    (case k_is_int => k_is)
    (case a_lis_ratio => k_is)
    (case l_lis_ratio => k_is)
    (case c_lis_ratio => k_is)
    (case k_lis_ratio => k_is)
    (case a_lis_point => k_is)
    (case l_lis_point => k_is)
    (case c_lis_point => k_is)
    (case k_lis_point => k_is)
    (case a_is_word => k_is)
    (case l_is_word => k_is)
    (case c_is_word => k_is)
    (case k_is_word => k_is)
    (case a_whole_root => k_is)
    (case l_whole_root => k_is)
    (case c_whole_root => k_is)
    (case k_whole_root => k_is)
    (case a_lroot => k_is)
    (case l_lroot => k_is)
    (case c_lroot => k_is)
    (case k_lroot => k_is)
    (case a_lroot_sign => k_is)
    (case l_lroot_sign => k_is)
    (case c_lroot_sign => k_is)
    (case k_lroot_sign => k_is)
    (case a_lspot_parts => k_is)
    (case l_lspot_parts => k_is)
    (case c_lspot_parts => k_is)
    (case k_lspot_parts => k_is)
    (case a_spot_apart => k_is)
    (case l_spot_apart => k_is)
    (case c_spot_apart => k_is)
    (case k_spot_apart => k_is)
    (case a_line_circle => k_is)
    (case l_line_circle => k_is)
    (case c_line_circle => k_is)
    (case k_line_circle => k_is)
    (case a_like => k_is)
    (case l_like => k_is)
    (case c_like => k_is)
    (case k_like => k_is)
    (case a_long => k_is)
    (case l_long => k_is)
    (case c_long => k_is)
    (case k_long => k_is)
    (case a_wide_line => k_is)
    (case l_wide_line => k_is)
    (case c_wide_line => k_is)
    (case k_wide_line => k_is)
    (case a_gap => k_is)
    (case l_gap => k_is)
    (case c_gap => k_is)
    (case k_gap => k_is)
    (case a_drawn => k_is)
    (case l_drawn => k_is)
    (case c_drawn => k_is)
    (case k_drawn => k_is)
    (case a_on_line => k_is)
    (case l_on_line => k_is)
    (case c_on_line => k_is)
    (case k_on_line => k_is)
    (case a_right => k_is)
    (case l_right => k_is)
    (case c_right => k_is)
    (case k_right => k_is)
    (case a_spot_right => k_is)
    (case l_spot_right => k_is)
    (case c_spot_right => k_is)
    (case k_spot_right => k_is)
    (case a_failed => k_is)
    (case l_failed => k_is)
    (case c_failed => k_is)
    (case k_failed => k_is)
    (case a_call => k_is)
    (case l_call => k_is)
    (case c_call => k_is)
    (case k_call => k_is)
    (case a_bad_size => k_is)
    (case l_bad_size => k_is)
    (case c_bad_size => k_is)
    (case k_bad_size => k_is)
    (case a_bad_spot => k_is)
    (case l_bad_spot => k_is)
    (case c_bad_spot => k_is)
    (case k_bad_spot => k_is)
    (case a_refusals => k_is)
    (case l_refusals => k_is)
    (case c_refusals => k_is)
    (case k_refusals => k_is)
    (case a_law => k_is)
    (case l_law => k_is)
    (case c_law => k_is)
    (case k_law => k_is)
    (case xLWrongKind => k_is)
    (case rvWrongKind => first | rfl | decide +kernel | kernel_rfl)
    (case saWrongKind => k_is)
    (case exWrongKind => k_is)
    (case tyWrongKind => k_is)
    (case kcWrongKind => k_is)
    (case hgWrongKind => k_is)
    (case hkWrongKind => k_is)
    (case hdWrongKind => k_is)
    (case haWrongKind => k_is)
    (case hmWrongKind => k_is)
    (case aiWrongKind => k_is)
    (case liWrongKind => k_is)
    (case ciWrongKind => k_is)
    (case kiWrongKind => k_is)
    (case tiWrongKind => k_is)
    (case nWrongKind_argument => k_is)
    (case kWrongKind_WrongKind => k_is)
    (case kWrongKind_OutOfBounds => k_is)
    (case neWrongKind_OutOfBounds => rfl)
    (case kWrongKind_RepeatedName => k_is)
    (case neWrongKind_RepeatedName => rfl)
    (case kWrongKind_UnknownName => k_is)
    (case neWrongKind_UnknownName => rfl)
    (case kWrongKind_UnfitError => k_is)
    (case neWrongKind_UnfitError => rfl)
    (case kWrongKind_Unsafe => k_is)
    (case neWrongKind_Unsafe => rfl)
    (case kWrongKind_BadText => k_is)
    (case neWrongKind_BadText => rfl)
    (case kWrongKind_ValueError => k_is)
    (case kWrongKind_FrameError => k_is)
    (case isWrongKind => k_is)
    (case tyOutOfBounds => k_is)
    (case isOutOfBounds => k_is)
    (case tyRepeatedName => k_is)
    (case isRepeatedName => k_is)
    (case tyUnknownName => k_is)
    (case isUnknownName => k_is)
    (case tyUnfitError => k_is)
    (case isUnfitError => k_is)
    (case tyUnsafe => k_is)
    (case isUnsafe => k_is)
    (case tyBadText => k_is)
    (case isBadText => k_is)
    (case tyFrameError => k_is)
    (case isFrameError => k_is)
    (case exFrameError => k_is)
    (case qZERO_RATIO => k_is)
    (case lNZERO_RATIO => k_is)
    (case qORIGIN => k_is)
    (case lNORIGIN => k_is)
    (case lNOA => k_is)
    (case lNOB => k_is)
    (case hn => k_is)
    (case ht => k_is)
    (case z_sorted => k_is)
    (case z_reversed => k_is)
    (case z_len => k_is)
    (case z_max => k_is)
    (case z_min => k_is)
    (case z_abs => k_is)
    (case z_int => k_is)
    (case z_str => k_is)
    (case z_bool => k_is)
    (case z_list => k_is)
    (case z_tuple => k_is)
    (case z_dict => k_is)
    (case z_isinstance => k_is)
    (case z_range => k_is)
    (case z_all => k_is)
    (case z_ValueError => k_is)
    (case dig => k_is)
