import PyProof.Rows.All
import Wide.All
import OpenK.AllK
import Wide.FinOn
import HandS.ForMost
import HandS.ForExc
import HandS.Wide
import HandS.IsInst
import HandS.More
import HandS.Evl
import HandS.ExcCtx
import HandS.HotCalls
import HandS.ExcInit
import HandS.ExcInitHot
import HandS.ExcIs
import HandS.ExcField
import KE.KExcIs
import HandS.Replace
import HandS.ReplaceLit
import HandS.ReplaceList
import HandS.Text
import HandS.Style
import KE.IntText
import PyProof.Rows.Digits
import PyProof.Rows.CountFlat
import KE.IntTextLaws
import HandS.Rev
import HandS.RevTup
import PyProof.ListRange
import PyProof.ListNew
import PyProof.Rows.StrSplitAre
import PySem.Challenge.RW_standframes_k63_split_row
set_option Elab.async false
set_option linter.all false
set_option maxRecDepth 100000
set_option maxHeartbeats 8000000
namespace My
open PySem PySem.Spec PyProof.Rows L2
/-! ### heaps: all but the store -/
structure Sx (s : Addr) (H H' : Hp) : Prop where
  kp : ∀ b o, b ≠ s → H b = some o → H' b = some o
  ce : ∀ L xs, H s = some (.lst (.ref L :: xs)) → ∃ ys, H' s = some (.lst (.ref L :: ys))
theorem Sx.refl (s : Addr) (H : Hp) : Sx s H H := ⟨fun _ _ _ h => h, fun _ xs h => ⟨xs, h⟩⟩
theorem Sx.trans {s : Addr} {H H1 H2 : Hp} (a : Sx s H H1) (b : Sx s H1 H2) : Sx s H H2 := ⟨fun c o n h => b.kp c o n (a.kp c o n h), fun L xs h => by
  obtain ⟨ys, e⟩ := a.ce L xs h
  exact b.ce L ys e⟩
theorem Sx.of {s : Addr} {H H' : Hp} (a : Same H H') : Sx s H H' := ⟨fun c o _ h => a c o h, fun _ xs h => ⟨xs, a _ _ h⟩⟩
theorem Sx.new {s p : Addr} {H : Hp} {o : HO} (h : H p = none) : Sx s H (upd H p o) := Sx.of fun b u e => by
  rw [upd_ne (ne_of_none e h)]
  exact e
/-- a thing that was not there at first is changed -/
theorem Sx.mut {s p : Addr} {H H' : Hp} {o : HO} (x : Sx s H H') (h : H p = none) : Sx s H (upd H' p o) := ⟨fun b u n e => by
  rw [upd_ne (ne_of_none e h)]
  exact x.kp b u n e, fun L xs e => by
  rw [upd_ne (ne_of_none e h)]
  exact x.ce L xs e⟩
theorem Sx.self {s : Addr} {H H' : Hp} {xs : List V} {j : Nat} {v : V} (x : Sx s H H') (hs : H' s = some (.lst xs)) (j0 : j ≠ 0) : Sx s H (upd H' s (.lst (xs.set j v))) := ⟨fun b u n e => by
  rw [upd_ne n]
  exact x.kp b u n e, fun L zs e => by
  obtain ⟨ys, e2⟩ := x.ce L zs e
  rw [hs] at e2
  cases e2
  cases j with
  | zero => exact absurd rfl j0
  | succ j => exact ⟨ys.set j v, by rw [upd_same]; rfl⟩⟩
theorem Sx.sq {K : PySem.W.Frag} {s a : Addr} {H H' : Hp} {xs : List V} (x : Sx s H H') (n : a ≠ s) (h : SqL K H a xs) : SqL K H' a xs := by
  rcases h with (h | ⟨o, h⟩) | h
  · exact .inl (.inl (x.kp _ _ n h))
  · exact .inl (.inr ⟨o, x.kp _ _ n h⟩)
  · exact .inr h
theorem same_new {H : Hp} {p : Addr} {o : HO} (h : H p = none) : Same H (upd H p o) := fun b x e => by
  rw [upd_ne (ne_of_none e h)]
  exact e
/-! ### readings by name -/
def rIsN : R2 := fun x y H Q => y = .non ∧ Q (.bl (decide (x = .non))) H
def rNotN : R2 := fun x y H Q => y = .non ∧ Q (.bl (!decide (x = .non))) H
def rAddS : R2 := fun x y H Q => ∃ i j, x = .str i ∧ y = .str j ∧ i.length + j.length ≤ sizeLine ∧ Q (.str (i ++ j)) H
def rInt1 : List V → Hp → VK → Prop := fun xs H Q => (∃ i, xs = [.int i] ∧ Q (.int i) H) ∨ ∃ k, xs = [.bl k] ∧ Q (.int (if k then 1 else 0)) H
def rMaxQ : List V → Hp → VK → Prop := fun xs H Q => ∃ i j, xs = [.int i, .int j] ∧ Q (.int (if j > i then j else i)) H
def rMinQ : List V → Hp → VK → Prop := fun xs H Q => ∃ i j, xs = [.int i, .int j] ∧ Q (.int (if j < i then j else i)) H
def rAbsQ : List V → Hp → VK → Prop := fun xs H Q => ∃ i, xs = [.int i] ∧ Q (.int (if i < 0 then -i else i)) H
def rLenQ (K : PySem.W.Frag) : List V → Hp → VK → Prop := fun xs H Q => ∃ p ys, xs = [.ref p] ∧ (SqL K H p ys ∨ SqT K H p ys) ∧ Q (.int ys.length) H
def rLenSQ : List V → Hp → VK → Prop := fun xs H Q => ∃ z, xs = [.str z] ∧ z.length ≤ sizeLine ∧ Q (.int z.length) H
def rListQ (K : PySem.W.Frag) : List V → Hp → VK → Prop := fun xs H Q => ∃ p ys, xs = [.ref p] ∧ (SqL K H p ys ∨ SqT K H p ys) ∧ ∀ l, H l = none → Q (.ref l) (upd H l (.lst ys))
def rIsBQ : R2 := fun x y H Q => ∃ b, y = .bl b ∧ Q (.bl (decide (x = .bl b))) H
section
variable {X : Cx}
theorem o_isN : OpR X (compareOp .Is) rIsN := op_isN
theorem o_notN : OpR X (compareOp .IsNot) rNotN := op_notN
theorem o_isB : OpR X (compareOp .Is) rIsBQ := by
  intro pins s σ H x y v u Q I rx ry h
  obtain ⟨b, rfl, q⟩ := h
  cases (show u = Value.bool b from ry)
  by_cases e : x = .bl b
  · subst e
    cases (show v = Value.bool b from rx)
    exact wpAny_is_self rfl ⟨.bl true, H, I, rfl, by simpa using q⟩
  · have ne : v ≠ Value.bool b := by
      intro z
      subst z
      cases x with
      | bl a =>
        have z : Value.bool b = Value.bool a := rx
        cases z
        exact e rfl
      | non => cases (show Value.bool b = Value.none from rx)
      | ref a => cases (show Value.bool b = Value.ref a from rx)
      | ty n => cases (show Value.bool b = Value.type n from rx)
      | int i => obtain ⟨t, z⟩ := rx; cases z
      | str i => obtain ⟨t, z⟩ := rx; cases z
      | byt i => obtain ⟨t, z⟩ := rx; cases z
      | flt i => obtain ⟨t, z⟩ := rx; cases z
    refine wpAny_is_other ?_ ne ⟨.bl false, H, I, rfl, by simpa [e] using q⟩
    cases x <;> first
      | (cases rx; rfl)
      | (obtain ⟨t, rfl⟩ := rx; rfl)
theorem o_addS : OpR X (binaryOp .Add) rAddS := op_add_str
theorem c_int1 : CallR X (.type "int") rInt1 := call_int1
theorem c_max2 (hc : X.calm = true) : CallR X (.builtin "max") rMaxQ := call_max2 hc
theorem c_min2 (hc : X.calm = true) : CallR X (.builtin "min") rMinQ := call_min2 hc
theorem c_abs : CallR X (.builtin "abs") rAbsQ := call_abs
theorem c_len : CallR X (.builtin "len") (rLenQ X.K) := call_len_seq
theorem c_lenS : CallR X (.builtin "len") rLenSQ := call_len_str
theorem c_list : CallR X (.type "list") (rListQ X.K) := call_list_of
end
/-! ### steps of readings -/
section
variable {σ : L2.St} {H : Hp} {Q : VK} {D : Ends} {te ta tb : TE} {t u : TS}
theorem g_seq (h : t { D with nx := u D } σ H) : tSeq t u D σ H := h
theorem g_asg {g : TG} (h : te σ H fun x H1 => g x σ H1 D.nx) : tAsg te g D σ H := h
theorem g_name {i : Nat} {v : V} {R : L2.St → Hp → Prop} (h : R (σ.set i (some v)) H) : gName i v σ H R := h
theorem g_sub {to ti : TE} {ts : TSet} {v : V} {R : L2.St → Hp → Prop} (h : to σ H fun o H1 => ti σ H1 fun i H2 => ts o i v H2 fun H3 => R σ H3) : gSub to ti ts v σ H R := h
theorem g_ret (h : te σ H D.rt) : tRet te D σ H := h
theorem g_drop (h : te σ H fun _ H1 => D.nx σ H1) : tDrop te D σ H := h
theorem g_if {c : TT} (h : c σ H fun b H1 => if b = true then t D σ H1 else u D σ H1) : tIfS c t u D σ H := h
theorem g_next (h : D.nx σ H) : tNext D σ H := h
theorem g_var {i : Nat} {v : V} (e : σ[i]? = some (some v)) (h : Q v H) : tVar i σ H Q := ⟨v, e, h⟩
theorem g_c {v : V} (h : Q v H) : tC v σ H Q := h
theorem g_op {r : R2} (h : ta σ H fun x H1 => tb σ H1 fun y H2 => r x y H2 Q) : tOp r ta tb σ H Q := h
theorem g_un {r : V → Hp → VK → Prop} (h : ta σ H fun x H1 => r x H1 Q) : tUn r ta σ H Q := h
theorem g_I0 {g : Int → Int → V} {i j : Int} (h : Q (g i j) H) : rI0 g (.int i) (.int j) H Q := ⟨i, j, rfl, rfl, h⟩
theorem g_I {C : Int → Int → Prop} {g : Int → Int → V} {i j : Int} (c : C i j) (h : Q (g i j) H) : rI C g (.int i) (.int j) H Q := ⟨i, j, rfl, rfl, c, h⟩
theorem g_pow9 (h : Q (.int 1000000000) H) : rI CPow (fun i j => V.int (i ^ j.toNat)) (.int 10) (.int 9) H Q := ⟨10, 9, rfl, rfl, by unfold CPow; decide, h⟩
theorem g_pow18 (h : Q (.int 1000000000000000000) H) : rI CPow (fun i j => V.int (i ^ j.toNat)) (.int 10) (.int 18) H Q := ⟨10, 18, rfl, rfl, by unfold CPow; decide, h⟩
theorem g_U {g : Int → V} {i : Int} (h : Q (g i) H) : rU g (.int i) H Q := ⟨i, rfl, h⟩
theorem g_eq {x y : V} (s : scal x y = true) (h : Q (.bl (decide (x = y))) H) : rEq x y H Q := ⟨s, h⟩
theorem g_ne {x y : V} (s : scal x y = true) (h : Q (.bl (!decide (x = y))) H) : rNe x y H Q := ⟨s, h⟩
theorem g_test {R : Bool → Hp → Prop} (h : te σ H fun x H' => ∃ k, x = .bl k ∧ R k H') : tTest te σ H R := h
theorem g_tB {R : Bool → Hp → Prop} (h : te σ H fun x H' => ∃ k, x = .bl k ∧ R k H') : tB te σ H R := h
theorem g_bl {k : Bool} {R : Bool → Prop} (h : R k) : ∃ k', V.bl k = .bl k' ∧ R k' := ⟨k, rfl, h⟩
theorem g_cut {Mid : L2.St → Hp → Prop} (h : t { D with nx := Mid } σ H) (h2 : ∀ σ' H', Mid σ' H' → u D σ' H') : Evl.tCut t u D σ H := ⟨Mid, h, h2⟩
theorem g_isN {x : V} (h : Q (.bl (decide (x = .non))) H) : rIsN x .non H Q := ⟨rfl, h⟩
theorem g_notN {x : V} (h : Q (.bl (!decide (x = .non))) H) : rNotN x .non H Q := ⟨rfl, h⟩
theorem g_addS {x y : Str} (hl : x.length + y.length ≤ sizeLine) (h : Q (.str (x ++ y)) H) : rAddS (.str x) (.str y) H Q := ⟨x, y, rfl, rfl, hl, h⟩
theorem g_int1 {i : Int} (h : Q (.int i) H) : rInt1 [.int i] H Q := .inl ⟨i, rfl, h⟩
theorem g_intb {k : Bool} (h : Q (.int (if k = true then 1 else 0)) H) : rInt1 [.bl k] H Q := .inr ⟨k, rfl, h⟩
theorem g_max2 {i j : Int} (h : Q (.int (if j > i then j else i)) H) : rMaxQ [.int i, .int j] H Q := ⟨i, j, rfl, h⟩
theorem g_min2 {i j : Int} (h : Q (.int (if j < i then j else i)) H) : rMinQ [.int i, .int j] H Q := ⟨i, j, rfl, h⟩
theorem g_abs {i : Int} (h : Q (.int (if i < 0 then -i else i)) H) : rAbsQ [.int i] H Q := ⟨i, rfl, h⟩
theorem g_lenL {K : PySem.W.Frag} {p : Addr} {xs : List V} (hs : SqL K H p xs) (h : Q (.int xs.length) H) : rLenQ K [.ref p] H Q := ⟨p, xs, rfl, .inl hs, h⟩
theorem g_lenT {K : PySem.W.Frag} {p : Addr} {xs : List V} (hs : SqT K H p xs) (h : Q (.int xs.length) H) : rLenQ K [.ref p] H Q := ⟨p, xs, rfl, .inr hs, h⟩
theorem g_lenS {z : Str} (hl : z.length ≤ sizeLine) (h : Q (.int z.length) H) : rLenSQ [.str z] H Q := ⟨z, rfl, hl, h⟩
theorem g_ixT {K : PySem.W.Frag} {p : Addr} {xs : List V} {i : Int} {v : V} (hs : SqT K H p xs) (ha : atI xs i = some v) (h : Q v H) : rIxT K (.ref p) (.int i) H Q := ⟨p, xs, i, v, rfl, rfl, hs, ha, h⟩
theorem g_ixS {z : Str} {i : Int} {c : Nat} (hl : z.length ≤ sizeLine) (ha : atI z.cps.toList i = some c) (h : Q (.str ⟨#[c]⟩) H) : rIxS (.str z) (.int i) H Q := ⟨z, i, c, rfl, rfl, hl, ha, h⟩
theorem g_tup {tt : TA} (h : tt σ H fun xs H1 => xs.length ≤ sizeLine ∧ ∀ p, H1 p = none → Q (.ref p) (upd H1 p (.tup xs))) : tTup tt σ H Q := h
theorem g_lst {tt : TA} (h : tt σ H fun xs H1 => xs.length ≤ sizeLine ∧ ∀ p, H1 p = none → Q (.ref p) (upd H1 p (.lst xs))) : tLst tt σ H Q := h
theorem g_andV (h : ta σ H fun x H1 => ∃ c, x = .bl c ∧ if c = true then tb σ H1 Q else Q (.bl false) H1) : tAndV ta tb σ H Q := h
theorem g_orV (h : ta σ H fun x H1 => ∃ c, x = .bl c ∧ if c = true then Q (.bl true) H1 else tb σ H1 Q) : tOrV ta tb σ H Q := h
theorem g_notV (h : ta σ H fun x H1 => ∃ c, x = .bl c ∧ Q (.bl (!c)) H1) : tNotV ta σ H Q := h
/-- a cell of the store is set: H0 the heap at the entry -/
theorem g_st {K : PySem.W.Frag} {H0 : Hp} {s L : Addr} {xs cs : List V} {k : Int} {v : V} {j : Nat} {R : Hp → Prop} (hs : H s = some (.lst xs)) (hL : SqL K H L cs) (ne : L ≠ s) (x0 : Sx s H0 H) (hj : ixN xs.length k = some j) (j0 : j ≠ 0)
    (h : ∀ H1, H1 s = some (.lst (xs.set j v)) → SqL K H1 L cs → Sx s H0 H1 → R H1) : rSetL (.ref s) (.int k) v H R :=
  ⟨s, xs, k, j, rfl, rfl, hs, hj, h _ upd_same (Sx.sq ((Sx.refl s H).self hs j0) ne hL) (x0.self hs j0)⟩
theorem g_and {c d : TT} {R : Bool → Hp → Prop} (h : c σ H fun b H1 => if b = true then d σ H1 R else R false H1) : tAnd c d σ H R := h
theorem g_or {c d : TT} {R : Bool → Hp → Prop} (h : c σ H fun b H1 => if b = true then R true H1 else d σ H1 R) : tOr c d σ H R := h
theorem g_not {c : TT} {R : Bool → Hp → Prop} (h : c σ H fun b H1 => R (!b) H1) : tNot c σ H R := h
theorem g_nil {R : List V → Hp → Prop} (h : R [] H) : tNil σ H R := h
theorem g_cons {tr : TA} {R : List V → Hp → Prop} (h : ta σ H fun x H1 => tr σ H1 fun xs H2 => R (x :: xs) H2) : tCons ta tr σ H R := h
theorem g_callB {r : List V → Hp → VK → Prop} {tt : TA} (h : tt σ H fun vs H1 => r vs H1 Q) : tCB r tt σ H Q := h
theorem g_call {sp : Sp} {dvs : List V} {E : XK} {tt : TA} (h : tt σ H fun vs H1 => sp (vs ++ dvs) H1 Q E) : tCall sp dvs E tt σ H Q := h
theorem g_ixL {K : PySem.W.Frag} {p : Addr} {xs : List V} {i : Int} {v : V} (hs : SqL K H p xs) (ha : atI xs i = some v) (h : Q v H) : rIxL K (.ref p) (.int i) H Q := ⟨p, xs, i, v, rfl, rfl, hs, ha, h⟩
theorem g_setL {p : Addr} {xs : List V} {k : Int} {v : V} {j : Nat} {R : Hp → Prop} (hs : H p = some (.lst xs)) (hj : ixN xs.length k = some j) (h : R (upd H p (.lst (xs.set j v)))) : rSetL (.ref p) (.int k) v H R := ⟨p, xs, k, j, rfl, rfl, hs, hj, h⟩
theorem g_ite {b : Bool} {A B : Prop} (h1 : b = true → A) (h2 : b = false → B) : if b = true then A else B := by
  cases b with
  | true => exact h1 rfl
  | false => exact h2 rfl
theorem g_iteT {b : Bool} {A B : Prop} (e : b = true) (h : A) : if b = true then A else B := by
  subst e
  exact h
theorem g_iteF {b : Bool} {A B : Prop} (e : b = false) (h : B) : if b = true then A else B := by
  subst e
  exact iteF h
theorem g_isB {x : V} {b : Bool} (h : Q (.bl (decide (x = .bl b))) H) : rIsBQ x (.bl b) H Q := ⟨b, rfl, h⟩
theorem g_or3 {K : PySem.W.Frag} {p : Addr} {xs : List V} {i : Int} {v : V} (hs : SqL K H p xs ∨ SqT K H p xs) (ha : atI xs i = some v) (h : Q v H) : rIx K (.ref p) (.int i) H Q := by
  rcases hs with hs | hs
  · exact .inl ⟨p, xs, i, v, rfl, rfl, hs, ha, h⟩
  · exact .inr (.inl ⟨p, xs, i, v, rfl, rfl, hs, ha, h⟩)
theorem g_for {wi : TI} {g : TG} {tb : TS} (h : wi σ H fun J H1 => ∃ W : Nat → Nat → L2.St → Hp → Prop, (∃ m, W 0 m σ H1) ∧ ∀ i m σ H, W i m σ H →
    (J.stop i H ∧ D.nx σ H) ∨ (J.go i H ∧ ∃ N : L2.St → Hp → Prop, (∀ σ' H', N σ' H' → ∃ m', m' < m ∧ W (i + 1) m' σ' H') ∧ ∀ x H', J.yld i H x H' → g x σ H' fun σ2 H2 => tb { D with nx := N, ct := N, bk := D.nx } σ2 H2)) : tFor wi g tb D σ H := h
theorem g_rng1 {ta : TA} {R : It → Hp → Prop} (h : ta σ H fun vs H1 => ∃ j : Int, vs = [.int j] ∧ -(2 ^ 62) ≤ j ∧ j < 2 ^ 62 ∧ R (Itr 0 j.toNat) H1) : iRng1 ta σ H R := h
theorem g_rng2 {ta : TA} {R : It → Hp → Prop} (h : ta σ H fun vs H1 => ∃ i j : Int, vs = [.int i, .int j] ∧ (-(2 ^ 62) ≤ i ∧ i < 2 ^ 62 ∧ -(2 ^ 62) ≤ j ∧ j < 2 ^ 62) ∧ R (Itr i (j - i).toNat) H1) : iRng2 ta σ H R := h
theorem g_iList {K : PySem.W.Frag} {tl : TE} {R : It → Hp → Prop} (h : tl σ H fun x H1 => ∃ a, x = .ref a ∧ (∃ xs, SqL K H1 a xs) ∧ R (Itl K a) H1) : iList K tl σ H R := h
theorem g_break (h : D.bk σ H) : tBreak D σ H := h
theorem g_cont (h : D.ct σ H) : tCont D σ H := h
theorem g_retN (h : D.rt .non H) : tRetN D σ H := h
end
theorem dec_int {i j : Int} : decide (V.int i = V.int j) = decide (i = j) := by
  by_cases h : i = j
  · rw [h, decide_eq_true rfl, decide_eq_true rfl]
  · rw [decide_eq_false h, decide_eq_false fun e => h (V.int.inj e)]
theorem bt_len : bootBuiltins "len" = some (.builtin "len") := by decide +kernel
theorem bt_max : bootBuiltins "max" = some (.builtin "max") := by decide +kernel
theorem bt_min : bootBuiltins "min" = some (.builtin "min") := by decide +kernel
theorem bt_abs : bootBuiltins "abs" = some (.builtin "abs") := by decide +kernel
theorem bt_isinstance : bootBuiltins "isinstance" = some (.builtin "isinstance") := by decide +kernel
theorem bt_int : bootBuiltins "int" = some (.type "int") := by decide +kernel
theorem bt_str : bootBuiltins "str" = some (.type "str") := by decide +kernel
theorem bt_bool : bootBuiltins "bool" = some (.type "bool") := by decide +kernel
theorem bt_list : bootBuiltins "list" = some (.type "list") := by decide +kernel
theorem bt_tuple : bootBuiltins "tuple" = some (.type "tuple") := by decide +kernel
theorem bt_dict : bootBuiltins "dict" = some (.type "dict") := by decide +kernel
theorem atI_map {α : Type} (g : α → V) (xs : List α) (i : Int) (d : α) (h0 : 0 ≤ i) (h1 : i < xs.length) : atI (xs.map g) i = some (g (xs.getD i.toNat d)) := by
  obtain ⟨j, rfl⟩ : ∃ j : Nat, i = j := ⟨i.toNat, by omega⟩
  have hj : j < xs.length := by omega
  unfold atI ixN
  rw [if_pos h0, if_pos (by rw [List.length_map]; exact h1)]
  simp [hj]
theorem dint_t {i j : Int} (h : decide (V.int i = V.int j) = true) : i = j := V.int.inj (of_decide_eq_true h)
theorem dint_f {i j : Int} (h : decide (V.int i = V.int j) = false) : i ≠ j := fun e => of_decide_eq_false h (by rw [e])
/-- a def of the top -/
structure Df (K : PySem.W.Frag) (mg : Str → Option Value) (x : Str) (st : Stmt) (ps : List Str) where
  f : Addr
  fd : FuncData
  F : Fun K x x st f fd
  b : Binds K fd ps []
  g : mg x = some (.ref f)
/-! ### the store -/
def StL (L : Addr) (p a b c d : Int) : List V := [.ref L, .int p, .int a, .int b, .int c, .int d]
structure StOk (K : PySem.W.Frag) (H : Hp) (s : Addr) (L : Addr) (ns : List Int) (p a b c d : Int) : Prop where
  at_ : H s = some (.lst (StL L p a b c d))
  ne : L ≠ s
  cells : SqL K H L (ns.map V.int)
  p0 : 0 ≤ p
  a0 : 0 ≤ a
  b0 : 0 ≤ b
  c0 : 0 ≤ c
  c1 : c < 2305843009213693951
  len : ns.length ≤ 63
def Store (K : PySem.W.Frag) (H : Hp) (s : Addr) : Prop := ∃ L ns p a b c d, StOk K H s L ns p a b c d
theorem Store.there {K : PySem.W.Frag} {H : Hp} {s : Addr} (h : Store K H s) : ∃ xs, H s = some (.lst xs) := by
  obtain ⟨L, ns, p, a, b, c, d, h⟩ := h
  exact ⟨_, h.at_⟩
theorem Store.free {K : PySem.W.Frag} {s l : Addr} {H H' : Hp} (st : Store K H' s) (x : Sx s H H') (h : H' l = none) : H l = none := by
  cases e : H l with
  | none => rfl
  | some o =>
    obtain ⟨xs, hs⟩ := st.there
    have n : l ≠ s := fun z => by
      rw [z, hs] at h
      cases h
    rw [x.kp l o n e] at h
    cases h
theorem Store.ne {K : PySem.W.Frag} {s l : Addr} {H : Hp} (st : Store K H s) (h : H l = none) : l ≠ s := fun z => by
  obtain ⟨xs, hs⟩ := st.there
  rw [z, hs] at h
  cases h
theorem Store.same {K : PySem.W.Frag} {s : Addr} {H H' : Hp} (st : Store K H s) (x : Same H H') : Store K H' s := by
  obtain ⟨L, ns, p, a, b, c, d, h⟩ := st
  exact ⟨L, ns, p, a, b, c, d, ⟨x _ _ h.at_, h.ne, Sx.sq (Sx.of x) h.ne h.cells, h.p0, h.a0, h.b0, h.c0, h.c1, h.len⟩⟩
/-- what was not there at first is changed: the store stays a store -/
theorem Store.mut {K : PySem.W.Frag} {s l : Addr} {H H' : Hp} {o : HO} (st0 : Store K H s) (x : Sx s H H') (st : Store K H' s) (h : H l = none) : Store K (upd H' l o) s := by
  obtain ⟨L0, ns0, p0, a0, b0, c0, d0, h0⟩ := st0
  obtain ⟨L, ns, p, a, b, c, d, h1⟩ := st
  obtain ⟨ys, e⟩ := x.ce L0 _ h0.at_
  have e2 : L = L0 := by
    have e3 := h1.at_
    rw [e] at e3
    cases e3
    rfl
  subst e2
  have nl : s ≠ l := fun z => by
    have q := h0.at_
    rw [z, h] at q
    cases q
  have q := h0.cells
  by_cases hk : L = l
  · subst hk
    rcases q with (q | ⟨o2, q⟩) | q
    · rw [h] at q
      cases q
    · rw [h] at q
      cases q
    · exact ⟨L, ns0, p, a, b, c, d, ⟨by rw [upd_ne nl]; exact h1.at_, h1.ne, .inr q, h1.p0, h1.a0, h1.b0, h1.c0, h1.c1, h0.len⟩⟩
  · refine ⟨L, ns, p, a, b, c, d, ⟨by rw [upd_ne nl]; exact h1.at_, h1.ne, ?_, h1.p0, h1.a0, h1.b0, h1.c0, h1.c1, h1.len⟩⟩
    rcases h1.cells with (r | ⟨o2, r⟩) | r
    · exact .inl (.inl (by rw [upd_ne hk]; exact r))
    · exact .inl (.inr ⟨o2, by rw [upd_ne hk]; exact r⟩)
    · exact .inr r
/-- the widest draw -/
def BIG : Int := 2 ^ 5000
theorem big_div {i m : Int} (h0 : 0 < m) (h : m < BIG) : CDivW i m := wide_div (b := 5000) h0 (by unfold BIG at h; omega) (by decide) (by decide)
/-- a draw: below many, and nothing else has changed -/
def spTake (K : PySem.W.Frag) (B : Int) : Sp := fun vs H Q _ => ∃ (s : Addr) (many : Int), vs = [.ref s, .int many] ∧ Store K H s ∧ many ≤ B ∧ many < BIG ∧
  ∀ (r : Int) (H' : Hp), 0 ≤ r → (r = 0 ∨ r < many) → Sx s H H' → Store K H' s → Q (.int r) H'
def topS (i : Nat) : Stmt := PySem.Challenge.pw_standframes_k63_split_row.main.body.getD i (.Pass ⟨0, 0, 0, 0⟩)
end My
namespace My
open PySem PySem.Spec PyProof.Rows L2
/-! ### raising: an own class whose __init__ is a def; the context of what is raised is None -/
section
variable {X : Cx}
theorem pmkN {CXc : CXT} {nm : Str} {C fI : Addr} {lv : Nat} {fdI : FuncData} {psI : List Str} {spI : Sp} {ds : List Value} {dvs : List V} {e : Expr} {es : List Expr} {ta : TA} {p pos : Pos} (T : OexC X.K C)
    (iC : PySem.W.findIn X.K (.ref C) "__init__" = some (some (.ref fI))) (tI : PySem.W.typeIn X.K (.ref fI) = some (.type "function"))
    (FI : FnOk X.prog X.w X.K X.mg X.base CXc lv fI fdI psI spI) (room : Room (lv + 1) X.A) (bnd : Binds X.K fdI psI ds) (dfl : Vals dvs ds) (px : Passes CXc X (fun _ _ _ => False)) (gl : Gl X nm) (gm : X.mg nm = some (.ref C)) (args : PA X (e :: es) ta)
    (nd : (nm == ("__debug__" : Str)) = false := by decide) (st1 : starEach (e :: es) X.env = (false, eval e X.env) :: starEach es X.env := by rfl) (st2 : (backTo pos (starEach es X.env)).any (·.1) = false := by rfl) :
    L2N.PMk X (.Call (.Name nm p) (e :: es) [] pos) (tMkO C spI dvs ta) := by
  intro pins s σ H Q I rd
  have T' := T.cls
  obtain ⟨n0, n1, n2, n3, n4, n5, n6, n7, n8, n9, j0, j1, j2, j3, j5, lkC, rfs⟩ := T'
  refine wpAny_Call_Name_kw (ld_glob I gl gm ?_ nd)
  refine PySem.W.callWith_K (h₀ := X.base) I.ok.mod.kin T.kC (thn (args.run pos pins s σ H _ I rd) fun us s1 hh => ?_) st1 st2
  obtain ⟨vs, H1, I1, rel, sz, rd1⟩ := hh
  refine ⟨I1.kIn, ?_⟩
  show wpAny _ _ (call (.ref C) us) _ _ _
  obtain ⟨hp, gn, dr, tk, os⟩ := s1
  generalize en : hp.objs.size + 1 = nx at *
  have le : hp.objs.size ≤ nx := by omega
  have fresh : H1 nx = none := I1.hok.fresh le
  have rd2 := rd1 nx fresh
  have keep : ∀ b o, hp.get? b = some o → ((hp.push (PySem.W.kdv_tup us)).push (PySem.HandSPX.excO C hp.objs.size)).get? b = some o :=
    fun b o z => Heap.get?_push_of_some _ (Heap.get?_push_of_some _ z)
  have there : ((hp.push (PySem.W.kdv_tup us)).push (PySem.HandSPX.excO C hp.objs.size)).get? nx = some (PySem.HandSPX.excO C hp.objs.size) := by
    rw [← en]
    heap_get
  have I2 := I1.laid (t' := tk) (a := nx) (o := exo nx C none) (h' := (hp.push (PySem.W.kdv_tup us)).push (PySem.HandSPX.excO C hp.objs.size)) keep le (exo_ok there)
  have rel2 : Vals (V.ref nx :: (vs ++ dvs)) (Value.ref nx :: (us ++ ds)) := .cons rfl (rel.append dfl)
  have hlen : (Value.ref nx :: us ++ ds).length = psI.length := by
    have q := rel2.length
    rw [FI.len _ _ _ _ rd2] at q
    exact q.symm
  have few : us.length ≤ sizeLine := by
    have q := Paired.length rel
    rw [← q, sizeLine_eq]
    omega
  refine wpAny_call ?_
  refine PySem.HandSPX.call_own F.excBase_ValueError (fun Y => PySem.HandSPX.refsVE_contains Y n4 rfs) (I1.kIn _ _ lkC) (PySem.W.looks_findIn I1.kIn iC) (fun self => PySem.W.bind_fn I1.kIn self tI) few ?_
  rw [en]
  refine codeAny_mono (FI.run _ X.stack _ _ ⟨Value.ref nx :: us, []⟩ (Value.ref nx :: (us ++ ds)) _ _ (fun _ _ _ => False) (room.make C us []) (I2.env0.make C us []) (bnd _ (Value.ref nx :: us) I2.kIn hlen) rel2 rd2) fun r s' back => ?_
  cases r with
  | error er => exact px pins σ _ _ er s' I2 back
  | ok fl =>
    cases fl with
    | next => exact back.elim
    | brk => exact back.elim
    | cont => exact back.elim
    | ret u =>
      obtain ⟨v, H2, os2, bare2, un2, hok2, rv, ev, d, fs, ea, ed, hd1, q2⟩ := back
      subst ev
      obtain ⟨h2, g2, d2, t2, os'⟩ := s'
      obtain ⟨t0, G, J, kG, ge, hoe, na⟩ := mk_end0 (d2 := d2) (t2 := t2) I1 le keep un2 hok2 os2 bare2 ea ed hd1
      exact ⟨rv, nx, _, _, ⟨G, g2, d2, t2, os'⟩, _, .ref C, some d, rfl, J, kG, ge, hoe, ⟨rfl, rfl, fun ws hw => by cases hw; rfl⟩, rfl, rfl, na, rfl, bare2, raises_own T.exC T.tyC, q2⟩
/-! ### what may be asked of an exception that is pinned -/
/-- the class facts of its class at C -/
structure XC (K : PySem.W.Frag) (C : Addr) : Prop where
  e : ExcC K C
  cl : (PySem.W.clsIn K C).isSome = true
/-- e.n -/
def tXg (K : PySem.W.Frag) (a : Addr) (cls : Value) (d : Option Addr) (n : Str) (te : TE) : TE := fun σ H Q => te σ H fun x H1 => x = .ref a ∧ ∃ (C dd : Addr) (fs : List (Str × V)) (v : V),
  cls = .ref C ∧ XC K C ∧ PySem.W.findIn K (.ref C) n = some none ∧ d = some dd ∧ H1 dd = some (.xd fs) ∧ fs.lookup n = some v ∧ Q v H1
theorem pe_xg {a : Addr} {oe : Obj} {cls : Value} {d : Option Addr} {e : Expr} {te : TE} {pos : Pos} {n : Str} (hp : (a, oe) ∈ X.pn) (hz : oe.cls = cls ∧ oe.dict = d) (hf : ∃ vs, oe.data = .fields vs) (he : PE X e te)
    (hb : attributeBase e n X.env (eval e X.env) = eval e X.env := by rfl) : PE X (.Attribute e n pos) (tXg X.K a cls d n te) := by
  refine ⟨fun pins s σ H Q I rd => attr_of hb (thn (he.run pins s σ H _ I rd) fun u s1 hh => ?_)⟩
  obtain ⟨x, H1, I1, rx, ex, C, dd, fs, v, ec, T, no, ed, ea, l, q⟩ := hh
  subst ex ec ed
  cases (show u = Value.ref a from rx)
  have there := (I1.pin (a, oe) (List.mem_append_left _ hp)).1
  obtain ⟨ws, hd⟩ := hf
  obtain ⟨mA, hns, rel⟩ := (show ObjOk X.prog X.w H1 s1.heap dd (.xd fs) from I1.hok dd _ ea)
  obtain ⟨od, ho, hl⟩ := lookIn_ns hns
  obtain ⟨u', hu, ru⟩ := RelO.some_of (v := v) (o := mA n) (by rw [← l]; exact rel n)
  have J : PySem.W.InstAt s1.heap a oe C (some od) := ⟨there, hz.1, by unfold PySem.W.notCls; rw [hd] <;> rfl, by rw [hz.2]; exact ho⟩
  exact HandSPX.exc_get I1.kIn J T.e.hg T.e.hk T.e.hs (PySem.W.findObj_own T.e.hd no rfl (by rw [hl, hu])) (handed_of ru) ⟨v, H1, I1.tok _, ru, q⟩
/-- isinstance(e, c) of it -/
def rIsP (K : PySem.W.Frag) (a : Addr) (cls : Value) (d : Option Addr) : List V → Hp → VK → Prop := fun xs H Q => ∃ (C dd : Addr) (fs : List (Str × V)) (c : V) (cv : Value) (b : Bool),
  xs = [.ref a, c] ∧ cls = .ref C ∧ XC K C ∧ d = some dd ∧ H dd = some (.xd fs) ∧ ClsV c cv ∧ PySem.W.kitOne K (.ref C) cv = some b ∧ Q (.bl b) H
theorem c_isP {a : Addr} {oe : Obj} {cls : Value} {d : Option Addr} (hp : (a, oe) ∈ X.pn) (hz : oe.cls = cls ∧ oe.dict = d) (hf : ∃ vs, oe.data = .fields vs) : CallR X (.builtin "isinstance") (rIsP X.K a cls d) := by
  intro pins s σ H xs us Q I r rd
  obtain ⟨C, dd, fs, c, cv, b, ex, ec, T, ed, ea, kc, kb, q⟩ := rd
  subst ex ec ed
  obtain ⟨u1, u2, rfl, r1, r2⟩ := vals2 r
  cases (show u1 = Value.ref a from r1)
  have e2 := kc.eq r2
  subst e2
  have there := (I.pin (a, oe) (List.mem_append_left _ hp)).1
  obtain ⟨ws, hd⟩ := hf
  obtain ⟨mA, hns, rel⟩ := (show ObjOk X.prog X.w H s.heap dd (.xd fs) from I.hok dd _ ea)
  obtain ⟨od, ho, hl⟩ := lookIn_ns hns
  have J : PySem.W.InstAt s.heap a oe C (some od) := ⟨there, hz.1, by unfold PySem.W.notCls; rw [hd] <;> rfl, by rw [hz.2]; exact ho⟩
  exact PySem.W.kia_one (PySem.W.kitx_exc T.cl T.e.hg T.e.hk T.e.hs T.e.ha T.e.hn T.e.ht T.e.hm) I.kIn J kb (fun z => nomatch z) fun tk => ⟨.bl b, H, I.kept (t' := tk) fun _ _ z => z, rfl, q⟩
end
/-! ### a def that is called with the exception that is handled -/
open L2H in
/-- as L2H.FnH, the promise told of the pinned exception -/
structure FnE (P : Program) (w : World) (K : PySem.W.Frag) (mg : Str → Option Value) (base : Heap) (lv : Nat) (f : Addr) (fd : FuncData) (ps : List Str) (sp : Addr × Obj → Sp) : Prop where
  few : ∀ q vs H Q E, sp q vs H Q E → vs.length = ps.length
  go : ∀ (q : Addr × Obj) (A : Around) (outer : List Env) (s : Shared) (H : Hp) (args : Args) (us : List Value) (vs : List V) (Q : VK) (E : XK),
    RoomH lv A → Hot1 A q → PinOk outer H s q → Env0 P w K mg base A outer s H → BindsTo s fd args (ps.zip us) → Vals vs us → sp q vs H Q E → codeAny (model P w) A (.call (.ref f) args) (CR CX0 outer P w H s Q E) s
section
variable {P : Program} {w : World} {K : PySem.W.Frag} {mg : Str → Option Value} {base : Heap}
open L2H in
theorem Df.okE {x : Str} {st : Stmt} {N ps : List Str} {lv : Nat} {sp : Addr × Obj → Sp} (D : Df K mg x st ps) (S : FnScope N ps (defScope st)) (len : ∀ q vs H Q E, sp q vs H Q E → vs.length = ps.length)
    (body : ∀ (q : Addr × Obj) (cdv : Value) (A : Around) (outer : List Env) (s : Shared) (H : Hp) (vs : List V) (Q : VK) (E : XK), Hot1 A q → RoomH lv (A.deeper (envOfC x (defScope st) s.heap.objs.size D.f cdv)) → sp q vs H Q E →
      ∃ t, PSs (cxH CX0 P w K mg base N x (defScope st) D.f cdv A outer s H E q).nox (defBody st) t ∧ t { nx := fun _ H' => Q .non H', rt := Q } (L2.start N vs) H) :
    FnE P w K mg base (lv + 1) D.f D.fd ps sp := by
  obtain ⟨f, fd, F, bnd, gl⟩ := D
  obtain ⟨oc, od, kV, doc, pm, an, cdv, ct, osl, e, lk, hcd⟩ := F.ex
  have e : fd = _ := e
  subst e
  refine ⟨len, fun q A outer s H args us vs Q E room hot pin e0 hb rel rd => ?_⟩
  have hl := len _ _ _ _ _ rd
  have keep : ∀ b o, base.get? b = some o → s.heap.get? b = some o := fun b o z => (e0.bs b o z).1
  have KX : K.In s.heap := e0.mod.kin.keeps keep
  have lim : s.heap.NoLimit := e0.mod.nolimit.keeps keep
  have kinds : ∀ y ∈ ps.zip us, (defScope st).names.lookup y.1 = some .local ∨ ((defScope st).names.lookup y.1 = some .cell ∧ ((cellsFrom (s.heap.objs.size + 1) (defScope st).names []).lookup y.1).isSome = true) := by
    rintro ⟨n, v⟩ hy
    rcases S.par n (List.of_mem_zip hy).1 with z | z
    · exact .inl z
    · exact .inr ⟨z, PySem.W.cellsFrom_some _ _ _ (.inl z)⟩
  refine codeAny_call_function room.depth (KX _ _ lk) rfl S.co S.gen rfl (PySem.W.codeRec_of KX hcd) (hb _ _ _ _ ?_)
  refine wpAny_newFunctionEnv_cells S.kind kinds fun env he s1 y => ?_
  subst he
  refine ⟨lim.keeps y.toInCall.keep, codeAny_func ?_⟩
  obtain ⟨t, ht, hq⟩ := body q cdv A outer s H vs Q E hot (room.deeper _) rd
  have I := inv_startH (CX := CX0) (E := E) S pin e0 hl rel y
  refine wpAny_mono (ht.nox.run [] s1 (L2.start N vs) H _ I hq) (fun fl s' hs => ?_) fun _ _ z => z
  cases fl with
  | brk => exact (hs.choose_spec.choose_spec.2).elim
  | cont => exact (hs.choose_spec.choose_spec.2).elim
  | ret u =>
    obtain ⟨v, _, H', J, rv, z⟩ := hs
    exact ⟨v, H', J.os, J.bare, J.base, J.hok, rv, z⟩
  | next =>
    obtain ⟨_, H', J, z⟩ := hs
    exact ⟨V.non, H', J.os, J.bare, J.base, J.hok, rfl, z⟩
end
section
variable {X : Cx}
open L2H in
theorem pe_callE {lv : Nat} {f a : Addr} {oe : Obj} {fd : FuncData} {ps : List Str} {sp : Addr × Obj → Sp} {nm : Str} {p pos : Pos} {e : Expr} {es : List Expr} {t : TA} (F : FnE X.prog X.w X.K X.mg X.base lv f fd ps sp) (room : RoomH lv X.A) (hot : Hot1 X.A (a, oe)) (hp : (a, oe) ∈ X.pn)
    (gl : Gl X nm) (gm : X.mg nm = some (.ref f)) (kp : PySem.W.keepIn X.K (.ref f) = true) (bnd : Binds X.K fd ps []) (args : PA X (e :: es) t) (nd : (nm == ("__debug__" : Str)) = false := by decide)
    (st1 : starEach (e :: es) X.env = (false, eval e X.env) :: starEach es X.env := by rfl) (st2 : (backTo pos (starEach es X.env)).any (·.1) = false := by rfl) : PE X (.Call (.Name nm p) (e :: es) [] pos) (tCallS (sp (a, oe)) (fun _ => E0) t) := by
  refine ⟨fun pins s σ H Q I rd => wpAny_Call_Name_kw (ld_glob I gl gm ?_ nd)⟩
  refine PySem.W.callWith_K (h₀ := X.base) I.ok.mod.kin kp (thn (args.run pos pins s σ H _ I rd) fun us s1 hh => ?_) st1 st2
  obtain ⟨vs, H1, I1, rel, q⟩ := hh
  refine ⟨I1.kIn, ?_⟩
  have hl : us.length = ps.length := by
    rw [← rel.length]
    exact F.few _ _ _ _ _ q
  have b := bnd s1 us I1.kIn (by rw [List.append_nil]; exact hl)
  rw [List.append_nil] at b
  have P1 := I1.pin (a, oe) (List.mem_append_left _ hp)
  have pin : PinOk X.stack H1 s1 (a, oe) := ⟨P1.1, P1.2.1, fun hm => (List.mem_cons.mp (I1.stkSub a hm)).elim P1.2.2.1 P1.2.2.2.1, P1.2.2.2.2⟩
  refine wpAny_call (codeAny_mono (F.go (a, oe) X.A X.stack s1 H1 ⟨us, []⟩ us vs Q _ room hot pin I1.env0 b rel q) fun r s' back => ?_)
  cases r with
  | error z => exact back.elim
  | ok fl =>
    cases fl with
    | ret u => exact I1.after back
    | next => exact back.elim
    | brk => exact back.elim
    | cont => exact back.elim
end
/-! ### defs that raise -/
section
variable {P : Program} {w : World} {K : PySem.W.Frag} {mg : Str → Option Value} {base : Heap}
theorem Df.okN {x : Str} {st : Stmt} {N ps : List Str} {lv : Nat} {sp : Sp} (D : Df K mg x st ps) (S : FnScope N ps (defScope st)) (len : ∀ vs H Q E, sp vs H Q E → vs.length = ps.length)
    (body : ∀ (cdv : Value) (A : Around) (outer : List Env) (s : Shared) (H : Hp) (vs : List V) (Q : VK) (E : XK), Room lv (A.deeper (envOfC x (defScope st) s.heap.objs.size D.f cdv)) → sp vs H Q E →
      ∃ t, PSs (cxOf (L2N.CX P w) P w K mg base N x (defScope st) D.f cdv A outer s H E) (defBody st) t ∧ t { nx := fun _ H' => Q .non H', rt := Q } (L2.start N vs) H) :
    FnOk P w K mg base (L2N.CX P w) (lv + 1) D.f D.fd ps sp := by
  obtain ⟨f, fd, F, bnd, gl⟩ := D
  obtain ⟨oc, od, kV, doc, pm, an, cdv, ct, osl, e, lk, hcd⟩ := F.ex
  have e : fd = _ := e
  subst e
  exact fn_of lk hcd S len fun A outer s H vs Q E room rd => body cdv A outer s H vs Q E room rd
/-- around a body nothing is let out -/
theorem takesN0 {X : Cx} : L2N.Takes X (fun _ _ _ _ => False) := fun _ _ z => by
  obtain ⟨_, _, _, _, _, _, _, _, _, _, _, _, _, _, _, _, z⟩ := z
  exact z.elim
end
end My
namespace My
open PySem PySem.Spec PyProof.Rows L2
/-! ### the digits' limit -/
theorem none_of_k {K : PySem.W.Frag} {h : Heap} {a : Addr} {m : Str → Option Value} {n : Str} (X : K.In h) (G : h.Ns a m) (e : PySem.W.nsIn K a n = some none) : m n = none := by
  obtain ⟨o, es, ep, ho, hd, _, hf⟩ := G
  unfold PySem.W.nsIn at e
  split at e
  · rename_i c d es' n' sl lk
    have two := ho.symm.trans (X _ _ lk)
    cases two
    cases hd
    split at e
    · cases e
    · rename_i none_
      rw [← hf]
      unfold nsFind findBy
      rw [← Array.find?_toList, none_]
      rfl
  · cases e
def NoDig (K : PySem.W.Frag) : Prop := PySem.W.nsIn K cStatics "sys.int_max_str_digits" = some none
theorem noDigits {X : Cx} {pins : List (Addr × Obj)} {σ : L2.St} {H : Hp} {s : Shared} (nd : NoDig X.K) (I : Inv X pins σ H s) : s.heap.NoDigits := by
  obtain ⟨mc, a, b⟩ := I.nolimit
  exact ⟨mc, a, none_of_k I.kIn a nd⟩
/-! ### int of a longer text -/
theorem wp_long {M : Model} {A : Around} {E : Value → Shared → Prop} {s : Shared} {Q : Value → Shared → Prop} {v : Value} {text : List Nat} {n : Int} (nd : s.heap.NoDigits)
    (hs : ¬ (text.takeWhile (· != 0)).length ≤ 640) (hr : (int_private% "readNumeral") 4300 10 (text.takeWhile (· != 0)) = (int_private% "Numeral.value") n)
    (ha : ((text.takeWhile (· != 0)).length == text.length) = true) (h : Q (.int n s.toks) { s with toks := s.toks + 1 }) :
    wpAny M A ((int_private% "intFromText") v text 10) Q E s := by
  obtain ⟨mc, hns, hno⟩ := nd
  obtain ⟨hp, g, d, tk, os⟩ := s
  repeat (any_goals (first
    | assumption
    | (with_reducible refine wpAny_ite_false (decide_eq_false hs) ?_)
    | (with_reducible refine wpAny_ite_true (decide_eq_true ha) ?_)
    | (with_reducible refine wpAny_nsGet hns ?_; rw [hno])
    | wp_step))
  all_goals (rw [hr]; dsimp only)
  repeat (any_goals (first
    | assumption
    | (with_reducible refine wpAny_ite_true (decide_eq_true ha) ?_)
    | wp_step))
structure Hold (p : Prop) : Prop where
  out : p
theorem meets_long {x : PySem.Str} {u : Tok} {n : Int} (hz : x.length ≤ sizeLine) (hl : ¬ (PySem.numSeenOf x).length ≤ 640) (hn : PySem.intText? x = some n) :
    Meets (Builtin.«int.__new__» ⟨[.type "int", .str x u], []⟩) (fun _ R s => s.heap.NoDigits ∧ R (.ok (.ret (.int n s.toks))) { s with toks := s.toks + 1 }) :=
  .of_wp fun prog w A R s h => by
    obtain ⟨nd, h⟩ := h
    have f1 := PySem.F.conv_sub_int
    have f2 := PySem.F.madeHere_int
    have f3 := PySem.W.KIN.str_int
    have f4 := PySem.W.KIN.str_idx
    have f5 := PySem.W.KIN.str_trunc
    have f6 : typeOf (.str x u) = pure (.type "str") := rfl
    have two : (int_private% "readNumeral") 4300 10 (PySem.numSeenOf x) = (int_private% "Numeral.value") n ∧ ((PySem.numSeenOf x).length == (PySem.numTextOf x).length) = true := by
      rcases PySem.read4300 x hz with ⟨m, h1, h2, h3⟩ | ⟨h1, _⟩
      · rw [hn] at h1
        cases h1
        exact ⟨h3, h2⟩
      · rw [hn] at h1
        cases h1
    have hk := Hold.mk (And.intro nd (And.intro hl two))
    obtain ⟨hp, g, d, tk, os⟩ := s
    clear nd hl two hn
    repeat (any_goals (first
      | assumption
      | ((with_reducible show wpAny _ _ ((int_private% "intFromText") _ _ _) _ _ _); refine wp_long hk.out.1 hk.out.2.1 hk.out.2.2.1 hk.out.2.2.2 ?_)
      | wp_step))
    all_goals first | exact ⟨_, rfl, h⟩ | skip
/-- int of a text of at most 4300 digits -/
def rIntS (K : PySem.W.Frag) : List V → Hp → VK → Prop := fun xs H Q => ∃ a n, xs = [.str a] ∧ PySem.intText? a = some n ∧ a.length ≤ sizeLine ∧ (PySem.numSeenOf a).length = a.length ∧ NoDig K ∧ Q (.int n) H
theorem c_intS {X : Cx} : CallR X (.type "int") (rIntS X.K) := by
  intro pins s σ H xs us Q I rs h
  obtain ⟨a, n, rfl, hn, hl, hsn, nd, h⟩ := h
  cases rs with
  | cons r1 rs =>
    cases rs
    obtain ⟨t, rfl⟩ := r1
    have fin : ∀ t', EP X pins σ Q (.int n t') { s with toks := s.toks + 1 } := fun t' => ⟨.int n, H, I.tok _, ⟨_, rfl⟩, h⟩
    by_cases h6 : a.length ≤ 640
    · exact PySem.W.KIN.call_text hn h6 (fin _)
    · exact call_int_1 (meets_long hl (by rw [hsn]; exact h6) hn) ⟨noDigits nd I, rfl, fin _⟩
/-! ### text * int -/
def rMulS : R2 := fun x y H Q => ∃ z n, x = .str z ∧ y = .int n ∧ 0 ≤ n ∧ n ≤ 100000 ∧ z.length ≤ 100 ∧ Q (.str (PySem.Txt.mul z n)) H
theorem o_mulS {X : Cx} : OpR X (binaryOp .Mult) rMulS := by
  intro pins s σ H x y v u Q I rx ry h
  obtain ⟨z, n, rfl, rfl, h0, h1, h2, h⟩ := h
  obtain ⟨t, rfl⟩ := (show ∃ t, v = Value.str z t from rx)
  obtain ⟨t', rfl⟩ := (show ∃ t, u = Value.int n t from ry)
  refine PySem.SB.mul ⟨by simp; omega, fun a _ => ?_, fun a _ => ?_⟩ fun t2 k => ⟨.str (PySem.Txt.mul z n), H, I.tok _, ⟨t2, rfl⟩, h⟩
  · have hq : (100000 : Int) ≤ (2 ^ 63 - 1) / n := (Int.le_ediv_iff_mul_le (by omega)).mpr (by omega)
    omega
  · have e : z.length * n.toNat ≤ 100 * 100000 := Nat.mul_le_mul h2 (by omega)
    unfold Builtin.Str.tooLong
    refine decide_eq_false ?_
    rw [sizeLine_eq]
    omega
/-! ### how often a truth value stands in a list of such -/
def rCntB (K : PySem.W.Frag) : V → List V → Hp → VK → Prop := fun x xs H Q => ∃ (a : Addr) (bs : List Bool) (k : Bool), x = .ref a ∧ xs = [.bl k] ∧ SqL K H a (bs.map V.bl) ∧ Q (.int (countIn (.bool k) (bs.map PyData.bool))) H
theorem reads_bools {h : Heap} : ∀ {bs : List Bool} {vs : List Value}, Vals (bs.map V.bl) vs → ReadsAll h vs (bs.map PyData.bool) []
  | [], _, r => by cases r; exact .nil
  | b :: bs, _, r => by
    cases r with
    | cons r1 r2 =>
      cases r1
      exact .cons (as := []) (by constructor) (reads_bools r2)
theorem all_bools (bs : List Bool) : (bs.map PyData.bool).all Shape.bool.has = true := by
  rw [List.all_map, List.all_eq_true]
  intro x _
  rfl
theorem mt_cntB {X : Cx} : MtR X "list.count" (rCntB X.K) := by
  intro pins s σ H x xs v us Q I rx rs h
  obtain ⟨a, bs, k, rfl, rfl, hq, h⟩ := h
  cases (show v = Value.ref a from rx)
  cases rs with
  | cons r1 r2 =>
    cases r2
    cases r1
    obtain ⟨its, rv, pl, hz⟩ := I.list hq
    exact count_list_bools pl.isList (reads_bools (h := s.heap) rv) (all_bools bs) ⟨.int _, H, I.tok _, ⟨_, rfl⟩, h⟩
/-! ### replace: a token must be out -/
def PE1 (X : Cx) (e : Expr) (t : TE) : Prop := ∀ (pins : List (Addr × Obj)) (s : Shared) (σ : L2.St) (H : Hp) (Q : VK), Inv X pins σ H s → t σ H Q →
  wpAny (model X.prog X.w) X.A (eval e X.env) (fun u s' => 1 ≤ s'.toks ∧ EP X pins σ Q u s') X.xe s
def PA1 (X : Cx) (es : List Expr) (t : TA) : Prop := ∀ (pos : Pos) (pins : List (Addr × Obj)) (s : Shared) (σ : L2.St) (H : Hp) (Q : List V → Hp → Prop), Inv X pins σ H s → t σ H Q →
  wpAny (model X.prog X.w) X.A (spliced (backTo pos (starEach es X.env))) (fun us s' => 1 ≤ s'.toks ∧ AP X pins σ Q us s') X.xe s
section
variable {X : Cx}
theorem PE1.pe {e : Expr} {t : TE} (h : PE1 X e t) : PE X e t := ⟨fun pins s σ H Q I q => thn (h pins s σ H Q I q) fun _ _ z => z.2⟩
theorem drop_toks {α : Type} {M : Model} {A : Around} {t : Sem α} {Q : α → Shared → Prop} {E : Value → Shared → Prop} {s : Shared} {n : Nat} (hn : n ≤ s.toks) (h : wpAny M A t Q E s) :
    wpAny M A t (fun a s' => n ≤ s'.toks ∧ Q a s') E s := wpAny_mono (wpAny_toks_of hn h) (fun _ _ z => z) fun _ _ z => z.2
theorem pe1_intL {op : Operator} {r : R2} {b : Expr} {tb : TE} {i : Int} {j : Nat} {cp pos : Pos} (ho : OpR X (binaryOp op) r) (hb : PE X b tb) : PE1 X (.BinOp (.Constant (.int i) j cp) op b pos) (tOp r (tC (.int i)) tb) := by
  intro pins s σ H Q I h
  refine wpAny_BinOp (wpAny_Constant_int ?_)
  refine thn (drop_toks (n := 1) (by show 1 ≤ s.toks + 1; omega) (hb.run pins _ σ H _ (I.tok _) h)) fun u s1 hh => ?_
  obtain ⟨h1, y, H1, I1, ry, q⟩ := hh
  exact drop_toks h1 (ho pins s1 σ H1 (.int i) y _ u Q I1 ⟨_, rfl⟩ ry q)
theorem pa1_head {e : Expr} {es : List Expr} {te : TE} {t : TA} (ha : PE1 X e te) (hr : PA X es t) (hs : starEach (e :: es) X.env = (false, eval e X.env) :: starEach es X.env := by rfl) : PA1 X (e :: es) (tCons te t) := by
  intro pos pins s σ H Q I h
  rw [hs]
  refine Calls.spliced_cons (thn (ha pins s σ H _ I h) fun u s1 hh => ?_)
  obtain ⟨h1, x, H1, I1, r1, q1⟩ := hh
  exact thn (drop_toks h1 (hr.run pos pins s1 σ H1 _ I1 q1)) fun us s2 ⟨h2, xs, H2, I2, r2, q2⟩ => ⟨h2, x :: xs, H2, I2, .cons r1 r2, q2⟩
theorem pa1_tail {e : Expr} {es : List Expr} {te : TE} {t : TA} (ha : PE X e te) (hr : PA1 X es t) (hs : starEach (e :: es) X.env = (false, eval e X.env) :: starEach es X.env := by rfl) : PA1 X (e :: es) (tCons te t) := by
  intro pos pins s σ H Q I h
  rw [hs]
  refine Calls.spliced_cons (thn (ha.run pins s σ H _ I h) fun u s1 hh => ?_)
  obtain ⟨x, H1, I1, r1, q1⟩ := hh
  exact thn (hr pos pins s1 σ H1 _ I1 q1) fun us s2 ⟨h2, xs, H2, I2, r2, q2⟩ => ⟨h2, x :: xs, H2, I2, .cons r1 r2, q2⟩
theorem pe1_call {CX : CXT} {lv : Nat} {f : Addr} {fd : FuncData} {ps : List Str} {sp : Sp} {E : XK} {nm : Str} {p pos : Pos} {e : Expr} {es : List Expr} {t : TA} (F : FnOk X.prog X.w X.K X.mg X.base CX lv f fd ps sp) (hr : Room lv X.A) (hg : Gl X nm) (hm : X.mg nm = some (.ref f)) (hk : PySem.W.keepIn X.K (.ref f) = true)
    (hb : Binds X.K fd ps []) (hx : Passes CX X E) (ha : PA1 X (e :: es) t) (nd : (nm == ("__debug__" : Str)) = false := by decide) (st1 : starEach (e :: es) X.env = (false, eval e X.env) :: starEach es X.env := by rfl)
    (st2 : (backTo pos (starEach es X.env)).any (·.1) = false := by rfl) : PE1 X (.Call (.Name nm p) (e :: es) [] pos) (tCall sp [] E t) := by
  intro pins s σ H Q I h
  refine wpAny_Call_Name_kw (ld_glob I hg hm ?_ nd)
  refine PySem.W.callWith_K (h₀ := X.base) I.ok.mod.kin hk (thn (ha pos pins s σ H _ I h) fun us s1 hh => ?_) st1 st2
  obtain ⟨h1, vs, H1, I1, r, q⟩ := hh
  exact ⟨I1.kIn, drop_toks h1 (run_fn F hr hb .nil hx I1 r q)⟩
def tRepl (y z : Str) (to : TE) : TE := fun σ H Q => to σ H fun v H1 => ∃ x, v = .str x ∧ x.length + (x.length + 1) * z.length ≤ 16777216 ∧ Q (.str (PySem.Txt.replace x y z)) H1
theorem pe1_repl {o : Expr} {to : TE} {y z : Str} {j k : Nat} {c0 c1 apos pos : Pos} (ho : PE1 X o to) (hyz : (y == z) = false := by decide)
    (hst : starEach [.Constant (.str y) j c0, .Constant (.str z) k c1] X.env = [(false, eval (.Constant (.str y) j c0) X.env), (false, eval (.Constant (.str z) k c1) X.env)] := by rfl)
    (hbase : attributeBase o "replace" X.env (eval o X.env) = eval o X.env := by rfl) (hline : (apos.endLine == pos.line) = true := by rfl) :
    PE1 X (.Call (.Attribute o "replace" apos) [.Constant (.str y) j c0, .Constant (.str z) k c1] [] pos) (tRepl y z to) := by
  intro pins s σ H Q I h
  refine PySem.Call_method2 hbase hst hline (thn (ho pins s σ H _ I h) fun v s1 q => ?_)
  obtain ⟨h1, v', H1, I1, r1, x, rfl, hb, q⟩ := q
  obtain ⟨tx, rfl⟩ := (show ∃ t, v = Value.str x t from r1)
  refine ⟨"str", _, PySem.F.plainAttrs_str, PySem.F.slot_str_replace, PySem.F.type_str_replace, typeIs_str _ _ _, (fun _ e => nomatch e), Calls.callWith_builtin rfl (Calls.evalArgs_plain (Calls.spliced_cons ?_))⟩
  refine Calls.Constant_str (Calls.spliced_cons (Calls.Constant_str (Calls.spliced_nil ?_)))
  refine drop_toks (n := 1) (by show 1 ≤ s1.toks + 1 + 1; omega) ?_
  refine PySem.SC.replace ?_ ?_ ?_ hyz hb fun t' k => ⟨.str (PySem.Txt.replace x y z), H1, I1.tok k, ⟨t', rfl⟩, q⟩
  · show s1.toks ≠ 0
    omega
  · show s1.toks + 1 ≠ 0
    omega
  · show s1.toks ≠ s1.toks + 1
    omega
end
end My
namespace My
open PySem PySem.Spec PyProof.Rows L2
/-- an own exception class of the top -/
structure Xc (K : PySem.W.Frag) (mg : Str → Option Value) (x : Str) where
  C : Addr
  g : mg x = some (.ref C)
  o : OexC K C
  x : XC K C
structure Xg (mg : Str → Option Value) (x : Str) where
  C : Addr
  g : mg x = some (.ref C)
/-- the __init__ of the class at C -/
structure Mi (K : PySem.W.Frag) (C : Addr) (q : Str) (st : Stmt) (ps : List Str) where
  f : Addr
  fd : FuncData
  F : Fun K "__init__" q st f fd
  b : Binds K fd ps []
  i : PySem.W.findIn K (.ref C) "__init__" = some (some (.ref f))
  t : PySem.W.typeIn K (.ref f) = some (.type "function")
structure Txt (K : PySem.W.Frag) (mg : Str → Option Value) where
  dsplit_row : Df K mg "split_row" (topS 10) ["row", "line"]
  dstore : Df K mg "_law_store" (topS 12) ["script"]
  dtake : Df K mg "_law_take" (topS 13) ["store", "many"]
  dedge : Df K mg "_law_edge" (topS 14) ["store", "many"]
  dbetween : Df K mg "_law_between" (topS 15) ["store", "low", "high"]
  dmixed : Df K mg "_law_mixed" (topS 16) ["store", "items"]
  dtens : Df K mg "_law_tens" (topS 17) ["figures"]
  dinteger : Df K mg "_law_integer" (topS 18) ["store", "figures"]
  dtail : Df K mg "_law_tail" (topS 19) ["store", "size"]
  dtext : Df K mg "_law_text" (topS 20) ["store", "size"]
  dnot_integer : Df K mg "_law_not_integer" (topS 21) ["store"]
  dnot_text : Df K mg "_law_not_text" (topS 22) ["store"]
  dsame : Df K mg "_law_same" (topS 23) ["got", "due"]
  drefusal : Df K mg "_law_refusal" (topS 24) ["e"]
  dtold : Df K mg "_law_told" (topS 25) ["row", "line"]
  drow_pieces : Df K mg "_law_row_pieces" (topS 26) ["store"]
  ddue : Df K mg "_law_due" (topS 27) ["pieces", "line"]
  dline : Df K mg "_law_line" (topS 28) ["store", "good"]
  dno_row : Df K mg "_law_no_row" (topS 29) ["store", "row"]
  dlaw : Df K mg "law" (topS 30) ["script"]
  m_len : mg "len" = none
  m_max : mg "max" = none
  m_min : mg "min" = none
  m_abs : mg "abs" = none
  m_int : mg "int" = none
  m_str : mg "str" = none
  m_bool : mg "bool" = none
  m_list : mg "list" = none
  m_tuple : mg "tuple" = none
  m_dict : mg "dict" = none
  m_isinstance : mg "isinstance" = none
  m_range : mg "range" = none
  m_reversed : mg "reversed" = none
  m_ValueError : mg "ValueError" = none
  dig : NoDig K
  cFrameError : Xg mg "FrameError"
  cWrongKind : Xc K mg "WrongKind"
  cOutOfBounds : Xc K mg "OutOfBounds"
  cRepeatedName : Xg mg "RepeatedName"
  cUnknownName : Xg mg "UnknownName"
  cUnfitError : Xg mg "UnfitError"
  cUnsafe : Xg mg "Unsafe"
  cBadText : Xc K mg "BadText"
  iWrongKind : Mi K cWrongKind.C "WrongKind.__init__" (inClass (topS 2) 0) ["self", "argument"]
  nWrongKind_argument : PySem.W.findIn K (.ref cWrongKind.C) "argument" = some none
  kWrongKind_WrongKind : PySem.W.kitOne K (.ref cWrongKind.C) (.ref cWrongKind.C) = some true
  kWrongKind_OutOfBounds : PySem.W.kitOne K (.ref cWrongKind.C) (.ref cOutOfBounds.C) = some false
  kWrongKind_RepeatedName : PySem.W.kitOne K (.ref cWrongKind.C) (.ref cRepeatedName.C) = some false
  kWrongKind_UnknownName : PySem.W.kitOne K (.ref cWrongKind.C) (.ref cUnknownName.C) = some false
  kWrongKind_BadText : PySem.W.kitOne K (.ref cWrongKind.C) (.ref cBadText.C) = some false
  kWrongKind_Unsafe : PySem.W.kitOne K (.ref cWrongKind.C) (.ref cUnsafe.C) = some false
  kWrongKind_UnfitError : PySem.W.kitOne K (.ref cWrongKind.C) (.ref cUnfitError.C) = some false
  kWrongKind_ValueError : PySem.W.kitOne K (.ref cWrongKind.C) (.type "ValueError") = some true
  xWrongKind : PySem.W.exmOne K (.ref cWrongKind.C) (.ref cFrameError.C) = some true
  iOutOfBounds : Mi K cOutOfBounds.C "OutOfBounds.__init__" (inClass (topS 3) 0) ["self", "argument"]
  nOutOfBounds_argument : PySem.W.findIn K (.ref cOutOfBounds.C) "argument" = some none
  kOutOfBounds_WrongKind : PySem.W.kitOne K (.ref cOutOfBounds.C) (.ref cWrongKind.C) = some false
  kOutOfBounds_OutOfBounds : PySem.W.kitOne K (.ref cOutOfBounds.C) (.ref cOutOfBounds.C) = some true
  kOutOfBounds_RepeatedName : PySem.W.kitOne K (.ref cOutOfBounds.C) (.ref cRepeatedName.C) = some false
  kOutOfBounds_UnknownName : PySem.W.kitOne K (.ref cOutOfBounds.C) (.ref cUnknownName.C) = some false
  kOutOfBounds_BadText : PySem.W.kitOne K (.ref cOutOfBounds.C) (.ref cBadText.C) = some false
  kOutOfBounds_Unsafe : PySem.W.kitOne K (.ref cOutOfBounds.C) (.ref cUnsafe.C) = some false
  kOutOfBounds_UnfitError : PySem.W.kitOne K (.ref cOutOfBounds.C) (.ref cUnfitError.C) = some false
  kOutOfBounds_ValueError : PySem.W.kitOne K (.ref cOutOfBounds.C) (.type "ValueError") = some true
  xOutOfBounds : PySem.W.exmOne K (.ref cOutOfBounds.C) (.ref cFrameError.C) = some true
  iBadText : Mi K cBadText.C "BadText.__init__" (inClass (topS 8) 0) ["self", "line", "column", "fault"]
  nBadText_line : PySem.W.findIn K (.ref cBadText.C) "line" = some none
  nBadText_column : PySem.W.findIn K (.ref cBadText.C) "column" = some none
  nBadText_fault : PySem.W.findIn K (.ref cBadText.C) "fault" = some none
  kBadText_WrongKind : PySem.W.kitOne K (.ref cBadText.C) (.ref cWrongKind.C) = some false
  kBadText_OutOfBounds : PySem.W.kitOne K (.ref cBadText.C) (.ref cOutOfBounds.C) = some false
  kBadText_RepeatedName : PySem.W.kitOne K (.ref cBadText.C) (.ref cRepeatedName.C) = some false
  kBadText_UnknownName : PySem.W.kitOne K (.ref cBadText.C) (.ref cUnknownName.C) = some false
  kBadText_BadText : PySem.W.kitOne K (.ref cBadText.C) (.ref cBadText.C) = some true
  kBadText_Unsafe : PySem.W.kitOne K (.ref cBadText.C) (.ref cUnsafe.C) = some false
  kBadText_UnfitError : PySem.W.kitOne K (.ref cBadText.C) (.ref cUnfitError.C) = some false
  kBadText_ValueError : PySem.W.kitOne K (.ref cBadText.C) (.type "ValueError") = some true
  xBadText : PySem.W.exmOne K (.ref cBadText.C) (.ref cFrameError.C) = some true

end My
namespace My
open PySem PySem.Spec PyProof.Rows L2
local macro_rules | `(tactic| walk_at "arith") => `(tactic| first
  | (with_reducible show _ ≠ _; omega)
  | (unfold CMul; omega)
  | (unfold CPow; omega)
  | (unfold CPow; decide)
  | exact wide_div (b := 100) (by decide) (by decide) (by decide) (by decide))
local macro_rules | `(tactic| walk_at "go") => `(tactic| repeat (first
  | with_reducible refine g_seq ?_
  | with_reducible refine g_asg ?_
  | with_reducible refine g_name ?_
  | with_reducible refine g_sub ?_
  | with_reducible refine g_ret ?_
  | with_reducible refine g_drop ?_
  | ((with_reducible refine g_next ?_); dsimp only)
  | with_reducible refine g_if ?_
  | with_reducible refine g_var rfl ?_
  | with_reducible refine g_c ?_
  | with_reducible refine g_op ?_
  | with_reducible refine g_un ?_
  | with_reducible refine g_I0 ?_
  | with_reducible refine g_U ?_
  | with_reducible refine g_eq rfl ?_
  | with_reducible refine g_test ?_
  | with_reducible refine g_bl ?_
  | with_reducible refine iteF ?_
  | with_reducible refine iteT ?_
  | ((with_reducible apply g_iteT); (case e => rfl))
  | ((with_reducible apply g_iteF); (case e => rfl))
  | with_reducible refine g_int1 ?_
  | with_reducible refine g_max2 ?_
  | with_reducible refine g_min2 ?_
  | with_reducible refine g_isN ?_
  | with_reducible refine g_notN ?_
  | ((with_reducible apply g_lenL); (case hs => assumption))
  | ((with_reducible apply g_ixL); (case hs => exact SqL.of (by assumption)); (case ha => rfl))
  | with_reducible refine g_pow9 ?_
  | with_reducible refine g_pow18 ?_
  | ((with_reducible apply g_I); (case c => walk_at "arith"))
  | ((with_reducible apply g_st); (case hs => assumption); (case hL => assumption); (case ne => assumption); (case x0 => assumption); (case hj => rfl); (case j0 => decide); intro _ _ _ _)
  | with_reducible refine g_and ?_
  | with_reducible refine g_or ?_
  | with_reducible refine g_not ?_
  | with_reducible refine g_nil ?_
  | with_reducible refine g_cons ?_
  | with_reducible refine g_callB ?_
  | with_reducible refine g_call ?_
  | with_reducible refine g_tup ?_
  | with_reducible refine g_lst ?_
  | with_reducible refine g_andV ?_
  | with_reducible refine g_orV ?_
  | with_reducible refine g_notV ?_
  | with_reducible refine g_tB ?_
  | with_reducible refine g_ne rfl ?_
  | with_reducible refine g_abs ?_
  | with_reducible refine g_isB ?_
  | with_reducible refine g_for ?_
  | with_reducible refine g_rng1 ?_
  | with_reducible refine g_rng2 ?_
  | with_reducible refine g_iList ?_
  | ((with_reducible refine g_break ?_); dsimp only)
  | ((with_reducible refine g_cont ?_); dsimp only)
  | with_reducible refine g_retN ?_
  | ((with_reducible apply isi_go (T := "int")); (case h => assumption); (case hb => exact k_int_ _))
  | ((with_reducible apply isi_go (T := "str")); (case h => assumption); (case hb => exact k_str_ _))
  | ((with_reducible apply isi_go (T := "bool")); (case h => assumption); (case hb => exact k_bool_ _))
  | ((with_reducible apply isi_go (T := "list")); (case h => assumption); (case hb => exact k_list_ _))
  | ((with_reducible apply isi_go (T := "tuple")); (case h => assumption); (case hb => exact k_tuple_ _))
  | ((with_reducible apply isi_go (T := "dict")); (case h => assumption); (case hb => exact k_dict_ _))
  | with_reducible refine g_intb ?_))

abbrev s_take : Stmt := topS 13
abbrev N_take : List Str := ["store", "many", "cell", "got", "once", "twice"]
abbrev P_take : List Str := ["store", "many"]
theorem sc_take : FnScope N_take P_take (defScope s_take) := ⟨rfl, rfl, rfl, by decide +kernel, rfl, by decide +kernel, by decide +kernel⟩

def BN : Nat → Int
  | 0 => 1000000000
  | n + 1 => 1000000000 * (BN n - 1)
def spTakeN (K : PySem.W.Frag) : Nat → Sp
  | 0 => fun _ _ _ _ => False
  | n + 1 => spTake K (BN n)
theorem fmod0 {x m : Int} (h : 0 < m) : 0 ≤ x.fmod m := by
  rw [Int.fmod_eq_emod_of_nonneg _ (by omega)]
  exact Int.emod_nonneg _ (by omega)
theorem fmod1 {x m : Int} (h : 0 < m) : x.fmod m < m := by
  rw [Int.fmod_eq_emod_of_nonneg _ (by omega)]
  exact Int.emod_lt_of_pos _ h
theorem fmod_lt {x m : Int} {n : Nat} (h : 0 < m) (hm : m ≤ 2 ^ n) : (x.fmod m).natAbs < 2 ^ n := by
  have h0 := fmod0 (x := x) h
  have h1 := fmod1 (x := x) h
  have : ((x.fmod m).natAbs : Int) < (2 : Int) ^ n := by omega
  exact_mod_cast this
theorem BN_ge (n : Nat) : 1000000000 ≤ BN n := by
  induction n with
  | zero => exact Int.le_refl _
  | succ n ih =>
    have e : BN (n + 1) = 1000000000 * (BN n - 1) := rfl
    omega
section
variable {P : Program} {w : World} {K : PySem.W.Frag} {mg : Str → Option Value} {base : Heap}
theorem ok_take (T : Txt K mg) (n : Nat) : FnOk P w K mg base CX0 n T.dtake.f T.dtake.fd P_take (spTakeN K n) := by
  induction n with
  | zero => exact ⟨fun _ _ _ _ h => h.elim, fun _ _ _ _ _ _ _ _ _ _ _ _ _ h => h.elim⟩
  | succ n G_take =>
    refine T.dtake.F.ok sc_take (fun vs H Q E h => ?_) (fun cdv A outer s H vs Q E hr h => ?_)
    · obtain ⟨s, many, rfl, _⟩ := h
      rfl
    · obtain ⟨s, many, rfl, hst, hB, hW, k⟩ := h
      refine ⟨_, (pss_cons (ps_if (pt_cmpR op_lt (pv 1) pe_int (nomark _))
        (pss_one (ps_ret pe_int))
        pss_nil)
      (pss_cons (ps_asg (pe_op op_add (pe_ix ix_list (pv 0) pe_int (fun _ _ => rfl)) pe_int) (pg_sub (pv 0) pe_int set_list))
      (Evl.pss_cut (ps_if (PW.pt (pw_and (pt_cmpR op_eq (pe_ix ix_list (pv 0) pe_int (fun _ _ => rfl)) pe_int (nomark _)) (pw_and (pt_cmpR op_eq (pe_ix ix_list (pv 0) pe_int (fun _ _ => rfl)) pe_int (nomark _)) (pw_and1 (pt_cmpR op_lt (pe_ix ix_list (pv 0) pe_int (fun _ _ => rfl)) (pe_callB c_len (by rfl) T.m_len bt_len (pa_cons (pe_ix ix_list (pv 0) pe_int (fun _ _ => rfl)) pa_nil)) (nomark _))))))
        (pss_cons (ps_set (i := 2) sc_take.nd rfl (by first | exact .inl rfl | exact .inr rfl) (pe_callTy c_int1 (by rfl) T.m_int bt_int (pa_cons (pe_ix ix_list (pe_ix ix_list (pv 0) pe_int (fun _ _ => rfl)) (pe_ix ix_list (pv 0) pe_int (fun _ _ => rfl)) (fun _ _ => rfl)) pa_nil)))
        (pss_cons (ps_asg (pe_op op_add (pe_ix ix_list (pv 0) pe_int (fun _ _ => rfl)) pe_int) (pg_sub (pv 0) pe_int set_list))
        (pss_cons (ps_asg (pe_op op_modN (pe_callTy c_int1 (by rfl) T.m_int bt_int (pa_cons (pe_op op_add (pe_op op_add (pe_op op_mul (pe_ix ix_list (pv 0) pe_int (fun _ _ => rfl)) pe_int) (pv 2)) pe_int) pa_nil)) pe_int) (pg_sub (pv 0) pe_int set_list))
        (pss_one (ps_if (pt_cmpR op_ge (pe_callB (c_max2 rfl) (by rfl) T.m_max bt_max (pa_cons (pv 2) (pa_cons (pe_un un_neg (pv 2)) pa_nil))) (pe_op op_pow pe_int pe_int) (nomark _))
          (pss_one (ps_asg (pe_callB (c_max2 rfl) (by rfl) T.m_max bt_max (pa_cons (pv 2) (pa_cons (pe_un un_neg (pv 2)) pa_nil))) (pg_sub (pv 0) pe_int set_list)))
          (pss_one (ps_asg pe_int (pg_sub (pv 0) pe_int set_list))))))))
        pss_nil)
      (pss_cons (ps_if (pt_cmpR op_gt (pe_ix ix_list (pv 0) pe_int (fun _ _ => rfl)) pe_int (nomark _))
        (pss_cons (ps_set (i := 3) sc_take.nd rfl (by first | exact .inl rfl | exact .inr rfl) (pe_op op_modN (pe_callTy c_int1 (by rfl) T.m_int bt_int (pa_cons (pe_ix ix_list (pv 0) pe_int (fun _ _ => rfl)) pa_nil)) (pv 1)))
        (pss_cons (ps_asg (pe_op op_fdivW (pe_ix ix_list (pv 0) pe_int (fun _ _ => rfl)) (pv 1)) (pg_sub (pv 0) pe_int set_list))
        (pss_one (ps_ret (pv 3)))))
        pss_nil)
      (pss_cons (ps_if (pt_cmpR op_gt (pv 1) (pe_op op_pow pe_int pe_int) (nomark _))
        (pss_cons (ps_set (i := 3) sc_take.nd rfl (by first | exact .inl rfl | exact .inr rfl) (pe_call G_take (hr.mono (by omega)) rfl T.dtake.g T.dtake.F.kp T.dtake.b .nil pass0 (pa_cons (pv 0) (pa_cons (pe_op op_pow pe_int pe_int) pa_nil))))
        (pss_one (ps_ret (pe_op op_modN (pe_callTy c_int1 (by rfl) T.m_int bt_int (pa_cons (pe_op op_add (pv 3) (pe_op op_mul (pe_op op_pow pe_int pe_int) (pe_call G_take (hr.mono (by omega)) rfl T.dtake.g T.dtake.F.kp T.dtake.b .nil pass0 (pa_cons (pv 0) (pa_cons (pe_op op_add (pe_op op_fdivW (pv 1) (pe_op op_pow pe_int pe_int)) pe_int) pa_nil))))) pa_nil)) (pv 1)))))
        pss_nil)
      (pss_cons (ps_asg (pe_callB (c_max2 rfl) (by rfl) T.m_max bt_max (pa_cons pe_int (pa_cons (pe_op op_sub (pe_ix ix_list (pv 0) pe_int (fun _ _ => rfl)) pe_int) pa_nil))) (pg_sub (pv 0) pe_int set_list))
      (pss_cons (ps_set (i := 4) sc_take.nd rfl (by first | exact .inl rfl | exact .inr rfl) (pe_op op_add (pe_op op_add (pe_op op_mul (pe_ix ix_list (pv 0) pe_int (fun _ _ => rfl)) pe_int) (pe_op op_mul (pe_ix ix_list (pv 0) pe_int (fun _ _ => rfl)) pe_int)) pe_int))
      (pss_cons (ps_set (i := 4) sc_take.nd rfl (by first | exact .inl rfl | exact .inr rfl) (pe_op op_modN (pe_callTy c_int1 (by rfl) T.m_int bt_int (pa_cons (pv 4) pa_nil)) pe_int))
      (pss_cons (ps_asg (pv 4) (pg_sub (pv 0) pe_int set_list))
      (pss_cons (ps_set (i := 5) sc_take.nd rfl (by first | exact .inl rfl | exact .inr rfl) (pe_op op_modN (pe_callTy c_int1 (by rfl) T.m_int bt_int (pa_cons (pe_op op_add (pe_op op_add (pe_op op_mulW (pv 4) (pv 4)) (pe_op op_fdivW (pv 4) pe_int)) (pe_ix ix_list (pv 0) pe_int (fun _ _ => rfl))) pa_nil)) pe_int))
      (pss_one (ps_ret (pe_op op_modN (pe_callTy c_int1 (by rfl) T.m_int bt_int (pa_cons (pe_op op_fdivW (pv 5) pe_int) pa_nil)) (pv 1)))))))))))))), ?_⟩
      obtain ⟨L, ns, p, a, b, c, d, hs, ne, hL, p0, a0, b0, c0, c1, len⟩ := hst
      have x0 := Sx.refl s H
      dsimp only [cxOf, Cx.nox, Cx.wish]
      walk_at "go"
      refine g_ite (fun h => ?_) (fun h => ?_)
      · walk_at "go"
        exact k 0 H (Int.le_refl _) (.inl rfl) x0 ⟨L, ns, p, a, b, c, d, hs, ne, hL, p0, a0, b0, c0, c1, len⟩
      have hm : 2 ≤ many := by
        have := of_decide_eq_false h
        omega
      walk_at "go"
      refine g_cut (Mid := fun σ' H' => ∃ v p a b c d, σ' = [some (.ref s), some (.int many), v, none, none, none] ∧ StOk K H' s L ns p a b c d ∧ Sx s H H') ?_ ?_
      · walk_at "go"
        refine g_ite (fun h1 => ?_) (fun h1 => ?_)
        · walk_at "go"
          refine g_ite (fun h2 => ?_) (fun h2 => ?_)
          · walk_at "go"
            refine g_ite (fun h3 => ?_) (fun h3 => ?_)
            · walk_at "go"
              have hp : p < ns.length := by
                have := of_decide_eq_true h3
                rw [List.length_map] at this
                exact this
              refine g_ixL (by assumption) (atI_map V.int ns p 0 p0 hp) ?_
              walk_at "go"
              refine g_ite (fun h4 => ?_) (fun h4 => ?_)
              · walk_at "go"
                exact ⟨_, p + 1, _, b, _, _, rfl, ⟨by assumption, ne, by assumption, by omega, by have := of_decide_eq_true h4; omega, b0, by exact fmod0 (by decide), by exact fmod1 (by decide), len⟩, by assumption⟩
              · walk_at "go"
                exact ⟨_, p + 1, a, _, _, _, rfl, ⟨by assumption, ne, by assumption, by omega, a0, by decide, by exact fmod0 (by decide), by exact fmod1 (by decide), len⟩, by assumption⟩
            · walk_at "go"
              exact ⟨_, p, a, b, c, _, rfl, ⟨by assumption, ne, by assumption, p0, a0, b0, c0, c1, len⟩, by assumption⟩
          · walk_at "go"
            exact ⟨_, p, a, b, c, _, rfl, ⟨by assumption, ne, by assumption, p0, a0, b0, c0, c1, len⟩, by assumption⟩
        · walk_at "go"
          exact ⟨_, p, a, b, c, _, rfl, ⟨by assumption, ne, by assumption, p0, a0, b0, c0, c1, len⟩, by assumption⟩
      · rintro σ' H' ⟨v, p, a, b, c, d, rfl, ⟨hs, ne, hL, p0, a0, b0, c0, c1, len⟩, x0⟩
        walk_at "go"
        refine g_ite (fun h5 => ?_) (fun h5 => ?_)
        · walk_at "go"
          refine g_I (big_div (by omega) hW) ?_
          walk_at "go"
          refine k _ _ (fmod0 (by omega)) (.inr (fmod1 (by omega))) (by assumption) ⟨L, ns, p, _, b, c, d, ⟨by assumption, ne, by assumption, p0, ?_, b0, c0, c1, len⟩⟩
          exact Int.ediv_nonneg (by have := of_decide_eq_true h5; omega) (by omega)
        walk_at "go"
        refine g_ite (fun h6 => ?_) (fun h6 => ?_)
        · have hbig := of_decide_eq_true h6
          cases n with
          | zero =>
            exfalso
            have : BN 0 = 1000000000 := rfl
            omega
          | succ m =>
            have eB : BN (m + 1) = 1000000000 * (BN m - 1) := rfl
            have eG := BN_ge m
            walk_at "go"
            refine ⟨s, _, rfl, ⟨L, ns, p, a, b, c, d, hs, ne, hL, p0, a0, b0, c0, c1, len⟩, by omega, by unfold BIG; omega, fun r H1 r0 r1 x1 st1 => ?_⟩
            walk_at "go"
            refine ⟨s, _, rfl, st1, by omega, by omega, fun r2 H2 r20 r21 x2 st2 => ?_⟩
            walk_at "go"
            exact k _ _ (fmod0 (by omega)) (.inr (fmod1 (by omega))) ((x0.trans x1).trans x2) st2
        walk_at "go"
        refine g_I (wide_mul (a := 61) (b := 61) (fmod_lt (by decide) (by decide)) (fmod_lt (by decide) (by decide)) (by decide) (by decide) (by decide)) ?_
        walk_at "go"
        refine k _ _ (fmod0 (by omega)) (.inr (fmod1 (by omega))) (by assumption) ⟨L, ns, p, a, _, _, d, ⟨by assumption, ne, by assumption, p0, a0, ?_, by exact fmod0 (by decide), by exact fmod1 (by decide), len⟩⟩
        split <;> omega
end
end My
namespace My
open PySem PySem.Spec PyProof.Rows L2
local macro_rules | `(tactic| walk_at "arith") => `(tactic| first
  | (with_reducible show _ ≠ _; omega)
  | (unfold CMul; omega)
  | (unfold CPow; omega)
  | (unfold CPow; decide)
  | exact wide_div (b := 100) (by decide) (by decide) (by decide) (by decide))
local macro_rules | `(tactic| walk_at "go") => `(tactic| repeat (first
  | with_reducible refine g_seq ?_
  | with_reducible refine g_asg ?_
  | with_reducible refine g_name ?_
  | with_reducible refine g_sub ?_
  | with_reducible refine g_ret ?_
  | with_reducible refine g_drop ?_
  | ((with_reducible refine g_next ?_); dsimp only)
  | with_reducible refine g_if ?_
  | with_reducible refine g_var rfl ?_
  | with_reducible refine g_c ?_
  | with_reducible refine g_op ?_
  | with_reducible refine g_un ?_
  | with_reducible refine g_I0 ?_
  | with_reducible refine g_U ?_
  | with_reducible refine g_eq rfl ?_
  | with_reducible refine g_test ?_
  | with_reducible refine g_bl ?_
  | with_reducible refine iteF ?_
  | with_reducible refine iteT ?_
  | ((with_reducible apply g_iteT); (case e => rfl))
  | ((with_reducible apply g_iteF); (case e => rfl))
  | with_reducible refine g_int1 ?_
  | with_reducible refine g_max2 ?_
  | with_reducible refine g_min2 ?_
  | with_reducible refine g_isN ?_
  | with_reducible refine g_notN ?_
  | ((with_reducible apply g_lenL); (case hs => assumption))
  | ((with_reducible apply g_ixL); (case hs => exact SqL.of (by assumption)); (case ha => rfl))
  | with_reducible refine g_pow9 ?_
  | with_reducible refine g_pow18 ?_
  | ((with_reducible apply g_I); (case c => walk_at "arith"))
  | ((with_reducible apply g_st); (case hs => assumption); (case hL => assumption); (case ne => assumption); (case x0 => assumption); (case hj => rfl); (case j0 => decide); intro _ _ _ _)
  | with_reducible refine g_and ?_
  | with_reducible refine g_or ?_
  | with_reducible refine g_not ?_
  | with_reducible refine g_nil ?_
  | with_reducible refine g_cons ?_
  | with_reducible refine g_callB ?_
  | with_reducible refine g_call ?_
  | with_reducible refine g_tup ?_
  | with_reducible refine g_lst ?_
  | with_reducible refine g_andV ?_
  | with_reducible refine g_orV ?_
  | with_reducible refine g_notV ?_
  | with_reducible refine g_tB ?_
  | with_reducible refine g_ne rfl ?_
  | with_reducible refine g_abs ?_
  | with_reducible refine g_isB ?_
  | with_reducible refine g_for ?_
  | with_reducible refine g_rng1 ?_
  | with_reducible refine g_rng2 ?_
  | with_reducible refine g_iList ?_
  | ((with_reducible refine g_break ?_); dsimp only)
  | ((with_reducible refine g_cont ?_); dsimp only)
  | with_reducible refine g_retN ?_
  | ((with_reducible apply isi_go (T := "int")); (case h => assumption); (case hb => exact k_int_ _))
  | ((with_reducible apply isi_go (T := "str")); (case h => assumption); (case hb => exact k_str_ _))
  | ((with_reducible apply isi_go (T := "bool")); (case h => assumption); (case hb => exact k_bool_ _))
  | ((with_reducible apply isi_go (T := "list")); (case h => assumption); (case hb => exact k_list_ _))
  | ((with_reducible apply isi_go (T := "tuple")); (case h => assumption); (case hb => exact k_tuple_ _))
  | ((with_reducible apply isi_go (T := "dict")); (case h => assumption); (case hb => exact k_dict_ _))
  | with_reducible refine g_intb ?_))

theorem fn_weak {P : Program} {w : World} {K : PySem.W.Frag} {mg : Str → Option Value} {base : Heap} {CX : CXT} {k : Nat} {f : Addr} {fd : FuncData} {ps : List Str} {sp sp' : Sp} (F : FnOk P w K mg base CX k f fd ps sp) (h : ∀ vs H Q E, sp' vs H Q E → sp vs H Q E) : FnOk P w K mg base CX k f fd ps sp' :=
  ⟨fun vs H Q E z => F.len vs H Q E (h vs H Q E z), fun A outer s H args us vs Q E a b c d e => F.run A outer s H args us vs Q E a b c d (h vs H Q E e)⟩
theorem big_of {m : Int} (h : m ≤ 1000000000) : m < BIG := by
  have : (1000000000 : Int) < BIG := by decide +kernel
  omega
theorem BN_big : BIG ≤ BN 170 := by decide +kernel
def spTakeB (K : PySem.W.Frag) : Sp := fun vs H Q _ => ∃ (s : Addr) (many : Int), vs = [.ref s, .int many] ∧ Store K H s ∧ many < BIG ∧
  ∀ (r : Int) (H' : Hp), 0 ≤ r → (r = 0 ∨ r < many) → Sx s H H' → Store K H' s → Q (.int r) H'
theorem take_go {K : PySem.W.Frag} {H : Hp} {s : Addr} {many : Int} {Q : VK} {E : XK} (st : Store K H s) (hm : many < BIG)
    (k : ∀ (r : Int) (H' : Hp), 0 ≤ r → (r = 0 ∨ r < many) → Sx s H H' → Store K H' s → Q (.int r) H') : spTakeB K [.ref s, .int many] H Q E := ⟨s, many, rfl, st, hm, k⟩
def spBetween (K : PySem.W.Frag) : Sp := fun vs H Q _ => ∃ (s : Addr) (low high : Int), vs = [.ref s, .int low, .int high] ∧ Store K H s ∧ low ≤ high ∧ high - low < 1000000000 ∧
  ∀ (r : Int) (H' : Hp), low ≤ r → r ≤ high → Sx s H H' → Store K H' s → Q (.int r) H'
def spTens : Sp := fun vs H Q _ => ∃ (n : Nat), vs = [.int n] ∧ n ≤ 1000 ∧ Q (.int (10 ^ n)) H
def spInteger (K : PySem.W.Frag) : Sp := fun vs H Q _ => ∃ (s : Addr) (figures : Int), vs = [.ref s, .int figures] ∧ Store K H s ∧ 0 ≤ figures ∧ figures ≤ 1000 ∧
  ∀ (r : Int) (H' : Hp), -(10 ^ 1000) < r → r < 10 ^ 1000 → Sx s H H' → Store K H' s → Q (.int r) H'
def spStore (K : PySem.W.Frag) : Sp := fun vs H Q _ => ∃ (a : Addr) (ns : List Int), vs = [.ref a] ∧ SqL K H a (ns.map V.int) ∧ ns.length ≤ 63 ∧
  ∀ (s : Addr) (H' : Hp), H s = none → Same H H' → Store K H' s → Q (.ref s) H'
abbrev s_store : Stmt := topS 12
abbrev N_store : List Str := ["script"]
abbrev P_store : List Str := ["script"]
theorem sc_store : FnScope N_store P_store (defScope s_store) := ⟨rfl, rfl, rfl, by decide +kernel, rfl, by decide +kernel, by decide +kernel⟩

abbrev s_edge : Stmt := topS 14
abbrev N_edge : List Str := ["store", "many"]
abbrev P_edge : List Str := ["store", "many"]
theorem sc_edge : FnScope N_edge P_edge (defScope s_edge) := ⟨rfl, rfl, rfl, by decide +kernel, rfl, by decide +kernel, by decide +kernel⟩

abbrev s_between : Stmt := topS 15
abbrev N_between : List Str := ["store", "low", "high"]
abbrev P_between : List Str := ["store", "low", "high"]
theorem sc_between : FnScope N_between P_between (defScope s_between) := ⟨rfl, rfl, rfl, by decide +kernel, rfl, by decide +kernel, by decide +kernel⟩

abbrev s_tens : Stmt := topS 17
abbrev N_tens : List Str := ["figures"]
abbrev P_tens : List Str := ["figures"]
theorem sc_tens : FnScope N_tens P_tens (defScope s_tens) := ⟨rfl, rfl, rfl, by decide +kernel, rfl, by decide +kernel, by decide +kernel⟩

abbrev s_integer : Stmt := topS 18
abbrev N_integer : List Str := ["store", "figures", "size", "way", "got"]
abbrev P_integer : List Str := ["store", "figures"]
theorem sc_integer : FnScope N_integer P_integer (defScope s_integer) := ⟨rfl, rfl, rfl, by decide +kernel, rfl, by decide +kernel, by decide +kernel⟩

/-! ### "1" and zeros -/
theorem foldl_rep {α : Type} (xs : Array α) (n : Nat) : ((List.replicate n xs).foldl (· ++ ·) (#[] : Array α)).toList = (List.replicate n xs.toList).flatten := by
  have h : ∀ (n : Nat) (acc : Array α), ((List.replicate n xs).foldl (· ++ ·) acc).toList = acc.toList ++ (List.replicate n xs.toList).flatten := by
    intro n
    induction n with
    | zero => intro acc; simp
    | succ n ih =>
      intro acc
      rw [List.replicate_succ, List.foldl_cons, ih, Array.toList_append, List.replicate_succ, List.flatten_cons, List.append_assoc]
  rw [h n #[]]
  rfl
theorem mul_list (z : Str) (n : Nat) : (PySem.Txt.mul z n).cps.toList = (List.replicate n z.cps.toList).flatten := by
  unfold PySem.Txt.mul
  by_cases h : (n : Int) < 1
  · have e : n = 0 := by omega
    subst e
    rfl
  · rw [if_neg h]
    by_cases h2 : ((n : Int) == 1 || z.length == 0) = true
    · rw [if_pos h2]
      rcases Bool.or_eq_true_iff.mp h2 with h3 | h3
      · have e : n = 1 := by
          have := beq_iff_eq.mp h3
          omega
        subst e
        simp
      · have e : z.cps.toList = [] := by
          have h4 : z.cps.size = 0 := beq_iff_eq.mp h3
          exact List.eq_nil_of_length_eq_zero (by rw [Array.length_toList]; exact h4)
        rw [e]
        simp
    · rw [if_neg h2]
      rw [show ((n : Int)).toNat = n from rfl]
      exact foldl_rep z.cps n
theorem rep_one (c n : Nat) : (List.replicate n [c]).flatten = List.replicate n c := by
  induction n with
  | zero => rfl
  | succ n ih => rw [List.replicate_succ, List.flatten_cons, ih]; rfl
theorem str_app (x y : Str) : (x ++ y).cps.toList = x.cps.toList ++ y.cps.toList := Array.toList_append
theorem one_zeros (n : Nat) : (("1" : Str) ++ PySem.Txt.mul "0" n).cps.toList = 49 :: List.replicate n 48 := by
  rw [str_app, mul_list]
  have e1 : ("1" : Str).cps.toList = [49] := by decide +kernel
  have e0 : ("0" : Str).cps.toList = [48] := by decide +kernel
  rw [e1, e0, rep_one]
  rfl
theorem val_zeros (n a : Nat) : (List.replicate n 48).foldl (fun acc c => acc * 10 + (c - 48)) a = a * 10 ^ n := by
  induction n generalizing a with
  | zero => simp
  | succ n ih =>
    rw [List.replicate_succ, List.foldl_cons, ih, Nat.pow_succ]
    show (a * 10 + 0) * 10 ^ n = a * (10 ^ n * 10)
    rw [Nat.add_zero, Nat.mul_assoc, Nat.mul_comm 10]
theorem digs_zeros (n : Nat) : PySem.NumText.AllDigits (49 :: List.replicate n 48) := by
  intro c hc
  rcases List.mem_cons.mp hc with e | h
  · subst e
    decide
  · have e := (List.mem_replicate.mp h).2
    subst e
    decide
theorem str_len (x : Str) : x.length = x.cps.toList.length := by rw [Array.length_toList]; rfl
theorem tens_read (n : Nat) (h : n ≤ 1000) : PySem.intText? (("1" : Str) ++ PySem.Txt.mul "0" n) = some ((10 ^ n : Nat) : Int) := by
  have e := one_zeros n
  have l : (("1" : Str) ++ PySem.Txt.mul "0" n).length ≤ 4300 := by
    rw [str_len, e]
    simp
    omega
  rw [PySem.intText_digits (by rw [e]; exact digs_zeros n) (by rw [e]; exact List.cons_ne_nil _ _) l, e]
  have v : PySem.NumText.digitsVal (49 :: List.replicate n 48) = 10 ^ n := by
    show (List.replicate n 48).foldl (fun acc c => acc * 10 + (c - 48)) 1 = 10 ^ n
    rw [val_zeros, Nat.one_mul]
  rw [v]
theorem seen_digits (x : Str) (h : PySem.NumText.AllDigits x.cps.toList) : (PySem.numSeenOf x).length = x.length := by
  have ha : x.cps.all (· < 128) = true := by
    rw [← Array.all_toList, List.all_eq_true]
    intro c hc
    have := h c hc
    exact decide_eq_true (by omega)
  have e : PySem.numTextOf x = x.cps.toList := if_pos ha
  have t : ∀ l : List Nat, PySem.NumText.AllDigits l → l.takeWhile (· != 0) = l := by
    intro l
    induction l with
    | nil => intro _; rfl
    | cons c r ih =>
      intro hl
      have hc := hl.head
      rw [List.takeWhile_cons, if_pos (by simp; omega), ih hl.tail]
  show ((PySem.numTextOf x).takeWhile (· != 0)).length = x.length
  rw [e, t _ h, str_len]
theorem ten_le {n m : Nat} (h : n ≤ m) : (10 : Int) ^ n ≤ 10 ^ m := by
  have := Nat.pow_le_pow_right (show 0 < 10 by decide) h
  exact_mod_cast this
theorem ten_lt {n m : Nat} (h : n < m) : (10 : Int) ^ n < 10 ^ m := by
  have := Nat.pow_lt_pow_right (show 1 < 10 by decide) h
  exact_mod_cast this
theorem ten_pos (n : Nat) : (1 : Int) ≤ 10 ^ n := by
  have := Nat.pow_pos (n := n) (show 0 < 10 by decide)
  have h : (1 : Nat) ≤ 10 ^ n := this
  exact_mod_cast h
theorem ten_big : (10 : Int) ^ 1000 < BIG := by decide +kernel
section
variable {P : Program} {w : World} {K : PySem.W.Frag} {mg : Str → Option Value} {base : Heap}
theorem ok_takeB (T : Txt K mg) : FnOk P w K mg base CX0 171 T.dtake.f T.dtake.fd P_take (spTakeB K) :=
  fn_weak (ok_take (P := P) (w := w) (base := base) T 171) fun vs H Q E h => by
    obtain ⟨s, many, e, st, hm, k⟩ := h
    exact ⟨s, many, e, st, Int.le_of_lt (Int.lt_of_lt_of_le hm BN_big), hm, k⟩
theorem ok_store (T : Txt K mg) : FnOk P w K mg base CX0 1 T.dstore.f T.dstore.fd P_store (spStore K) := by
  refine T.dstore.F.ok sc_store (fun vs H Q E h => ?_) (fun cdv A outer s H vs Q E hr h => ?_)
  · obtain ⟨a, ns, rfl, _⟩ := h
    rfl
  · obtain ⟨a, ns, rfl, hq, hl, k⟩ := h
    refine ⟨_, (pss_one (ps_ret (pe_lst (pa_cons (pe_callTy c_list (by rfl) T.m_list bt_list (pa_cons (pv 0) pa_nil)) (pa_cons pe_int (pa_cons pe_int (pa_cons pe_int (pa_cons pe_int (pa_cons pe_int pa_nil))))))))), ?_⟩
    try dsimp only [cxOf, Cx.nox, Cx.wish]
    walk_at "go"
    refine ⟨a, _, rfl, .inl hq, fun L hL => ?_⟩
    walk_at "go"
    refine ⟨by show 6 ≤ sizeLine; decide, fun p hp => ?_⟩
    have nLp : L ≠ p := fun e => by
      rw [← e, upd_same] at hp
      cases hp
    have sL : Same H (upd H L (.lst (ns.map V.int))) := same_new hL
    refine k p _ (sL.free hp) (sL.trans (same_new hp)) ⟨L, ns, 0, 0, 0, 0, 0, ⟨upd_same, nLp, ?_, by decide, by decide, by decide, by decide, by decide, hl⟩⟩
    exact .inl (.inl (by rw [upd_ne nLp, upd_same]))
theorem ok_edge (T : Txt K mg) : FnOk P w K mg base CX0 172 T.dedge.f T.dedge.fd P_edge (spTakeB K) := by
  have G_take : FnOk P w K mg base CX0 171 T.dtake.f T.dtake.fd P_take (spTakeB K) := ok_takeB T
  refine T.dedge.F.ok sc_edge (fun vs H Q E h => ?_) (fun cdv A outer s_ H vs Q E hr h => ?_)
  · obtain ⟨s, many, rfl, _⟩ := h
    rfl
  · obtain ⟨s, many, rfl, st, hm, k⟩ := h
    refine ⟨_, (pss_cons (ps_if (pt_cmpR op_lt (pv 1) pe_int (nomark _))
        (pss_one (ps_ret pe_int))
        pss_nil)
      (pss_cons (ps_if (pt_cmpR op_eq (pe_call G_take (hr.mono (by omega)) rfl T.dtake.g T.dtake.F.kp T.dtake.b .nil pass0 (pa_cons (pv 0) (pa_cons pe_int pa_nil))) pe_int (nomark _))
        (pss_one (ps_ret (pe_op op_mulW (pe_op op_sub (pv 1) pe_int) (pe_call G_take (hr.mono (by omega)) rfl T.dtake.g T.dtake.F.kp T.dtake.b .nil pass0 (pa_cons (pv 0) (pa_cons pe_int pa_nil))))))
        pss_nil)
      (pss_one (ps_ret (pe_call G_take (hr.mono (by omega)) rfl T.dtake.g T.dtake.F.kp T.dtake.b .nil pass0 (pa_cons (pv 0) (pa_cons (pv 1) pa_nil))))))), ?_⟩
    try dsimp only [cxOf, Cx.nox, Cx.wish]
    walk_at "go"
    refine g_ite (fun h => ?_) (fun h => ?_)
    · walk_at "go"
      exact k 0 H (Int.le_refl _) (.inl rfl) (Sx.refl s H) st
    have h2 := of_decide_eq_false h
    walk_at "go"
    refine take_go st (big_of (by decide)) fun r H1 r0 r1 x1 st1 => ?_
    walk_at "go"
    refine g_ite (fun h3 => ?_) (fun h3 => ?_)
    · walk_at "go"
      refine take_go st1 (big_of (by decide)) fun r2 H2 r20 r21 x2 st2 => ?_
      have e : r2 = 0 ∨ r2 = 1 := by omega
      have c : CMulW (many - 1) r2 := by
        unfold CMulW
        have b : (many - 1).natAbs.log2 < 5000 := by
          have b1 : (many - 1).natAbs < 2 ^ 5000 := by
            unfold BIG at hm
            omega
          exact PySem.Flt.log2_lt_of (by decide) b1
        have b2 : r2.natAbs.log2 = 0 := by
          rcases e with e | e <;> subst e <;> decide
        omega
      refine g_I c ?_
      walk_at "go"
      refine k _ H2 ?_ ?_ (x1.trans x2) st2
      · rcases e with e | e <;> subst e <;> omega
      · rcases e with e | e <;> subst e <;> omega
    · walk_at "go"
      exact take_go st1 hm fun r2 H2 r20 r21 x2 st2 => k r2 H2 r20 r21 (x1.trans x2) st2
theorem ok_between (T : Txt K mg) : FnOk P w K mg base CX0 173 T.dbetween.f T.dbetween.fd P_between (spBetween K) := by
  have G_edge : FnOk P w K mg base CX0 172 T.dedge.f T.dedge.fd P_edge (spTakeB K) := ok_edge T
  refine T.dbetween.F.ok sc_between (fun vs H Q E h => ?_) (fun cdv A outer s_ H vs Q E hr h => ?_)
  · obtain ⟨s, low, high, rfl, _⟩ := h
    rfl
  · obtain ⟨s, low, high, rfl, st, h1, h2, k⟩ := h
    refine ⟨_, (pss_one (ps_ret (pe_op op_add (pv 1) (pe_call G_edge (hr.mono (by omega)) rfl T.dedge.g T.dedge.F.kp T.dedge.b .nil pass0 (pa_cons (pv 0) (pa_cons (pe_op op_add (pe_op op_sub (pv 2) (pv 1)) pe_int) pa_nil)))))), ?_⟩
    try dsimp only [cxOf, Cx.nox, Cx.wish]
    walk_at "go"
    refine take_go st (big_of (by omega)) fun r H1 r0 r1 x1 st1 => ?_
    walk_at "go"
    exact k _ H1 (by omega) (by omega) x1 st1
theorem ok_tens (T : Txt K mg) : FnOk P w K mg base CX0 1 T.dtens.f T.dtens.fd P_tens spTens := by
  refine T.dtens.F.ok sc_tens (fun vs H Q E h => ?_) (fun cdv A outer s_ H vs Q E hr h => ?_)
  · obtain ⟨n, rfl, _⟩ := h
    rfl
  · obtain ⟨n, rfl, h1, k⟩ := h
    refine ⟨_, (pss_one (ps_ret (pe_callTy c_intS (by rfl) T.m_int bt_int (pa_cons (pe_op o_addS pe_str (pe_op o_mulS pe_str (pv 0))) pa_nil)))), ?_⟩
    try dsimp only [cxOf, Cx.nox, Cx.wish]
    walk_at "go"
    refine ⟨_, _, rfl, rfl, by omega, by omega, by decide, ?_⟩
    have e := one_zeros n
    have l : (("1" : Str) ++ PySem.Txt.mul "0" n).length = n + 1 := by
      rw [str_len, e]
      simp
    have l2 : ("1" : Str).length + (PySem.Txt.mul "0" n).length = n + 1 := by
      rw [← l, str_len, str_len, str_len, str_app, List.length_append]
    refine g_addS (by rw [l2, sizeLine_eq]; omega) ?_
    walk_at "go"
    refine ⟨_, _, rfl, tens_read n h1, by rw [l, sizeLine_eq]; omega, seen_digits _ (by rw [e]; exact digs_zeros n), T.dig, ?_⟩
    have v : (((10 ^ n : Nat)) : Int) = (10 : Int) ^ n := by exact_mod_cast rfl
    rw [v]
    exact k
theorem ok_integer (T : Txt K mg) : FnOk P w K mg base CX0 174 T.dinteger.f T.dinteger.fd P_integer (spInteger K) := by
  have G_take : FnOk P w K mg base CX0 171 T.dtake.f T.dtake.fd P_take (spTakeB K) := ok_takeB T
  have G_edge : FnOk P w K mg base CX0 172 T.dedge.f T.dedge.fd P_edge (spTakeB K) := ok_edge T
  have G_between : FnOk P w K mg base CX0 173 T.dbetween.f T.dbetween.fd P_between (spBetween K) := ok_between T
  have G_tens : FnOk P w K mg base CX0 1 T.dtens.f T.dtens.fd P_tens spTens := ok_tens T
  refine T.dinteger.F.ok sc_integer (fun vs H Q E h => ?_) (fun cdv A outer s_ H vs Q E hr h => ?_)
  · obtain ⟨s, figures, rfl, _⟩ := h
    rfl
  · obtain ⟨s, figures, rfl, st, f0, f1, k⟩ := h
    refine ⟨_, (pss_cons (ps_if (pt_cmpR op_eq (pe_call G_take (hr.mono (by omega)) rfl T.dtake.g T.dtake.F.kp T.dtake.b .nil pass0 (pa_cons (pv 0) (pa_cons pe_int pa_nil))) pe_int (nomark _))
        (pss_one (ps_ret (pe_call G_between (hr.mono (by omega)) rfl T.dbetween.g T.dbetween.F.kp T.dbetween.b .nil pass0 (pa_cons (pv 0) (pa_cons (pe_un un_neg pe_int) (pa_cons pe_int pa_nil))))))
        pss_nil)
      (pss_cons (ps_set (i := 2) sc_integer.nd rfl (by first | exact .inl rfl | exact .inr rfl) (pe_op op_add pe_int (pe_call G_edge (hr.mono (by omega)) rfl T.dedge.g T.dedge.F.kp T.dedge.b .nil pass0 (pa_cons (pv 0) (pa_cons (pv 1) pa_nil)))))
      (pss_cons (ps_set (i := 3) sc_integer.nd rfl (by first | exact .inl rfl | exact .inr rfl) (pe_call G_take (hr.mono (by omega)) rfl T.dtake.g T.dtake.F.kp T.dtake.b .nil pass0 (pa_cons (pv 0) (pa_cons pe_int pa_nil))))
      (Evl.pss_cut (ps_if (pt_cmpR op_eq (pv 3) pe_int (nomark _))
        (pss_one (ps_set (i := 4) sc_integer.nd rfl (by first | exact .inl rfl | exact .inr rfl) (pe_op op_sub (pe_call G_tens (hr.mono (by omega)) rfl T.dtens.g T.dtens.F.kp T.dtens.b .nil pass0 (pa_cons (pv 2) pa_nil)) pe_int)))
        (pss_one (ps_if (pt_cmpR op_eq (pv 3) pe_int (nomark _))
          (pss_one (ps_set (i := 4) sc_integer.nd rfl (by first | exact .inl rfl | exact .inr rfl) (pe_call G_tens (hr.mono (by omega)) rfl T.dtens.g T.dtens.F.kp T.dtens.b .nil pass0 (pa_cons (pe_op op_sub (pv 2) pe_int) pa_nil))))
          (pss_one (ps_set (i := 4) sc_integer.nd rfl (by first | exact .inl rfl | exact .inr rfl) (pe_call G_take (hr.mono (by omega)) rfl T.dtake.g T.dtake.F.kp T.dtake.b .nil pass0 (pa_cons (pv 0) (pa_cons (pe_call G_tens (hr.mono (by omega)) rfl T.dtens.g T.dtens.F.kp T.dtens.b .nil pass0 (pa_cons (pv 2) pa_nil)) pa_nil))))))))
      (pss_cons (ps_if (pt_cmpR op_eq (pe_call G_take (hr.mono (by omega)) rfl T.dtake.g T.dtake.F.kp T.dtake.b .nil pass0 (pa_cons (pv 0) (pa_cons pe_int pa_nil))) pe_int (nomark _))
        (pss_one (ps_ret (pe_un un_neg (pv 4))))
        pss_nil)
      (pss_one (ps_ret (pv 4)))))))), ?_⟩
    try dsimp only [cxOf, Cx.nox, Cx.wish]
    walk_at "go"
    refine take_go st (big_of (by decide)) fun r H1 r0 r1 x1 st1 => ?_
    walk_at "go"
    refine g_ite (fun h3 => ?_) (fun h3 => ?_)
    · walk_at "go"
      refine ⟨s, _, _, rfl, st1, by decide, by decide, fun r2 H2 a b x2 st2 => ?_⟩
      exact k r2 H2 (Int.lt_of_lt_of_le (by decide +kernel) a) (Int.lt_of_le_of_lt b (by decide +kernel)) (x1.trans x2) st2
    walk_at "go"
    refine take_go st1 (big_of (by omega)) fun z H2 z0 z1 x2 st2 => ?_
    walk_at "go"
    refine take_go st2 (big_of (by decide)) fun way H3 w0 w1 x3 st3 => ?_
    obtain ⟨n, en⟩ : ∃ n : Nat, 1 + z = (n : Int) := ⟨(1 + z).toNat, by omega⟩
    have hn1 : 1 ≤ n := by omega
    have hn : n ≤ 1000 := by omega
    have p1 := ten_le hn
    have p0 := ten_pos n
    have x03 := (x1.trans x2).trans x3
    walk_at "go"
    refine g_cut (Mid := fun σ' H' => ∃ g : Int, σ' = [some (.ref s), some (.int figures), some (.int (n : Int)), some (.int way), some (.int g)] ∧ -(10 ^ 1000) < g ∧ g < 10 ^ 1000 ∧ Sx s H H' ∧ Store K H' s) ?_ ?_
    · walk_at "go"
      refine g_ite (fun h4 => ?_) (fun h4 => ?_)
      · walk_at "go"
        refine ⟨n, by rw [← en]; rfl, hn, ?_⟩
        walk_at "go"
        refine ⟨10 ^ n - 1, by rw [← en]; rfl, ?_, ?_, x03, st3⟩
        · generalize (10 : Int) ^ n = u at *
          generalize (10 : Int) ^ 1000 = v at *
          omega
        · generalize (10 : Int) ^ n = u at *
          generalize (10 : Int) ^ 1000 = v at *
          omega
      walk_at "go"
      refine g_ite (fun h5 => ?_) (fun h5 => ?_)
      · walk_at "go"
        have en1 : (1 + z) - 1 = ((n - 1 : Nat) : Int) := by omega
        refine ⟨n - 1, by rw [← en1]; rfl, by omega, ?_⟩
        have p2 := ten_lt (show n - 1 < 1000 by omega)
        have p3 := ten_pos (n - 1)
        walk_at "go"
        refine ⟨10 ^ (n - 1), by rw [← en]; rfl, ?_, ?_, x03, st3⟩
        · generalize (10 : Int) ^ (n - 1) = u at *
          generalize (10 : Int) ^ 1000 = v at *
          omega
        · generalize (10 : Int) ^ (n - 1) = u at *
          generalize (10 : Int) ^ 1000 = v at *
          omega
      · walk_at "go"
        refine ⟨n, by rw [← en]; rfl, hn, ?_⟩
        walk_at "go"
        refine take_go st3 (Int.lt_of_le_of_lt p1 ten_big) fun q H4 q0 q1 x4 st4 => ?_
        refine ⟨q, by rw [← en]; rfl, ?_, ?_, x03.trans x4, st4⟩
        · generalize (10 : Int) ^ n = u at *
          generalize (10 : Int) ^ 1000 = v at *
          omega
        · generalize (10 : Int) ^ n = u at *
          generalize (10 : Int) ^ 1000 = v at *
          omega
    · rintro σ' H' ⟨g, rfl, g0, g1, x4, st4⟩
      walk_at "go"
      refine take_go st4 (big_of (by decide)) fun r H5 r0 r1 x5 st5 => ?_
      walk_at "go"
      refine g_ite (fun h6 => ?_) (fun h6 => ?_)
      · walk_at "go"
        refine k _ H5 ?_ ?_ (x4.trans x5) st5
        · generalize (10 : Int) ^ 1000 = v at *
          omega
        · generalize (10 : Int) ^ 1000 = v at *
          omega
      · walk_at "go"
        exact k _ H5 g0 g1 (x4.trans x5) st5
end
end My
namespace My
open PySem PySem.Spec PyProof.Rows L2
/-! ### data -/
inductive D where
  | non | bl (b : Bool) | int (i : Int) | str (x : Str) | dct | tup (l : List D) | lst (l : List D)
mutual
/-- at v stands the data d, apart from s -/
def Da (s : Addr) (H : Hp) : D → V → Prop
  | .non, v => v = .non
  | .bl b, v => v = .bl b
  | .int i, v => v = .int i
  | .str x, v => v = .str x
  | .dct, v => ∃ a, v = .ref a ∧ a ≠ s ∧ H a = some (.dK [])
  | .tup l, v => ∃ a xs, v = .ref a ∧ a ≠ s ∧ H a = some (.tup xs) ∧ DaL s H l xs
  | .lst l, v => ∃ a xs, v = .ref a ∧ a ≠ s ∧ H a = some (.lst xs) ∧ DaL s H l xs
def DaL (s : Addr) (H : Hp) : List D → List V → Prop
  | [], xs => xs = []
  | d :: l, xs => ∃ x r, xs = x :: r ∧ Da s H d x ∧ DaL s H l r
end
mutual
theorem Da.mono {s : Addr} {H H' : Hp} (x : Sx s H H') : ∀ (d : D) (v : V), Da s H d v → Da s H' d v
  | .non, _, h => h
  | .bl _, _, h => h
  | .int _, _, h => h
  | .str _, _, h => h
  | .dct, _, ⟨a, e, n, h⟩ => ⟨a, e, n, x.kp a _ n h⟩
  | .tup l, _, ⟨a, xs, e, n, h, q⟩ => ⟨a, xs, e, n, x.kp a _ n h, DaL.mono x l xs q⟩
  | .lst l, _, ⟨a, xs, e, n, h, q⟩ => ⟨a, xs, e, n, x.kp a _ n h, DaL.mono x l xs q⟩
theorem DaL.mono {s : Addr} {H H' : Hp} (x : Sx s H H') : ∀ (l : List D) (xs : List V), DaL s H l xs → DaL s H' l xs
  | [], _, h => h
  | d :: l, _, ⟨v, r, e, h, q⟩ => ⟨v, r, e, Da.mono x d v h, DaL.mono x l r q⟩
end
theorem DaL.len {s : Addr} {H : Hp} : ∀ {l : List D} {xs : List V}, DaL s H l xs → xs.length = l.length
  | [], _, h => by
    have e : _ = _ := h
    rw [e]
    rfl
  | d :: l, _, ⟨v, r, e, h, q⟩ => by
    rw [e, List.length_cons, List.length_cons, q.len]
theorem DaL.get {s : Addr} {H : Hp} : ∀ {l : List D} {xs : List V} {i : Nat} {d : D}, DaL s H l xs → l[i]? = some d → ∃ v, xs[i]? = some v ∧ Da s H d v
  | [], _, _, _, _, e => by simp at e
  | c :: l, _, 0, d, ⟨v, r, e1, h, q⟩, e => by
    have e2 : c = d := by simpa using e
    subst e2
    exact ⟨v, by rw [e1]; rfl, h⟩
  | c :: l, _, i + 1, d, ⟨v, r, e1, h, q⟩, e => by
    obtain ⟨z, h1, h2⟩ := q.get (i := i) (d := d) (by simpa using e)
    exact ⟨z, by rw [e1]; simpa using h1, h2⟩
theorem DaL.back {s : Addr} {H : Hp} : ∀ {l : List D} {xs : List V} {i : Nat} {v : V}, DaL s H l xs → xs[i]? = some v → ∃ d, l[i]? = some d ∧ Da s H d v := fun {l xs i v} q e => by
  have hi : i < xs.length := (List.getElem?_eq_some_iff.mp e).1
  rw [q.len] at hi
  obtain ⟨w, h1, h2⟩ := q.get (List.getElem?_eq_getElem hi)
  have e2 : v = w := Option.some.inj (e.symm.trans h1)
  subst e2
  exact ⟨_, List.getElem?_eq_getElem hi, h2⟩
theorem DaL.app {s : Addr} {H : Hp} : ∀ {l m : List D} {xs ys : List V}, DaL s H l xs → DaL s H m ys → DaL s H (l ++ m) (xs ++ ys)
  | [], _, _, _, h, q => by
    have e : _ = _ := h
    rw [e]
    exact q
  | d :: l, m, _, ys, ⟨v, r, e, h, z⟩, q => ⟨v, r ++ ys, by rw [e]; rfl, h, z.app q⟩
/-- no dict, at most so deep -/
def Ok : Nat → D → Prop
  | _, .non => True
  | _, .bl _ => True
  | _, .int _ => True
  | _, .str _ => True
  | _, .dct => False
  | 0, .tup _ => False
  | 0, .lst _ => False
  | n + 1, .tup l => l.length ≤ 1000000 ∧ ∀ d ∈ l, Ok n d
  | n + 1, .lst l => l.length ≤ 1000000 ∧ ∀ d ∈ l, Ok n d
/-! ### isinstance -/
def tyN : D → String
  | .non => "NoneType"
  | .bl _ => "bool"
  | .int _ => "int"
  | .str _ => "str"
  | .dct => "dict"
  | .tup _ => "tuple"
  | .lst _ => "list"
theorem Da.ty {K : PySem.W.Frag} {s : Addr} {H : Hp} : ∀ {d : D} {v : V}, Da s H d v → TyX K H v (.type (tyN d))
  | .non, _, h => by
    have e : _ = _ := h
    subst e
    exact .base .non
  | .bl b, _, h => by
    have e : _ = _ := h
    subst e
    exact .base (.bl b)
  | .int b, _, h => by
    have e : _ = _ := h
    subst e
    exact .base (.int b)
  | .str b, _, h => by
    have e : _ = _ := h
    subst e
    exact .base (.str b)
  | .dct, _, ⟨a, e, n, h⟩ => by
    subst e
    exact .base (.dK h)
  | .tup l, _, ⟨a, xs, e, n, h, q⟩ => by
    subst e
    exact .base (.tup h)
  | .lst l, _, ⟨a, xs, e, n, h, q⟩ => by
    subst e
    exact .base (.lst h)
theorem isi_go {K : PySem.W.Frag} {s : Addr} {H : Hp} {d : D} {v : V} {T : String} {b : Bool} {Q : VK} (h : Da s H d v) (hb : kitB (tyN d) T = some b) (q : Q (.bl b) H) : rIsi K [v, .ty T] H Q :=
  ⟨v, .ty T, _, _, b, rfl, .ty T, h.ty, kit_ty hb, q⟩
theorem isi2_go {K : PySem.W.Frag} {s tp : Addr} {H : Hp} {d : D} {v : V} {b c : Bool} {T U : String} {Q : VK} (h : Da s H d v) (ht : H tp = some (.tup [.ty T, .ty U])) (hb : kitB (tyN d) T = some b) (hc : kitB (tyN d) U = some c)
    (q : Q (.bl (b || c)) H) : rIsiT K [v, .ref tp] H Q := by
  refine ⟨v, tp, _, _, _, b || c, rfl, ht, .cons (.ty T) (.cons (.ty U) .nil), h.ty, ?_, q⟩
  refine kitAny_cons (kit_ty hb) (fun e => ?_) (fun e => by rw [e]; rfl)
  refine kitAny_cons (kit_ty hc) (fun e2 => ?_) (fun e2 => by rw [e2, Bool.or_true])
  rw [e, e2]
  exact kitAny_nil
theorem k_NoneType : kitB "NoneType" "int" = some false ∧ kitB "NoneType" "str" = some false ∧ kitB "NoneType" "bool" = some false ∧ kitB "NoneType" "list" = some false ∧ kitB "NoneType" "tuple" = some false ∧ kitB "NoneType" "dict" = some false := by decide +kernel
theorem k_bool : kitB "bool" "int" = some true ∧ kitB "bool" "str" = some false ∧ kitB "bool" "bool" = some true ∧ kitB "bool" "list" = some false ∧ kitB "bool" "tuple" = some false ∧ kitB "bool" "dict" = some false := by decide +kernel
theorem k_int : kitB "int" "int" = some true ∧ kitB "int" "str" = some false ∧ kitB "int" "bool" = some false ∧ kitB "int" "list" = some false ∧ kitB "int" "tuple" = some false ∧ kitB "int" "dict" = some false := by decide +kernel
theorem k_str : kitB "str" "int" = some false ∧ kitB "str" "str" = some true ∧ kitB "str" "bool" = some false ∧ kitB "str" "list" = some false ∧ kitB "str" "tuple" = some false ∧ kitB "str" "dict" = some false := by decide +kernel
theorem k_dict : kitB "dict" "int" = some false ∧ kitB "dict" "str" = some false ∧ kitB "dict" "bool" = some false ∧ kitB "dict" "list" = some false ∧ kitB "dict" "tuple" = some false ∧ kitB "dict" "dict" = some true := by decide +kernel
theorem k_tuple : kitB "tuple" "int" = some false ∧ kitB "tuple" "str" = some false ∧ kitB "tuple" "bool" = some false ∧ kitB "tuple" "list" = some false ∧ kitB "tuple" "tuple" = some true ∧ kitB "tuple" "dict" = some false := by decide +kernel
theorem k_list : kitB "list" "int" = some false ∧ kitB "list" "str" = some false ∧ kitB "list" "bool" = some false ∧ kitB "list" "list" = some true ∧ kitB "list" "tuple" = some false ∧ kitB "list" "dict" = some false := by decide +kernel
def isIn (d : D) (T : String) : Bool := match d with
  | .non => false
  | .bl _ => T == "bool" || T == "int"
  | .int _ => T == "int"
  | .str _ => T == "str"
  | .dct => T == "dict"
  | .tup _ => T == "tuple"
  | .lst _ => T == "list"
theorem k_int_ : ∀ d : D, kitB (tyN d) "int" = some (isIn d "int")
  | .non => k_NoneType.1
  | .bl _ => k_bool.1
  | .int _ => k_int.1
  | .str _ => k_str.1
  | .dct => k_dict.1
  | .tup _ => k_tuple.1
  | .lst _ => k_list.1
theorem k_str_ : ∀ d : D, kitB (tyN d) "str" = some (isIn d "str")
  | .non => k_NoneType.2.1
  | .bl _ => k_bool.2.1
  | .int _ => k_int.2.1
  | .str _ => k_str.2.1
  | .dct => k_dict.2.1
  | .tup _ => k_tuple.2.1
  | .lst _ => k_list.2.1
theorem k_bool_ : ∀ d : D, kitB (tyN d) "bool" = some (isIn d "bool")
  | .non => k_NoneType.2.2.1
  | .bl _ => k_bool.2.2.1
  | .int _ => k_int.2.2.1
  | .str _ => k_str.2.2.1
  | .dct => k_dict.2.2.1
  | .tup _ => k_tuple.2.2.1
  | .lst _ => k_list.2.2.1
theorem k_list_ : ∀ d : D, kitB (tyN d) "list" = some (isIn d "list")
  | .non => k_NoneType.2.2.2.1
  | .bl _ => k_bool.2.2.2.1
  | .int _ => k_int.2.2.2.1
  | .str _ => k_str.2.2.2.1
  | .dct => k_dict.2.2.2.1
  | .tup _ => k_tuple.2.2.2.1
  | .lst _ => k_list.2.2.2.1
theorem k_tuple_ : ∀ d : D, kitB (tyN d) "tuple" = some (isIn d "tuple")
  | .non => k_NoneType.2.2.2.2.1
  | .bl _ => k_bool.2.2.2.2.1
  | .int _ => k_int.2.2.2.2.1
  | .str _ => k_str.2.2.2.2.1
  | .dct => k_dict.2.2.2.2.1
  | .tup _ => k_tuple.2.2.2.2.1
  | .lst _ => k_list.2.2.2.2.1
theorem k_dict_ : ∀ d : D, kitB (tyN d) "dict" = some (isIn d "dict")
  | .non => k_NoneType.2.2.2.2.2
  | .bl _ => k_bool.2.2.2.2.2
  | .int _ => k_int.2.2.2.2.2
  | .str _ => k_str.2.2.2.2.2
  | .dct => k_dict.2.2.2.2.2
  | .tup _ => k_tuple.2.2.2.2.2
  | .lst _ => k_list.2.2.2.2.2
theorem _root_.L2.Same.sqt {K : PySem.W.Frag} {H H' : Hp} {a : Addr} {xs : List V} (x : Same H H') (h : SqT K H a xs) : SqT K H' a xs := by
  rcases h with (h | ⟨o, h⟩) | h
  · exact .inl (.inl (x _ _ h))
  · exact .inl (.inr ⟨o, x _ _ h⟩)
  · exact .inr h
theorem at_i {α : Type} {xs : List α} {i : Nat} {v : α} (h : xs[i]? = some v) : atI xs (0 + (i : Int)) = some v := by
  rw [Int.zero_add]
  exact atI_nat h
local macro_rules | `(tactic| walk_at "arith") => `(tactic| first
  | (with_reducible show _ ≠ _; omega)
  | (unfold CMul; omega)
  | (unfold CPow; omega)
  | (unfold CPow; decide)
  | exact wide_div (b := 100) (by decide) (by decide) (by decide) (by decide))
local macro_rules | `(tactic| walk_at "go") => `(tactic| repeat (first
  | with_reducible refine g_seq ?_
  | with_reducible refine g_asg ?_
  | with_reducible refine g_name ?_
  | with_reducible refine g_sub ?_
  | with_reducible refine g_ret ?_
  | with_reducible refine g_drop ?_
  | ((with_reducible refine g_next ?_); dsimp only)
  | with_reducible refine g_if ?_
  | with_reducible refine g_var rfl ?_
  | with_reducible refine g_c ?_
  | with_reducible refine g_op ?_
  | with_reducible refine g_un ?_
  | with_reducible refine g_I0 ?_
  | with_reducible refine g_U ?_
  | with_reducible refine g_eq rfl ?_
  | with_reducible refine g_test ?_
  | with_reducible refine g_bl ?_
  | with_reducible refine iteF ?_
  | with_reducible refine iteT ?_
  | ((with_reducible apply g_iteT); (case e => rfl))
  | ((with_reducible apply g_iteF); (case e => rfl))
  | with_reducible refine g_int1 ?_
  | with_reducible refine g_max2 ?_
  | with_reducible refine g_min2 ?_
  | with_reducible refine g_isN ?_
  | with_reducible refine g_notN ?_
  | ((with_reducible apply g_lenL); (case hs => assumption))
  | ((with_reducible apply g_ixL); (case hs => exact SqL.of (by assumption)); (case ha => rfl))
  | with_reducible refine g_pow9 ?_
  | with_reducible refine g_pow18 ?_
  | ((with_reducible apply g_I); (case c => walk_at "arith"))
  | ((with_reducible apply g_st); (case hs => assumption); (case hL => assumption); (case ne => assumption); (case x0 => assumption); (case hj => rfl); (case j0 => decide); intro _ _ _ _)
  | with_reducible refine g_and ?_
  | with_reducible refine g_or ?_
  | with_reducible refine g_not ?_
  | with_reducible refine g_nil ?_
  | with_reducible refine g_cons ?_
  | with_reducible refine g_callB ?_
  | with_reducible refine g_call ?_
  | with_reducible refine g_tup ?_
  | with_reducible refine g_lst ?_
  | with_reducible refine g_andV ?_
  | with_reducible refine g_orV ?_
  | with_reducible refine g_notV ?_
  | with_reducible refine g_tB ?_
  | with_reducible refine g_ne rfl ?_
  | with_reducible refine g_abs ?_
  | with_reducible refine g_isB ?_
  | with_reducible refine g_for ?_
  | with_reducible refine g_rng1 ?_
  | with_reducible refine g_rng2 ?_
  | with_reducible refine g_iList ?_
  | ((with_reducible refine g_break ?_); dsimp only)
  | ((with_reducible refine g_cont ?_); dsimp only)
  | with_reducible refine g_retN ?_
  | ((with_reducible apply isi_go (T := "int")); (case h => assumption); (case hb => exact k_int_ _))
  | ((with_reducible apply isi_go (T := "str")); (case h => assumption); (case hb => exact k_str_ _))
  | ((with_reducible apply isi_go (T := "bool")); (case h => assumption); (case hb => exact k_bool_ _))
  | ((with_reducible apply isi_go (T := "list")); (case h => assumption); (case hb => exact k_list_ _))
  | ((with_reducible apply isi_go (T := "tuple")); (case h => assumption); (case hb => exact k_tuple_ _))
  | ((with_reducible apply isi_go (T := "dict")); (case h => assumption); (case hb => exact k_dict_ _))
  | with_reducible refine g_intb ?_))

/-! ### the same data -/
def spSame : Nat → Sp
  | 0 => fun _ _ _ _ => False
  | n + 1 => fun vs H Q _ => ∃ (s : Addr) (d : D) (v w : V), vs = [v, w] ∧ Da s H d v ∧ Da s H d w ∧ Ok n d ∧ ∀ H', Same H H' → Q (.bl true) H'
abbrev s_same : Stmt := topS 23
abbrev N_same : List Str := ["got", "due", "key", "k"]
abbrev P_same : List Str := ["got", "due"]
theorem sc_same : FnScope N_same P_same (defScope s_same) := ⟨rfl, rfl, rfl, by decide +kernel, rfl, by decide +kernel, by decide +kernel⟩

section
variable {P : Program} {w : World} {K : PySem.W.Frag} {mg : Str → Option Value} {base : Heap}
theorem ok_same (T : Txt K mg) (n : Nat) : FnOk P w K mg base CX0 n T.dsame.f T.dsame.fd P_same (spSame n) := by
  induction n with
  | zero => exact ⟨fun _ _ _ _ h => h.elim, fun _ _ _ _ _ _ _ _ _ _ _ _ _ h => h.elim⟩
  | succ n G_same =>
    refine T.dsame.F.ok sc_same (fun vs H Q E h => ?_) (fun cdv A outer s_ H vs Q E hr h => ?_)
    · obtain ⟨s, d, v, w, rfl, _⟩ := h
      rfl
    · obtain ⟨s, d, v, w, rfl, h1, h2, ok, k⟩ := h
      refine ⟨_, (pss_cons (ps_if (pt_cmpR o_isN (pv 1) pe_non (nomark _))
        (pss_one (ps_ret (pe_cmpR o_isN (pv 0) pe_non (nomark _))))
        pss_nil)
      (pss_cons (ps_if (pt_cmpR o_isB (pv 1) pe_bl (nomark _))
        (pss_one (ps_ret (pe_cmpR o_isB (pv 0) pe_bl (nomark _))))
        pss_nil)
      (pss_cons (ps_if (pt_cmpR o_isB (pv 1) pe_bl (nomark _))
        (pss_one (ps_ret (pe_cmpR o_isB (pv 0) pe_bl (nomark _))))
        pss_nil)
      (pss_cons (ps_if (pt_val (pe_callB call_isi (by rfl) T.m_isinstance bt_isinstance (pa_cons (pv 1) (pa_cons (pe_bltn (v := .ty "int") (by rfl) T.m_int bt_int rfl) pa_nil))))
        (pss_one (ps_ret (pe_and (pe_callB call_isi (by rfl) T.m_isinstance bt_isinstance (pa_cons (pv 0) (pa_cons (pe_bltn (v := .ty "int") (by rfl) T.m_int bt_int rfl) pa_nil))) (pe_and (pe_not (pe_callB call_isi (by rfl) T.m_isinstance bt_isinstance (pa_cons (pv 0) (pa_cons (pe_bltn (v := .ty "bool") (by rfl) T.m_bool bt_bool rfl) pa_nil)))) (pe_one (pe_cmpR op_eq (pv 0) (pv 1) (nomark _)))))))
        pss_nil)
      (pss_cons (ps_if (pt_val (pe_callB call_isi (by rfl) T.m_isinstance bt_isinstance (pa_cons (pv 1) (pa_cons (pe_bltn (v := .ty "str") (by rfl) T.m_str bt_str rfl) pa_nil))))
        (pss_one (ps_ret (pe_and (pe_callB call_isi (by rfl) T.m_isinstance bt_isinstance (pa_cons (pv 0) (pa_cons (pe_bltn (v := .ty "str") (by rfl) T.m_str bt_str rfl) pa_nil))) (pe_one (pe_cmpR op_eq (pv 0) (pv 1) (nomark _))))))
        pss_nil)
      (pss_cons (ps_if (pt_val (pe_callB call_isi (by rfl) T.m_isinstance bt_isinstance (pa_cons (pv 1) (pa_cons (pe_bltn (v := .ty "dict") (by rfl) T.m_dict bt_dict rfl) pa_nil))))
        pss_never
        pss_nil)
      (pss_cons (ps_if (PW.pt (pw_or (PW.pt (pw_and (pt_val (pe_callB call_isi (by rfl) T.m_isinstance bt_isinstance (pa_cons (pv 1) (pa_cons (pe_bltn (v := .ty "list") (by rfl) T.m_list bt_list rfl) pa_nil)))) (pw_and1 (pt_not (pt_val (pe_callB call_isi (by rfl) T.m_isinstance bt_isinstance (pa_cons (pv 0) (pa_cons (pe_bltn (v := .ty "list") (by rfl) T.m_list bt_list rfl) pa_nil)))))))) (pw_or1 (PW.pt (pw_and (pt_val (pe_callB call_isi (by rfl) T.m_isinstance bt_isinstance (pa_cons (pv 1) (pa_cons (pe_bltn (v := .ty "tuple") (by rfl) T.m_tuple bt_tuple rfl) pa_nil)))) (pw_and1 (pt_not (pt_val (pe_callB call_isi (by rfl) T.m_isinstance bt_isinstance (pa_cons (pv 0) (pa_cons (pe_bltn (v := .ty "tuple") (by rfl) T.m_tuple bt_tuple rfl) pa_nil)))))))))))
        (pss_one (ps_ret pe_bl))
        pss_nil)
      (pss_cons (ps_if (pt_not (pt_val (pe_callB call_isiT (by rfl) T.m_isinstance bt_isinstance (pa_cons (pv 1) (pa_cons (pe_tup (pa_cons (pe_bltn (v := .ty "list") (by rfl) T.m_list bt_list rfl) (pa_cons (pe_bltn (v := .ty "tuple") (by rfl) T.m_tuple bt_tuple rfl) pa_nil))) pa_nil)))))
        pss_never
        pss_nil)
      (pss_cons (ps_if (pt_cmpR op_ne (pe_callB c_len (by rfl) T.m_len bt_len (pa_cons (pv 0) pa_nil)) (pe_callB c_len (by rfl) T.m_len bt_len (pa_cons (pv 1) pa_nil)) (nomark _))
        (pss_one (ps_ret pe_bl))
        pss_nil)
      (pss_cons (ps_for PassesOwn.never rfl (pi_range1 rfl T.m_range (pa_cons (pe_callB c_len (by rfl) T.m_len bt_len (pa_cons (pv 1) pa_nil)) pa_nil)) (pg_name (i := 3) sc_same.nd rfl (by first | exact .inl rfl | exact .inr rfl))
        (pss_one (ps_if (pt_not (pt_val (pe_call G_same (hr.mono (by omega)) rfl T.dsame.g T.dsame.F.kp T.dsame.b .nil pass0 (pa_cons (pe_ix ix_seq (pv 0) (pv 3) (fun _ _ => rfl)) (pa_cons (pe_ix ix_seq (pv 1) (pv 3) (fun _ _ => rfl)) pa_nil)))))
          (pss_one (ps_ret pe_bl))
          pss_nil)))
      (pss_one (ps_ret pe_bl)))))))))))), ?_⟩
      try dsimp only [cxOf, Cx.nox, Cx.wish]
      cases d with
      | non =>
        have e1 : v = _ := h1
        have e2 : w = _ := h2
        subst e1 e2
        walk_at "go"
        exact k H (Same.refl H)
      | bl b =>
        have e1 : v = _ := h1
        have e2 : w = _ := h2
        subst e1 e2
        cases b <;> (walk_at "go"; exact k H (Same.refl H))
      | int i =>
        have e1 : v = _ := h1
        have e2 : w = _ := h2
        subst e1 e2
        walk_at "go"
        rw [decide_eq_true rfl]
        exact k H (Same.refl H)
      | str x =>
        have e1 : v = _ := h1
        have e2 : w = _ := h2
        subst e1 e2
        walk_at "go"
        rw [decide_eq_true rfl]
        exact k H (Same.refl H)
      | dct =>
        cases n <;> exact False.elim ok
      | tup l =>
        obtain ⟨m, rfl⟩ : ∃ m, n = m + 1 := by
          cases n with
          | zero => exact False.elim ok
          | succ m => exact ⟨m, rfl⟩
        have g1 := h1
        have g2 := h2
        obtain ⟨a, xs, rfl, na, ha, qa⟩ := h1
        obtain ⟨b, ys, rfl, nb, hb, qb⟩ := h2
        have la := qa.len
        have lb := qb.len
        walk_at "go"
        refine ⟨by show 2 ≤ sizeLine; decide, fun p hp => ?_⟩
        have x1 : Same H (upd H p (.tup [.ty "list", .ty "tuple"])) := same_new hp
        walk_at "go"
        refine isi2_go (Da.mono (Sx.of x1) _ _ g2) upd_same (k_list_ _) (k_tuple_ _) ?_
        have sa := SqT.of (K := K) (x1 a _ ha)
        have sb := SqT.of (K := K) (x1 b _ hb)
        have qa1 := DaL.mono (Sx.of x1) _ _ qa
        have qb1 := DaL.mono (Sx.of x1) _ _ qb
        generalize upd H p (.tup [.ty "list", .ty "tuple"]) = H1 at *
        walk_at "go"
        refine g_lenT sa ?_
        walk_at "go"
        refine g_lenT sb ?_
        walk_at "go"
        refine g_iteF (by rw [la, lb, decide_eq_true rfl]; rfl) ?_
        walk_at "go"
        refine g_lenT sb ?_
        walk_at "go"
        rw [lb]
        refine ⟨_, rfl, by omega, by have := ok.1; omega, ?_⟩
        refine for_range (n := l.length) (fun i σ' H' => ∃ z, σ' = [some (.ref a), some (.ref b), none, z] ∧ Same H1 H') ⟨none, rfl, Same.refl H1⟩ ?_ ?_
        · rintro i σ' H' hi ⟨z, rfl, x2⟩
          obtain ⟨u1, e1, c1⟩ := qa1.get (List.getElem?_eq_getElem hi)
          obtain ⟨u2, e2, c2⟩ := qb1.get (List.getElem?_eq_getElem hi)
          walk_at "go"
          refine g_or3 (.inr (x2.sqt sa)) (at_i e1) ?_
          walk_at "go"
          refine g_or3 (.inr (x2.sqt sb)) (at_i e2) ?_
          walk_at "go"
          refine ⟨s, _, u1, u2, rfl, Da.mono (Sx.of x2) _ _ c1, Da.mono (Sx.of x2) _ _ c2, ok.2 _ (List.getElem_mem hi), fun H3 x3 => ?_⟩
          walk_at "go"
          exact ⟨_, rfl, x2.trans x3⟩
        · rintro σ' H' ⟨z, rfl, x2⟩
          walk_at "go"
          exact k H' (x1.trans x2)
      | lst l =>
        obtain ⟨m, rfl⟩ : ∃ m, n = m + 1 := by
          cases n with
          | zero => exact False.elim ok
          | succ m => exact ⟨m, rfl⟩
        have g1 := h1
        have g2 := h2
        obtain ⟨a, xs, rfl, na, ha, qa⟩ := h1
        obtain ⟨b, ys, rfl, nb, hb, qb⟩ := h2
        have la := qa.len
        have lb := qb.len
        walk_at "go"
        refine ⟨by show 2 ≤ sizeLine; decide, fun p hp => ?_⟩
        have x1 : Same H (upd H p (.tup [.ty "list", .ty "tuple"])) := same_new hp
        walk_at "go"
        refine isi2_go (Da.mono (Sx.of x1) _ _ g2) upd_same (k_list_ _) (k_tuple_ _) ?_
        have sa := SqL.of (K := K) (x1 a _ ha)
        have sb := SqL.of (K := K) (x1 b _ hb)
        have qa1 := DaL.mono (Sx.of x1) _ _ qa
        have qb1 := DaL.mono (Sx.of x1) _ _ qb
        generalize upd H p (.tup [.ty "list", .ty "tuple"]) = H1 at *
        walk_at "go"
        refine g_iteF (by rw [la, lb, decide_eq_true rfl]; rfl) ?_
        walk_at "go"
        rw [lb]
        refine ⟨_, rfl, by omega, by have := ok.1; omega, ?_⟩
        refine for_range (n := l.length) (fun i σ' H' => ∃ z, σ' = [some (.ref a), some (.ref b), none, z] ∧ Same H1 H') ⟨none, rfl, Same.refl H1⟩ ?_ ?_
        · rintro i σ' H' hi ⟨z, rfl, x2⟩
          obtain ⟨u1, e1, c1⟩ := qa1.get (List.getElem?_eq_getElem hi)
          obtain ⟨u2, e2, c2⟩ := qb1.get (List.getElem?_eq_getElem hi)
          walk_at "go"
          refine g_or3 (.inl (x2.seq sa)) (at_i e1) ?_
          walk_at "go"
          refine g_or3 (.inl (x2.seq sb)) (at_i e2) ?_
          walk_at "go"
          refine ⟨s, _, u1, u2, rfl, Da.mono (Sx.of x2) _ _ c1, Da.mono (Sx.of x2) _ _ c2, ok.2 _ (List.getElem_mem hi), fun H3 x3 => ?_⟩
          walk_at "go"
          exact ⟨_, rfl, x2.trans x3⟩
        · rintro σ' H' ⟨z, rfl, x2⟩
          walk_at "go"
          exact k H' (x1.trans x2)
end
end My
namespace My
open PySem PySem.Spec PyProof.Rows L2 RT
/-! ### list(reversed(x)), x a list -/
section
variable {prog : Program} {w : World} {A : Around} {E : Value → Shared → Prop} {s : Shared}
theorem ext_rev {R : Result → Shared → Prop} {it l S : Addr} {items : Array Value} {res : Value} {c0 : Nat} (hh : A.handled = none) (hit : s.heap.IsRevIter it l ((items.size : Int) - 1)) (hl : s.heap.IsList l items) (nli : l ≠ it) (nSi : S ≠ it) (nSl : S ≠ l)
    (hn : items.size ≤ sizeLine) (hS : s.heap.get? S = some { cls := .type "list", data := .seq #[] c0 })
    (hR : ∀ h' tk acc c', (∀ b o, b ≠ S → b ≠ it → s.heap.get? b = some o → h'.get? b = some o) → h'.get? S = some { cls := .type "list", dict := none, data := .seq acc c', slots := #[] } →
      ItemsOf (fun i v => items[items.size - 1 - i]? = some v) acc items.size → R (.ok (.ret res)) { s with heap := h', toks := tk }) :
    wpAny (model prog w) A.in1 (Builtin.List.listExtendWith (.ref S) (.ref it) res)
      (fun fin s' => match fin with | .done f => R (.ok f) s' | .again c' => c'.quiet = true ∧ codeAny (model prog w) A c' R s') (fun e s' => R (.error e) s') s := by
  have Wk := (Walks.listRev (prog := prog) (w := w) (A := A.in1) hh it l nli items).toS
  have nf : S ∉ [it, l] := fun z => by
    rcases List.mem_cons.mp z with e | z
    · exact nSi e
    · exact nSl (List.mem_singleton.mp z)
  have tI : s.TypeIs (.ref it) "list_reverseiterator" := Heap.IsRevIter.typeIs (s := s) hit
  have no : Builtin.List.listSameRef (.ref S) (.ref it) = false := by simp [Builtin.List.listSameRef, nSi]
  unfold Builtin.List.listExtendWith
  refine wpAny_bind (wpAny_typeOf tI ?_)
  rw [if_neg (by rw [no]; decide)]
  refine wpAny_bind (wpAny_pyIter_revIter (s := s) hit (wpAny_bind (wpAny_holding ?_)))
  unfold Builtin.List.listLengthHint
  refine wpAny_bind (wpAny_specialOf tI nolen_lri ?_)
  show wpAny _ A.in1 (specialOf (.ref it) (Str.ofString "__length_hint__") >>= _) _ _ _
  refine wpAny_bind (wpAny_specialOf tI hint_lri ?_)
  generalize hid : ("list_reverseiterator.__length_hint__" : String) = idx
  wp_delta
  have sp : splitId idx = some ("list_reverseiterator", "__length_hint__") := by
    subst hid
    decide +kernel
  rw [sp]
  subst hid
  refine wpAny_bind (wpAny_isInstance (b := true) tI (by rw [isSubtype_type]; kernel_rfl) (wpAny_pure ?_))
  rw [if_neg (by decide)]
  have z0 : ((items.size : Nat) : Int) - 1 - ((0 : Nat) : Int) = (items.size : Int) - 1 := by omega
  refine wpAny_pure ⟨plainId_quiet F.plain_extend_loop _, ?_⟩
  refine codeAny_extend_loopS Wk hn _ nf _ items.size 0 _ _ _ rfl (Nat.zero_le _) ⟨Nat.zero_le _, by rw [z0]; exact hit, hl⟩ hS (ItemsOf.nil _) fun s' acc' c' hm hS' hacc => ?_
  rw [Moved.eq_with hm]
  refine hR s'.heap s'.toks acc' c' (fun b o nS nI e => hm.heap b o (fun z => ?_) e) hS' hacc
  rcases List.mem_cons.mp z with e | z
  · exact nS e
  · exact nI (List.mem_singleton.mp z)
theorem init_rev {R : Result → Shared → Prop} {it l S : Addr} {items : Array Value} (hh : A.handled = none) (hit : s.heap.IsRevIter it l ((items.size : Int) - 1)) (hl : s.heap.IsList l items) (nli : l ≠ it) (nSi : S ≠ it) (nSl : S ≠ l)
    (hn : items.size ≤ sizeLine) (hS : s.heap.get? S = some { cls := .type "list", data := .seq #[] })
    (hR : ∀ h' tk acc c', (∀ b o, b ≠ S → b ≠ it → s.heap.get? b = some o → h'.get? b = some o) → h'.get? S = some { cls := .type "list", dict := none, data := .seq acc c', slots := #[] } →
      ItemsOf (fun i v => items[items.size - 1 - i]? = some v) acc items.size → R (.ok (.ret .none)) { s with heap := h', toks := tk }) :
    wpAny (model prog w) A.in1 (Builtin.«list.__init__» ⟨[.ref S, .ref it], []⟩)
      (fun fin s' => match fin with | .done f => R (.ok f) s' | .again c' => c'.quiet = true ∧ codeAny (model prog w) A c' R s') (fun e s' => R (.error e) s') s := by
  show wpAny _ _ (do let old ← Builtin.List.listItems (.ref S); Builtin.List.listUpdate (.ref S) (fun _ => #[]); letGo old.toList.reverse
                     Builtin.List.listExtendWith (.ref S) (.ref it) .none) _ _ s
  unfold Builtin.List.listItems
  refine wpAny_bind (wpAny_bind (wpAny_seqItems hS rfl (wpAny_pure ?_)))
  show wpAny _ _ (updateSeq S (fun _ => #[]) >>= fun _ => (letGo (#[] : Array Value).toList.reverse >>= fun _ => Builtin.List.listExtendWith (.ref S) (.ref it) .none)) _ _ s
  refine wpAny_bind (wpAny_updateSeq hS rfl (wpAny_bind (wpAny_letGo ?_)))
  have S2 := Heap.get?_update_self (Obj.mapSeq (fun _ => (#[] : Array Value))) hS rfl
  have k : ∀ b o, b ≠ S → s.heap.get? b = some o → (s.heap.update S (Obj.mapSeq (fun _ => (#[] : Array Value)))).get? b = some o := fun b o n e => (Heap.get?_update_other _ _ (Ne.symm n)).trans e
  refine ext_rev hh (hit.at fun o e => k it o (Ne.symm nSi) e) (hl.at fun o e => k l o (Ne.symm nSl) e) nli nSi nSl hn S2 fun h' tk acc c' hk hs hacc => ?_
  exact hR h' tk acc c' (fun b o n1 n2 e => hk b o n1 n2 (k b o n1 e)) hs hacc
theorem call_list_rev {it l : Addr} {items : Array Value} {Q : Value → Shared → Prop} (hh : A.handled = none) (hit : s.heap.IsRevIter it l ((items.size : Int) - 1)) (hl : s.heap.IsList l items) (nli : l ≠ it) (hn : items.size ≤ sizeLine)
    (hQ : ∀ h' tk acc c', (∀ b o, b ≠ it → s.heap.get? b = some o → h'.get? b = some o) → h'.get? s.heap.objs.size = some { cls := .type "list", dict := none, data := .seq acc c', slots := #[] } →
      ItemsOf (fun i v => items[items.size - 1 - i]? = some v) acc items.size → Q (.ref s.heap.objs.size) { s with heap := h', toks := tk }) :
    wpAny (model prog w) A (call (.type "list") [.ref it]) Q E s := by
  refine callType_codes (Q₁ := fun obj t => obj = .ref s.heap.objs.size ∧ t = { s with heap := s.heap.push { cls := .type "list", data := .seq #[] } }) F.called_list (F.typeCall_list_1 _) F.entry_list_init (code_list_new _ ⟨rfl, rfl⟩) ?_
  rintro obj t ⟨rfl, rfl⟩
  have hS : (s.heap.push { cls := .type "list", data := .seq #[] }).get? s.heap.objs.size = some { cls := .type "list", data := .seq #[] } := Heap.get?_push_size _ rfl
  obtain ⟨o1, e1, _⟩ := id hit
  obtain ⟨o2, e2, _⟩ := id hl
  refine ⟨⟨_, hS, rfl⟩, F.args_list_init_2 _ _, ?_⟩
  refine init_rev (A := A.in1) hh (hit.at fun o e => Heap.get?_push_of_some _ e) (hl.push _) nli (Nat.ne_of_gt (Heap.lt_size e1)) (Nat.ne_of_gt (Heap.lt_size e2)) hn hS fun h' tk acc c' hk hs hacc => ?_
  exact ⟨rfl, hQ h' tk acc c' (fun b o n e => hk b o (Nat.ne_of_lt (Heap.lt_size e)) n (Heap.get?_push_of_some _ e)) hs hacc⟩
end
def tLstRev (K : PySem.W.Frag) (te : TE) : TE := fun σ H Q => te σ H fun v H1 => ∃ (a : Addr) (xs : List V), v = .ref a ∧ SqL K H1 a xs ∧ ∀ q, H1 q = none → Q (.ref q) (upd H1 q (.lst xs.reverse))
theorem pe_lstRev {X : Cx} {e : Expr} {te : TE} {p p2 pos pos2 : Pos} (hc : X.calm = true) (hg : Gl X "list") (hm : X.mg "list" = none) (hg2 : Gl X "reversed") (hm2 : X.mg "reversed" = none) (he : PE X e te)
    (hs : starEach [e] X.env = (false, eval e X.env) :: starEach [] X.env := by rfl)
    (hs2 : starEach [.Call (.Name "reversed" p2) [e] [] pos2] X.env = (false, eval (.Call (.Name "reversed" p2) [e] [] pos2) X.env) :: starEach [] X.env := by rfl) :
    PE X (.Call (.Name "list" p) [.Call (.Name "reversed" p2) [e] [] pos2] [] pos) (tLstRev X.K te) := by
  refine ⟨fun pins s σ H Q I rd => Call_ (ld_blt I hg hm bt_list (PyProof.Rows.callWith_type1 (args_cons ?_ hs2) hs2 rfl))⟩
  refine Call_ (ld_blt I hg2 hm2 PyProof.Rows.boot_reversed (PyProof.Rows.callWith_type1 (args_cons (thn (he.run pins s σ H _ I rd) fun u s1 hh => args_nil ?_) hs) hs rfl))
  obtain ⟨v, H1, I1, r1, a, xs, rfl, hq, q⟩ := hh
  cases (show u = Value.ref a from r1)
  obtain ⟨its, rv, pl, hz⟩ := I1.list hq
  refine call_reversed_list pl.isList (args_nil ?_)
  generalize er : revObj a ((its.toArray.size : Int) - 1) = ro
  have k0 : ∀ b o, s1.heap.get? b = some o → (s1.heap.push ro).get? b = some o := fun b o e => Heap.get?_push_of_some _ e
  obtain ⟨ol, hol, _⟩ := id pl.isList
  have hne : a ≠ s1.heap.objs.size := Nat.ne_of_lt (Heap.lt_size hol)
  have hn : its.toArray.size ≤ sizeLine := by
    rw [List.size_toArray, ← rv.length]
    exact hz
  refine call_list_rev (it := s1.heap.objs.size) (l := a) (items := its.toArray) (s := { s1 with heap := s1.heap.push ro }) (I1.ok.hd hc) (by rw [← er]; exact ⟨_, Heap.get?_push_size _ rfl, rfl, rfl⟩) (pl.isList.push _) hne hn fun h' tk acc c' hk hs' hi => ?_
  have esz : (s1.heap.push ro).objs.size = s1.heap.objs.size + 1 := Heap.size_push _ _
  rw [esz] at hs' ⊢
  have hp : s1.heap.objs.size ≤ s1.heap.objs.size + 1 := Nat.le_succ _
  have kk : ∀ b o, s1.heap.get? b = some o → h'.get? b = some o := fun b o e => hk b o (Nat.ne_of_lt (Heap.lt_size e)) (k0 b o e)
  refine ⟨.ref (s1.heap.objs.size + 1), upd H1 (s1.heap.objs.size + 1) (.lst xs.reverse), I1.laid (t' := tk) kk hp ?_, rfl, q _ (I1.hok.fresh hp)⟩
  refine ⟨by rw [List.length_reverse]; exact hz, acc.toList, c', vals_rev rv hi, ?_⟩
  rw [Array.toArray_toList]
  exact hs'
end My
namespace My
open PySem PySem.Spec PyProof.Rows L2
/-! ### steps of methods -/
def rJoin (K : PySem.W.Frag) : V → List V → Hp → VK → Prop := fun x xs H Q => ∃ a p, ∃ ys : List Str, x = .str a ∧ xs = [.ref p] ∧ (SqL K H p (ys.map V.str) ∨ SqT K H p (ys.map V.str)) ∧
    (ys.map (·.length)).sum + ys.length * a.length ≤ 16777216 ∧ Q (.str (Txt.join a ys)) H
theorem m_join {X : Cx} : MtR X "str.join" (rJoin X.K) := mt_join
def rSplit : V → List V → Hp → VK → Prop := fun x xs H Q => ∃ a b, x = .str a ∧ xs = [.str b] ∧ (b.length == 0) = false ∧ a.length + 2 ≤ sizeLine ∧ rNewStrs (Txt.split a b) H Q
theorem m_split {X : Cx} : MtR X "str.split" rSplit := mt_split
def rInsert : V → List V → Hp → VK → Prop := fun x vs H Q => ∃ (l : Addr) (xs : List V) (i : Int) (y : V), x = .ref l ∧ vs = [.int i, y] ∧ H l = some (.lst xs) ∧ xs.length < sizeLine ∧ 0 ≤ i ∧ i < 2 ^ 63 ∧
    Q .non (upd H l (.lst (xs.take i.toNat ++ [y] ++ xs.drop i.toNat)))
theorem m_insert {X : Cx} : MtR X "list.insert" rInsert := mt_insert
def rInS : R2 := fun x y H Q => ∃ (c : Nat) (z : Str), x = .str ⟨#[c]⟩ ∧ y = .str z ∧ Q (.bl (decide (c ∈ z.cps.toList))) H
theorem o_inS {X : Cx} : OpR X (compareOp .In) rInS := op_in_sign
section
variable {σ : L2.St} {H : Hp} {Q : VK} {D : Ends} {to te : TE} {t : TA}
theorem g_bm {K : PySem.W.Frag} {T : String} {r : V → List V → Hp → VK → Prop} (h : to σ H fun x H1 => tyV K T x H1 ∧ t σ H1 fun xs H2 => r x xs H2 Q) : tBM K T r to t σ H Q := h
theorem g_tyL {K : PySem.W.Frag} {p : Addr} {xs : List V} {R : Prop} (hs : H p = some (.lst xs)) (h : R) : tyV K "list" (.ref p) H ∧ R := ⟨.inl ⟨rfl, xs, SqL.of hs⟩, h⟩
theorem g_tyS {K : PySem.W.Frag} {z : Str} {R : Prop} (h : R) : tyV K "str" (.str z) H ∧ R := ⟨rfl, h⟩
theorem g_app {l : Addr} {xs : List V} {y : V} (hH : H l = some (.lst xs)) (hz : xs.length < sizeLine) (h : Q .non (upd H l (.lst (xs ++ [y])))) : rAppend (.ref l) [y] H Q := ⟨l, xs, y, rfl, rfl, hH, hz, h⟩
theorem g_list {K : PySem.W.Frag} {p : Addr} {xs : List V} (hs : SqL K H p xs) (h : ∀ l, H l = none → Q (.ref l) (upd H l (.lst xs))) : rListQ K [.ref p] H Q := ⟨p, xs, rfl, .inl hs, h⟩
theorem g_lstRev {K : PySem.W.Frag} (h : te σ H fun v H1 => ∃ (a : Addr) (xs : List V), v = .ref a ∧ SqL K H1 a xs ∧ ∀ q, H1 q = none → Q (.ref q) (upd H1 q (.lst xs.reverse))) : tLstRev K te σ H Q := h
theorem g_sl {r : V → Option Int → Option Int → Hp → VK → Prop} {tl th : TO} (h : te σ H fun x H1 => tl σ H1 fun l H2 => th σ H2 fun u H3 => r x l u H3 Q) : tSl r te tl th σ H Q := h
theorem g_noP {R : Option Int → Hp → Prop} (h : R none H) : tNoPart σ H R := h
theorem g_part {R : Option Int → Hp → Prop} (h : te σ H fun x H1 => ∃ i, x = .int i ∧ R (some i) H1) : tPart te σ H R := h
theorem g_pI {i : Int} {R : Int → Prop} (h : R i) : ∃ j, V.int i = .int j ∧ R j := ⟨i, rfl, h⟩
theorem g_lc {wi : TI} {g : TG} {tt : TT} {vs : List Nat} (h : wi σ H fun J H1 => ∀ D, H1 D = none → ∃ W : Nat → Nat → Hp → Prop, (∃ m, W 0 m (upd H1 D (.lst []))) ∧ ∀ i m H, W i m H →
  (J.stop i H ∧ Q (.ref D) H) ∨ (J.go i H ∧ ∃ Nx : Hp → Prop, (∀ H', Nx H' → ∃ m', m' < m ∧ W (i + 1) m' H') ∧ ∀ x H', J.yld i H x H' → g x (wipe σ vs) H' fun σ2 H2 => wipe σ2 vs = wipe σ vs ∧ tt σ2 H2 fun b H3 =>
    if b = true then te σ2 H3 fun y H4 => ∃ acc, H4 D = some (.lst acc) ∧ acc.length < sizeLine ∧ Nx (upd H4 D (.lst (acc ++ [y]))) else Nx H3)) : tLc wi g tt te vs σ H Q := h
end
theorem idx_ok {i : Int} {n : Nat} (h0 : 0 ≤ i) (h1 : i < n) : seqIndex? i n = some i.toNat := by
  have e : (if i < 0 then i + (n : Int) else i) = i := if_neg (by omega)
  unfold seqIndex?
  simp only [e]
  rw [if_pos (by simp [h0, h1])]
local macro_rules | `(tactic| walk_at "arith") => `(tactic| first
  | (with_reducible show _ ≠ _; omega)
  | (unfold CMul; omega)
  | (unfold CPow; omega)
  | (unfold CPow; decide)
  | exact wide_div (b := 100) (by decide) (by decide) (by decide) (by decide))
local macro_rules | `(tactic| walk_at "go") => `(tactic| repeat (first
  | with_reducible refine g_seq ?_
  | with_reducible refine g_asg ?_
  | with_reducible refine g_name ?_
  | with_reducible refine g_sub ?_
  | with_reducible refine g_ret ?_
  | with_reducible refine g_drop ?_
  | ((with_reducible refine g_next ?_); dsimp only)
  | with_reducible refine g_if ?_
  | with_reducible refine g_var rfl ?_
  | with_reducible refine g_c ?_
  | with_reducible refine g_op ?_
  | with_reducible refine g_un ?_
  | with_reducible refine g_I0 ?_
  | with_reducible refine g_U ?_
  | with_reducible refine g_eq rfl ?_
  | with_reducible refine g_test ?_
  | with_reducible refine g_bl ?_
  | with_reducible refine iteF ?_
  | with_reducible refine iteT ?_
  | ((with_reducible apply g_iteT); (case e => rfl))
  | ((with_reducible apply g_iteF); (case e => rfl))
  | with_reducible refine g_int1 ?_
  | with_reducible refine g_max2 ?_
  | with_reducible refine g_min2 ?_
  | with_reducible refine g_isN ?_
  | with_reducible refine g_notN ?_
  | ((with_reducible apply g_lenL); (case hs => assumption))
  | ((with_reducible apply g_ixL); (case hs => exact SqL.of (by assumption)); (case ha => rfl))
  | with_reducible refine g_pow9 ?_
  | with_reducible refine g_pow18 ?_
  | ((with_reducible apply g_I); (case c => walk_at "arith"))
  | ((with_reducible apply g_st); (case hs => assumption); (case hL => assumption); (case ne => assumption); (case x0 => assumption); (case hj => rfl); (case j0 => decide); intro _ _ _ _)
  | with_reducible refine g_and ?_
  | with_reducible refine g_or ?_
  | with_reducible refine g_not ?_
  | with_reducible refine g_nil ?_
  | with_reducible refine g_cons ?_
  | with_reducible refine g_callB ?_
  | with_reducible refine g_call ?_
  | with_reducible refine g_tup ?_
  | with_reducible refine g_lst ?_
  | with_reducible refine g_andV ?_
  | with_reducible refine g_orV ?_
  | with_reducible refine g_notV ?_
  | with_reducible refine g_tB ?_
  | with_reducible refine g_ne rfl ?_
  | with_reducible refine g_abs ?_
  | with_reducible refine g_isB ?_
  | with_reducible refine g_for ?_
  | with_reducible refine g_rng1 ?_
  | with_reducible refine g_rng2 ?_
  | with_reducible refine g_iList ?_
  | ((with_reducible refine g_break ?_); dsimp only)
  | ((with_reducible refine g_cont ?_); dsimp only)
  | with_reducible refine g_retN ?_
  | ((with_reducible apply isi_go (T := "int")); (case h => assumption); (case hb => exact k_int_ _))
  | ((with_reducible apply isi_go (T := "str")); (case h => assumption); (case hb => exact k_str_ _))
  | ((with_reducible apply isi_go (T := "bool")); (case h => assumption); (case hb => exact k_bool_ _))
  | ((with_reducible apply isi_go (T := "list")); (case h => assumption); (case hb => exact k_list_ _))
  | ((with_reducible apply isi_go (T := "tuple")); (case h => assumption); (case hb => exact k_tuple_ _))
  | ((with_reducible apply isi_go (T := "dict")); (case h => assumption); (case hb => exact k_dict_ _))
  | with_reducible refine g_intb ?_
  | with_reducible refine g_bm ?_
  | with_reducible refine g_tyS ?_
  | ((with_reducible apply g_tyL); (case hs => assumption))
  | with_reducible refine g_lc ?_
  | with_reducible refine g_sl ?_
  | with_reducible refine g_noP ?_
  | with_reducible refine g_part ?_
  | with_reducible refine g_pI ?_))

/-! ### mixed -/
def spMixed (K : PySem.W.Frag) : Sp := fun vs H Q _ => ∃ (s p : Addr) (xs : List V), vs = [.ref s, .ref p] ∧ Store K H s ∧ p ≠ s ∧ H p = some (.lst xs) ∧ xs.length ≤ 100000 ∧
  ∀ (q : Addr) (ys : List V) (H' : Hp), H q = none → H' q = some (.lst ys) → (∀ y ∈ ys, y ∈ xs) → ys.length = xs.length → Sx s H H' → Store K H' s → Q (.ref q) H'
abbrev s_mixed : Stmt := topS 16
abbrev N_mixed : List Str := ["store", "items", "way", "left", "out", "k"]
abbrev P_mixed : List Str := ["store", "items"]
theorem sc_mixed : FnScope N_mixed P_mixed (defScope s_mixed) := ⟨rfl, rfl, rfl, by decide +kernel, rfl, by decide +kernel, by decide +kernel⟩

section
variable {P : Program} {w : World} {K : PySem.W.Frag} {mg : Str → Option Value} {base : Heap}
theorem ok_mixed (T : Txt K mg) : FnOk P w K mg base CX0 172 T.dmixed.f T.dmixed.fd P_mixed (spMixed K) := by
  have G_take : FnOk P w K mg base CX0 171 T.dtake.f T.dtake.fd P_take (spTakeB K) := ok_takeB T
  refine T.dmixed.F.ok sc_mixed (fun vs H Q E h => ?_) (fun cdv A outer s_ H vs Q E hr h => ?_)
  · obtain ⟨s, p, xs, rfl, _⟩ := h
    rfl
  · obtain ⟨s, p, xs, rfl, st, ps, hp, hl, k⟩ := h
    refine ⟨_, (pss_cons (ps_set (i := 2) sc_mixed.nd rfl (by first | exact .inl rfl | exact .inr rfl) (pe_call G_take (hr.mono (by omega)) rfl T.dtake.g T.dtake.F.kp T.dtake.b .nil pass0 (pa_cons (pv 0) (pa_cons pe_int pa_nil))))
      (pss_cons (ps_if (pt_cmpR op_eq (pv 2) pe_int (nomark _))
        (pss_one (ps_ret (pe_callTy c_list (by rfl) T.m_list bt_list (pa_cons (pv 1) pa_nil))))
        pss_nil)
      (pss_cons (ps_if (pt_cmpR op_eq (pv 2) pe_int (nomark _))
        (pss_one (ps_ret (pe_lstRev rfl (by rfl) T.m_list (by rfl) T.m_reversed (pv 1))))
        pss_nil)
      (pss_cons (ps_set (i := 3) sc_mixed.nd rfl (by first | exact .inl rfl | exact .inr rfl) (pe_callTy c_list (by rfl) T.m_list bt_list (pa_cons (pv 1) pa_nil)))
      (pss_cons (ps_set (i := 4) sc_mixed.nd rfl (by first | exact .inl rfl | exact .inr rfl) (pe_lst pa_nil))
      (pss_cons (ps_for PassesOwn.never rfl (pi_range1 rfl T.m_range (pa_cons (pe_callB c_len (by rfl) T.m_len bt_len (pa_cons (pv 1) pa_nil)) pa_nil)) (pg_name (i := 5) sc_mixed.nd rfl (by first | exact .inl rfl | exact .inr rfl))
        (pss_one (ps_expr (pe_bm PySem.F.plainAttrs_list PySem.F.slot_list_append PySem.F.type_list_append mt_append (pv 4) (pa_cons (pe_bm PySem.F.plainAttrs_list PySem.F.slot_list_pop PySem.F.type_list_pop mt_popAt (pv 3) (pa_cons (pe_call G_take (hr.mono (by omega)) rfl T.dtake.g T.dtake.F.kp T.dtake.b .nil pass0 (pa_cons (pv 0) (pa_cons (pe_callB c_len (by rfl) T.m_len bt_len (pa_cons (pv 3) pa_nil)) pa_nil))) pa_nil)) pa_nil)))))
      (pss_one (ps_ret (pv 4))))))))), ?_⟩
    try dsimp only [cxOf, Cx.nox, Cx.wish]
    walk_at "go"
    refine take_go st (big_of (by decide)) fun r H1 r0 r1 x1 st1 => ?_
    have hp1 := x1.kp _ _ ps hp
    walk_at "go"
    refine g_ite (fun h1 => ?_) (fun h1 => ?_)
    · walk_at "go"
      refine g_list (SqL.of hp1) fun l h0 => ?_
      walk_at "go"
      have hl0 := st1.free x1 h0
      exact k l xs _ hl0 upd_same (fun _ h => h) rfl (x1.mut hl0) (st.mut x1 st1 hl0)
    walk_at "go"
    refine g_ite (fun h2 => ?_) (fun h2 => ?_)
    · walk_at "go"
      refine g_lstRev ?_
      walk_at "go"
      refine ⟨p, xs, rfl, SqL.of hp1, fun l h0 => ?_⟩
      have hl0 := st1.free x1 h0
      exact k l xs.reverse _ hl0 upd_same (fun _ h => List.mem_reverse.mp h) List.length_reverse (x1.mut hl0) (st.mut x1 st1 hl0)
    walk_at "go"
    refine g_list (SqL.of hp1) fun l h0 => ?_
    have hl0 := st1.free x1 h0
    have x2 := x1.mut (o := .lst xs) hl0
    have st2 := st.mut (o := .lst xs) x1 st1 hl0
    walk_at "go"
    refine ⟨by decide, fun o h3 => ?_⟩
    have ho0 := st2.free x2 h3
    have x3 := x2.mut (o := .lst []) ho0
    have st3 := st.mut (o := .lst []) x2 st2 ho0
    have nlo : l ≠ o := ne_of_none upd_same h3
    have hl3 : upd (upd H1 l (.lst xs)) o (.lst []) l = some (.lst xs) := by rw [upd_ne nlo, upd_same]
    have ho3 : upd (upd H1 l (.lst xs)) o (.lst []) o = some (.lst []) := upd_same
    generalize upd (upd H1 l (.lst xs)) o (.lst []) = H3 at *
    have hp3 := x3.kp _ _ ps hp
    walk_at "go"
    refine g_lenL (SqL.of hp3) ?_
    walk_at "go"
    refine ⟨_, rfl, by omega, by omega, ?_⟩
    refine for_range (n := xs.length) (fun i σ' H' => ∃ z ls os, σ' = [some (.ref s), some (.ref p), some (.int r), some (.ref l), some (.ref o), z] ∧ H' l = some (.lst ls) ∧ H' o = some (.lst os) ∧ (∀ y ∈ ls, y ∈ xs) ∧ (∀ y ∈ os, y ∈ xs) ∧
      ls.length + i = xs.length ∧ os.length = i ∧ Sx s H H' ∧ Store K H' s) ⟨none, xs, [], rfl, hl3, ho3, fun _ h => h, fun _ h => (nomatch h), rfl, rfl, x3, st3⟩ ?_ ?_
    · rintro i σ' H' hi ⟨z, ls, os, rfl, hls, hos, ml, mo, e1, e2, x4, st4⟩
      walk_at "go"
      refine g_lenL (SqL.of hls) ?_
      walk_at "go"
      refine take_go st4 (big_of (by omega)) fun r H5 r0 r1 x5 st5 => ?_
      have nls : l ≠ s := st.ne hl0
      have nos : o ≠ s := st.ne ho0
      have hls5 := x5.kp _ _ nls hls
      have hos5 := x5.kp _ _ nos hos
      have hr : r.toNat < ls.length := by omega
      walk_at "go"
      refine ⟨l, ls, r, r.toNat, ls[r.toNat], rfl, rfl, hls5, by omega, by omega, idx_ok r0 (by omega), List.getElem?_eq_getElem hr, ?_⟩
      have x6 := (x4.trans x5).mut (o := .lst (ls.eraseIdx r.toNat)) hl0
      have st6 := st.mut (o := .lst (ls.eraseIdx r.toNat)) (x4.trans x5) st5 hl0
      have hos6 : upd H5 l (.lst (ls.eraseIdx r.toNat)) o = some (.lst os) := by rw [upd_ne (Ne.symm nlo)]; exact hos5
      have hls6 : upd H5 l (.lst (ls.eraseIdx r.toNat)) l = some (.lst (ls.eraseIdx r.toNat)) := upd_same
      generalize upd H5 l (.lst (ls.eraseIdx r.toNat)) = H6 at *
      walk_at "go"
      refine g_app hos6 (by rw [sizeLine_eq]; omega) ?_
      walk_at "go"
      refine ⟨_, ls.eraseIdx r.toNat, os ++ [ls[r.toNat]], rfl, by rw [upd_ne nlo]; exact hls6, upd_same, fun y hy => ml y (List.mem_of_mem_eraseIdx hy), fun y hy => ?_, ?_, ?_, x6.mut ho0, st.mut x6 st6 ho0⟩
      · rcases List.mem_append.mp hy with h | h
        · exact mo y h
        · rw [List.mem_singleton.mp h]
          exact ml _ (List.getElem_mem hr)
      · have := List.length_eraseIdx_of_lt hr
        omega
      · rw [List.length_append, e2]
        rfl
    · rintro σ' H' ⟨z, ls, os, rfl, hls, hos, ml, mo, e1, e2, x4, st4⟩
      walk_at "go"
      exact k o os H' ho0 hos mo e2 x4 st4
end
end My
namespace My
open PySem PySem.Spec PyProof.Rows L2
/-! ### new data -/
theorem Da.tupI {K : PySem.W.Frag} {s p : Addr} {H : Hp} {l : List D} {xs : List V} (st : Store K H s) (hp : H p = none) (q : DaL s H l xs) : Da s (upd H p (.tup xs)) (.tup l) (.ref p) :=
  ⟨p, xs, rfl, st.ne hp, upd_same, DaL.mono (Sx.new hp) _ _ q⟩
theorem Da.lstI {K : PySem.W.Frag} {s p : Addr} {H : Hp} {l : List D} {xs : List V} (st : Store K H s) (hp : H p = none) (q : DaL s H l xs) : Da s (upd H p (.lst xs)) (.lst l) (.ref p) :=
  ⟨p, xs, rfl, st.ne hp, upd_same, DaL.mono (Sx.new hp) _ _ q⟩
theorem Da.dctI {K : PySem.W.Frag} {s p : Addr} {H : Hp} (st : Store K H s) (hp : H p = none) : Da s (upd H p (.dK [])) .dct (.ref p) :=
  ⟨p, rfl, st.ne hp, upd_same⟩
theorem Store.new {K : PySem.W.Frag} {s p : Addr} {H : Hp} {o : HO} (st : Store K H s) (hp : H p = none) : Store K (upd H p o) s := st.same (same_new hp)
theorem DaL.nil {s : Addr} {H : Hp} : DaL s H [] [] := rfl
theorem DaL.cons {s : Addr} {H : Hp} {d : D} {l : List D} {x : V} {xs : List V} (h : Da s H d x) (q : DaL s H l xs) : DaL s H (d :: l) (x :: xs) := ⟨x, xs, rfl, h, q⟩
/-- what is new since H0 -/
def newOf (H0 H : Hp) : Hp := fun b => match H0 b with
  | none => H b
  | some _ => none
theorem newOf_n {H0 H : Hp} {b : Addr} (h : H0 b = none) : newOf H0 H b = H b := by
  unfold newOf
  rw [h]
theorem newOf_s {H0 H : Hp} {b : Addr} {o : HO} (h : newOf H0 H b = some o) : H0 b = none ∧ H b = some o := by
  unfold newOf at h
  cases e : H0 b with
  | none =>
    rw [e] at h
    exact ⟨rfl, h⟩
  | some u =>
    rw [e] at h
    cases h
theorem Sx.newOf {s : Addr} {H H' : Hp} (H0 : Hp) (x : Sx s H H') : Sx s (newOf H0 H) (newOf H0 H') := ⟨fun b o n h => by
  obtain ⟨h1, h2⟩ := newOf_s h
  rw [newOf_n h1]
  exact x.kp b o n h2, fun L xs h => by
  obtain ⟨h1, h2⟩ := newOf_s h
  rw [newOf_n h1]
  exact x.ce L xs h2⟩
theorem newOf_sub (s : Addr) (H0 H : Hp) : Sx s (newOf H0 H) H := Sx.of fun b o h => (newOf_s h).2
theorem newOf_anti {s : Addr} {H0 H1 H : Hp} (h : ∀ b, H1 b = none → H0 b = none) : Sx s (newOf H1 H) (newOf H0 H) := Sx.of fun b o e => by
  obtain ⟨h1, h2⟩ := newOf_s e
  rw [newOf_n (h b h1)]
  exact h2
theorem Da.tupN {K : PySem.W.Frag} {s p : Addr} {H0 H : Hp} {l : List D} {xs : List V} (st : Store K H s) (h0 : H0 p = none) (hp : H p = none) (q : DaL s (newOf H0 H) l xs) : Da s (newOf H0 (upd H p (.tup xs))) (.tup l) (.ref p) :=
  ⟨p, xs, rfl, st.ne hp, by rw [newOf_n h0, upd_same], DaL.mono (Sx.newOf H0 (Sx.new hp)) _ _ q⟩
theorem Da.lstN {K : PySem.W.Frag} {s p : Addr} {H0 H : Hp} {l : List D} {xs : List V} (st : Store K H s) (h0 : H0 p = none) (hp : H p = none) (q : DaL s (newOf H0 H) l xs) : Da s (newOf H0 (upd H p (.lst xs))) (.lst l) (.ref p) :=
  ⟨p, xs, rfl, st.ne hp, by rw [newOf_n h0, upd_same], DaL.mono (Sx.newOf H0 (Sx.new hp)) _ _ q⟩
theorem Da.dctN {K : PySem.W.Frag} {s p : Addr} {H0 H : Hp} (st : Store K H s) (h0 : H0 p = none) (hp : H p = none) : Da s (newOf H0 (upd H p (.dK []))) .dct (.ref p) :=
  ⟨p, rfl, st.ne hp, by rw [newOf_n h0, upd_same]⟩
def badInt (d : D) : Bool := !isIn d "int" || isIn d "bool"
def badTxt (d : D) : Bool := !isIn d "str"
local macro_rules | `(tactic| walk_at "arith") => `(tactic| first
  | (with_reducible show _ ≠ _; omega)
  | (unfold CMul; omega)
  | (unfold CPow; omega)
  | (unfold CPow; decide)
  | exact wide_div (b := 100) (by decide) (by decide) (by decide) (by decide))
local macro_rules | `(tactic| walk_at "go") => `(tactic| repeat (first
  | with_reducible refine g_seq ?_
  | with_reducible refine g_asg ?_
  | with_reducible refine g_name ?_
  | with_reducible refine g_sub ?_
  | with_reducible refine g_ret ?_
  | with_reducible refine g_drop ?_
  | ((with_reducible refine g_next ?_); dsimp only)
  | with_reducible refine g_if ?_
  | with_reducible refine g_var rfl ?_
  | with_reducible refine g_c ?_
  | with_reducible refine g_op ?_
  | with_reducible refine g_un ?_
  | with_reducible refine g_I0 ?_
  | with_reducible refine g_U ?_
  | with_reducible refine g_eq rfl ?_
  | with_reducible refine g_test ?_
  | with_reducible refine g_bl ?_
  | with_reducible refine iteF ?_
  | with_reducible refine iteT ?_
  | ((with_reducible apply g_iteT); (case e => rfl))
  | ((with_reducible apply g_iteF); (case e => rfl))
  | with_reducible refine g_int1 ?_
  | with_reducible refine g_max2 ?_
  | with_reducible refine g_min2 ?_
  | with_reducible refine g_isN ?_
  | with_reducible refine g_notN ?_
  | ((with_reducible apply g_lenL); (case hs => assumption))
  | ((with_reducible apply g_ixL); (case hs => exact SqL.of (by assumption)); (case ha => rfl))
  | with_reducible refine g_pow9 ?_
  | with_reducible refine g_pow18 ?_
  | ((with_reducible apply g_I); (case c => walk_at "arith"))
  | ((with_reducible apply g_st); (case hs => assumption); (case hL => assumption); (case ne => assumption); (case x0 => assumption); (case hj => rfl); (case j0 => decide); intro _ _ _ _)
  | with_reducible refine g_and ?_
  | with_reducible refine g_or ?_
  | with_reducible refine g_not ?_
  | with_reducible refine g_nil ?_
  | with_reducible refine g_cons ?_
  | with_reducible refine g_callB ?_
  | with_reducible refine g_call ?_
  | with_reducible refine g_tup ?_
  | with_reducible refine g_lst ?_
  | with_reducible refine g_andV ?_
  | with_reducible refine g_orV ?_
  | with_reducible refine g_notV ?_
  | with_reducible refine g_tB ?_
  | with_reducible refine g_ne rfl ?_
  | with_reducible refine g_abs ?_
  | with_reducible refine g_isB ?_
  | with_reducible refine g_for ?_
  | with_reducible refine g_rng1 ?_
  | with_reducible refine g_rng2 ?_
  | with_reducible refine g_iList ?_
  | ((with_reducible refine g_break ?_); dsimp only)
  | ((with_reducible refine g_cont ?_); dsimp only)
  | with_reducible refine g_retN ?_
  | ((with_reducible apply isi_go (T := "int")); (case h => assumption); (case hb => exact k_int_ _))
  | ((with_reducible apply isi_go (T := "str")); (case h => assumption); (case hb => exact k_str_ _))
  | ((with_reducible apply isi_go (T := "bool")); (case h => assumption); (case hb => exact k_bool_ _))
  | ((with_reducible apply isi_go (T := "list")); (case h => assumption); (case hb => exact k_list_ _))
  | ((with_reducible apply isi_go (T := "tuple")); (case h => assumption); (case hb => exact k_tuple_ _))
  | ((with_reducible apply isi_go (T := "dict")); (case h => assumption); (case hb => exact k_dict_ _))
  | with_reducible refine g_intb ?_
  | with_reducible refine g_bm ?_
  | with_reducible refine g_tyS ?_
  | ((with_reducible apply g_tyL); (case hs => assumption))
  | with_reducible refine g_lc ?_
  | with_reducible refine g_sl ?_
  | with_reducible refine g_noP ?_
  | with_reducible refine g_part ?_
  | with_reducible refine g_pI ?_))

def spOdd (K : PySem.W.Frag) (f : D → Bool) : Sp := fun vs H Q _ => ∃ (s : Addr), vs = [.ref s] ∧ Store K H s ∧
  ∀ (d : D) (v : V) (H' : Hp), f d = true → Da s (newOf H H') d v → Sx s H H' → Store K H' s → Q v H'
theorem at_da {s : Addr} {H : Hp} {l : List D} {xs : List V} {r : Int} {f : D → Bool} (q : DaL s H l xs) (r0 : 0 ≤ r) (r1 : r < l.length) (hf : l.all f = true) : ∃ d v, atI xs r = some v ∧ Da s H d v ∧ f d = true := by
  have hr : r.toNat < l.length := by omega
  obtain ⟨v, e, h⟩ := q.get (List.getElem?_eq_getElem hr)
  refine ⟨_, v, ?_, h, List.all_eq_true.mp hf _ (List.getElem_mem hr)⟩
  have e2 : r = (r.toNat : Int) := by omega
  rw [e2]
  exact atI_nat e
abbrev s_not_integer : Stmt := topS 21
abbrev N_not_integer : List Str := ["store", "ways"]
abbrev P_not_integer : List Str := ["store"]
theorem sc_not_integer : FnScope N_not_integer P_not_integer (defScope s_not_integer) := ⟨rfl, rfl, rfl, by decide +kernel, rfl, by decide +kernel, by decide +kernel⟩

abbrev s_not_text : Stmt := topS 22
abbrev N_not_text : List Str := ["store", "ways"]
abbrev P_not_text : List Str := ["store"]
theorem sc_not_text : FnScope N_not_text P_not_text (defScope s_not_text) := ⟨rfl, rfl, rfl, by decide +kernel, rfl, by decide +kernel, by decide +kernel⟩

section
variable {P : Program} {w : World} {K : PySem.W.Frag} {mg : Str → Option Value} {base : Heap}
theorem ok_not_integer (T : Txt K mg) : FnOk P w K mg base CX0 173 T.dnot_integer.f T.dnot_integer.fd P_not_integer (spOdd K badInt) := by
  have G_edge : FnOk P w K mg base CX0 172 T.dedge.f T.dedge.fd P_edge (spTakeB K) := ok_edge T
  refine T.dnot_integer.F.ok sc_not_integer (fun vs H Q E h => ?_) (fun cdv A outer s_ H vs Q E hr h => ?_)
  · obtain ⟨s, rfl, _⟩ := h
    rfl
  · obtain ⟨s, rfl, st, k⟩ := h
    refine ⟨_, (pss_cons (ps_set (i := 1) sc_not_integer.nd rfl (by first | exact .inl rfl | exact .inr rfl) (pe_lst (pa_cons pe_bl (pa_cons pe_bl (pa_cons pe_non (pa_cons pe_str (pa_cons pe_str (pa_cons (pe_tup (pa_cons pe_int (pa_cons pe_int pa_nil))) (pa_cons (pe_tup (pa_cons pe_int (pa_cons pe_int pa_nil))) (pa_cons (pe_lst (pa_cons pe_int pa_nil)) (pa_cons (pe_tup (pa_cons pe_int pa_nil)) (pa_cons pe_dnewK (pa_cons (pe_lst pa_nil) pa_nil)))))))))))))
      (pss_one (ps_ret (pe_ix ix_list (pv 1) (pe_call G_edge (hr.mono (by omega)) rfl T.dedge.g T.dedge.F.kp T.dedge.b .nil pass0 (pa_cons (pv 0) (pa_cons (pe_callB c_len (by rfl) T.m_len bt_len (pa_cons (pv 1) pa_nil)) pa_nil))) (fun _ _ => rfl))))), ?_⟩
    try dsimp only [cxOf, Cx.nox, Cx.wish]
    have x0 := Sx.refl s H
    walk_at "go"
    refine ⟨by show 2 ≤ sizeLine; decide, fun p1 h1 => ?_⟩
    have d1 := Da.tupN st (st.free x0 h1) h1 (l := [.int 1, .int 1]) (.cons rfl (.cons rfl .nil))
    have y1 : Sx s H _ := Sx.new (o := .tup [.int 1, .int 1]) h1
    have x1 := x0.trans y1
    have st1 := st.new (o := .tup [.int 1, .int 1]) h1
    clear y1
    generalize upd H p1 (.tup [.int 1, .int 1]) = H1 at *
    walk_at "go"
    refine ⟨by show 2 ≤ sizeLine; decide, fun p2 h2 => ?_⟩
    have d2 := Da.tupN st1 (st1.free x1 h2) h2 (l := [.int 0, .int 1]) (.cons rfl (.cons rfl .nil))
    have y2 : Sx s H1 _ := Sx.new (o := .tup [.int 0, .int 1]) h2
    replace d1 := Da.mono (y2.newOf H) _ _ d1
    have x2 := x1.trans y2
    have st2 := st1.new (o := .tup [.int 0, .int 1]) h2
    clear y2
    generalize upd H1 p2 (.tup [.int 0, .int 1]) = H2 at *
    walk_at "go"
    refine ⟨by show 1 ≤ sizeLine; decide, fun p3 h3 => ?_⟩
    have d3 := Da.lstN st2 (st2.free x2 h3) h3 (l := [.int 1]) (.cons rfl .nil)
    have y3 : Sx s H2 _ := Sx.new (o := .lst [.int 1]) h3
    replace d1 := Da.mono (y3.newOf H) _ _ d1
    replace d2 := Da.mono (y3.newOf H) _ _ d2
    have x3 := x2.trans y3
    have st3 := st2.new (o := .lst [.int 1]) h3
    clear y3
    generalize upd H2 p3 (.lst [.int 1]) = H3 at *
    walk_at "go"
    refine ⟨by show 1 ≤ sizeLine; decide, fun p4 h4 => ?_⟩
    have d4 := Da.tupN st3 (st3.free x3 h4) h4 (l := [.int 1]) (.cons rfl .nil)
    have y4 : Sx s H3 _ := Sx.new (o := .tup [.int 1]) h4
    replace d1 := Da.mono (y4.newOf H) _ _ d1
    replace d2 := Da.mono (y4.newOf H) _ _ d2
    replace d3 := Da.mono (y4.newOf H) _ _ d3
    have x4 := x3.trans y4
    have st4 := st3.new (o := .tup [.int 1]) h4
    clear y4
    generalize upd H3 p4 (.tup [.int 1]) = H4 at *
    walk_at "go"
    refine fun p5 h5 => ?_
    have d5 := Da.dctN st4 (st4.free x4 h5) h5
    have y5 : Sx s H4 _ := Sx.new (o := .dK []) h5
    replace d1 := Da.mono (y5.newOf H) _ _ d1
    replace d2 := Da.mono (y5.newOf H) _ _ d2
    replace d3 := Da.mono (y5.newOf H) _ _ d3
    replace d4 := Da.mono (y5.newOf H) _ _ d4
    have x5 := x4.trans y5
    have st5 := st4.new (o := .dK []) h5
    clear y5
    generalize upd H4 p5 (.dK []) = H5 at *
    walk_at "go"
    refine ⟨by show 0 ≤ sizeLine; decide, fun p6 h6 => ?_⟩
    have d6 := Da.lstN st5 (st5.free x5 h6) h6 (l := []) .nil
    have y6 : Sx s H5 _ := Sx.new (o := .lst []) h6
    replace d1 := Da.mono (y6.newOf H) _ _ d1
    replace d2 := Da.mono (y6.newOf H) _ _ d2
    replace d3 := Da.mono (y6.newOf H) _ _ d3
    replace d4 := Da.mono (y6.newOf H) _ _ d4
    replace d5 := Da.mono (y6.newOf H) _ _ d5
    have x6 := x5.trans y6
    have st6 := st5.new (o := .lst []) h6
    clear y6
    generalize upd H5 p6 (.lst []) = H6 at *
    walk_at "go"
    refine ⟨by show 11 ≤ sizeLine; decide, fun p7 h7 => ?_⟩
    have dl : DaL s (newOf H H6) [.bl true, .bl false, .non, .str "1", .str "", .tup [.int 1, .int 1], .tup [.int 0, .int 1], .lst [.int 1], .tup [.int 1], .dct, .lst []] _ := (.cons rfl (.cons rfl (.cons rfl (.cons rfl (.cons rfl (.cons d1 (.cons d2 (.cons d3 (.cons d4 (.cons d5 (.cons d6 .nil)))))))))))
    have y7 : Sx s H6 _ := Sx.new (o := .lst [.bl true, .bl false, .non, .str "1", .str "", .ref p1, .ref p2, .ref p3, .ref p4, .ref p5, .ref p6]) h7
    replace dl := DaL.mono (y7.newOf H) _ _ dl
    have x7 := x6.trans y7
    have st7 := st6.new (o := .lst [.bl true, .bl false, .non, .str "1", .str "", .ref p1, .ref p2, .ref p3, .ref p4, .ref p5, .ref p6]) h7
    have u7 := upd_same (H := H6) (a := p7) (o := .lst [.bl true, .bl false, .non, .str "1", .str "", .ref p1, .ref p2, .ref p3, .ref p4, .ref p5, .ref p6])
    clear y7
    generalize upd H6 p7 (.lst [.bl true, .bl false, .non, .str "1", .str "", .ref p1, .ref p2, .ref p3, .ref p4, .ref p5, .ref p6]) = H7 at *
    walk_at "go"
    refine g_lenL (SqL.of u7) ?_
    walk_at "go"
    refine take_go st7 (big_of (by show ((11 : Nat) : Int) ≤ 1000000000; decide)) fun r H8 r0 r1 x8 st8 => ?_
    have u8 := x8.kp _ _ (st6.ne h7) u7
    obtain ⟨d, v, e, hd, hb⟩ := at_da (f := badInt) (DaL.mono (x8.newOf H) _ _ dl) r0 (by rcases r1 with h | h; (rw [h]; decide); exact h) (by decide +kernel)
    refine g_ixL (SqL.of u8) e ?_
    walk_at "go"
    exact k d v _ hb hd (x7.trans x8) st8
theorem ok_not_text (T : Txt K mg) : FnOk P w K mg base CX0 173 T.dnot_text.f T.dnot_text.fd P_not_text (spOdd K badTxt) := by
  have G_edge : FnOk P w K mg base CX0 172 T.dedge.f T.dedge.fd P_edge (spTakeB K) := ok_edge T
  refine T.dnot_text.F.ok sc_not_text (fun vs H Q E h => ?_) (fun cdv A outer s_ H vs Q E hr h => ?_)
  · obtain ⟨s, rfl, _⟩ := h
    rfl
  · obtain ⟨s, rfl, st, k⟩ := h
    refine ⟨_, (pss_cons (ps_set (i := 1) sc_not_text.nd rfl (by first | exact .inl rfl | exact .inr rfl) (pe_lst (pa_cons pe_non (pa_cons pe_bl (pa_cons pe_int (pa_cons pe_int (pa_cons (pe_lst pa_nil) (pa_cons (pe_lst (pa_cons pe_str pa_nil)) (pa_cons (pe_tup (pa_cons pe_str pa_nil)) (pa_cons (pe_tup pa_nil) (pa_cons pe_dnewK (pa_cons (pe_tup (pa_cons pe_int (pa_cons pe_int pa_nil))) pa_nil))))))))))))
      (pss_one (ps_ret (pe_ix ix_list (pv 1) (pe_call G_edge (hr.mono (by omega)) rfl T.dedge.g T.dedge.F.kp T.dedge.b .nil pass0 (pa_cons (pv 0) (pa_cons (pe_callB c_len (by rfl) T.m_len bt_len (pa_cons (pv 1) pa_nil)) pa_nil))) (fun _ _ => rfl))))), ?_⟩
    try dsimp only [cxOf, Cx.nox, Cx.wish]
    have x0 := Sx.refl s H
    walk_at "go"
    refine ⟨by show 0 ≤ sizeLine; decide, fun p1 h1 => ?_⟩
    have d1 := Da.lstN st (st.free x0 h1) h1 (l := []) .nil
    have y1 : Sx s H _ := Sx.new (o := .lst []) h1
    have x1 := x0.trans y1
    have st1 := st.new (o := .lst []) h1
    clear y1
    generalize upd H p1 (.lst []) = H1 at *
    walk_at "go"
    refine ⟨by show 1 ≤ sizeLine; decide, fun p2 h2 => ?_⟩
    have d2 := Da.lstN st1 (st1.free x1 h2) h2 (l := [.str "a"]) (.cons rfl .nil)
    have y2 : Sx s H1 _ := Sx.new (o := .lst [.str "a"]) h2
    replace d1 := Da.mono (y2.newOf H) _ _ d1
    have x2 := x1.trans y2
    have st2 := st1.new (o := .lst [.str "a"]) h2
    clear y2
    generalize upd H1 p2 (.lst [.str "a"]) = H2 at *
    walk_at "go"
    refine ⟨by show 1 ≤ sizeLine; decide, fun p3 h3 => ?_⟩
    have d3 := Da.tupN st2 (st2.free x2 h3) h3 (l := [.str "a"]) (.cons rfl .nil)
    have y3 : Sx s H2 _ := Sx.new (o := .tup [.str "a"]) h3
    replace d1 := Da.mono (y3.newOf H) _ _ d1
    replace d2 := Da.mono (y3.newOf H) _ _ d2
    have x3 := x2.trans y3
    have st3 := st2.new (o := .tup [.str "a"]) h3
    clear y3
    generalize upd H2 p3 (.tup [.str "a"]) = H3 at *
    walk_at "go"
    refine ⟨by show 0 ≤ sizeLine; decide, fun p4 h4 => ?_⟩
    have d4 := Da.tupN st3 (st3.free x3 h4) h4 (l := []) .nil
    have y4 : Sx s H3 _ := Sx.new (o := .tup []) h4
    replace d1 := Da.mono (y4.newOf H) _ _ d1
    replace d2 := Da.mono (y4.newOf H) _ _ d2
    replace d3 := Da.mono (y4.newOf H) _ _ d3
    have x4 := x3.trans y4
    have st4 := st3.new (o := .tup []) h4
    clear y4
    generalize upd H3 p4 (.tup []) = H4 at *
    walk_at "go"
    refine fun p5 h5 => ?_
    have d5 := Da.dctN st4 (st4.free x4 h5) h5
    have y5 : Sx s H4 _ := Sx.new (o := .dK []) h5
    replace d1 := Da.mono (y5.newOf H) _ _ d1
    replace d2 := Da.mono (y5.newOf H) _ _ d2
    replace d3 := Da.mono (y5.newOf H) _ _ d3
    replace d4 := Da.mono (y5.newOf H) _ _ d4
    have x5 := x4.trans y5
    have st5 := st4.new (o := .dK []) h5
    clear y5
    generalize upd H4 p5 (.dK []) = H5 at *
    walk_at "go"
    refine ⟨by show 2 ≤ sizeLine; decide, fun p6 h6 => ?_⟩
    have d6 := Da.tupN st5 (st5.free x5 h6) h6 (l := [.int 1, .int 1]) (.cons rfl (.cons rfl .nil))
    have y6 : Sx s H5 _ := Sx.new (o := .tup [.int 1, .int 1]) h6
    replace d1 := Da.mono (y6.newOf H) _ _ d1
    replace d2 := Da.mono (y6.newOf H) _ _ d2
    replace d3 := Da.mono (y6.newOf H) _ _ d3
    replace d4 := Da.mono (y6.newOf H) _ _ d4
    replace d5 := Da.mono (y6.newOf H) _ _ d5
    have x6 := x5.trans y6
    have st6 := st5.new (o := .tup [.int 1, .int 1]) h6
    clear y6
    generalize upd H5 p6 (.tup [.int 1, .int 1]) = H6 at *
    walk_at "go"
    refine ⟨by show 10 ≤ sizeLine; decide, fun p7 h7 => ?_⟩
    have dl : DaL s (newOf H H6) [.non, .bl true, .int 0, .int 1, .lst [], .lst [.str "a"], .tup [.str "a"], .tup [], .dct, .tup [.int 1, .int 1]] _ := (.cons rfl (.cons rfl (.cons rfl (.cons rfl (.cons d1 (.cons d2 (.cons d3 (.cons d4 (.cons d5 (.cons d6 .nil))))))))))
    have y7 : Sx s H6 _ := Sx.new (o := .lst [.non, .bl true, .int 0, .int 1, .ref p1, .ref p2, .ref p3, .ref p4, .ref p5, .ref p6]) h7
    replace dl := DaL.mono (y7.newOf H) _ _ dl
    have x7 := x6.trans y7
    have st7 := st6.new (o := .lst [.non, .bl true, .int 0, .int 1, .ref p1, .ref p2, .ref p3, .ref p4, .ref p5, .ref p6]) h7
    have u7 := upd_same (H := H6) (a := p7) (o := .lst [.non, .bl true, .int 0, .int 1, .ref p1, .ref p2, .ref p3, .ref p4, .ref p5, .ref p6])
    clear y7
    generalize upd H6 p7 (.lst [.non, .bl true, .int 0, .int 1, .ref p1, .ref p2, .ref p3, .ref p4, .ref p5, .ref p6]) = H7 at *
    walk_at "go"
    refine g_lenL (SqL.of u7) ?_
    walk_at "go"
    refine take_go st7 (big_of (by show ((10 : Nat) : Int) ≤ 1000000000; decide)) fun r H8 r0 r1 x8 st8 => ?_
    have u8 := x8.kp _ _ (st6.ne h7) u7
    obtain ⟨d, v, e, hd, hb⟩ := at_da (f := badTxt) (DaL.mono (x8.newOf H) _ _ dl) r0 (by rcases r1 with h | h; (rw [h]; decide); exact h) (by decide +kernel)
    refine g_ixL (SqL.of u8) e ?_
    walk_at "go"
    exact k d v _ hb hd (x7.trans x8) st8
end
end My
namespace My
open PySem PySem.Spec PyProof.Rows L2
/-! ### texts -/
def Free (x : Str) : Prop := 32 ∉ x.cps.toList ∧ 10 ∉ x.cps.toList
theorem joinL_mem {c : Nat} {S : List Nat} : ∀ {ls : List (List Nat)}, c ∈ TL.joinL S ls → c ∈ S ∨ ∃ l ∈ ls, c ∈ l
  | [], h => by cases h
  | [p], h => .inr ⟨p, List.mem_singleton.mpr rfl, h⟩
  | p :: q :: r, h => by
    rcases List.mem_append.mp (show c ∈ p ++ (S ++ TL.joinL S (q :: r)) from h) with h | h
    · exact .inr ⟨p, List.mem_cons_self .., h⟩
    rcases List.mem_append.mp h with h | h
    · exact .inl h
    rcases joinL_mem h with h | ⟨l, h1, h2⟩
    · exact .inl h
    · exact .inr ⟨l, List.mem_cons_of_mem _ h1, h2⟩
theorem joinL_len {S : List Nat} : ∀ {ls : List (List Nat)}, (TL.joinL S ls).length ≤ (ls.map List.length).sum + ls.length * S.length
  | [] => Nat.zero_le _
  | [p] => by
    show p.length ≤ _
    simp
  | p :: q :: r => by
    have e : (TL.joinL S (p :: q :: r)).length = p.length + (S.length + (TL.joinL S (q :: r)).length) := by
      show (p ++ (S ++ TL.joinL S (q :: r))).length = _
      rw [List.length_append, List.length_append]
    have ih := joinL_len (S := S) (ls := q :: r)
    rw [e, List.map_cons, List.sum_cons, List.length_cons (a := p), Nat.succ_mul]
    omega
theorem joinL_flat : ∀ ls : List (List Nat), TL.joinL [] ls = ls.flatten
  | [] => rfl
  | [p] => by
    show p = [p].flatten
    simp
  | p :: q :: r => by
    show p ++ ([] ++ TL.joinL [] (q :: r)) = _
    rw [joinL_flat (q :: r), List.nil_append, List.flatten_cons (l := p)]
theorem join_tl (y : Str) (ps : List Str) : (Txt.join y ps).cps.toList = TL.joinL y.cps.toList (ps.map fun p => p.cps.toList) := by
  rw [TL.join_eq]
  exact TL.tl_join y ps
theorem join_mem {c : Nat} {y : Str} {ps : List Str} (h : c ∈ (Txt.join y ps).cps.toList) : c ∈ y.cps.toList ∨ ∃ p ∈ ps, c ∈ p.cps.toList := by
  rw [join_tl] at h
  rcases joinL_mem h with h | ⟨l, h1, h2⟩
  · exact .inl h
  · obtain ⟨p, h3, h4⟩ := List.mem_map.mp h1
    subst h4
    exact .inr ⟨p, h3, h2⟩
theorem join_len (y : Str) (ps : List Str) : (Txt.join y ps).length ≤ (ps.map (·.length)).sum + ps.length * y.length := by
  rw [str_len, join_tl]
  have h := joinL_len (S := y.cps.toList) (ls := ps.map fun p => p.cps.toList)
  rw [List.map_map, List.length_map] at h
  have e : ((fun p : List Nat => p.length) ∘ fun p : Str => p.cps.toList) = fun p : Str => p.length := funext fun p => (str_len p).symm
  have e2 : (List.length ∘ fun p : Str => p.cps.toList) = fun p : Str => p.length := e
  rw [e2] at h
  rw [str_len y]
  exact h
theorem sp_tl : (" " : Str).cps.toList = [32] := by decide +kernel
theorem kind_sp (x : Str) : ¬ Builtin.Str.strKind x < Builtin.Str.strKind (" " : Str) := by
  have e : Builtin.Str.strKind (" " : Str) = 1 := by decide +kernel
  rw [e]
  unfold Builtin.Str.strKind
  repeat (first | omega | split)
theorem str_ext {x y : Str} (h : x.cps.toList = y.cps.toList) : x = y := by
  cases x
  cases y
  exact congrArg _ (Array.toList_inj.mp h)
theorem map_tl_inj : ∀ {ps qs : List Str}, ps.map (fun p => p.cps.toList) = qs.map (fun p => p.cps.toList) → ps = qs
  | [], [], _ => rfl
  | [], _ :: _, h => by cases h
  | _ :: _, [], h => by cases h
  | p :: ps, q :: qs, h => by
    rw [List.map_cons, List.map_cons] at h
    injection h with h1 h2
    rw [str_ext h1, map_tl_inj h2]
theorem split_join {ps : List Str} (hn : ps ≠ []) (hf : ∀ p ∈ ps, 32 ∉ p.cps.toList) : Txt.split (Txt.join " " ps) " " = ps := by
  refine map_tl_inj ?_
  have h := TL.split_spl (Txt.join " " ps) " " (by show (" " : Str).cps.toList ≠ []; rw [sp_tl]; exact List.cons_ne_nil _ _) (kind_sp _)
  have e : (Txt.split (Txt.join " " ps) " ").map (fun p => p.cps.toList) = TL.spl [32] 0 [] (TL.joinL [32] (ps.map fun p => p.cps.toList)) := by
    have e1 : TL.tl (" " : Str) = [32] := sp_tl
    have e2 : TL.tl (Txt.join " " ps) = TL.joinL [32] (ps.map fun p => p.cps.toList) := by
      rw [← sp_tl]
      exact join_tl " " ps
    rw [e1, e2] at h
    exact h
  rw [e]
  refine TL.spl_join (by intro z; exact hn (List.map_eq_nil_iff.mp z)) fun p hp => ?_
  obtain ⟨q, hq, e3⟩ := List.mem_map.mp hp
  rw [← e3]
  exact hf q hq
theorem replL1 (a b : Nat) : ∀ l : List Nat, StrLaws.replL [a] [b] l = l.map fun c => if c = a then b else c
  | [] => StrLaws.replL_nil
  | c :: r => by
    by_cases h : c = a
    · subst h
      rw [StrLaws.replL_hit (List.cons_ne_nil _ _) rfl, List.map_cons, if_pos rfl]
      show [b] ++ StrLaws.replL [c] [b] r = _
      rw [replL1 c b r]
      rfl
    · rw [StrLaws.replL_miss (by
        intro e
        have e2 : [c] = [a] := e
        injection e2 with e3
        exact h e3), List.map_cons, if_neg h, replL1 a b r]
theorem rep1 {x y z : Str} {a b : Nat} (hy : y.cps.toList = [a]) (hz : z.cps.toList = [b]) : (Txt.replace x y z).cps.toList = x.cps.toList.map fun c => if c = a then b else c := by
  rw [StrLaws.replace_list (by rw [str_len, hy]; exact Nat.le_refl 1), hy, hz, replL1]
theorem ones_mem {c : Nat} {ys : List Str} {M : List Nat} (h : ∀ y ∈ ys, ∃ c ∈ M, y = ⟨#[c]⟩) (hc : c ∈ (Txt.join "" ys).cps.toList) : c ∈ M := by
  rcases join_mem hc with h1 | ⟨p, h1, h2⟩
  · have e : ("" : Str).cps.toList = [] := by decide +kernel
    rw [e] at h1
    cases h1
  · obtain ⟨d, h3, h4⟩ := h p h1
    subst h4
    rw [show c = d from List.mem_singleton.mp h2]
    exact h3
theorem ones_len {ys : List Str} {M : List Nat} (h : ∀ y ∈ ys, ∃ c ∈ M, y = ⟨#[c]⟩) : (Txt.join "" ys).length = ys.length ∧ (ys.map (·.length)).sum = ys.length := by
  have h1 : ∀ y ∈ ys, y.length = 1 := fun y hy => by
    obtain ⟨c, _, e⟩ := h y hy
    rw [e]
    rfl
  have e : (ys.map (·.length)).sum = ys.length := by
    clear h
    induction ys with
    | nil => rfl
    | cons y r ih => rw [List.map_cons, List.sum_cons, h1 y (List.mem_cons_self ..), ih fun z hz => h1 z (List.mem_cons_of_mem _ hz), List.length_cons, Nat.add_comm]
  refine ⟨?_, e⟩
  have e0 : ("" : Str).cps.toList = [] := by decide +kernel
  have e2 : (List.length ∘ fun p : Str => p.cps.toList) = fun p : Str => p.length := funext fun p => (str_len p).symm
  rw [str_len, join_tl, e0, joinL_flat, List.length_flatten, List.map_map, e2, e]
theorem at_get {xs : List Nat} {i : Int} (h0 : 0 ≤ i) (h1 : i < xs.length) : ∃ c ∈ xs, atI xs i = some c := by
  obtain ⟨j, rfl⟩ : ∃ j : Nat, i = j := ⟨i.toNat, by omega⟩
  have hj : j < xs.length := by omega
  exact ⟨xs[j], List.getElem_mem hj, atI_nat (List.getElem?_eq_getElem hj)⟩
theorem g_yes {σ : L2.St} {H : Hp} {Q : Bool → Hp → Prop} (h : Q true H) : tYes σ H Q := h
local macro_rules | `(tactic| walk_at "arith") => `(tactic| first
  | (with_reducible show _ ≠ _; omega)
  | (unfold CMul; omega)
  | (unfold CPow; omega)
  | (unfold CPow; decide)
  | exact wide_div (b := 100) (by decide) (by decide) (by decide) (by decide))
local macro_rules | `(tactic| walk_at "go") => `(tactic| repeat (first
  | with_reducible refine g_seq ?_
  | with_reducible refine g_asg ?_
  | with_reducible refine g_name ?_
  | with_reducible refine g_sub ?_
  | with_reducible refine g_ret ?_
  | with_reducible refine g_drop ?_
  | ((with_reducible refine g_next ?_); dsimp only)
  | with_reducible refine g_if ?_
  | with_reducible refine g_var rfl ?_
  | with_reducible refine g_c ?_
  | with_reducible refine g_op ?_
  | with_reducible refine g_un ?_
  | with_reducible refine g_I0 ?_
  | with_reducible refine g_U ?_
  | with_reducible refine g_eq rfl ?_
  | with_reducible refine g_test ?_
  | with_reducible refine g_bl ?_
  | with_reducible refine iteF ?_
  | with_reducible refine iteT ?_
  | ((with_reducible apply g_iteT); (case e => rfl))
  | ((with_reducible apply g_iteF); (case e => rfl))
  | with_reducible refine g_int1 ?_
  | with_reducible refine g_max2 ?_
  | with_reducible refine g_min2 ?_
  | with_reducible refine g_isN ?_
  | with_reducible refine g_notN ?_
  | ((with_reducible apply g_lenL); (case hs => assumption))
  | ((with_reducible apply g_ixL); (case hs => exact SqL.of (by assumption)); (case ha => rfl))
  | with_reducible refine g_pow9 ?_
  | with_reducible refine g_pow18 ?_
  | ((with_reducible apply g_I); (case c => walk_at "arith"))
  | ((with_reducible apply g_st); (case hs => assumption); (case hL => assumption); (case ne => assumption); (case x0 => assumption); (case hj => rfl); (case j0 => decide); intro _ _ _ _)
  | with_reducible refine g_and ?_
  | with_reducible refine g_or ?_
  | with_reducible refine g_not ?_
  | with_reducible refine g_nil ?_
  | with_reducible refine g_cons ?_
  | with_reducible refine g_callB ?_
  | with_reducible refine g_call ?_
  | with_reducible refine g_tup ?_
  | with_reducible refine g_lst ?_
  | with_reducible refine g_andV ?_
  | with_reducible refine g_orV ?_
  | with_reducible refine g_notV ?_
  | with_reducible refine g_tB ?_
  | with_reducible refine g_ne rfl ?_
  | with_reducible refine g_abs ?_
  | with_reducible refine g_isB ?_
  | with_reducible refine g_for ?_
  | with_reducible refine g_rng1 ?_
  | with_reducible refine g_rng2 ?_
  | with_reducible refine g_iList ?_
  | ((with_reducible refine g_break ?_); dsimp only)
  | ((with_reducible refine g_cont ?_); dsimp only)
  | with_reducible refine g_retN ?_
  | ((with_reducible apply isi_go (T := "int")); (case h => assumption); (case hb => exact k_int_ _))
  | ((with_reducible apply isi_go (T := "str")); (case h => assumption); (case hb => exact k_str_ _))
  | ((with_reducible apply isi_go (T := "bool")); (case h => assumption); (case hb => exact k_bool_ _))
  | ((with_reducible apply isi_go (T := "list")); (case h => assumption); (case hb => exact k_list_ _))
  | ((with_reducible apply isi_go (T := "tuple")); (case h => assumption); (case hb => exact k_tuple_ _))
  | ((with_reducible apply isi_go (T := "dict")); (case h => assumption); (case hb => exact k_dict_ _))
  | with_reducible refine g_intb ?_
  | with_reducible refine g_bm ?_
  | with_reducible refine g_tyS ?_
  | ((with_reducible apply g_tyL); (case hs => assumption))
  | with_reducible refine g_lc ?_
  | with_reducible refine g_sl ?_
  | with_reducible refine g_noP ?_
  | with_reducible refine g_part ?_
  | with_reducible refine g_pI ?_))

def spTail (K : PySem.W.Frag) : Sp := fun vs H Q _ => ∃ (s : Addr) (n : Nat), vs = [.ref s, .int n] ∧ Store K H s ∧ n ≤ 1000 ∧
  ∀ (x : Str) (H' : Hp), x.length = n → Free x → Sx s H H' → Store K H' s → Q (.str x) H'
def spText (K : PySem.W.Frag) : Sp := fun vs H Q _ => ∃ (s : Addr) (n : Nat), vs = [.ref s, .int n] ∧ Store K H s ∧ n ≤ 1000 ∧
  ∀ (x : Str) (H' : Hp), x.length = n → Sx s H H' → Store K H' s → Q (.str x) H'
abbrev s_tail : Stmt := topS 19
abbrev N_tail : List Str := ["store", "size", "marks", "k"]
abbrev P_tail : List Str := ["store", "size"]
theorem sc_tail : FnScope N_tail P_tail (defScope s_tail) := ⟨rfl, rfl, rfl, by decide +kernel, rfl, by decide +kernel, by decide +kernel⟩

abbrev s_text : Stmt := topS 20
abbrev N_text : List Str := ["store", "size", "marks", "k"]
abbrev P_text : List Str := ["store", "size"]
theorem sc_text : FnScope N_text P_text (defScope s_text) := ⟨rfl, rfl, rfl, by decide +kernel, rfl, by decide +kernel, by decide +kernel⟩

section
variable {P : Program} {w : World} {K : PySem.W.Frag} {mg : Str → Option Value} {base : Heap}
theorem ok_tail (T : Txt K mg) : FnOk P w K mg base CX0 172 T.dtail.f T.dtail.fd P_tail (spTail K) := by
  have G_take : FnOk P w K mg base CX0 171 T.dtake.f T.dtake.fd P_take (spTakeB K) := ok_takeB T
  refine T.dtail.F.ok sc_tail (fun vs H Q E h => ?_) (fun cdv A outer s_ H vs Q E hr h => ?_)
  · obtain ⟨s, n, rfl, _⟩ := h
    rfl
  · obtain ⟨s, n, rfl, st, hn, k⟩ := h
    refine ⟨_, (pss_cons (ps_set (i := 2) sc_tail.nd rfl (by first | exact .inl rfl | exact .inr rfl) pe_str)
      (pss_one (ps_ret (pe_bm PySem.F.plainAttrs_str PySem.F.slot_str_join PySem.F.type_str_join mt_join pe_str (pa_cons (pe_lc (own := [("k", 3)]) (g := gName 3) (tt := tYes) rfl sc_tail.nd (pi_range1 rfl T.m_range (pa_cons (pv 1) pa_nil)) (blkOk_by (own := [("k", 3)]) (N := N_tail) (sc := defScope s_tail) (by decide +kernel)) (fun _ _ _ _ _ => (pg_name (i := 3) sc_tail.nd rfl (by first | exact .inl rfl | exact .inr rfl))) (fun _ _ _ _ _ => pts_nil) (fun _ _ _ _ _ => (pe_ix ix_str (pv 2) (pe_call G_take (hr.mono (by omega)) rfl T.dtake.g T.dtake.F.kp T.dtake.b .nil pass0 (pa_cons (pv 0) (pa_cons pe_int pa_nil))) (fun _ _ => rfl)))) pa_nil))))), ?_⟩
    try dsimp only [cxOf, Cx.nox, Cx.wish]
    walk_at "go"
    generalize hM : Str.ofString "abcdefghijklmnopqrstuvwxyz0123456789" = M
    have hf : ∀ c ∈ M.cps.toList, c ≠ 32 ∧ c ≠ 10 := by
      rw [← hM]
      decide +kernel
    have hl : M.length = 36 := by
      rw [← hM]
      decide +kernel
    refine ⟨_, rfl, by omega, by omega, fun D0 hD => ?_⟩
    refine lc_range (n := n) (fun i H' => ∃ ys : List Str, H' D0 = some (.lst (ys.map V.str)) ∧ ys.length = i ∧ (∀ y ∈ ys, ∃ c ∈ M.cps.toList, y = ⟨#[c]⟩) ∧ Sx s H H' ∧ Store K H' s)
      ⟨[], upd_same, rfl, fun _ h => (nomatch h), (Sx.refl s H).mut hD, st.new hD⟩ ?_ ?_
    · rintro i H1 hi ⟨ys, h1, h2, h3, x1, st1⟩
      walk_at "go"
      refine ⟨rfl, ?_⟩
      refine g_yes ?_
      walk_at "go"
      refine take_go st1 (big_of (by decide)) fun r H2 r0 r1 x2 st2 => ?_
      obtain ⟨c, hc, ha⟩ := at_get (xs := M.cps.toList) (i := r) r0 (by rw [← str_len, hl]; rcases r1 with h | h; (rw [h]; decide); exact h)
      refine ⟨M, r, c, rfl, rfl, by rw [hl]; decide, ha, ?_⟩
      refine ⟨_, x2.kp _ _ (st.ne hD) h1, by rw [List.length_map, sizeLine_eq]; omega, ys ++ [⟨#[c]⟩], ?_, ?_, ?_, (x1.trans x2).mut hD, st.mut (x1.trans x2) st2 hD⟩
      · rw [upd_same, List.map_append]
        rfl
      · rw [List.length_append, h2]
        rfl
      · intro y hy
        rcases List.mem_append.mp hy with h | h
        · exact h3 y h
        · exact ⟨c, hc, List.mem_singleton.mp h⟩
    · rintro H1 ⟨ys, h1, h2, h3, x1, st1⟩
      obtain ⟨e1, e2⟩ := ones_len h3
      walk_at "go"
      refine ⟨_, D0, ys, rfl, rfl, .inl (SqL.of h1), by rw [e2, h2, show (Str.ofString "").length = 0 from rfl]; omega, ?_⟩
      refine k _ H1 (by rw [e1, h2]) ⟨fun z => ?_, fun z => ?_⟩ x1 st1
      · exact (hf _ (ones_mem h3 z)).1 rfl
      · exact (hf _ (ones_mem h3 z)).2 rfl
end
end My
namespace My
open PySem PySem.Spec PyProof.Rows L2
local macro_rules | `(tactic| walk_at "arith") => `(tactic| first
  | (with_reducible show _ ≠ _; omega)
  | (unfold CMul; omega)
  | (unfold CPow; omega)
  | (unfold CPow; decide)
  | exact wide_div (b := 100) (by decide) (by decide) (by decide) (by decide))
local macro_rules | `(tactic| walk_at "go") => `(tactic| repeat (first
  | with_reducible refine g_seq ?_
  | with_reducible refine g_asg ?_
  | with_reducible refine g_name ?_
  | with_reducible refine g_sub ?_
  | with_reducible refine g_ret ?_
  | with_reducible refine g_drop ?_
  | ((with_reducible refine g_next ?_); dsimp only)
  | with_reducible refine g_if ?_
  | with_reducible refine g_var rfl ?_
  | with_reducible refine g_c ?_
  | with_reducible refine g_op ?_
  | with_reducible refine g_un ?_
  | with_reducible refine g_I0 ?_
  | with_reducible refine g_U ?_
  | with_reducible refine g_eq rfl ?_
  | with_reducible refine g_test ?_
  | with_reducible refine g_bl ?_
  | with_reducible refine iteF ?_
  | with_reducible refine iteT ?_
  | ((with_reducible apply g_iteT); (case e => rfl))
  | ((with_reducible apply g_iteF); (case e => rfl))
  | with_reducible refine g_int1 ?_
  | with_reducible refine g_max2 ?_
  | with_reducible refine g_min2 ?_
  | with_reducible refine g_isN ?_
  | with_reducible refine g_notN ?_
  | ((with_reducible apply g_lenL); (case hs => assumption))
  | ((with_reducible apply g_ixL); (case hs => exact SqL.of (by assumption)); (case ha => rfl))
  | with_reducible refine g_pow9 ?_
  | with_reducible refine g_pow18 ?_
  | ((with_reducible apply g_I); (case c => walk_at "arith"))
  | ((with_reducible apply g_st); (case hs => assumption); (case hL => assumption); (case ne => assumption); (case x0 => assumption); (case hj => rfl); (case j0 => decide); intro _ _ _ _)
  | with_reducible refine g_and ?_
  | with_reducible refine g_or ?_
  | with_reducible refine g_not ?_
  | with_reducible refine g_nil ?_
  | with_reducible refine g_cons ?_
  | with_reducible refine g_callB ?_
  | with_reducible refine g_call ?_
  | with_reducible refine g_tup ?_
  | with_reducible refine g_lst ?_
  | with_reducible refine g_andV ?_
  | with_reducible refine g_orV ?_
  | with_reducible refine g_notV ?_
  | with_reducible refine g_tB ?_
  | with_reducible refine g_ne rfl ?_
  | with_reducible refine g_abs ?_
  | with_reducible refine g_isB ?_
  | with_reducible refine g_for ?_
  | with_reducible refine g_rng1 ?_
  | with_reducible refine g_rng2 ?_
  | with_reducible refine g_iList ?_
  | ((with_reducible refine g_break ?_); dsimp only)
  | ((with_reducible refine g_cont ?_); dsimp only)
  | with_reducible refine g_retN ?_
  | ((with_reducible apply isi_go (T := "int")); (case h => assumption); (case hb => exact k_int_ _))
  | ((with_reducible apply isi_go (T := "str")); (case h => assumption); (case hb => exact k_str_ _))
  | ((with_reducible apply isi_go (T := "bool")); (case h => assumption); (case hb => exact k_bool_ _))
  | ((with_reducible apply isi_go (T := "list")); (case h => assumption); (case hb => exact k_list_ _))
  | ((with_reducible apply isi_go (T := "tuple")); (case h => assumption); (case hb => exact k_tuple_ _))
  | ((with_reducible apply isi_go (T := "dict")); (case h => assumption); (case hb => exact k_dict_ _))
  | with_reducible refine g_intb ?_
  | with_reducible refine g_bm ?_
  | with_reducible refine g_tyS ?_
  | ((with_reducible apply g_tyL); (case hs => assumption))
  | with_reducible refine g_lc ?_
  | with_reducible refine g_sl ?_
  | with_reducible refine g_noP ?_
  | with_reducible refine g_part ?_
  | with_reducible refine g_pI ?_))

abbrev s_line : Stmt := topS 28
abbrev N_line : List Str := ["store", "good", "line"]
abbrev P_line : List Str := ["store", "good"]
theorem sc_line : FnScope N_line P_line (defScope s_line) := ⟨rfl, rfl, rfl, by decide +kernel, rfl, by decide +kernel, by decide +kernel⟩

abbrev s_no_row : Stmt := topS 29
abbrev N_no_row : List Str := ["store", "row", "at", "way"]
abbrev P_no_row : List Str := ["store", "row"]
theorem sc_no_row : FnScope N_no_row P_no_row (defScope s_no_row) := ⟨rfl, rfl, rfl, by decide +kernel, rfl, by decide +kernel, by decide +kernel⟩

abbrev s_due : Stmt := topS 27
abbrev N_due : List Str := ["pieces", "line", "out", "at", "piece"]
abbrev P_due : List Str := ["pieces", "line"]
theorem sc_due : FnScope N_due P_due (defScope s_due) := ⟨rfl, rfl, rfl, by decide +kernel, rfl, by decide +kernel, by decide +kernel⟩

/-- "", one with a newline, or no text -/
def badRow (d : D) : Prop := badTxt d = true ∨ ∃ z : Str, d = .str z ∧ z.length ≤ 900000 ∧ (z = "" ∨ 10 ∈ z.cps.toList)
def spLine (K : PySem.W.Frag) : Sp := fun vs H Q _ => ∃ (s : Addr) (g : Bool), vs = [.ref s, .bl g] ∧ Store K H s ∧
  ∀ (n : Int) (H' : Hp), (g = true → 1 ≤ n) → (g = false → n ≤ 0) → Sx s H H' → Store K H' s → Q (.int n) H'
def spNoRow (K : PySem.W.Frag) : Sp := fun vs H Q _ => ∃ (s : Addr) (row : Str), vs = [.ref s, .str row] ∧ Store K H s ∧ row.length ≤ 300000 ∧
  ∀ (d : D) (v : V) (H' : Hp), badRow d → Da s (newOf H H') d v → Sx s H H' → Store K H' s → Q v H'
section
variable {P : Program} {w : World} {K : PySem.W.Frag} {mg : Str → Option Value} {base : Heap}
theorem ok_text (T : Txt K mg) : FnOk P w K mg base CX0 173 T.dtext.f T.dtext.fd P_text (spText K) := by
  have G_edge : FnOk P w K mg base CX0 172 T.dedge.f T.dedge.fd P_edge (spTakeB K) := ok_edge T
  refine T.dtext.F.ok sc_text (fun vs H Q E h => ?_) (fun cdv A outer s_ H vs Q E hr h => ?_)
  · obtain ⟨s, n, rfl, _⟩ := h
    rfl
  · obtain ⟨s, n, rfl, st, hn, k⟩ := h
    refine ⟨_, (pss_cons (ps_set (i := 2) sc_text.nd rfl (by first | exact .inl rfl | exact .inr rfl) pe_str)
      (pss_one (ps_ret (pe_bm PySem.F.plainAttrs_str PySem.F.slot_str_join PySem.F.type_str_join mt_join pe_str (pa_cons (pe_lc (own := [("k", 3)]) (g := gName 3) (tt := tYes) rfl sc_text.nd (pi_range1 rfl T.m_range (pa_cons (pv 1) pa_nil)) (blkOk_by (own := [("k", 3)]) (N := N_text) (sc := defScope s_text) (by decide +kernel)) (fun _ _ _ _ _ => (pg_name (i := 3) sc_text.nd rfl (by first | exact .inl rfl | exact .inr rfl))) (fun _ _ _ _ _ => pts_nil) (fun _ _ _ _ _ => (pe_ix ix_str (pv 2) (pe_call G_edge (hr.mono (by omega)) rfl T.dedge.g T.dedge.F.kp T.dedge.b .nil pass0 (pa_cons (pv 0) (pa_cons (pe_callB c_lenS (by rfl) T.m_len bt_len (pa_cons (pv 2) pa_nil)) pa_nil))) (fun _ _ => rfl)))) pa_nil))))), ?_⟩
    try dsimp only [cxOf, Cx.nox, Cx.wish]
    walk_at "go"
    generalize hM : Str.ofString " !\"#$&'()*+,-./0123456789:;<=>?@ABCDEFGHIJKLMNOPQRSTUVWXYZ[\\]^_`abcdefghijklmnopqrstuvwxyz{|}~\n" = M
    have hl : M.length = 95 := by
      rw [← hM]
      decide +kernel
    refine ⟨_, rfl, by omega, by omega, fun D0 hD => ?_⟩
    refine lc_range (n := n) (fun i H' => ∃ ys : List Str, H' D0 = some (.lst (ys.map V.str)) ∧ ys.length = i ∧ (∀ y ∈ ys, ∃ c ∈ M.cps.toList, y = ⟨#[c]⟩) ∧ Sx s H H' ∧ Store K H' s)
      ⟨[], upd_same, rfl, fun _ h => (nomatch h), (Sx.refl s H).mut hD, st.new hD⟩ ?_ ?_
    · rintro i H1 hi ⟨ys, h1, h2, h3, x1, st1⟩
      walk_at "go"
      refine ⟨rfl, ?_⟩
      refine g_yes ?_
      walk_at "go"
      refine g_lenS (by rw [hl]; decide) ?_
      walk_at "go"
      refine take_go st1 (big_of (by rw [hl]; decide)) fun r H2 r0 r1 x2 st2 => ?_
      obtain ⟨c, hc, ha⟩ := at_get (xs := M.cps.toList) (i := r) r0 (by rw [← str_len, hl]; rw [hl] at r1; rcases r1 with h | h; (rw [h]; decide); exact h)
      refine ⟨M, r, c, rfl, rfl, by rw [hl]; decide, ha, ?_⟩
      refine ⟨_, x2.kp _ _ (st.ne hD) h1, by rw [List.length_map, sizeLine_eq]; omega, ys ++ [⟨#[c]⟩], ?_, ?_, ?_, (x1.trans x2).mut hD, st.mut (x1.trans x2) st2 hD⟩
      · rw [upd_same, List.map_append]
        rfl
      · rw [List.length_append, h2]
        rfl
      · intro y hy
        rcases List.mem_append.mp hy with h | h
        · exact h3 y h
        · exact ⟨c, hc, List.mem_singleton.mp h⟩
    · rintro H1 ⟨ys, h1, h2, h3, x1, st1⟩
      obtain ⟨e1, e2⟩ := ones_len h3
      walk_at "go"
      refine ⟨_, D0, ys, rfl, rfl, .inl (SqL.of h1), by rw [e2, h2, show (Str.ofString "").length = 0 from rfl]; omega, ?_⟩
      exact k _ H1 (by rw [e1, h2]) x1 st1
theorem ok_line (T : Txt K mg) : FnOk P w K mg base CX0 175 T.dline.f T.dline.fd P_line (spLine K) := by
  have G_integer : FnOk P w K mg base CX0 174 T.dinteger.f T.dinteger.fd P_integer (spInteger K) := ok_integer T
  have G_take : FnOk P w K mg base CX0 171 T.dtake.f T.dtake.fd P_take (spTakeB K) := ok_takeB T
  refine T.dline.F.ok sc_line (fun vs H Q E h => ?_) (fun cdv A outer s_ H vs Q E hr h => ?_)
  · obtain ⟨s, g, rfl, _⟩ := h
    rfl
  · obtain ⟨s, g, rfl, st, k⟩ := h
    refine ⟨_, (pss_cons (ps_set (i := 2) sc_line.nd rfl (by first | exact .inl rfl | exact .inr rfl) (pe_call G_integer (hr.mono (by omega)) rfl T.dinteger.g T.dinteger.F.kp T.dinteger.b .nil pass0 (pa_cons (pv 0) (pa_cons pe_int pa_nil))))
      (pss_cons (ps_set (i := 2) sc_line.nd rfl (by first | exact .inl rfl | exact .inr rfl) (pe_callB (c_max2 rfl) (by rfl) T.m_max bt_max (pa_cons (pv 2) (pa_cons (pe_un un_neg (pv 2)) pa_nil))))
      (pss_cons (ps_if (pt_val (pv 1))
        (pss_one (ps_ret (pe_callB (c_max2 rfl) (by rfl) T.m_max bt_max (pa_cons pe_int (pa_cons (pv 2) pa_nil)))))
        pss_nil)
      (pss_one (ps_ret (pe_ix ix_list (pe_lst (pa_cons pe_int (pa_cons (pe_un un_neg pe_int) (pa_cons (pe_un un_neg (pv 2)) pa_nil)))) (pe_call G_take (hr.mono (by omega)) rfl T.dtake.g T.dtake.F.kp T.dtake.b .nil pass0 (pa_cons (pv 0) (pa_cons pe_int pa_nil))) (fun _ _ => rfl))))))), ?_⟩
    try dsimp only [cxOf, Cx.nox, Cx.wish]
    walk_at "go"
    refine ⟨s, _, rfl, st, by decide, by decide, fun r H1 r0 r1 x1 st1 => ?_⟩
    walk_at "go"
    generalize hm : (if -r > r then -r else r) = m
    have m0 : 0 ≤ m := by
      subst hm
      split <;> omega
    refine g_ite (fun h => ?_) (fun h => ?_)
    · walk_at "go"
      refine k _ H1 (fun _ => ?_) (fun z => by rw [h] at z; cases z) x1 st1
      split <;> omega
    walk_at "go"
    refine ⟨by show 3 ≤ sizeLine; decide, fun p hp => ?_⟩
    walk_at "go"
    refine take_go (st1.new hp) (big_of (by decide)) fun j H2 j0 j1 x2 st2 => ?_
    have u2 := x2.kp _ _ (st1.ne hp) upd_same
    have e : j = 0 ∨ j = 1 ∨ j = 2 := by omega
    have x3 := (x1.trans (Sx.new (o := .lst [.int 0, .int (-1), .int (-m)]) hp)).trans x2
    rcases e with rfl | rfl | rfl
    · refine g_ixL (SqL.of u2) rfl ?_
      walk_at "go"
      exact k _ H2 (fun z => by rw [h] at z; cases z) (fun _ => by omega) x3 st2
    · refine g_ixL (SqL.of u2) rfl ?_
      walk_at "go"
      exact k _ H2 (fun z => by rw [h] at z; cases z) (fun _ => by omega) x3 st2
    · refine g_ixL (SqL.of u2) rfl ?_
      walk_at "go"
      exact k _ H2 (fun z => by rw [h] at z; cases z) (fun _ => by omega) x3 st2
theorem ok_no_row (T : Txt K mg) : FnOk P w K mg base CX0 174 T.dno_row.f T.dno_row.fd P_no_row (spNoRow K) := by
  have G_take : FnOk P w K mg base CX0 171 T.dtake.f T.dtake.fd P_take (spTakeB K) := ok_takeB T
  have G_edge : FnOk P w K mg base CX0 172 T.dedge.f T.dedge.fd P_edge (spTakeB K) := ok_edge T
  have G_not_text : FnOk P w K mg base CX0 173 T.dnot_text.f T.dnot_text.fd P_not_text (spOdd K badTxt) := ok_not_text T
  refine T.dno_row.F.ok sc_no_row (fun vs H Q E h => ?_) (fun cdv A outer s_ H vs Q E hr h => ?_)
  · obtain ⟨s, row, rfl, _⟩ := h
    rfl
  · obtain ⟨s, row, rfl, st, hl, k⟩ := h
    refine ⟨_, (pss_cons (ps_set (i := 2) sc_no_row.nd rfl (by first | exact .inl rfl | exact .inr rfl) (pe_call G_edge (hr.mono (by omega)) rfl T.dedge.g T.dedge.F.kp T.dedge.b .nil pass0 (pa_cons (pv 0) (pa_cons (pe_op op_add (pe_callB c_lenS (by rfl) T.m_len bt_len (pa_cons (pv 1) pa_nil)) pe_int) pa_nil))))
      (pss_cons (ps_set (i := 3) sc_no_row.nd rfl (by first | exact .inl rfl | exact .inr rfl) (pe_call G_take (hr.mono (by omega)) rfl T.dtake.g T.dtake.F.kp T.dtake.b .nil pass0 (pa_cons (pv 0) (pa_cons pe_int pa_nil))))
      (pss_cons (ps_if (pt_cmpR op_eq (pv 3) pe_int (nomark _))
        (pss_one (ps_ret (pe_call G_not_text (hr.mono (by omega)) rfl T.dnot_text.g T.dnot_text.F.kp T.dnot_text.b .nil pass0 (pa_cons (pv 0) pa_nil))))
        pss_nil)
      (pss_cons (ps_if (pt_cmpR op_eq (pv 3) pe_int (nomark _))
        (pss_one (ps_ret pe_str))
        pss_nil)
      (pss_one (ps_ret (pe_op o_addS (pe_op o_addS (pe_slice sl_str (pv 1) po_none (po_some (pv 2))) pe_str) (pe_slice sl_str (pv 1) (po_some (pv 2)) po_none)))))))), ?_⟩
    try dsimp only [cxOf, Cx.nox, Cx.wish]
    walk_at "go"
    refine g_lenS (by rw [sizeLine_eq]; omega) ?_
    walk_at "go"
    refine take_go st (big_of (by omega)) fun at_ H1 a0 a1 x1 st1 => ?_
    walk_at "go"
    refine take_go st1 (big_of (by decide)) fun way H2 w0 w1 x2 st2 => ?_
    have x12 := x1.trans x2
    walk_at "go"
    refine g_ite (fun h => ?_) (fun h => ?_)
    · walk_at "go"
      exact ⟨s, rfl, st2, fun d v H3 hd da x3 st3 => k d v H3 (.inl hd) (Da.mono (newOf_anti fun b hb => st2.free x12 hb) _ _ da) (x12.trans x3) st3⟩
    walk_at "go"
    refine g_ite (fun h => ?_) (fun h => ?_)
    · walk_at "go"
      exact k (.str "") _ H2 (.inr ⟨_, rfl, by decide, .inl rfl⟩) rfl x12 st2
    walk_at "go"
    refine ⟨row, rfl, by rw [sizeLine_eq]; omega, ?_⟩
    have c1 := cutS_length row none (some at_)
    have c2 := cutS_length row (some at_) none
    have hn : (Str.ofString "\n").cps.toList = [10] := by decide +kernel
    have hn1 : (Str.ofString "\n").length = 1 := by rw [str_len, hn]; rfl
    generalize cutS row none (some at_) = z1 at *
    walk_at "go"
    refine g_addS (by rw [sizeLine_eq]; omega) ?_
    walk_at "go"
    refine ⟨row, rfl, by rw [sizeLine_eq]; omega, ?_⟩
    generalize cutS row (some at_) none = z2 at *
    walk_at "go"
    have l1 : (z1 ++ Str.ofString "\n").length = z1.length + 1 := by
      rw [str_len, str_app, List.length_append, ← str_len, ← str_len, hn1]
    refine g_addS (by rw [sizeLine_eq]; omega) ?_
    walk_at "go"
    refine k (.str _) _ H2 (.inr ⟨_, rfl, ?_, .inr ?_⟩) rfl x12 st2
    · have l2 : (z1 ++ Str.ofString "\n" ++ z2).length = z1.length + 1 + z2.length := by
        rw [str_len, str_app, List.length_append, ← str_len, ← str_len, l1]
      omega
    · rw [str_app, str_app, hn]
      simp
end
end My
namespace My
open PySem PySem.Spec PyProof.Rows L2
local macro_rules | `(tactic| walk_at "arith") => `(tactic| first
  | (with_reducible show _ ≠ _; omega)
  | (unfold CMul; omega)
  | (unfold CPow; omega)
  | (unfold CPow; decide)
  | exact wide_div (b := 100) (by decide) (by decide) (by decide) (by decide))
local macro_rules | `(tactic| walk_at "go") => `(tactic| repeat (first
  | with_reducible refine g_seq ?_
  | with_reducible refine g_asg ?_
  | with_reducible refine g_name ?_
  | with_reducible refine g_sub ?_
  | with_reducible refine g_ret ?_
  | with_reducible refine g_drop ?_
  | ((with_reducible refine g_next ?_); dsimp only)
  | with_reducible refine g_if ?_
  | with_reducible refine g_var rfl ?_
  | with_reducible refine g_c ?_
  | with_reducible refine g_op ?_
  | with_reducible refine g_un ?_
  | with_reducible refine g_I0 ?_
  | with_reducible refine g_U ?_
  | with_reducible refine g_eq rfl ?_
  | with_reducible refine g_test ?_
  | with_reducible refine g_bl ?_
  | with_reducible refine iteF ?_
  | with_reducible refine iteT ?_
  | ((with_reducible apply g_iteT); (case e => rfl))
  | ((with_reducible apply g_iteF); (case e => rfl))
  | with_reducible refine g_int1 ?_
  | with_reducible refine g_max2 ?_
  | with_reducible refine g_min2 ?_
  | with_reducible refine g_isN ?_
  | with_reducible refine g_notN ?_
  | ((with_reducible apply g_lenL); (case hs => assumption))
  | ((with_reducible apply g_ixL); (case hs => exact SqL.of (by assumption)); (case ha => rfl))
  | with_reducible refine g_pow9 ?_
  | with_reducible refine g_pow18 ?_
  | ((with_reducible apply g_I); (case c => walk_at "arith"))
  | ((with_reducible apply g_st); (case hs => assumption); (case hL => assumption); (case ne => assumption); (case x0 => assumption); (case hj => rfl); (case j0 => decide); intro _ _ _ _)
  | with_reducible refine g_and ?_
  | with_reducible refine g_or ?_
  | with_reducible refine g_not ?_
  | with_reducible refine g_nil ?_
  | with_reducible refine g_cons ?_
  | with_reducible refine g_callB ?_
  | with_reducible refine g_call ?_
  | with_reducible refine g_tup ?_
  | with_reducible refine g_lst ?_
  | with_reducible refine g_andV ?_
  | with_reducible refine g_orV ?_
  | with_reducible refine g_notV ?_
  | with_reducible refine g_tB ?_
  | with_reducible refine g_ne rfl ?_
  | with_reducible refine g_abs ?_
  | with_reducible refine g_isB ?_
  | with_reducible refine g_for ?_
  | with_reducible refine g_rng1 ?_
  | with_reducible refine g_rng2 ?_
  | with_reducible refine g_iList ?_
  | ((with_reducible refine g_break ?_); dsimp only)
  | ((with_reducible refine g_cont ?_); dsimp only)
  | with_reducible refine g_retN ?_
  | ((with_reducible apply isi_go (T := "int")); (case h => assumption); (case hb => exact k_int_ _))
  | ((with_reducible apply isi_go (T := "str")); (case h => assumption); (case hb => exact k_str_ _))
  | ((with_reducible apply isi_go (T := "bool")); (case h => assumption); (case hb => exact k_bool_ _))
  | ((with_reducible apply isi_go (T := "list")); (case h => assumption); (case hb => exact k_list_ _))
  | ((with_reducible apply isi_go (T := "tuple")); (case h => assumption); (case hb => exact k_tuple_ _))
  | ((with_reducible apply isi_go (T := "dict")); (case h => assumption); (case hb => exact k_dict_ _))
  | with_reducible refine g_intb ?_
  | with_reducible refine g_bm ?_
  | with_reducible refine g_tyS ?_
  | ((with_reducible apply g_tyL); (case hs => assumption))
  | with_reducible refine g_lc ?_
  | with_reducible refine g_sl ?_
  | with_reducible refine g_noP ?_
  | with_reducible refine g_part ?_
  | with_reducible refine g_pI ?_))

/-! ### the words that are told -/
def wds (out : List (Str × Int)) : List D := out.map fun w => .tup [.str w.1, .int w.2]
def dueGo (line : Int) : List Str → Int → List (Str × Int) → D
  | [], _, out => .tup [.str "told", .lst (wds out)]
  | p :: r, a, out => if p = "" then .tup [.str "BadText", .tup [.int line, .int a, .str "spacing"]] else dueGo line r (a + p.length + 1) (out ++ [(p, a)])
def Ws (s : Addr) (H : Hp) : List (Str × Int) → List V → Prop
  | [], xs => xs = []
  | w :: r, xs => ∃ q t, xs = .ref q :: t ∧ q ≠ s ∧ H q = some (.tup [.str w.1, .int w.2]) ∧ Ws s H r t
theorem Ws.mono {s : Addr} {H H' : Hp} (k : ∀ q ts, q ≠ s → H q = some (.tup ts) → H' q = some (.tup ts)) : ∀ {l : List (Str × Int)} {xs : List V}, Ws s H l xs → Ws s H' l xs
  | [], _, h => h
  | w :: r, _, ⟨q, t, e, n, h, z⟩ => ⟨q, t, e, n, k q _ n h, z.mono k⟩
theorem Ws.app {s q : Addr} {H : Hp} {w : Str × Int} (n : q ≠ s) (h : H q = some (.tup [.str w.1, .int w.2])) : ∀ {l : List (Str × Int)} {xs : List V}, Ws s H l xs → Ws s H (l ++ [w]) (xs ++ [.ref q])
  | [], _, e => by
    have e : _ = _ := e
    rw [e]
    exact ⟨q, [], rfl, n, h, rfl⟩
  | v :: r, _, ⟨p, t, e, m, g, z⟩ => ⟨p, t ++ [.ref q], by rw [e]; rfl, m, g, z.app n h⟩
theorem Ws.len {s : Addr} {H : Hp} : ∀ {l : List (Str × Int)} {xs : List V}, Ws s H l xs → xs.length = l.length
  | [], _, e => by
    have e : _ = _ := e
    rw [e]
    rfl
  | v :: r, _, ⟨p, t, e, m, g, z⟩ => by rw [e, List.length_cons, List.length_cons, z.len]
theorem Ws.da {s : Addr} {H : Hp} : ∀ {l : List (Str × Int)} {xs : List V}, Ws s H l xs → DaL s H (wds l) xs
  | [], _, e => e
  | v :: r, _, ⟨p, t, e, m, g, z⟩ => ⟨.ref p, t, e, ⟨p, _, rfl, m, g, .cons rfl (.cons rfl .nil)⟩, z.da⟩
/-- all but o is kept, o was not there -/
theorem Same_mutF {H H' : Hp} {p : Addr} {o : HO} (x : Same H H') (h : H p = none) : Same H (upd H' p o) := fun b u e => by
  rw [upd_ne (ne_of_none e h)]
  exact x b u e
theorem free_same {H H' : Hp} {p : Addr} (x : Same H H') (h : H' p = none) : H p = none := by
  cases e : H p with
  | none => rfl
  | some o =>
    rw [x _ _ e] at h
    cases h
def spDue (K : PySem.W.Frag) : Sp := fun vs H Q _ => ∃ (s p : Addr) (ps : List Str) (line : Int), vs = [.ref p, .int line] ∧ Store K H s ∧ H p = some (.lst (ps.map V.str)) ∧ ps.length ≤ 1000 ∧ (∀ x ∈ ps, x.length ≤ 2000) ∧
  ∀ (v : V) (H' : Hp), Same H H' → Da s (newOf H H') (dueGo line ps 1 []) v → Q v H'
section
variable {P : Program} {w : World} {K : PySem.W.Frag} {mg : Str → Option Value} {base : Heap}
theorem ok_due (T : Txt K mg) : FnOk P w K mg base CX0 1 T.ddue.f T.ddue.fd P_due (spDue K) := by
  refine T.ddue.F.ok sc_due (fun vs H Q E h => ?_) (fun cdv A outer s_ H vs Q E hr h => ?_)
  · obtain ⟨s, p, ps, line, rfl, _⟩ := h
    rfl
  · obtain ⟨s, p, ps, line, rfl, st, hp, hl, hx, k⟩ := h
    refine ⟨_, (pss_cons (ps_set (i := 2) sc_due.nd rfl (by first | exact .inl rfl | exact .inr rfl) (pe_lst pa_nil))
      (pss_cons (ps_set (i := 3) sc_due.nd rfl (by first | exact .inl rfl | exact .inr rfl) pe_int)
      (pss_cons (ps_for PassesOwn.never rfl (pi_list (pv 0)) (pg_name (i := 4) sc_due.nd rfl (by first | exact .inl rfl | exact .inr rfl))
        (pss_cons (ps_if (pt_cmpR op_eq (pv 4) pe_str (nomark _))
          (pss_one (ps_ret (pe_tup (pa_cons pe_str (pa_cons (pe_tup (pa_cons (pv 1) (pa_cons (pv 3) (pa_cons pe_str pa_nil)))) pa_nil)))))
          pss_nil)
        (pss_cons (ps_expr (pe_bm PySem.F.plainAttrs_list PySem.F.slot_list_append PySem.F.type_list_append mt_append (pv 2) (pa_cons (pe_tup (pa_cons (pv 4) (pa_cons (pv 3) pa_nil))) pa_nil)))
        (pss_one (ps_set (i := 3) sc_due.nd rfl (by first | exact .inl rfl | exact .inr rfl) (pe_op op_add (pe_op op_add (pv 3) (pe_callB c_lenS (by rfl) T.m_len bt_len (pa_cons (pv 4) pa_nil))) pe_int))))))
      (pss_one (ps_ret (pe_tup (pa_cons pe_str (pa_cons (pv 2) pa_nil)))))))), ?_⟩
    try dsimp only [cxOf, Cx.nox, Cx.wish]
    walk_at "go"
    refine ⟨by decide, fun o ho => ?_⟩
    walk_at "go"
    have ns : o ≠ s := st.ne ho
    have x0 : Same H (upd H o (.lst [])) := same_new ho
    refine ⟨p, rfl, ⟨_, SqL.of (x0 _ _ hp)⟩, ?_⟩
    refine for_list (xs := ps.map V.str) (fun i σ' H' => ∃ (a : Int) (out : List (Str × Int)) (xs : List V) (z : Option V), σ' = [some (.ref p), some (.int line), some (.ref o), some (.int a), z] ∧ H' o = some (.lst xs) ∧ Ws s (newOf H H') out xs ∧ out.length = i ∧
      Same H H' ∧ dueGo line (ps.drop i) a out = dueGo line ps 1 []) ⟨1, [], [], none, rfl, upd_same, rfl, rfl, x0, rfl⟩ (fun i σ' H' _ h => ?_) ?_ ?_
    · obtain ⟨_, _, _, _, _, _, _, _, x, _⟩ := h
      exact SqL.of (x _ _ hp)
    · rintro i y σ' H1 hy ⟨a, out, xs, z, rfl, h1, h2, h3, x1, h4⟩
      obtain ⟨q, hq, rfl⟩ : ∃ q, ps[i]? = some q ∧ y = .str q := by
        rw [List.getElem?_map] at hy
        cases e : ps[i]? with
        | none => rw [e] at hy; cases hy
        | some q =>
          rw [e] at hy
          exact ⟨q, rfl, (Option.some.inj hy).symm⟩
      have hi : i < ps.length := (List.getElem?_eq_some_iff.mp hq).1
      have hd : ps.drop i = q :: ps.drop (i + 1) := by
        rw [List.drop_eq_getElem_cons hi, (List.getElem?_eq_some_iff.mp hq).2]
      have hql : q.length ≤ 2000 := hx q (by rw [← (List.getElem?_eq_some_iff.mp hq).2]; exact List.getElem_mem hi)
      rw [hd] at h4
      walk_at "go"
      refine g_ite (fun h => ?_) (fun h => ?_)
      · have e : q = "" := V.str.inj (of_decide_eq_true h)
        rw [show dueGo line (q :: ps.drop (i + 1)) a out = .tup [.str "BadText", .tup [.int line, .int a, .str "spacing"]] from if_pos e] at h4
        walk_at "go"
        refine ⟨by show 3 ≤ sizeLine; decide, fun p1 g1 => ?_⟩
        walk_at "go"
        refine ⟨by show 2 ≤ sizeLine; decide, fun p2 g2 => ?_⟩
        have st1 := st.same x1
        have q1 := free_same x1 g1
        have q2 := free_same (x1.trans (same_new g1)) g2
        have d1 := Da.tupN st1 q1 g1 (l := [.int line, .int a, .str "spacing"]) (.cons rfl (.cons rfl (.cons rfl .nil)))
        have d2 := Da.tupN (st1.new g1) q2 g2 (l := [.str "BadText", .tup [.int line, .int a, .str "spacing"]]) (.cons rfl (.cons d1 .nil))
        refine k _ _ ((x1.trans (same_new g1)).trans (same_new g2)) ?_
        rw [← h4]
        exact d2
      · have e : ¬ q = "" := fun e => of_decide_eq_false h (by rw [e])
        rw [show dueGo line (q :: ps.drop (i + 1)) a out = dueGo line (ps.drop (i + 1)) (a + q.length + 1) (out ++ [(q, a)]) from if_neg e] at h4
        walk_at "go"
        refine ⟨by show 2 ≤ sizeLine; decide, fun p1 g1 => ?_⟩
        have n1 : o ≠ p1 := ne_of_none h1 g1
        have ns1 : p1 ≠ s := (st.same x1).ne g1
        have u1 : upd H1 p1 (.tup [.str q, .int a]) o = some (.lst xs) := by
          rw [upd_ne n1]
          exact h1
        walk_at "go"
        refine g_app u1 (by rw [h2.len, h3, sizeLine_eq]; omega) ?_
        walk_at "go"
        refine g_lenS (by rw [sizeLine_eq]; omega) ?_
        walk_at "go"
        refine ⟨_, out ++ [(q, a)], _, _, rfl, upd_same, Ws.app ns1 ?_ (h2.mono fun b ts _ hb => ?_), by rw [List.length_append, h3]; rfl, Same_mutF (x1.trans (same_new g1)) ho, h4⟩
        · rw [newOf_n (free_same x1 g1), upd_ne (Ne.symm n1), upd_same]
        · obtain ⟨hb0, hb⟩ := newOf_s hb
          have nb : b ≠ o := fun z => by
            rw [z, h1] at hb
            cases hb
          rw [newOf_n hb0, upd_ne nb, upd_ne (ne_of_none hb g1)]
          exact hb
    · rintro σ' H1 ⟨a, out, xs, z, rfl, h1, h2, h3, x1, h4⟩
      rw [List.length_map, List.drop_length] at h4
      walk_at "go"
      refine ⟨by show 2 ≤ sizeLine; decide, fun p2 g2 => ?_⟩
      have st1 := st.same x1
      refine k _ _ (x1.trans (same_new g2)) ?_
      rw [← h4]
      exact Da.tupN st1 (free_same x1 g2) g2 (l := [.str "told", .lst (wds out)]) (.cons rfl (.cons ⟨o, xs, rfl, ns, by rw [newOf_n ho]; exact h1, h2.da⟩ .nil))
end
end My
namespace My
open PySem PySem.Spec PyProof.Rows L2
theorem g_repl {σ : L2.St} {H : Hp} {Q : VK} {to : TE} {y z : Str} (h : to σ H fun v H1 => ∃ x, v = .str x ∧ x.length + (x.length + 1) * z.length ≤ 16777216 ∧ Q (.str (PySem.Txt.replace x y z)) H1) : tRepl y z to σ H Q := h
local macro_rules | `(tactic| walk_at "arith") => `(tactic| first
  | (with_reducible show _ ≠ _; omega)
  | (unfold CMul; omega)
  | (unfold CPow; omega)
  | (unfold CPow; decide)
  | exact wide_div (b := 100) (by decide) (by decide) (by decide) (by decide))
local macro_rules | `(tactic| walk_at "go") => `(tactic| repeat (first
  | with_reducible refine g_seq ?_
  | with_reducible refine g_asg ?_
  | with_reducible refine g_name ?_
  | with_reducible refine g_sub ?_
  | with_reducible refine g_ret ?_
  | with_reducible refine g_drop ?_
  | ((with_reducible refine g_next ?_); dsimp only)
  | with_reducible refine g_if ?_
  | with_reducible refine g_var rfl ?_
  | with_reducible refine g_c ?_
  | with_reducible refine g_op ?_
  | with_reducible refine g_un ?_
  | with_reducible refine g_I0 ?_
  | with_reducible refine g_U ?_
  | with_reducible refine g_eq rfl ?_
  | with_reducible refine g_test ?_
  | with_reducible refine g_bl ?_
  | with_reducible refine iteF ?_
  | with_reducible refine iteT ?_
  | ((with_reducible apply g_iteT); (case e => rfl))
  | ((with_reducible apply g_iteF); (case e => rfl))
  | with_reducible refine g_int1 ?_
  | with_reducible refine g_max2 ?_
  | with_reducible refine g_min2 ?_
  | with_reducible refine g_isN ?_
  | with_reducible refine g_notN ?_
  | ((with_reducible apply g_lenL); (case hs => assumption))
  | ((with_reducible apply g_ixL); (case hs => exact SqL.of (by assumption)); (case ha => rfl))
  | with_reducible refine g_pow9 ?_
  | with_reducible refine g_pow18 ?_
  | ((with_reducible apply g_I); (case c => walk_at "arith"))
  | ((with_reducible apply g_st); (case hs => assumption); (case hL => assumption); (case ne => assumption); (case x0 => assumption); (case hj => rfl); (case j0 => decide); intro _ _ _ _)
  | with_reducible refine g_and ?_
  | with_reducible refine g_or ?_
  | with_reducible refine g_not ?_
  | with_reducible refine g_nil ?_
  | with_reducible refine g_cons ?_
  | with_reducible refine g_callB ?_
  | with_reducible refine g_call ?_
  | with_reducible refine g_tup ?_
  | with_reducible refine g_lst ?_
  | with_reducible refine g_andV ?_
  | with_reducible refine g_orV ?_
  | with_reducible refine g_notV ?_
  | with_reducible refine g_tB ?_
  | with_reducible refine g_ne rfl ?_
  | with_reducible refine g_abs ?_
  | with_reducible refine g_isB ?_
  | with_reducible refine g_for ?_
  | with_reducible refine g_rng1 ?_
  | with_reducible refine g_rng2 ?_
  | with_reducible refine g_iList ?_
  | ((with_reducible refine g_break ?_); dsimp only)
  | ((with_reducible refine g_cont ?_); dsimp only)
  | with_reducible refine g_retN ?_
  | ((with_reducible apply isi_go (T := "int")); (case h => assumption); (case hb => exact k_int_ _))
  | ((with_reducible apply isi_go (T := "str")); (case h => assumption); (case hb => exact k_str_ _))
  | ((with_reducible apply isi_go (T := "bool")); (case h => assumption); (case hb => exact k_bool_ _))
  | ((with_reducible apply isi_go (T := "list")); (case h => assumption); (case hb => exact k_list_ _))
  | ((with_reducible apply isi_go (T := "tuple")); (case h => assumption); (case hb => exact k_tuple_ _))
  | ((with_reducible apply isi_go (T := "dict")); (case h => assumption); (case hb => exact k_dict_ _))
  | with_reducible refine g_intb ?_
  | with_reducible refine g_bm ?_
  | with_reducible refine g_tyS ?_
  | ((with_reducible apply g_tyL); (case hs => assumption))
  | with_reducible refine g_lc ?_
  | with_reducible refine g_sl ?_
  | with_reducible refine g_noP ?_
  | with_reducible refine g_part ?_
  | with_reducible refine g_pI ?_))

theorem clean (x : Str) : (Txt.replace x " " "#").length = x.length ∧ (Txt.replace (Txt.replace x " " "#") "\n" "!").length = x.length ∧ Free (Txt.replace (Txt.replace x " " "#") "\n" "!") := by
  have h1 : (Txt.replace x " " "#").cps.toList = x.cps.toList.map fun c => if c = 32 then 35 else c := rep1 (by decide +kernel) (by decide +kernel)
  have h2 : (Txt.replace (Txt.replace x " " "#") "\n" "!").cps.toList = (Txt.replace x " " "#").cps.toList.map fun c => if c = 10 then 33 else c := rep1 (by decide +kernel) (by decide +kernel)
  have l1 : (Txt.replace x " " "#").length = x.length := by rw [str_len, h1, List.length_map, ← str_len]
  refine ⟨l1, by rw [str_len, h2, List.length_map, ← str_len, l1], fun z => ?_, fun z => ?_⟩
  · rw [h2, h1] at z
    obtain ⟨c, hc, e⟩ := List.mem_map.mp z
    obtain ⟨d, hd, e2⟩ := List.mem_map.mp hc
    try dsimp only at e e2
    split at e <;> split at e2 <;> omega
  · rw [h2, h1] at z
    obtain ⟨c, hc, e⟩ := List.mem_map.mp z
    try dsimp only at e
    split at e <;> omega
theorem ne_len {x : Str} (h : 1 ≤ x.length) : x ≠ "" := fun e => by
  rw [e] at h
  exact absurd h (by decide)
theorem free_nil : Free "" := ⟨by decide +kernel, by decide +kernel⟩
theorem mul_free {x : Str} (h : Free x) (n : Nat) : Free (PySem.Txt.mul x n) := by
  constructor
  · intro z
    rw [mul_list] at z
    obtain ⟨l, h1, h2⟩ := List.mem_flatten.mp z
    rw [(List.mem_replicate.mp h1).2] at h2
    exact h.1 h2
  · intro z
    rw [mul_list] at z
    obtain ⟨l, h1, h2⟩ := List.mem_flatten.mp z
    rw [(List.mem_replicate.mp h1).2] at h2
    exact h.2 h2
theorem mul_len (x : Str) (n : Nat) : (PySem.Txt.mul x n).length = n * x.length := by
  rw [str_len, mul_list, List.length_flatten, List.map_replicate, ← str_len]
  simp
theorem rep_map (n : Nat) (x : Str) : (List.replicate n [V.str x]).flatten = (List.replicate n x).map V.str := by
  induction n with
  | zero => rfl
  | succ n ih =>
    rw [List.replicate_succ, List.flatten_cons, ih, List.replicate_succ, List.map_cons]
    rfl
def GoodP (ps : List Str) : Prop := ps.length ≤ 300 ∧ (∀ p ∈ ps, Free p ∧ p.length ≤ 900) ∧ (2 ≤ ps.length ∨ ∃ p, ps = [p] ∧ p ≠ "")
def spPieces (K : PySem.W.Frag) : Sp := fun vs H Q _ => ∃ (s : Addr), vs = [.ref s] ∧ Store K H s ∧
  ∀ (q : Addr) (ps : List Str) (H' : Hp), H q = none → H' q = some (.lst (ps.map V.str)) → GoodP ps → Sx s H H' → Store K H' s → Q (.ref q) H'
abbrev s_row_pieces : Stmt := topS 26
abbrev N_row_pieces : List Str := ["store", "whole", "out", "k", "piece", "way"]
abbrev P_row_pieces : List Str := ["store"]
theorem sc_row_pieces : FnScope N_row_pieces P_row_pieces (defScope s_row_pieces) := ⟨rfl, rfl, rfl, by decide +kernel, rfl, by decide +kernel, by decide +kernel⟩

section
variable {P : Program} {w : World} {K : PySem.W.Frag} {mg : Str → Option Value} {base : Heap}
theorem ok_row_pieces (T : Txt K mg) : FnOk P w K mg base CX0 174 T.drow_pieces.f T.drow_pieces.fd P_row_pieces (spPieces K) := by
  have G_take : FnOk P w K mg base CX0 171 T.dtake.f T.dtake.fd P_take (spTakeB K) := ok_takeB T
  have G_edge : FnOk P w K mg base CX0 172 T.dedge.f T.dedge.fd P_edge (spTakeB K) := ok_edge T
  have G_text : FnOk P w K mg base CX0 173 T.dtext.f T.dtext.fd P_text (spText K) := ok_text T
  have G_tail : FnOk P w K mg base CX0 172 T.dtail.f T.dtail.fd P_tail (spTail K) := ok_tail T
  refine T.drow_pieces.F.ok sc_row_pieces (fun vs H Q E h => ?_) (fun cdv A outer s_ H vs Q E hr h => ?_)
  · obtain ⟨s, rfl, _⟩ := h
    rfl
  · obtain ⟨s, rfl, st, k⟩ := h
    refine ⟨_, (pss_cons (ps_set (i := 1) sc_row_pieces.nd rfl (by first | exact .inl rfl | exact .inr rfl) (pe_cmpR op_eq (pe_call G_take (hr.mono (by omega)) rfl T.dtake.g T.dtake.F.kp T.dtake.b .nil pass0 (pa_cons (pv 0) (pa_cons pe_int pa_nil))) pe_int (nomark _)))
      (pss_cons (ps_set (i := 2) sc_row_pieces.nd rfl (by first | exact .inl rfl | exact .inr rfl) (pe_lst pa_nil))
      (pss_cons (ps_for PassesOwn.never rfl (pi_range1 rfl T.m_range (pa_cons (pe_op op_add pe_int (pe_call G_edge (hr.mono (by omega)) rfl T.dedge.g T.dedge.F.kp T.dedge.b .nil pass0 (pa_cons (pv 0) (pa_cons pe_int pa_nil)))) pa_nil)) (pg_name (i := 3) sc_row_pieces.nd rfl (by first | exact .inl rfl | exact .inr rfl))
        (pss_cons (ps_set (i := 4) sc_row_pieces.nd rfl (by first | exact .inl rfl | exact .inr rfl) (PE1.pe (pe1_repl (pe1_repl (pe1_call G_text (hr.mono (by omega)) rfl T.dtext.g T.dtext.F.kp T.dtext.b pass0 (pa1_tail (pv 0) (pa1_head (pe1_intL op_add (pe_call G_edge (hr.mono (by omega)) rfl T.dedge.g T.dedge.F.kp T.dedge.b .nil pass0 (pa_cons (pv 0) (pa_cons pe_int pa_nil)))) pa_nil)))))))
        (Evl.pss_cut (ps_if (PW.pt (pw_and (pt_not (pt_val (pv 1))) (pw_and1 (pt_cmpR op_eq (pe_call G_take (hr.mono (by omega)) rfl T.dtake.g T.dtake.F.kp T.dtake.b .nil pass0 (pa_cons (pv 0) (pa_cons pe_int pa_nil))) pe_int (nomark _)))))
          (pss_one (ps_set (i := 4) sc_row_pieces.nd rfl (by first | exact .inl rfl | exact .inr rfl) pe_str))
          pss_nil)
        (pss_one (ps_expr (pe_bm PySem.F.plainAttrs_list PySem.F.slot_list_append PySem.F.type_list_append mt_append (pv 2) (pa_cons (pv 4) pa_nil)))))))
      (pss_cons (ps_set (i := 5) sc_row_pieces.nd rfl (by first | exact .inl rfl | exact .inr rfl) (pe_call G_take (hr.mono (by omega)) rfl T.dtake.g T.dtake.F.kp T.dtake.b .nil pass0 (pa_cons (pv 0) (pa_cons pe_int pa_nil))))
      (Evl.pss_cut (ps_if (pt_cmpR op_eq (pv 5) pe_int (nomark _))
        (pss_one (ps_set (i := 2) sc_row_pieces.nd rfl (by first | exact .inl rfl | exact .inr rfl) (pe_op op_cat (pv 2) (pe_op op_rep (pe_lst (pa_cons (pe_call G_tail (hr.mono (by omega)) rfl T.dtail.g T.dtail.F.kp T.dtail.b .nil pass0 (pa_cons (pv 0) (pa_cons pe_int pa_nil))) pa_nil)) pe_int))))
        pss_nil)
      (Evl.pss_cut (ps_if (pt_cmpR op_eq (pv 5) pe_int (nomark _))
        (pss_one (ps_expr (pe_bm PySem.F.plainAttrs_list PySem.F.slot_list_insert PySem.F.type_list_insert m_insert (pv 2) (pa_cons (pe_call G_edge (hr.mono (by omega)) rfl T.dedge.g T.dedge.F.kp T.dedge.b .nil pass0 (pa_cons (pv 0) (pa_cons (pe_op op_add (pe_callB c_len (by rfl) T.m_len bt_len (pa_cons (pv 2) pa_nil)) pe_int) pa_nil))) (pa_cons (pe_op o_mulS (pe_call G_tail (hr.mono (by omega)) rfl T.dtail.g T.dtail.F.kp T.dtail.b .nil pass0 (pa_cons (pv 0) (pa_cons pe_int pa_nil))) pe_int) pa_nil)))))
        pss_nil)
      (Evl.pss_cut (ps_if (pt_cmpR op_eq (pv 5) pe_int (nomark _))
        (pss_one (ps_set (i := 2) sc_row_pieces.nd rfl (by first | exact .inl rfl | exact .inr rfl) (pe_op op_rep (pe_lst (pa_cons pe_str pa_nil)) (pe_callB c_len (by rfl) T.m_len bt_len (pa_cons (pv 2) pa_nil)))))
        pss_nil)
      (Evl.pss_cut (ps_if (PW.pt (pw_and (pt_val (pv 1)) (pw_and1 (pt_cmpR op_gt (pv 5) pe_int (nomark _)))))
        (pss_one (ps_set (i := 2) sc_row_pieces.nd rfl (by first | exact .inl rfl | exact .inr rfl) (pe_slice sl_list (pv 2) po_none (po_some pe_int))))
        pss_nil)
      (pss_one (ps_ret (pv 2))))))))))), ?_⟩
    try dsimp only [cxOf, Cx.nox, Cx.wish]
    walk_at "go"
    refine take_go st (big_of (by decide)) fun r H1 r0 r1 x1 st1 => ?_
    walk_at "go"
    generalize decide (V.int r = V.int 0) = wb
    refine ⟨by decide, fun o h0 => ?_⟩
    have ho := st1.free x1 h0
    have x2 := x1.mut (o := .lst []) ho
    have st2 := st.mut (o := .lst []) x1 st1 ho
    have u2 := upd_same (H := H1) (a := o) (o := .lst [])
    generalize upd H1 o (.lst []) = H2 at *
    clear x1 st1 h0 r0 r1
    walk_at "go"
    refine take_go st2 (big_of (by decide)) fun n H3 n0 n1 x3 st3 => ?_
    have ns := st.ne ho
    have u3 := x3.kp _ _ ns u2
    have x03 := x2.trans x3
    walk_at "go"
    refine ⟨_, rfl, by omega, by omega, ?_⟩
    refine for_range (n := (2 + n).toNat) (fun i σ' H' => ∃ (ps : List Str) (z1 z2 : Option V), σ' = [some (.ref s), some (.bl wb), some (.ref o), z1, z2, none] ∧ H' o = some (.lst (ps.map V.str)) ∧ ps.length = i ∧
      (∀ p ∈ ps, Free p ∧ p.length ≤ 10 ∧ (wb = true → p ≠ "")) ∧ Sx s H H' ∧ Store K H' s) ⟨[], none, none, rfl, u3, rfl, fun _ h => (nomatch h), x03, st3⟩ ?_ ?_
    · rintro i σ' H4 hi ⟨ps, z1, z2, rfl, h1, h2, h3, x4, st4⟩
      walk_at "go"
      refine g_repl ?_
      refine g_repl ?_
      walk_at "go"
      refine take_go st4 (big_of (by decide)) fun m H5 m0 m1 x5 st5 => ?_
      obtain ⟨a, ea⟩ : ∃ a : Nat, 1 + m = (a : Int) := ⟨(1 + m).toNat, by omega⟩
      walk_at "go"
      refine ⟨s, a, by rw [← ea]; rfl, st5, by omega, fun x H6 hx x6 st6 => ?_⟩
      obtain ⟨c1, c2, c3⟩ := clean x
      have e1 : (Str.ofString "#").length = 1 := by decide +kernel
      have e2 : (Str.ofString "!").length = 1 := by decide +kernel
      refine ⟨x, rfl, by rw [e1]; omega, _, rfl, by rw [e2]; have := c1; omega, ?_⟩
      have u6 := x6.kp _ _ ns (x5.kp _ _ ns h1)
      have x06 := (x4.trans x5).trans x6
      have hp := ne_len (x := Txt.replace (Txt.replace x (Str.ofString " ") (Str.ofString "#")) (Str.ofString "\n") (Str.ofString "!")) (by have := c2; omega)
      have hl : (Txt.replace (Txt.replace x (Str.ofString " ") (Str.ofString "#")) (Str.ofString "\n") (Str.ofString "!")).length ≤ 10 := by have := c2; omega
      have hf : Free (Txt.replace (Txt.replace x (Str.ofString " ") (Str.ofString "#")) (Str.ofString "\n") (Str.ofString "!")) := c3
      generalize Txt.replace (Txt.replace x (Str.ofString " ") (Str.ofString "#")) (Str.ofString "\n") (Str.ofString "!") = pc at *
      clear c1 c2 c3
      walk_at "go"
      refine g_cut (Mid := fun σ' H' => ∃ (p : Str), σ' = [some (.ref s), some (.bl wb), some (.ref o), some (.int (0 + (i : Int))), some (.str p), none] ∧ H' o = some (.lst (ps.map V.str)) ∧ Free p ∧ p.length ≤ 10 ∧ (wb = true → p ≠ "") ∧ Sx s H H' ∧ Store K H' s) ?_ ?_
      · walk_at "go"
        refine g_ite (fun h => ?_) (fun h => ?_)
        · walk_at "go"
          have hw : wb = false := by
            cases wb with
            | false => rfl
            | true => exact absurd h (by decide)
          refine take_go st6 (big_of (by decide)) fun j H7 j0 j1 x7 st7 => ?_
          have u7 := x7.kp _ _ ns u6
          walk_at "go"
          refine g_ite (fun h => ?_) (fun h => ?_)
          · walk_at "go"
            exact ⟨_, rfl, u7, free_nil, by decide, fun z => (by rw [hw] at z; cases z), x06.trans x7, st7⟩
          · walk_at "go"
            exact ⟨_, rfl, u7, hf, hl, fun _ => hp, x06.trans x7, st7⟩
        · walk_at "go"
          exact ⟨_, rfl, u6, hf, hl, fun _ => hp, x06, st6⟩
      · rintro σ' H7 ⟨p, rfl, u7, f1, f2, f3, x7, st7⟩
        walk_at "go"
        refine g_app u7 (by rw [List.length_map, sizeLine_eq]; omega) ?_
        walk_at "go"
        refine ⟨ps ++ [p], _, _, rfl, by rw [upd_same, List.map_append]; rfl, by rw [List.length_append, h2]; rfl, fun q hq => ?_, x7.mut ho, st.mut x7 st7 ho⟩
        rcases List.mem_append.mp hq with h | h
        · exact h3 q h
        · rw [List.mem_singleton.mp h]
          exact ⟨f1, f2, f3⟩
    · rintro σ' H4 ⟨ps, z1, z2, rfl, h1, h2, h3, x4, st4⟩
      walk_at "go"
      refine take_go st4 (big_of (by decide)) fun way H5 w0 w1 x5 st5 => ?_
      have u5 := x5.kp _ _ ns h1
      have x05 := x4.trans x5
      walk_at "go"
      -- way 0
      refine g_cut (Mid := fun σ' H' => ∃ (o : Addr) (ps : List Str), σ' = [some (.ref s), some (.bl wb), some (.ref o), z1, z2, some (.int way)] ∧ H o = none ∧ H' o = some (.lst (ps.map V.str)) ∧ 2 ≤ ps.length ∧ ps.length ≤ 210 ∧
        (∀ p ∈ ps, Free p ∧ p.length ≤ 900 ∧ (wb = true → way > 9 → p ≠ "")) ∧ Sx s H H' ∧ Store K H' s) ?_ ?_
      · walk_at "go"
        refine g_ite (fun h => ?_) (fun h => ?_)
        · walk_at "go"
          refine ⟨s, 1, rfl, st5, by decide, fun x H6 hx fx x6 st6 => ?_⟩
          have u6 := x6.kp _ _ ns u5
          have x06 := x05.trans x6
          walk_at "go"
          refine ⟨by show 1 ≤ sizeLine; decide, fun p1 g1 => ?_⟩
          walk_at "go"
          have gp1 := st6.free x06 g1
          have x7 := x06.mut (o := .lst [.str x]) gp1
          have st7 := st.mut (o := .lst [.str x]) x06 st6 gp1
          have v7 := upd_same (H := H6) (a := p1) (o := .lst [.str x])
          have u7 : upd H6 p1 (.lst [.str x]) o = _ := (upd_ne (ne_of_none u6 g1)).trans u6
          generalize upd H6 p1 (.lst [.str x]) = H7 at *
          refine ⟨p1, 200, [.str x], rfl, rfl, v7, by decide, by decide, by show 1 * 200 ≤ sizeLine; decide, fun p2 g2 => ?_⟩
          have gp2 := st7.free x7 g2
          have x8 := x7.mut (o := .lst (List.replicate (200 : Int).toNat [.str x]).flatten) gp2
          have st8 := st.mut (o := .lst (List.replicate (200 : Int).toNat [.str x]).flatten) x7 st7 gp2
          have v8 := upd_same (H := H7) (a := p2) (o := .lst (List.replicate (200 : Int).toNat [.str x]).flatten)
          have u8 : upd H7 p2 (.lst (List.replicate (200 : Int).toNat [.str x]).flatten) o = _ := (upd_ne (ne_of_none u7 g2)).trans u7
          generalize upd H7 p2 (.lst (List.replicate (200 : Int).toNat [.str x]).flatten) = H8 at *
          have er : (List.replicate (200 : Int).toNat [V.str x]).flatten = (List.replicate 200 x).map V.str := rep_map 200 x
          rw [er] at v8
          refine ⟨o, p2, _, _, rfl, rfl, u8, v8, by rw [List.length_map, List.length_map, List.length_replicate, sizeLine_eq]; omega, fun p3 g3 => ?_⟩
          have gp3 := st8.free x8 g3
          walk_at "go"
          refine ⟨p3, ps ++ List.replicate 200 x, rfl, gp3, by rw [upd_same, List.map_append], by rw [List.length_append, List.length_replicate]; omega, by rw [List.length_append, List.length_replicate]; omega, fun p hp => ?_, x8.mut gp3, st.mut x8 st8 gp3⟩
          have hw : way = 0 := dint_t h
          rcases List.mem_append.mp hp with h | h
          · obtain ⟨a, b, c⟩ := h3 p h
            exact ⟨a, by omega, fun _ z => by omega⟩
          · rw [(List.mem_replicate.mp h).2]
            exact ⟨fx, by omega, fun _ z => by omega⟩
        · walk_at "go"
          exact ⟨o, ps, rfl, ho, u5, by omega, by omega, fun p hp => ⟨(h3 p hp).1, by have := (h3 p hp).2.1; omega, fun z _ => (h3 p hp).2.2 z⟩, x05, st5⟩
      clear h1 h2 h3 u5 x05 st5 x4 st4 u3 u2 x03 st3 x2 st2 ns ho
      rintro σ' H4 ⟨o, ps, rfl, ho, u4, l1, l2, h3, x4, st4⟩
      have ns := st.ne ho
      walk_at "go"
      -- way 1
      refine g_cut (Mid := fun σ' H' => ∃ (ps : List Str), σ' = [some (.ref s), some (.bl wb), some (.ref o), z1, z2, some (.int way)] ∧ H' o = some (.lst (ps.map V.str)) ∧ 2 ≤ ps.length ∧ ps.length ≤ 211 ∧
        (∀ p ∈ ps, Free p ∧ p.length ≤ 900 ∧ (wb = true → way > 9 → p ≠ "")) ∧ Sx s H H' ∧ Store K H' s) ?_ ?_
      · walk_at "go"
        refine g_ite (fun h => ?_) (fun h => ?_)
        · walk_at "go"
          refine g_lenL (SqL.of u4) ?_
          walk_at "go"
          refine take_go st4 (big_of (by rw [List.length_map]; omega)) fun j H5 j0 j1 x5 st5 => ?_
          have u5 := x5.kp _ _ ns u4
          walk_at "go"
          refine ⟨s, 9, rfl, st5, by decide, fun x H6 hx fx x6 st6 => ?_⟩
          have u6 := x6.kp _ _ ns u5
          have x06 := (x4.trans x5).trans x6
          walk_at "go"
          refine ⟨x, 100, rfl, rfl, by decide, by decide, by omega, ?_⟩
          have fz := mul_free fx 100
          have lz := mul_len x 100
          have e100 : PySem.Txt.mul x (100 : Int) = PySem.Txt.mul x ((100 : Nat) : Int) := rfl
          rw [e100]
          generalize PySem.Txt.mul x ((100 : Nat) : Int) = zz at *
          rw [hx] at lz
          walk_at "go"
          refine ⟨o, _, j, _, rfl, rfl, u6, by rw [List.length_map, sizeLine_eq]; omega, j0, by rw [List.length_map] at j1; omega, ?_⟩
          walk_at "go"
          rw [List.length_map] at j1
          refine ⟨ps.take j.toNat ++ [zz] ++ ps.drop j.toNat, rfl, by rw [upd_same, List.map_append, List.map_append, List.map_take, List.map_drop]; rfl, ?_, ?_, fun p hp => ?_, x06.mut ho, st.mut x06 st6 ho⟩
          · rw [List.length_append, List.length_append, List.length_take, List.length_drop, List.length_singleton]
            omega
          · rw [List.length_append, List.length_append, List.length_take, List.length_drop, List.length_singleton]
            omega
          · have hw : way = 1 := dint_t h
            rcases List.mem_append.mp hp with h | h
            · rcases List.mem_append.mp h with h | h
              · exact h3 p (List.mem_of_mem_take h)
              · rw [List.mem_singleton.mp h]
                exact ⟨fz, by omega, fun _ z => by omega⟩
            · exact h3 p (List.mem_of_mem_drop h)
        · walk_at "go"
          exact ⟨ps, rfl, u4, l1, by omega, h3, x4, st4⟩
      clear u4 l1 l2 h3 x4 st4
      rintro σ' H4 ⟨ps, rfl, u4, l1, l2, h3, x4, st4⟩
      walk_at "go"
      -- way 2
      refine g_cut (Mid := fun σ' H' => ∃ (o : Addr) (ps : List Str), σ' = [some (.ref s), some (.bl wb), some (.ref o), z1, z2, some (.int way)] ∧ H o = none ∧ H' o = some (.lst (ps.map V.str)) ∧ 2 ≤ ps.length ∧ ps.length ≤ 211 ∧
        (∀ p ∈ ps, Free p ∧ p.length ≤ 900 ∧ (wb = true → way > 9 → p ≠ "")) ∧ Sx s H H' ∧ Store K H' s) ?_ ?_
      · walk_at "go"
        refine g_ite (fun h => ?_) (fun h => ?_)
        · walk_at "go"
          refine ⟨by show 1 ≤ sizeLine; decide, fun p1 g1 => ?_⟩
          walk_at "go"
          have gp1 := st4.free x4 g1
          have x5 := x4.mut (o := .lst [.str ""]) gp1
          have st5 := st.mut (o := .lst [.str ""]) x4 st4 gp1
          have v5 := upd_same (H := H4) (a := p1) (o := .lst [.str ""])
          have u5 : upd H4 p1 (.lst [.str ""]) o = _ := (upd_ne (ne_of_none u4 g1)).trans u4
          generalize upd H4 p1 (.lst [.str ""]) = H5 at *
          refine g_lenL (SqL.of u5) ?_
          rw [List.length_map]
          refine ⟨p1, ps.length, [.str ""], rfl, rfl, v5, by omega, by omega, by show 1 * _ ≤ _; rw [sizeLine_eq]; omega, fun p2 g2 => ?_⟩
          have gp2 := st5.free x5 g2
          walk_at "go"
          have er : (List.replicate (ps.length : Int).toNat [V.str ""]).flatten = (List.replicate ps.length ("" : Str)).map V.str := rep_map ps.length ""
          refine ⟨p2, List.replicate ps.length ("" : Str), rfl, gp2, by rw [upd_same, er], by rw [List.length_replicate]; omega, by rw [List.length_replicate]; omega, fun p hp => ?_, x5.mut gp2, st.mut x5 st5 gp2⟩
          have hw : way = 2 := dint_t h
          rw [(List.mem_replicate.mp hp).2]
          exact ⟨free_nil, by decide, fun _ z => by omega⟩
        · walk_at "go"
          exact ⟨o, ps, rfl, ho, u4, l1, by omega, h3, x4, st4⟩
      clear u4 l1 l2 h3 x4 st4 ns ho
      rintro σ' H4 ⟨o, ps, rfl, ho, u4, l1, l2, h3, x4, st4⟩
      walk_at "go"
      refine g_cut (Mid := fun σ' H' => ∃ (o : Addr) (ps : List Str), σ' = [some (.ref s), some (.bl wb), some (.ref o), z1, z2, some (.int way)] ∧ H o = none ∧ H' o = some (.lst (ps.map V.str)) ∧ GoodP ps ∧ Sx s H H' ∧ Store K H' s) ?_ ?_
      · have old : GoodP ps := ⟨by omega, fun p hp => ⟨(h3 p hp).1, (h3 p hp).2.1⟩, .inl l1⟩
        walk_at "go"
        refine g_ite (fun h => ?_) (fun h => ?_)
        · walk_at "go"
          refine g_ite (fun h9 => ?_) (fun h9 => ?_)
          · walk_at "go"
            refine ⟨o, _, rfl, SqL.of u4, fun p1 g1 => ?_⟩
            have gp1 := st4.free x4 g1
            walk_at "go"
            match ps, l1, h3 with
            | p :: q :: r, _, h3 =>
              have ec : cutV ((p :: q :: r).map V.str) none (some 1) = [p].map V.str := by
                rw [List.map_cons]
                unfold cutV
                have e0 : HT.sIx (V.str p :: (q :: r).map V.str).length 0 none = 0 := rfl
                rw [e0]
                have e1 : HT.sIx (V.str p :: (q :: r).map V.str).length (V.str p :: (q :: r).map V.str).length (some 1) = 1 := by
                  simp [HT.sIx]
                rw [e1]
                rfl
              have hw : way > 9 := of_decide_eq_true h9
              have hq := h3 p (List.mem_cons_self ..)
              refine ⟨p1, [p], rfl, gp1, by rw [upd_same, ec], ⟨by show 1 ≤ 300; decide, fun x hx => ?_, .inr ⟨p, rfl, hq.2.2 h hw⟩⟩, x4.mut gp1, st.mut x4 st4 gp1⟩
              rw [List.mem_singleton.mp hx]
              exact ⟨hq.1, hq.2.1⟩
            | [p], l1, _ => exact absurd (show 2 ≤ 1 from l1) (by decide)
            | [], l1, _ => exact absurd l1 (by decide)
          · walk_at "go"
            exact ⟨o, ps, rfl, ho, u4, old, x4, st4⟩
        · walk_at "go"
          exact ⟨o, ps, rfl, ho, u4, old, x4, st4⟩
      rintro σ' H4 ⟨o, ps, rfl, ho, u4, g, x4, st4⟩
      walk_at "go"
      exact k o ps H4 ho u4 g x4 st4
end
end My
namespace My
open PySem PySem.Spec PyProof.Rows L2
theorem bt_ValueError : bootBuiltins "ValueError" = some (.type "ValueError") := by decide +kernel
section
variable {X : Cx}
open L2H in
theorem pe_callX {lv : Nat} {f a : Addr} {oe : Obj} {cls : Value} {d : Option Addr} {fd : FuncData} {ps : List Str} {sp : Addr → Value → Option Addr → Sp} {nm : Str} {p pos : Pos} {e : Expr} {es : List Expr} {t : TA}
    (F : FnE X.prog X.w X.K X.mg X.base lv f fd ps (fun q => sp q.1 q.2.cls q.2.dict)) (hc : oe.cls = cls) (hd : oe.dict = d) (room : RoomH lv X.A) (hot : Hot1 X.A (a, oe)) (hp : (a, oe) ∈ X.pn)
    (gl : Gl X nm) (gm : X.mg nm = some (.ref f)) (kp : PySem.W.keepIn X.K (.ref f) = true) (bnd : Binds X.K fd ps []) (args : PA X (e :: es) t) (nd : (nm == ("__debug__" : Str)) = false := by decide)
    (st1 : starEach (e :: es) X.env = (false, eval e X.env) :: starEach es X.env := by rfl) (st2 : (backTo pos (starEach es X.env)).any (·.1) = false := by rfl) : PE X (.Call (.Name nm p) (e :: es) [] pos) (tCallS (sp a cls d) (fun _ => E0) t) := by
  subst hc hd
  exact pe_callE F room hot hp gl gm kp bnd args nd st1 st2
end
/-! ### __init__ -/
def IniEnd (a C : Addr) (fs : List (Str × V)) (H : Hp) (Q : VK) : Prop := ∀ (dx : Addr) (H' : Hp), H dx = none → dx ≠ a → H' a = some (exo a C (some dx)) → H' dx = some (exd dx fs) → (∀ b o, b ≠ a → H b = some o → H' b = some o) → Q .non H'
def spIni1 (K : PySem.W.Frag) (C : Addr) (f : Str) : Sp := fun vs H Q _ => ∃ (a : Addr) (x : V), vs = [.ref a, x] ∧ OexC K C ∧ PySem.W.findIn K (.ref C) f = some none ∧ H a = some (exo a C none) ∧ IniEnd a C [(f, x)] H Q
def spIni3 (K : PySem.W.Frag) (C : Addr) (f g h : Str) : Sp := fun vs H Q _ => ∃ (a : Addr) (x y z : V), vs = [.ref a, x, y, z] ∧ OexC K C ∧ PySem.W.findIn K (.ref C) f = some none ∧ PySem.W.findIn K (.ref C) g = some none ∧ PySem.W.findIn K (.ref C) h = some none ∧
  H a = some (exo a C none) ∧ IniEnd a C [(h, z), (g, y), (f, x)] H Q
section
variable {σ : L2.St} {H : Hp} {D : Ends} {K : PySem.W.Frag} {f : Str} {to te : TE}
theorem g_ost (h : te σ H fun y H1 => to σ H1 fun x H2 => ∃ a C : Addr, x = .ref a ∧ OexC K C ∧ PySem.W.findIn K (.ref C) f = some none ∧
  ((H2 a = some (exo a C none) ∧ ∀ dx, H2 dx = none → dx ≠ a → D.nx σ (upd (upd H2 dx (exd dx [(f, y)])) a (exo a C (some dx)))) ∨
    ∃ (dx : Addr) (fs : List (Str × V)), H2 a = some (exo a C (some dx)) ∧ H2 dx = some (exd dx fs) ∧ fs.length ≤ 900 ∧ D.nx σ (upd H2 dx (exd dx ((f, y) :: fs))))) : tOst K f to te D σ H := h
end
local macro_rules | `(tactic| walk_at "arith") => `(tactic| first
  | (with_reducible show _ ≠ _; omega)
  | (unfold CMul; omega)
  | (unfold CPow; omega)
  | (unfold CPow; decide)
  | exact wide_div (b := 100) (by decide) (by decide) (by decide) (by decide))
local macro_rules | `(tactic| walk_at "go") => `(tactic| repeat (first
  | with_reducible refine g_seq ?_
  | with_reducible refine g_asg ?_
  | with_reducible refine g_name ?_
  | with_reducible refine g_sub ?_
  | with_reducible refine g_ret ?_
  | with_reducible refine g_drop ?_
  | ((with_reducible refine g_next ?_); dsimp only)
  | with_reducible refine g_if ?_
  | with_reducible refine g_var rfl ?_
  | with_reducible refine g_c ?_
  | with_reducible refine g_op ?_
  | with_reducible refine g_un ?_
  | with_reducible refine g_I0 ?_
  | with_reducible refine g_U ?_
  | with_reducible refine g_eq rfl ?_
  | with_reducible refine g_test ?_
  | with_reducible refine g_bl ?_
  | with_reducible refine iteF ?_
  | with_reducible refine iteT ?_
  | ((with_reducible apply g_iteT); (case e => rfl))
  | ((with_reducible apply g_iteF); (case e => rfl))
  | with_reducible refine g_int1 ?_
  | with_reducible refine g_max2 ?_
  | with_reducible refine g_min2 ?_
  | with_reducible refine g_isN ?_
  | with_reducible refine g_notN ?_
  | ((with_reducible apply g_lenL); (case hs => assumption))
  | ((with_reducible apply g_ixL); (case hs => exact SqL.of (by assumption)); (case ha => rfl))
  | with_reducible refine g_pow9 ?_
  | with_reducible refine g_pow18 ?_
  | ((with_reducible apply g_I); (case c => walk_at "arith"))
  | ((with_reducible apply g_st); (case hs => assumption); (case hL => assumption); (case ne => assumption); (case x0 => assumption); (case hj => rfl); (case j0 => decide); intro _ _ _ _)
  | with_reducible refine g_and ?_
  | with_reducible refine g_or ?_
  | with_reducible refine g_not ?_
  | with_reducible refine g_nil ?_
  | with_reducible refine g_cons ?_
  | with_reducible refine g_callB ?_
  | with_reducible refine g_call ?_
  | with_reducible refine g_tup ?_
  | with_reducible refine g_lst ?_
  | with_reducible refine g_andV ?_
  | with_reducible refine g_orV ?_
  | with_reducible refine g_notV ?_
  | with_reducible refine g_tB ?_
  | with_reducible refine g_ne rfl ?_
  | with_reducible refine g_abs ?_
  | with_reducible refine g_isB ?_
  | with_reducible refine g_for ?_
  | with_reducible refine g_rng1 ?_
  | with_reducible refine g_rng2 ?_
  | with_reducible refine g_iList ?_
  | ((with_reducible refine g_break ?_); dsimp only)
  | ((with_reducible refine g_cont ?_); dsimp only)
  | with_reducible refine g_retN ?_
  | ((with_reducible apply isi_go (T := "int")); (case h => assumption); (case hb => exact k_int_ _))
  | ((with_reducible apply isi_go (T := "str")); (case h => assumption); (case hb => exact k_str_ _))
  | ((with_reducible apply isi_go (T := "bool")); (case h => assumption); (case hb => exact k_bool_ _))
  | ((with_reducible apply isi_go (T := "list")); (case h => assumption); (case hb => exact k_list_ _))
  | ((with_reducible apply isi_go (T := "tuple")); (case h => assumption); (case hb => exact k_tuple_ _))
  | ((with_reducible apply isi_go (T := "dict")); (case h => assumption); (case hb => exact k_dict_ _))
  | with_reducible refine g_intb ?_
  | with_reducible refine g_bm ?_
  | with_reducible refine g_tyS ?_
  | ((with_reducible apply g_tyL); (case hs => assumption))
  | with_reducible refine g_lc ?_
  | with_reducible refine g_sl ?_
  | with_reducible refine g_noP ?_
  | with_reducible refine g_part ?_
  | with_reducible refine g_pI ?_))

abbrev s_WrongKind_init : Stmt := inClass (topS 2) 0
abbrev N_WrongKind_init : List Str := ["self", "argument"]
abbrev P_WrongKind_init : List Str := ["self", "argument"]
theorem sc_WrongKind_init : FnScope N_WrongKind_init P_WrongKind_init (defScope s_WrongKind_init) := ⟨rfl, rfl, rfl, by decide +kernel, rfl, by decide +kernel, by decide +kernel⟩

abbrev s_OutOfBounds_init : Stmt := inClass (topS 3) 0
abbrev N_OutOfBounds_init : List Str := ["self", "argument"]
abbrev P_OutOfBounds_init : List Str := ["self", "argument"]
theorem sc_OutOfBounds_init : FnScope N_OutOfBounds_init P_OutOfBounds_init (defScope s_OutOfBounds_init) := ⟨rfl, rfl, rfl, by decide +kernel, rfl, by decide +kernel, by decide +kernel⟩

abbrev s_BadText_init : Stmt := inClass (topS 8) 0
abbrev N_BadText_init : List Str := ["self", "line", "column", "fault"]
abbrev P_BadText_init : List Str := ["self", "line", "column", "fault"]
theorem sc_BadText_init : FnScope N_BadText_init P_BadText_init (defScope s_BadText_init) := ⟨rfl, rfl, rfl, by decide +kernel, rfl, by decide +kernel, by decide +kernel⟩

section
variable {P : Program} {w : World} {K : PySem.W.Frag} {mg : Str → Option Value} {base : Heap}
theorem ok_iWrongKind (T : Txt K mg) : FnOk P w K mg base CX0 1 T.iWrongKind.f T.iWrongKind.fd P_WrongKind_init (spIni1 K T.cWrongKind.C "argument") := by
  refine T.iWrongKind.F.ok sc_WrongKind_init (fun vs H Q E h => ?_) (fun cdv A outer s_ H vs Q E hr h => ?_)
  · obtain ⟨a, x, rfl, _⟩ := h
    rfl
  · obtain ⟨a, x, rfl, o, n, ea, k⟩ := h
    refine ⟨_, (pss_one (ps_ost (pv 0) (pv 1))), ?_⟩
    try dsimp only [cxOf, Cx.nox, Cx.wish]
    try dsimp only
    walk_at "go"
    try dsimp only
    refine g_ost ?_
    walk_at "go"
    refine ⟨a, _, rfl, o, n, .inl ⟨ea, fun dx n1 n2 => ?_⟩⟩
    walk_at "go"
    exact k dx _ n1 n2 upd_same (by rw [upd_ne n2, upd_same]) fun b u nb hb => by rw [upd_ne nb, upd_ne (ne_of_none hb n1)]; exact hb
theorem ok_iOutOfBounds (T : Txt K mg) : FnOk P w K mg base CX0 1 T.iOutOfBounds.f T.iOutOfBounds.fd P_OutOfBounds_init (spIni1 K T.cOutOfBounds.C "argument") := by
  refine T.iOutOfBounds.F.ok sc_OutOfBounds_init (fun vs H Q E h => ?_) (fun cdv A outer s_ H vs Q E hr h => ?_)
  · obtain ⟨a, x, rfl, _⟩ := h
    rfl
  · obtain ⟨a, x, rfl, o, n, ea, k⟩ := h
    refine ⟨_, (pss_one (ps_ost (pv 0) (pv 1))), ?_⟩
    try dsimp only [cxOf, Cx.nox, Cx.wish]
    try dsimp only
    walk_at "go"
    try dsimp only
    refine g_ost ?_
    walk_at "go"
    refine ⟨a, _, rfl, o, n, .inl ⟨ea, fun dx n1 n2 => ?_⟩⟩
    walk_at "go"
    exact k dx _ n1 n2 upd_same (by rw [upd_ne n2, upd_same]) fun b u nb hb => by rw [upd_ne nb, upd_ne (ne_of_none hb n1)]; exact hb
theorem ok_iBadText (T : Txt K mg) : FnOk P w K mg base CX0 1 T.iBadText.f T.iBadText.fd P_BadText_init (spIni3 K T.cBadText.C "line" "column" "fault") := by
  refine T.iBadText.F.ok sc_BadText_init (fun vs H Q E h => ?_) (fun cdv A outer s_ H vs Q E hr h => ?_)
  · obtain ⟨a, x, y, z, rfl, _⟩ := h
    rfl
  · obtain ⟨a, x, y, z, rfl, o, n, n', n'', ea, k⟩ := h
    refine ⟨_, (pss_cons (ps_ost (pv 0) (pv 1))
      (pss_cons (ps_ost (pv 0) (pv 2))
      (pss_one (ps_ost (pv 0) (pv 3))))), ?_⟩
    try dsimp only [cxOf, Cx.nox, Cx.wish]
    try dsimp only
    walk_at "go"
    try dsimp only
    refine g_ost ?_
    walk_at "go"
    refine ⟨a, _, rfl, o, n, .inl ⟨ea, fun dx n1 n2 => ?_⟩⟩
    try dsimp only
    walk_at "go"
    try dsimp only
    refine g_ost ?_
    walk_at "go"
    refine ⟨a, _, rfl, o, n', .inr ⟨dx, _, upd_same, by rw [upd_ne n2, upd_same], by show 1 ≤ 900; decide, ?_⟩⟩
    try dsimp only
    walk_at "go"
    try dsimp only
    refine g_ost ?_
    walk_at "go"
    refine ⟨a, _, rfl, o, n'', .inr ⟨dx, _, by rw [upd_ne (Ne.symm n2), upd_same], upd_same, by show 2 ≤ 900; decide, ?_⟩⟩
    walk_at "go"
    refine k dx _ n1 n2 (by rw [upd_ne (Ne.symm n2), upd_ne (Ne.symm n2), upd_same]) upd_same fun b u nb hb => ?_
    have nd := ne_of_none hb n1
    rw [upd_ne nd, upd_ne nd, upd_ne nb, upd_ne nd]
    exact hb
end
end My
namespace My
open PySem PySem.Spec PyProof.Rows L2
section
variable {K : PySem.W.Frag} {a : Addr} {cls : Value} {d : Option Addr} {H : Hp} {Q : VK} {σ : L2.St}
theorem g_isP {C dd : Addr} {fs : List (Str × V)} {c : V} {cv : Value} {b : Bool} (hc : cls = .ref C) (x : XC K C) (hd : d = some dd) (ea : H dd = some (.xd fs)) (k : ClsV c cv) (kb : PySem.W.kitOne K (.ref C) cv = some b) (h : Q (.bl b) H) : rIsP K a cls d [.ref a, c] H Q :=
  ⟨C, dd, fs, c, cv, b, rfl, hc, x, hd, ea, k, kb, h⟩
theorem g_xg {n : Str} {te : TE} (h : te σ H fun x H1 => x = .ref a ∧ ∃ (C dd : Addr) (fs : List (Str × V)) (v : V), cls = .ref C ∧ XC K C ∧ PySem.W.findIn K (.ref C) n = some none ∧ d = some dd ∧ H1 dd = some (.xd fs) ∧ fs.lookup n = some v ∧ Q v H1) : tXg K a cls d n te σ H Q := h
end
local macro_rules | `(tactic| walk_at "arith") => `(tactic| first
  | (with_reducible show _ ≠ _; omega)
  | (unfold CMul; omega)
  | (unfold CPow; omega)
  | (unfold CPow; decide)
  | exact wide_div (b := 100) (by decide) (by decide) (by decide) (by decide))
local macro_rules | `(tactic| walk_at "go") => `(tactic| repeat (first
  | with_reducible refine g_seq ?_
  | with_reducible refine g_asg ?_
  | with_reducible refine g_name ?_
  | with_reducible refine g_sub ?_
  | with_reducible refine g_ret ?_
  | with_reducible refine g_drop ?_
  | ((with_reducible refine g_next ?_); dsimp only)
  | with_reducible refine g_if ?_
  | with_reducible refine g_var rfl ?_
  | with_reducible refine g_c ?_
  | with_reducible refine g_op ?_
  | with_reducible refine g_un ?_
  | with_reducible refine g_I0 ?_
  | with_reducible refine g_U ?_
  | with_reducible refine g_eq rfl ?_
  | with_reducible refine g_test ?_
  | with_reducible refine g_bl ?_
  | with_reducible refine iteF ?_
  | with_reducible refine iteT ?_
  | ((with_reducible apply g_iteT); (case e => rfl))
  | ((with_reducible apply g_iteF); (case e => rfl))
  | with_reducible refine g_int1 ?_
  | with_reducible refine g_max2 ?_
  | with_reducible refine g_min2 ?_
  | with_reducible refine g_isN ?_
  | with_reducible refine g_notN ?_
  | ((with_reducible apply g_lenL); (case hs => assumption))
  | ((with_reducible apply g_ixL); (case hs => exact SqL.of (by assumption)); (case ha => rfl))
  | with_reducible refine g_pow9 ?_
  | with_reducible refine g_pow18 ?_
  | ((with_reducible apply g_I); (case c => walk_at "arith"))
  | ((with_reducible apply g_st); (case hs => assumption); (case hL => assumption); (case ne => assumption); (case x0 => assumption); (case hj => rfl); (case j0 => decide); intro _ _ _ _)
  | with_reducible refine g_and ?_
  | with_reducible refine g_or ?_
  | with_reducible refine g_not ?_
  | with_reducible refine g_nil ?_
  | with_reducible refine g_cons ?_
  | with_reducible refine g_callB ?_
  | with_reducible refine g_call ?_
  | with_reducible refine g_tup ?_
  | with_reducible refine g_lst ?_
  | with_reducible refine g_andV ?_
  | with_reducible refine g_orV ?_
  | with_reducible refine g_notV ?_
  | with_reducible refine g_tB ?_
  | with_reducible refine g_ne rfl ?_
  | with_reducible refine g_abs ?_
  | with_reducible refine g_isB ?_
  | with_reducible refine g_for ?_
  | with_reducible refine g_rng1 ?_
  | with_reducible refine g_rng2 ?_
  | with_reducible refine g_iList ?_
  | ((with_reducible refine g_break ?_); dsimp only)
  | ((with_reducible refine g_cont ?_); dsimp only)
  | with_reducible refine g_retN ?_
  | ((with_reducible apply isi_go (T := "int")); (case h => assumption); (case hb => exact k_int_ _))
  | ((with_reducible apply isi_go (T := "str")); (case h => assumption); (case hb => exact k_str_ _))
  | ((with_reducible apply isi_go (T := "bool")); (case h => assumption); (case hb => exact k_bool_ _))
  | ((with_reducible apply isi_go (T := "list")); (case h => assumption); (case hb => exact k_list_ _))
  | ((with_reducible apply isi_go (T := "tuple")); (case h => assumption); (case hb => exact k_tuple_ _))
  | ((with_reducible apply isi_go (T := "dict")); (case h => assumption); (case hb => exact k_dict_ _))
  | with_reducible refine g_intb ?_
  | with_reducible refine g_bm ?_
  | with_reducible refine g_tyS ?_
  | ((with_reducible apply g_tyL); (case hs => assumption))
  | with_reducible refine g_lc ?_
  | with_reducible refine g_sl ?_
  | with_reducible refine g_noP ?_
  | with_reducible refine g_part ?_
  | with_reducible refine g_pI ?_))

/-- what the exception tells -/
def XOf {K : PySem.W.Frag} {mg : Str → Option Value} (T : Txt K mg) (cls : Value) (H : Hp) (d : Addr) (ans : D) : Prop :=
  (∃ x : Str, cls = .ref T.cWrongKind.C ∧ H d = some (.xd [("argument", .str x)]) ∧ ans = .tup [.str "WrongKind", .str x]) ∨
  (∃ x : Str, cls = .ref T.cOutOfBounds.C ∧ H d = some (.xd [("argument", .str x)]) ∧ ans = .tup [.str "OutOfBounds", .str x]) ∨
  (∃ (l c : Int) (f : Str), cls = .ref T.cBadText.C ∧ H d = some (.xd [("fault", .str f), ("column", .int c), ("line", .int l)]) ∧ ans = .tup [.str "BadText", .tup [.int l, .int c, .str f]])
def spRef {K : PySem.W.Frag} {mg : Str → Option Value} (T : Txt K mg) (a : Addr) (cls : Value) (d : Option Addr) : Sp := fun vs H Q _ => vs = [.ref a] ∧ ∃ (s dd : Addr) (ans : D), Store K H s ∧ d = some dd ∧ XOf T cls H dd ans ∧
  ∀ (v : V) (H' : Hp), Same H H' → Da s H' ans v → Q v H'
abbrev s_refusal : Stmt := topS 24
abbrev N_refusal : List Str := ["e", "kinds"]
abbrev P_refusal : List Str := ["e"]
theorem sc_refusal : FnScope N_refusal P_refusal (defScope s_refusal) := ⟨rfl, rfl, rfl, by decide +kernel, rfl, by decide +kernel, by decide +kernel⟩

section
variable {P : Program} {w : World} {K : PySem.W.Frag} {mg : Str → Option Value} {base : Heap}
theorem ok_refusal (T : Txt K mg) : FnE P w K mg base 1 T.drefusal.f T.drefusal.fd P_refusal (fun q => spRef T q.1 q.2.cls q.2.dict) := by
  refine T.drefusal.okE sc_refusal (fun q vs H Q E h => ?_) (fun q cdv A outer s_ H vs Q E hot hr h => ?_)
  · obtain ⟨rfl, _⟩ := h
    rfl
  · obtain ⟨a, oe⟩ := q
    obtain ⟨rfl, s, dd, ans, st, hd, xo, k⟩ := h
    have hf : ∃ vs, oe.data = .fields vs := hot.2.imp fun _ z => z.1
    have hp : (a, oe) ∈ [(a, oe)] := List.mem_singleton.mpr rfl
    refine ⟨_, (pss_cons (ps_set (i := 1) sc_refusal.nd rfl (by first | exact .inl rfl | exact .inr rfl) (pe_lst (pa_cons (pe_callB (c_isP hp ⟨rfl, rfl⟩ hf) (by rfl) T.m_isinstance bt_isinstance (pa_cons (pv 0) (pa_cons (pe_glob (v := .ref T.cWrongKind.C) rfl T.cWrongKind.g rfl) pa_nil))) (pa_cons (pe_callB (c_isP hp ⟨rfl, rfl⟩ hf) (by rfl) T.m_isinstance bt_isinstance (pa_cons (pv 0) (pa_cons (pe_glob (v := .ref T.cOutOfBounds.C) rfl T.cOutOfBounds.g rfl) pa_nil))) (pa_cons (pe_callB (c_isP hp ⟨rfl, rfl⟩ hf) (by rfl) T.m_isinstance bt_isinstance (pa_cons (pv 0) (pa_cons (pe_glob (v := .ref T.cRepeatedName.C) rfl T.cRepeatedName.g rfl) pa_nil))) pa_nil)))))
      (pss_cons (ps_set (i := 1) sc_refusal.nd rfl (by first | exact .inl rfl | exact .inr rfl) (pe_op op_cat (pv 1) (pe_lst (pa_cons (pe_callB (c_isP hp ⟨rfl, rfl⟩ hf) (by rfl) T.m_isinstance bt_isinstance (pa_cons (pv 0) (pa_cons (pe_glob (v := .ref T.cUnknownName.C) rfl T.cUnknownName.g rfl) pa_nil))) (pa_cons (pe_callB (c_isP hp ⟨rfl, rfl⟩ hf) (by rfl) T.m_isinstance bt_isinstance (pa_cons (pv 0) (pa_cons (pe_glob (v := .ref T.cBadText.C) rfl T.cBadText.g rfl) pa_nil))) pa_nil)))))
      (pss_cons (ps_if (PW.pt (pw_or (pt_cmpR op_ne (pe_bm PySem.F.plainAttrs_list PySem.F.slot_list_count PySem.F.type_list_count mt_cntB (pv 1) (pa_cons pe_bl pa_nil)) pe_int (nomark _)) (pw_or (pt_val (pe_callB (c_isP hp ⟨rfl, rfl⟩ hf) (by rfl) T.m_isinstance bt_isinstance (pa_cons (pv 0) (pa_cons (pe_glob (v := .ref T.cUnsafe.C) rfl T.cUnsafe.g rfl) pa_nil)))) (pw_or (pt_val (pe_callB (c_isP hp ⟨rfl, rfl⟩ hf) (by rfl) T.m_isinstance bt_isinstance (pa_cons (pv 0) (pa_cons (pe_glob (v := .ref T.cUnfitError.C) rfl T.cUnfitError.g rfl) pa_nil)))) (pw_or1 (pt_not (pt_val (pe_callB (c_isP hp ⟨rfl, rfl⟩ hf) (by rfl) T.m_isinstance bt_isinstance (pa_cons (pv 0) (pa_cons (pe_bltn (v := .ty "ValueError") (by rfl) T.m_ValueError bt_ValueError rfl) pa_nil))))))))))
        (pss_one (ps_ret (pe_tup (pa_cons pe_str (pa_cons pe_non pa_nil)))))
        pss_nil)
      (pss_cons (ps_if (pt_val (pe_ix ix_list (pv 1) pe_int (fun _ _ => rfl)))
        (pss_one (ps_ret (pe_tup (pa_cons pe_str (pa_cons (pe_xg hp ⟨rfl, rfl⟩ hf (pv 0)) pa_nil)))))
        pss_nil)
      (pss_cons (ps_if (pt_val (pe_ix ix_list (pv 1) pe_int (fun _ _ => rfl)))
        (pss_one (ps_ret (pe_tup (pa_cons pe_str (pa_cons (pe_xg hp ⟨rfl, rfl⟩ hf (pv 0)) pa_nil)))))
        pss_nil)
      (pss_cons (ps_if (pt_val (pe_ix ix_list (pv 1) pe_int (fun _ _ => rfl)))
        (pss_one (ps_ret (pe_tup (pa_cons pe_str (pa_cons (pe_xg hp ⟨rfl, rfl⟩ hf (pv 0)) pa_nil)))))
        pss_nil)
      (pss_cons (ps_if (pt_val (pe_ix ix_list (pv 1) pe_int (fun _ _ => rfl)))
        (pss_one (ps_ret (pe_tup (pa_cons pe_str (pa_cons (pe_xg hp ⟨rfl, rfl⟩ hf (pv 0)) pa_nil)))))
        pss_nil)
      (pss_one (ps_ret (pe_tup (pa_cons pe_str (pa_cons (pe_tup (pa_cons (pe_xg hp ⟨rfl, rfl⟩ hf (pv 0)) (pa_cons (pe_xg hp ⟨rfl, rfl⟩ hf (pv 0)) (pa_cons (pe_xg hp ⟨rfl, rfl⟩ hf (pv 0)) pa_nil)))) pa_nil)))))))))))), ?_⟩
    try dsimp only [cxOf, Cx.nox, Cx.wish, L2H.cxH]
    dsimp only at hd xo
    rcases xo with xo | xo | xo
    · obtain ⟨x, he, ea, rfl⟩ := xo
      walk_at "go"
      refine g_isP he T.cWrongKind.x hd ea (.own _) T.kWrongKind_WrongKind ?_
      walk_at "go"
      refine g_isP he T.cWrongKind.x hd ea (.own _) T.kWrongKind_OutOfBounds ?_
      walk_at "go"
      refine g_isP he T.cWrongKind.x hd ea (.own _) T.kWrongKind_RepeatedName ?_
      walk_at "go"
      refine ⟨by show 3 ≤ sizeLine; decide, fun p1 g1 => ?_⟩
      have y1 : Same H (upd H p1 (.lst [.bl true, .bl false, .bl false])) := same_new g1
      have u1 := upd_same (H := H) (a := p1) (o := .lst [.bl true, .bl false, .bl false])
      replace ea := y1 _ _ ea
      have x1 := y1
      generalize upd H p1 (.lst [.bl true, .bl false, .bl false]) = H1 at *
      walk_at "go"
      refine g_isP he T.cWrongKind.x hd ea (.own _) T.kWrongKind_UnknownName ?_
      walk_at "go"
      refine g_isP he T.cWrongKind.x hd ea (.own _) T.kWrongKind_BadText ?_
      walk_at "go"
      refine ⟨by show 2 ≤ sizeLine; decide, fun p2 g2 => ?_⟩
      have y2 : Same H1 (upd H1 p2 (.lst [.bl false, .bl false])) := same_new g2
      have u2 := upd_same (H := H1) (a := p2) (o := .lst [.bl false, .bl false])
      replace ea := y2 _ _ ea
      replace u1 := y2 _ _ u1
      have x2 := x1.trans y2
      clear y2
      generalize upd H1 p2 (.lst [.bl false, .bl false]) = H2 at *
      walk_at "go"
      refine ⟨p1, p2, _, _, rfl, rfl, u1, u2, by show 3 + 2 ≤ sizeLine; decide, fun p3 g3 => ?_⟩
      have u3 : upd H2 p3 (.lst ([.bl true, .bl false, .bl false] ++ [.bl false, .bl false])) p3 = some (.lst [.bl true, .bl false, .bl false, .bl false, .bl false]) := upd_same
      have y3 : Same H2 (upd H2 p3 (.lst ([.bl true, .bl false, .bl false] ++ [.bl false, .bl false]))) := same_new g3
      replace ea := y3 _ _ ea
      have x3 := x2.trans y3
      clear y3
      generalize upd H2 p3 (.lst ([.bl true, .bl false, .bl false] ++ [.bl false, .bl false])) = H3 at *
      walk_at "go"
      refine ⟨p3, [true, false, false, false, false], true, rfl, rfl, SqL.of u3, ?_⟩
      rw [show countIn (.bool true) ([true, false, false, false, false].map PyData.bool) = 1 from by decide +kernel]
      walk_at "go"
      refine g_isP he T.cWrongKind.x hd ea (.own _) T.kWrongKind_Unsafe ?_
      walk_at "go"
      refine g_isP he T.cWrongKind.x hd ea (.own _) T.kWrongKind_UnfitError ?_
      walk_at "go"
      refine g_isP he T.cWrongKind.x hd ea (.ty _) T.kWrongKind_ValueError ?_
      walk_at "go"
      refine g_xg ?_
      walk_at "go"
      refine ⟨rfl, _, _, _, _, he, T.cWrongKind.x, T.nWrongKind_argument, hd, ea, rfl, ?_⟩
      walk_at "go"
      refine ⟨by show 2 ≤ sizeLine; decide, fun p4 g4 => ?_⟩
      exact k _ _ (x3.trans (same_new g4)) (Da.tupI (st.same x3) g4 (l := [.str "WrongKind", .str x]) (.cons rfl (.cons rfl .nil)))
    · obtain ⟨x, he, ea, rfl⟩ := xo
      walk_at "go"
      refine g_isP he T.cOutOfBounds.x hd ea (.own _) T.kOutOfBounds_WrongKind ?_
      walk_at "go"
      refine g_isP he T.cOutOfBounds.x hd ea (.own _) T.kOutOfBounds_OutOfBounds ?_
      walk_at "go"
      refine g_isP he T.cOutOfBounds.x hd ea (.own _) T.kOutOfBounds_RepeatedName ?_
      walk_at "go"
      refine ⟨by show 3 ≤ sizeLine; decide, fun p1 g1 => ?_⟩
      have y1 : Same H (upd H p1 (.lst [.bl false, .bl true, .bl false])) := same_new g1
      have u1 := upd_same (H := H) (a := p1) (o := .lst [.bl false, .bl true, .bl false])
      replace ea := y1 _ _ ea
      have x1 := y1
      generalize upd H p1 (.lst [.bl false, .bl true, .bl false]) = H1 at *
      walk_at "go"
      refine g_isP he T.cOutOfBounds.x hd ea (.own _) T.kOutOfBounds_UnknownName ?_
      walk_at "go"
      refine g_isP he T.cOutOfBounds.x hd ea (.own _) T.kOutOfBounds_BadText ?_
      walk_at "go"
      refine ⟨by show 2 ≤ sizeLine; decide, fun p2 g2 => ?_⟩
      have y2 : Same H1 (upd H1 p2 (.lst [.bl false, .bl false])) := same_new g2
      have u2 := upd_same (H := H1) (a := p2) (o := .lst [.bl false, .bl false])
      replace ea := y2 _ _ ea
      replace u1 := y2 _ _ u1
      have x2 := x1.trans y2
      clear y2
      generalize upd H1 p2 (.lst [.bl false, .bl false]) = H2 at *
      walk_at "go"
      refine ⟨p1, p2, _, _, rfl, rfl, u1, u2, by show 3 + 2 ≤ sizeLine; decide, fun p3 g3 => ?_⟩
      have u3 : upd H2 p3 (.lst ([.bl false, .bl true, .bl false] ++ [.bl false, .bl false])) p3 = some (.lst [.bl false, .bl true, .bl false, .bl false, .bl false]) := upd_same
      have y3 : Same H2 (upd H2 p3 (.lst ([.bl false, .bl true, .bl false] ++ [.bl false, .bl false]))) := same_new g3
      replace ea := y3 _ _ ea
      have x3 := x2.trans y3
      clear y3
      generalize upd H2 p3 (.lst ([.bl false, .bl true, .bl false] ++ [.bl false, .bl false])) = H3 at *
      walk_at "go"
      refine ⟨p3, [false, true, false, false, false], true, rfl, rfl, SqL.of u3, ?_⟩
      rw [show countIn (.bool true) ([false, true, false, false, false].map PyData.bool) = 1 from by decide +kernel]
      walk_at "go"
      refine g_isP he T.cOutOfBounds.x hd ea (.own _) T.kOutOfBounds_Unsafe ?_
      walk_at "go"
      refine g_isP he T.cOutOfBounds.x hd ea (.own _) T.kOutOfBounds_UnfitError ?_
      walk_at "go"
      refine g_isP he T.cOutOfBounds.x hd ea (.ty _) T.kOutOfBounds_ValueError ?_
      walk_at "go"
      refine g_xg ?_
      walk_at "go"
      refine ⟨rfl, _, _, _, _, he, T.cOutOfBounds.x, T.nOutOfBounds_argument, hd, ea, rfl, ?_⟩
      walk_at "go"
      refine ⟨by show 2 ≤ sizeLine; decide, fun p4 g4 => ?_⟩
      exact k _ _ (x3.trans (same_new g4)) (Da.tupI (st.same x3) g4 (l := [.str "OutOfBounds", .str x]) (.cons rfl (.cons rfl .nil)))
    · obtain ⟨l, c, f, he, ea, rfl⟩ := xo
      walk_at "go"
      refine g_isP he T.cBadText.x hd ea (.own _) T.kBadText_WrongKind ?_
      walk_at "go"
      refine g_isP he T.cBadText.x hd ea (.own _) T.kBadText_OutOfBounds ?_
      walk_at "go"
      refine g_isP he T.cBadText.x hd ea (.own _) T.kBadText_RepeatedName ?_
      walk_at "go"
      refine ⟨by show 3 ≤ sizeLine; decide, fun p1 g1 => ?_⟩
      have y1 : Same H (upd H p1 (.lst [.bl false, .bl false, .bl false])) := same_new g1
      have u1 := upd_same (H := H) (a := p1) (o := .lst [.bl false, .bl false, .bl false])
      replace ea := y1 _ _ ea
      have x1 := y1
      generalize upd H p1 (.lst [.bl false, .bl false, .bl false]) = H1 at *
      walk_at "go"
      refine g_isP he T.cBadText.x hd ea (.own _) T.kBadText_UnknownName ?_
      walk_at "go"
      refine g_isP he T.cBadText.x hd ea (.own _) T.kBadText_BadText ?_
      walk_at "go"
      refine ⟨by show 2 ≤ sizeLine; decide, fun p2 g2 => ?_⟩
      have y2 : Same H1 (upd H1 p2 (.lst [.bl false, .bl true])) := same_new g2
      have u2 := upd_same (H := H1) (a := p2) (o := .lst [.bl false, .bl true])
      replace ea := y2 _ _ ea
      replace u1 := y2 _ _ u1
      have x2 := x1.trans y2
      clear y2
      generalize upd H1 p2 (.lst [.bl false, .bl true]) = H2 at *
      walk_at "go"
      refine ⟨p1, p2, _, _, rfl, rfl, u1, u2, by show 3 + 2 ≤ sizeLine; decide, fun p3 g3 => ?_⟩
      have u3 : upd H2 p3 (.lst ([.bl false, .bl false, .bl false] ++ [.bl false, .bl true])) p3 = some (.lst [.bl false, .bl false, .bl false, .bl false, .bl true]) := upd_same
      have y3 : Same H2 (upd H2 p3 (.lst ([.bl false, .bl false, .bl false] ++ [.bl false, .bl true]))) := same_new g3
      replace ea := y3 _ _ ea
      have x3 := x2.trans y3
      clear y3
      generalize upd H2 p3 (.lst ([.bl false, .bl false, .bl false] ++ [.bl false, .bl true])) = H3 at *
      walk_at "go"
      refine ⟨p3, [false, false, false, false, true], true, rfl, rfl, SqL.of u3, ?_⟩
      rw [show countIn (.bool true) ([false, false, false, false, true].map PyData.bool) = 1 from by decide +kernel]
      walk_at "go"
      refine g_isP he T.cBadText.x hd ea (.own _) T.kBadText_Unsafe ?_
      walk_at "go"
      refine g_isP he T.cBadText.x hd ea (.own _) T.kBadText_UnfitError ?_
      walk_at "go"
      refine g_isP he T.cBadText.x hd ea (.ty _) T.kBadText_ValueError ?_
      walk_at "go"
      refine g_xg ?_
      walk_at "go"
      refine ⟨rfl, _, _, _, _, he, T.cBadText.x, T.nBadText_line, hd, ea, rfl, ?_⟩
      walk_at "go"
      refine g_xg ?_
      walk_at "go"
      refine ⟨rfl, _, _, _, _, he, T.cBadText.x, T.nBadText_column, hd, ea, rfl, ?_⟩
      walk_at "go"
      refine g_xg ?_
      walk_at "go"
      refine ⟨rfl, _, _, _, _, he, T.cBadText.x, T.nBadText_fault, hd, ea, rfl, ?_⟩
      walk_at "go"
      refine ⟨by show 3 ≤ sizeLine; decide, fun p4 g4 => ?_⟩
      walk_at "go"
      refine ⟨by show 2 ≤ sizeLine; decide, fun p5 g5 => ?_⟩
      have st3 := st.same x3
      have d4 := Da.tupI st3 g4 (l := [.int l, .int c, .str f]) (.cons rfl (.cons rfl (.cons rfl .nil)))
      exact k _ _ ((x3.trans (same_new g4)).trans (same_new g5)) (Da.tupI (st3.new g4) g5 (l := [.str "BadText", .tup [.int l, .int c, .str f]]) (.cons rfl (.cons d4 .nil)))
end
end My
namespace My
open PySem PySem.Spec PyProof.Rows L2
/-! ### what split_row answers -/
def ansOf (dr dl : D) : D := match dr with
  | .str x => if x = "" ∨ 10 ∈ x.cps.toList then .tup [.str "WrongKind", .str "row"] else if badInt dl = true then .tup [.str "WrongKind", .str "line"] else match dl with
    | .int i => if i < 1 then .tup [.str "OutOfBounds", .str "line"] else dueGo i (Txt.split x " ") 1 []
    | _ => .non
  | _ => .tup [.str "WrongKind", .str "row"]
theorem row_cases : ∀ d : D, isIn d "str" = false ∨ ∃ x, d = .str x
  | .str x => .inr ⟨x, rfl⟩
  | .non => .inl (by show isIn .non "str" = false; decide +kernel)
  | .bl _ => .inl (by show isIn (.bl true) "str" = false; decide +kernel)
  | .int _ => .inl (by show isIn (.int 0) "str" = false; decide +kernel)
  | .dct => .inl (by show isIn .dct "str" = false; decide +kernel)
  | .tup _ => .inl (by show isIn (.tup []) "str" = false; decide +kernel)
  | .lst _ => .inl (by show isIn (.lst []) "str" = false; decide +kernel)
theorem in_str (x : Str) : isIn (.str x) "str" = true := by show isIn (.str "") "str" = true; decide +kernel
theorem ans_no {dr dl : D} (h : isIn dr "str" = false) : ansOf dr dl = .tup [.str "WrongKind", .str "row"] := by
  cases dr with
  | str x => rw [in_str] at h; cases h
  | _ => rfl
theorem in_int : ∀ d : D, isIn d "int" = true → isIn d "bool" = false → ∃ i, d = .int i
  | .int i, _, _ => ⟨i, rfl⟩
  | .bl _, _, h => absurd (show isIn (.bl true) "bool" = false from h) (by decide +kernel)
  | .non, h, _ => absurd h (by decide +kernel)
  | .str _, h, _ => absurd (show isIn (.str "") "int" = true from h) (by decide +kernel)
  | .dct, h, _ => absurd h (by decide +kernel)
  | .tup _, h, _ => absurd (show isIn (.tup []) "int" = true from h) (by decide +kernel)
  | .lst _, h, _ => absurd (show isIn (.lst []) "int" = true from h) (by decide +kernel)
theorem ans_badline {x : Str} {dl : D} (h : ¬ (x = "" ∨ 10 ∈ x.cps.toList)) (hb : badInt dl = true) : ansOf (.str x) dl = .tup [.str "WrongKind", .str "line"] := (if_neg h).trans (if_pos hb)
theorem ans_badrow {x : Str} {dl : D} (h : x = "" ∨ 10 ∈ x.cps.toList) : ansOf (.str x) dl = .tup [.str "WrongKind", .str "row"] := if_pos h
theorem not_bad (i : Int) : badInt (.int i) = false := by
  have e1 : isIn (.int i) "int" = true := by show isIn (.int 0) "int" = true; decide +kernel
  have e2 : isIn (.int i) "bool" = false := by show isIn (.int 0) "bool" = false; decide +kernel
  unfold badInt
  rw [e1, e2]
  rfl
theorem ans_low {x : Str} {i : Int} (h : ¬ (x = "" ∨ 10 ∈ x.cps.toList)) (hi : i < 1) : ansOf (.str x) (.int i) = .tup [.str "OutOfBounds", .str "line"] :=
  (if_neg h).trans ((if_neg (by rw [not_bad]; exact Bool.false_ne_true)).trans (if_pos hi))
theorem ans_go {x : Str} {i : Int} (h : ¬ (x = "" ∨ 10 ∈ x.cps.toList)) (hi : ¬ i < 1) : ansOf (.str x) (.int i) = dueGo i (Txt.split x " ") 1 [] :=
  (if_neg h).trans ((if_neg (by rw [not_bad]; exact Bool.false_ne_true)).trans (if_neg hi))
/-! ### raising -/
section
variable {K : PySem.W.Frag}
theorem raise1 {C : Addr} {f : Str} {x : V} {H : Hp} {Q : XK} (o : OexC K C) (n : PySem.W.findIn K (.ref C) f = some none) (q : ∀ d H', Same H H' → H' d = some (.xd [(f, x)]) → Q (.ref C) (some d) H') :
    [x].length ≤ 1000 ∧ ∀ a, H a = none → spIni1 K C f (.ref a :: ([x] ++ [])) (upd H a (exo a C none)) (fun v H2 => v = .non ∧ ∃ (d : Addr) (fs : List (Str × V)), H2 a = some (exo a C (some d)) ∧ H2 d = some (exd d fs) ∧ H d = none ∧ Q (.ref C) (some d) (upd (del H2 a) d (.xd fs))) (fun _ _ _ => False) := by
  refine ⟨by show 1 ≤ 1000; decide, fun a ha => ⟨a, x, rfl, o, n, upd_same, fun dx H' h1 h2 h3 h4 h5 => ⟨rfl, dx, _, h3, h4, ?_, q dx _ (fun b u hb => ?_) upd_same⟩⟩⟩
  · rw [upd_ne h2] at h1
    exact h1
  · rw [upd_ne h2] at h1
    rw [upd_ne (ne_of_none hb h1), del_ne (ne_of_none hb ha)]
    exact h5 b u (ne_of_none hb ha) (by rw [upd_ne (ne_of_none hb ha)]; exact hb)
theorem raise3 {C : Addr} {f g h : Str} {x y z : V} {H : Hp} {Q : XK} (o : OexC K C) (n1 : PySem.W.findIn K (.ref C) f = some none) (n2 : PySem.W.findIn K (.ref C) g = some none) (n3 : PySem.W.findIn K (.ref C) h = some none)
    (q : ∀ d H', Same H H' → H' d = some (.xd [(h, z), (g, y), (f, x)]) → Q (.ref C) (some d) H') :
    [x, y, z].length ≤ 1000 ∧ ∀ a, H a = none → spIni3 K C f g h (.ref a :: ([x, y, z] ++ [])) (upd H a (exo a C none)) (fun v H2 => v = .non ∧ ∃ (d : Addr) (fs : List (Str × V)), H2 a = some (exo a C (some d)) ∧ H2 d = some (exd d fs) ∧ H d = none ∧ Q (.ref C) (some d) (upd (del H2 a) d (.xd fs))) (fun _ _ _ => False) := by
  refine ⟨by show 3 ≤ 1000; decide, fun a ha => ⟨a, x, y, z, rfl, o, n1, n2, n3, upd_same, fun dx H' h1 h2 h3 h4 h5 => ⟨rfl, dx, _, h3, h4, ?_, q dx _ (fun b u hb => ?_) upd_same⟩⟩⟩
  · rw [upd_ne h2] at h1
    exact h1
  · rw [upd_ne h2] at h1
    rw [upd_ne (ne_of_none hb h1), del_ne (ne_of_none hb ha)]
    exact h5 b u (ne_of_none hb ha) (by rw [upd_ne (ne_of_none hb ha)]; exact hb)
theorem g_mkO {C : Addr} {sp : Sp} {dvs : List V} {ta : TA} {σ : L2.St} {H : Hp} {Q : XK} (h : ta σ H fun vs H1 => vs.length ≤ 1000 ∧ ∀ a, H1 a = none → sp (.ref a :: (vs ++ dvs)) (upd H1 a (exo a C none))
  (fun v H2 => v = .non ∧ ∃ (d : Addr) (fs : List (Str × V)), H2 a = some (exo a C (some d)) ∧ H2 d = some (exd d fs) ∧ H1 d = none ∧ Q (.ref C) (some d) (upd (del H2 a) d (.xd fs))) (fun _ _ _ => False)) : tMkO C sp dvs ta σ H Q := h
theorem g_callS {sp : Sp} {E : L2.St → XK} {t : TA} {σ : L2.St} {H : Hp} {Q : VK} (h : t σ H fun vs H1 => sp vs H1 Q (E σ)) : tCallS sp E t σ H Q := h
end
theorem g_inN {x : Str} {H : Hp} {Q : VK} (h : Q (.bl (decide (10 ∈ x.cps.toList))) H) : rInS (.str (Str.ofString "\n")) (.str x) H Q := ⟨10, x, rfl, rfl, h⟩
local macro_rules | `(tactic| walk_at "arith") => `(tactic| first
  | (with_reducible show _ ≠ _; omega)
  | (unfold CMul; omega)
  | (unfold CPow; omega)
  | (unfold CPow; decide)
  | exact wide_div (b := 100) (by decide) (by decide) (by decide) (by decide))
local macro_rules | `(tactic| walk_at "go") => `(tactic| repeat (first
  | with_reducible refine g_seq ?_
  | with_reducible refine g_asg ?_
  | with_reducible refine g_name ?_
  | with_reducible refine g_sub ?_
  | with_reducible refine g_ret ?_
  | with_reducible refine g_drop ?_
  | ((with_reducible refine g_next ?_); dsimp only)
  | with_reducible refine g_if ?_
  | with_reducible refine g_var rfl ?_
  | with_reducible refine g_c ?_
  | with_reducible refine g_op ?_
  | with_reducible refine g_un ?_
  | with_reducible refine g_I0 ?_
  | with_reducible refine g_U ?_
  | with_reducible refine g_eq rfl ?_
  | with_reducible refine g_test ?_
  | with_reducible refine g_bl ?_
  | with_reducible refine iteF ?_
  | with_reducible refine iteT ?_
  | ((with_reducible apply g_iteT); (case e => rfl))
  | ((with_reducible apply g_iteF); (case e => rfl))
  | with_reducible refine g_int1 ?_
  | with_reducible refine g_max2 ?_
  | with_reducible refine g_min2 ?_
  | with_reducible refine g_isN ?_
  | with_reducible refine g_notN ?_
  | ((with_reducible apply g_lenL); (case hs => assumption))
  | ((with_reducible apply g_ixL); (case hs => exact SqL.of (by assumption)); (case ha => rfl))
  | with_reducible refine g_pow9 ?_
  | with_reducible refine g_pow18 ?_
  | ((with_reducible apply g_I); (case c => walk_at "arith"))
  | ((with_reducible apply g_st); (case hs => assumption); (case hL => assumption); (case ne => assumption); (case x0 => assumption); (case hj => rfl); (case j0 => decide); intro _ _ _ _)
  | with_reducible refine g_and ?_
  | with_reducible refine g_or ?_
  | with_reducible refine g_not ?_
  | with_reducible refine g_nil ?_
  | with_reducible refine g_cons ?_
  | with_reducible refine g_callB ?_
  | with_reducible refine g_call ?_
  | with_reducible refine g_tup ?_
  | with_reducible refine g_lst ?_
  | with_reducible refine g_andV ?_
  | with_reducible refine g_orV ?_
  | with_reducible refine g_notV ?_
  | with_reducible refine g_tB ?_
  | with_reducible refine g_ne rfl ?_
  | with_reducible refine g_abs ?_
  | with_reducible refine g_isB ?_
  | with_reducible refine g_for ?_
  | with_reducible refine g_rng1 ?_
  | with_reducible refine g_rng2 ?_
  | with_reducible refine g_iList ?_
  | ((with_reducible refine g_break ?_); dsimp only)
  | ((with_reducible refine g_cont ?_); dsimp only)
  | with_reducible refine g_retN ?_
  | ((with_reducible apply isi_go (T := "int")); (case h => assumption); (case hb => exact k_int_ _))
  | ((with_reducible apply isi_go (T := "str")); (case h => assumption); (case hb => exact k_str_ _))
  | ((with_reducible apply isi_go (T := "bool")); (case h => assumption); (case hb => exact k_bool_ _))
  | ((with_reducible apply isi_go (T := "list")); (case h => assumption); (case hb => exact k_list_ _))
  | ((with_reducible apply isi_go (T := "tuple")); (case h => assumption); (case hb => exact k_tuple_ _))
  | ((with_reducible apply isi_go (T := "dict")); (case h => assumption); (case hb => exact k_dict_ _))
  | with_reducible refine g_intb ?_
  | with_reducible refine g_bm ?_
  | with_reducible refine g_tyS ?_
  | ((with_reducible apply g_tyL); (case hs => assumption))
  | with_reducible refine g_lc ?_
  | with_reducible refine g_sl ?_
  | with_reducible refine g_noP ?_
  | with_reducible refine g_part ?_
  | with_reducible refine g_pI ?_))

def spSplit {K : PySem.W.Frag} {mg : Str → Option Value} (T : Txt K mg) : Sp := fun vs H Q E => ∃ (s : Addr) (v w : V) (dr dl : D), vs = [v, w] ∧ Store K H s ∧ Da s H dr v ∧ Da s H dl w ∧ (∀ x, dr = .str x → x.length ≤ 1000000) ∧
  (∀ (cls : Value) (d : Addr) (H' : Hp), Same H H' → XOf T cls H' d (ansOf dr dl) → E cls (some d) H') ∧
  ∀ (q : Addr) (xs : List V) (l : List (Str × Int)) (H' : Hp), Same H H' → H q = none → H' q = some (.lst xs) → Ws s H' l xs → ansOf dr dl = .tup [.str "told", .lst (wds l)] → xs ≠ [] → xs.length ≤ 1000002 → Q (.ref q) H'
abbrev s_split_row : Stmt := topS 10
abbrev N_split_row : List Str := ["row", "line", "words", "column", "word"]
abbrev P_split_row : List Str := ["row", "line"]
theorem sc_split_row : FnScope N_split_row P_split_row (defScope s_split_row) := ⟨rfl, rfl, rfl, by decide +kernel, rfl, by decide +kernel, by decide +kernel⟩

section
variable {P : Program} {w : World} {K : PySem.W.Frag} {mg : Str → Option Value} {base : Heap}
theorem ok_split_row (T : Txt K mg) : FnOk P w K mg base (L2N.CX P w) 3 T.dsplit_row.f T.dsplit_row.fd P_split_row (spSplit T) := by
  have I_WrongKind : FnOk P w K mg base CX0 1 T.iWrongKind.f T.iWrongKind.fd P_WrongKind_init (spIni1 K T.cWrongKind.C "argument") := ok_iWrongKind T
  have I_OutOfBounds : FnOk P w K mg base CX0 1 T.iOutOfBounds.f T.iOutOfBounds.fd P_OutOfBounds_init (spIni1 K T.cOutOfBounds.C "argument") := ok_iOutOfBounds T
  have I_BadText : FnOk P w K mg base CX0 1 T.iBadText.f T.iBadText.fd P_BadText_init (spIni3 K T.cBadText.C "line" "column" "fault") := ok_iBadText T
  refine T.dsplit_row.okN sc_split_row (fun vs H Q E h => ?_) (fun cdv A outer s_ H vs Q E hr h => ?_)
  · obtain ⟨s, v, w, dr, dl, rfl, _⟩ := h
    rfl
  · obtain ⟨s, v, w, dr, dl, rfl, st, h1, h2, hl, kE, kQ⟩ := h
    refine ⟨_, (pss_cons (ps_if (PW.pt (pw_or (pt_not (pt_val (pe_callB call_isi (by rfl) T.m_isinstance bt_isinstance (pa_cons (pv 0) (pa_cons (pe_bltn (v := .ty "str") (by rfl) T.m_str bt_str rfl) pa_nil))))) (pw_or (pt_cmpR op_eq (pv 0) pe_str (nomark _)) (pw_or1 (pt_cmpR o_inS pe_str (pv 0) rfl)))))
        (pss_one (L2N.ps_raise rfl (L2N.takes_of rfl rfl rfl rfl) (pmkN T.cWrongKind.o T.iWrongKind.i T.iWrongKind.t I_WrongKind (hr.mono (by omega)) T.iWrongKind.b .nil pass0 rfl T.cWrongKind.g (pa_cons pe_str pa_nil))))
        pss_nil)
      (pss_cons (ps_if (PW.pt (pw_or (pt_not (pt_val (pe_callB call_isi (by rfl) T.m_isinstance bt_isinstance (pa_cons (pv 1) (pa_cons (pe_bltn (v := .ty "int") (by rfl) T.m_int bt_int rfl) pa_nil))))) (pw_or1 (pt_val (pe_callB call_isi (by rfl) T.m_isinstance bt_isinstance (pa_cons (pv 1) (pa_cons (pe_bltn (v := .ty "bool") (by rfl) T.m_bool bt_bool rfl) pa_nil)))))))
        (pss_one (L2N.ps_raise rfl (L2N.takes_of rfl rfl rfl rfl) (pmkN T.cWrongKind.o T.iWrongKind.i T.iWrongKind.t I_WrongKind (hr.mono (by omega)) T.iWrongKind.b .nil pass0 rfl T.cWrongKind.g (pa_cons pe_str pa_nil))))
        pss_nil)
      (pss_cons (ps_if (pt_cmpR op_lt (pv 1) pe_int (nomark _))
        (pss_one (L2N.ps_raise rfl (L2N.takes_of rfl rfl rfl rfl) (pmkN T.cOutOfBounds.o T.iOutOfBounds.i T.iOutOfBounds.t I_OutOfBounds (hr.mono (by omega)) T.iOutOfBounds.b .nil pass0 rfl T.cOutOfBounds.g (pa_cons pe_str pa_nil))))
        pss_nil)
      (pss_cons (ps_set (i := 2) sc_split_row.nd rfl (by first | exact .inl rfl | exact .inr rfl) (pe_lst pa_nil))
      (pss_cons (ps_set (i := 3) sc_split_row.nd rfl (by first | exact .inl rfl | exact .inr rfl) pe_int)
      (pss_cons (ps_for PassesOwn.leaving rfl (pi_list (pe_bm PySem.F.plainAttrs_str PySem.F.slot_str_split PySem.F.type_str_split m_split (pv 0) (pa_cons pe_str pa_nil))) (pg_name (i := 4) sc_split_row.nd rfl (by first | exact .inl rfl | exact .inr rfl))
        (pss_cons (ps_if (pt_cmpR op_eq (pv 4) pe_str (nomark _))
          (pss_one (L2N.ps_raise rfl (L2N.takes_of rfl rfl rfl rfl) (pmkN T.cBadText.o T.iBadText.i T.iBadText.t I_BadText (hr.mono (by omega)) T.iBadText.b .nil pass0 rfl T.cBadText.g (pa_cons (pv 1) (pa_cons (pv 3) (pa_cons pe_str pa_nil))))))
          pss_nil)
        (pss_cons (ps_expr (pe_bm PySem.F.plainAttrs_list PySem.F.slot_list_append PySem.F.type_list_append mt_append (pv 2) (pa_cons (pe_tup (pa_cons (pv 4) (pa_cons (pv 3) pa_nil))) pa_nil)))
        (pss_one (ps_aug (i := 3) sc_split_row.nd rfl (by first | exact .inl rfl | exact .inr rfl) (pe_op op_add (pe_callB c_lenS (by rfl) T.m_len bt_len (pa_cons (pv 4) pa_nil)) pe_int) ip_add)))))
      (pss_one (ps_ret (pv 2))))))))), ?_⟩
    try dsimp only [cxOf, Cx.nox, Cx.wish]
    rcases row_cases dr with hb | ⟨x, rfl⟩
    · walk_at "go"
      refine g_iteT (by rw [hb]; rfl) ?_
      walk_at "go"
      try dsimp only
      refine g_mkO ?_
      walk_at "go"
      exact raise1 T.cWrongKind.o T.nWrongKind_argument fun d H' x hd => kE _ d H' x (.inl ⟨_, rfl, hd, ans_no hb⟩)
    have e1 : v = _ := h1
    subst e1
    have hx := hl x rfl
    walk_at "go"
    refine g_ite (fun h => ?_) (fun hx0 => ?_)
    · have e : x = "" := V.str.inj (of_decide_eq_true h)
      walk_at "go"
      try dsimp only
      refine g_mkO ?_
      walk_at "go"
      exact raise1 T.cWrongKind.o T.nWrongKind_argument fun d H' x hd => kE _ d H' x (.inl ⟨_, rfl, hd, ans_badrow (.inl e)⟩)
    walk_at "go"
    refine g_inN ?_
    walk_at "go"
    refine g_ite (fun h => ?_) (fun hx1 => ?_)
    · have e : 10 ∈ x.cps.toList := of_decide_eq_true h
      walk_at "go"
      try dsimp only
      refine g_mkO ?_
      walk_at "go"
      exact raise1 T.cWrongKind.o T.nWrongKind_argument fun d H' x hd => kE _ d H' x (.inl ⟨_, rfl, hd, ans_badrow (.inr e)⟩)
    have hn : ¬ (x = "" ∨ 10 ∈ x.cps.toList) := by
      intro z
      rcases z with z | z
      · exact of_decide_eq_false hx0 (by rw [z])
      · exact of_decide_eq_false hx1 z
    walk_at "go"
    by_cases hi : isIn dl "int" = true
    · refine g_iteF (by rw [hi]; rfl) ?_
      walk_at "go"
      by_cases hbl : isIn dl "bool" = true
      · refine g_iteT hbl ?_
        walk_at "go"
        try dsimp only
        refine g_mkO ?_
        walk_at "go"
        exact raise1 T.cWrongKind.o T.nWrongKind_argument fun d H' x hd => kE _ d H' x (.inl ⟨_, rfl, hd, ans_badline hn (by unfold badInt; rw [hbl, Bool.or_true])⟩)
      obtain ⟨i, rfl⟩ := in_int dl hi (by simpa using hbl)
      have e2 : w = _ := h2
      subst e2
      refine g_iteF (by simpa using hbl) ?_
      walk_at "go"
      refine g_ite (fun h => ?_) (fun hlow => ?_)
      · have e := of_decide_eq_true h
        walk_at "go"
        try dsimp only
        refine g_mkO ?_
        walk_at "go"
        exact raise1 T.cOutOfBounds.o T.nOutOfBounds_argument fun d H' x hd => kE _ d H' x (.inr (.inl ⟨_, rfl, hd, ans_low hn e⟩))
      have hlow := of_decide_eq_false hlow
      have ea := ans_go hn hlow
      rw [ea] at kE kQ
      walk_at "go"
      refine ⟨by decide, fun o ho => ?_⟩
      have ns : o ≠ s := st.ne ho
      have x0 : Same H (upd H o (.lst [])) := same_new ho
      have u0 := upd_same (H := H) (a := o) (o := .lst [])
      generalize upd H o (.lst []) = H0 at *
      walk_at "go"
      refine ⟨x, _, rfl, rfl, by decide +kernel, by rw [sizeLine_eq]; omega, fun p g1 => ?_⟩
      have cnt := split_le x " "
      have prt : ∀ q ∈ Txt.split x " ", q.length ≤ x.length := fun q hq => part_short hq
      have pos := split_pos x " "
      have e0 : Txt.split x (Str.ofString " ") = Txt.split x " " := rfl
      rw [e0]
      generalize Txt.split x " " = ps at *
      have np : p ≠ o := Ne.symm (ne_of_none u0 g1)
      have xp : Same H0 (upd H0 p (.lst (ps.map V.str))) := same_new g1
      have u1 := xp _ _ u0
      have hp := upd_same (H := H0) (a := p) (o := .lst (ps.map V.str))
      have x1 := x0.trans xp
      generalize upd H0 p (.lst (ps.map V.str)) = H1 at *
      clear xp
      walk_at "go"
      refine ⟨p, rfl, ⟨_, SqL.of hp⟩, ?_⟩
      refine for_list (xs := ps.map V.str) (fun j σ' H' => ∃ (a : Int) (out : List (Str × Int)) (xs : List V) (z : Option V), σ' = [some (.str x), some (.int i), some (.ref o), some (.int a), z] ∧ H' o = some (.lst xs) ∧ Ws s H' out xs ∧ out.length = j ∧
        Same H H' ∧ H' p = some (.lst (ps.map V.str)) ∧ dueGo i (ps.drop j) a out = dueGo i ps 1 []) ⟨1, [], [], none, rfl, u1, rfl, rfl, x1, hp, rfl⟩ (fun j σ' H' _ h => ?_) ?_ ?_
      · obtain ⟨_, _, _, _, _, _, _, _, _, hp, _⟩ := h
        exact SqL.of hp
      · rintro j y σ' H2 hy ⟨a, out, xs, z, rfl, h1, h2, h3, x2, hp2, h4⟩
        obtain ⟨q, hq, rfl⟩ : ∃ q, ps[j]? = some q ∧ y = .str q := by
          rw [List.getElem?_map] at hy
          cases e : ps[j]? with
          | none => rw [e] at hy; cases hy
          | some q =>
            rw [e] at hy
            exact ⟨q, rfl, (Option.some.inj hy).symm⟩
        have hi : j < ps.length := (List.getElem?_eq_some_iff.mp hq).1
        have hd : ps.drop j = q :: ps.drop (j + 1) := by
          rw [List.drop_eq_getElem_cons hi, (List.getElem?_eq_some_iff.mp hq).2]
        have hql : q.length ≤ x.length := prt q (by rw [← (List.getElem?_eq_some_iff.mp hq).2]; exact List.getElem_mem hi)
        rw [hd] at h4
        walk_at "go"
        refine g_ite (fun h => ?_) (fun h => ?_)
        · have e : q = "" := V.str.inj (of_decide_eq_true h)
          rw [show dueGo i (q :: ps.drop (j + 1)) a out = .tup [.str "BadText", .tup [.int i, .int a, .str "spacing"]] from if_pos e] at h4
          walk_at "go"
          try dsimp only
          refine g_mkO ?_
          walk_at "go"
          exact raise3 T.cBadText.o T.nBadText_line T.nBadText_column T.nBadText_fault fun d H' x hd => kE _ d H' (x2.trans x) (.inr (.inr ⟨_, _, _, rfl, hd, h4.symm⟩))
        · have e : ¬ q = "" := fun e => of_decide_eq_false h (by rw [e])
          rw [show dueGo i (q :: ps.drop (j + 1)) a out = dueGo i (ps.drop (j + 1)) (a + q.length + 1) (out ++ [(q, a)]) from if_neg e] at h4
          walk_at "go"
          refine ⟨by show 2 ≤ sizeLine; decide, fun p1 g1 => ?_⟩
          have n1 : o ≠ p1 := ne_of_none h1 g1
          have ns1 : p1 ≠ s := (st.same x2).ne g1
          have u1 : upd H2 p1 (.tup [.str q, .int a]) o = some (.lst xs) := by
            rw [upd_ne n1]
            exact h1
          walk_at "go"
          refine g_app u1 (by rw [h2.len, h3, sizeLine_eq]; omega) ?_
          walk_at "go"
          refine ⟨_, rfl, ?_⟩
          walk_at "go"
          refine g_lenS (by rw [sizeLine_eq]; omega) ?_
          walk_at "go"
          refine ⟨_, _, rfl, rfl, ?_⟩
          have ec : a + ((q.length : Int) + 1) = a + q.length + 1 := by omega
          rw [← ec] at h4
          refine ⟨_, out ++ [(q, a)], _, _, rfl, upd_same, Ws.app ns1 ?_ (h2.mono fun b ts _ hb => ?_), by rw [List.length_append, h3]; rfl, Same_mutF (x2.trans (same_new g1)) ho, ?_, h4⟩
          · rw [upd_ne (Ne.symm n1), upd_same]
          · have nb : b ≠ o := fun z => by
              rw [z, h1] at hb
              cases hb
            rw [upd_ne nb, upd_ne (ne_of_none hb g1)]
            exact hb
          · rw [upd_ne np, upd_ne (ne_of_none hp2 g1)]
            exact hp2
      · rintro σ' H2 ⟨a, out, xs, z, rfl, h1, h2, h3, x2, hp2, h4⟩
        rw [List.length_map] at h3
        rw [List.length_map, List.drop_length] at h4
        walk_at "go"
        refine kQ o xs out H2 x2 ho h1 h2 h4.symm (fun e => ?_) (by rw [h2.len, h3]; omega)
        have := h2.len
        rw [e, h3] at this
        have z : (0 : Nat) = ps.length := this
        omega
    · have hi : isIn dl "int" = false := by simpa using hi
      refine g_iteT (by rw [hi]; rfl) ?_
      walk_at "go"
      try dsimp only
      refine g_mkO ?_
      walk_at "go"
      exact raise1 T.cWrongKind.o T.nWrongKind_argument fun d H' x hd => kE _ d H' x (.inl ⟨_, rfl, hd, ans_badline hn (by unfold badInt; rw [hi]; rfl)⟩)
end
end My
namespace My
open PySem PySem.Spec PyProof.Rows L2
def spTold {K : PySem.W.Frag} {mg : Str → Option Value} (T : Txt K mg) : Sp := fun vs H Q _ => ∃ (s : Addr) (v w : V) (dr dl : D), vs = [v, w] ∧ Store K H s ∧ Da s H dr v ∧ Da s H dl w ∧ (∀ x, dr = .str x → x.length ≤ 1000000) ∧
  ∀ (u : V) (H' : Hp), Same H H' → Da s H' (ansOf dr dl) u →
    (∀ l, ansOf dr dl = .tup [.str "told", l] → ∃ (t q : Addr) (xs : List V), u = .ref t ∧ H' t = some (.tup [.str "told", .ref q]) ∧ H' q = some (.lst xs) ∧ H q = none ∧ xs ≠ [] ∧ xs.length ≤ 1000002) → Q u H'
theorem x_not_told {K : PySem.W.Frag} {mg : Str → Option Value} {T : Txt K mg} {cls : Value} {H : Hp} {d : Addr} {ans l : D} (x : XOf T cls H d ans) (e : ans = .tup [.str "told", l]) : False := by
  rcases x with ⟨x, _, _, h⟩ | ⟨x, _, _, h⟩ | ⟨a, b, c, _, _, h⟩
  · rw [h] at e
    injection e with e
    injection e with e _
    injection e with e
    exact absurd e (by decide)
  · rw [h] at e
    injection e with e
    injection e with e _
    injection e with e
    exact absurd e (by decide)
  · rw [h] at e
    injection e with e
    injection e with e _
    injection e with e
    exact absurd e (by decide)
local macro_rules | `(tactic| walk_at "arith") => `(tactic| first
  | (with_reducible show _ ≠ _; omega)
  | (unfold CMul; omega)
  | (unfold CPow; omega)
  | (unfold CPow; decide)
  | exact wide_div (b := 100) (by decide) (by decide) (by decide) (by decide))
local macro_rules | `(tactic| walk_at "go") => `(tactic| repeat (first
  | with_reducible refine g_seq ?_
  | with_reducible refine g_asg ?_
  | with_reducible refine g_name ?_
  | with_reducible refine g_sub ?_
  | with_reducible refine g_ret ?_
  | with_reducible refine g_drop ?_
  | ((with_reducible refine g_next ?_); dsimp only)
  | with_reducible refine g_if ?_
  | with_reducible refine g_var rfl ?_
  | with_reducible refine g_c ?_
  | with_reducible refine g_op ?_
  | with_reducible refine g_un ?_
  | with_reducible refine g_I0 ?_
  | with_reducible refine g_U ?_
  | with_reducible refine g_eq rfl ?_
  | with_reducible refine g_test ?_
  | with_reducible refine g_bl ?_
  | with_reducible refine iteF ?_
  | with_reducible refine iteT ?_
  | ((with_reducible apply g_iteT); (case e => rfl))
  | ((with_reducible apply g_iteF); (case e => rfl))
  | with_reducible refine g_int1 ?_
  | with_reducible refine g_max2 ?_
  | with_reducible refine g_min2 ?_
  | with_reducible refine g_isN ?_
  | with_reducible refine g_notN ?_
  | ((with_reducible apply g_lenL); (case hs => assumption))
  | ((with_reducible apply g_ixL); (case hs => exact SqL.of (by assumption)); (case ha => rfl))
  | with_reducible refine g_pow9 ?_
  | with_reducible refine g_pow18 ?_
  | ((with_reducible apply g_I); (case c => walk_at "arith"))
  | ((with_reducible apply g_st); (case hs => assumption); (case hL => assumption); (case ne => assumption); (case x0 => assumption); (case hj => rfl); (case j0 => decide); intro _ _ _ _)
  | with_reducible refine g_and ?_
  | with_reducible refine g_or ?_
  | with_reducible refine g_not ?_
  | with_reducible refine g_nil ?_
  | with_reducible refine g_cons ?_
  | with_reducible refine g_callB ?_
  | with_reducible refine g_call ?_
  | with_reducible refine g_tup ?_
  | with_reducible refine g_lst ?_
  | with_reducible refine g_andV ?_
  | with_reducible refine g_orV ?_
  | with_reducible refine g_notV ?_
  | with_reducible refine g_tB ?_
  | with_reducible refine g_ne rfl ?_
  | with_reducible refine g_abs ?_
  | with_reducible refine g_isB ?_
  | with_reducible refine g_for ?_
  | with_reducible refine g_rng1 ?_
  | with_reducible refine g_rng2 ?_
  | with_reducible refine g_iList ?_
  | ((with_reducible refine g_break ?_); dsimp only)
  | ((with_reducible refine g_cont ?_); dsimp only)
  | with_reducible refine g_retN ?_
  | ((with_reducible apply isi_go (T := "int")); (case h => assumption); (case hb => exact k_int_ _))
  | ((with_reducible apply isi_go (T := "str")); (case h => assumption); (case hb => exact k_str_ _))
  | ((with_reducible apply isi_go (T := "bool")); (case h => assumption); (case hb => exact k_bool_ _))
  | ((with_reducible apply isi_go (T := "list")); (case h => assumption); (case hb => exact k_list_ _))
  | ((with_reducible apply isi_go (T := "tuple")); (case h => assumption); (case hb => exact k_tuple_ _))
  | ((with_reducible apply isi_go (T := "dict")); (case h => assumption); (case hb => exact k_dict_ _))
  | with_reducible refine g_intb ?_
  | with_reducible refine g_bm ?_
  | with_reducible refine g_tyS ?_
  | ((with_reducible apply g_tyL); (case hs => assumption))
  | with_reducible refine g_lc ?_
  | with_reducible refine g_sl ?_
  | with_reducible refine g_noP ?_
  | with_reducible refine g_part ?_
  | with_reducible refine g_pI ?_))

abbrev s_told : Stmt := topS 25
abbrev N_told : List Str := ["row", "line", "e"]
abbrev P_told : List Str := ["row", "line"]
theorem sc_told : FnScope N_told P_told (defScope s_told) := ⟨rfl, rfl, rfl, by decide +kernel, rfl, by decide +kernel, by decide +kernel⟩

section
variable {P : Program} {w : World} {K : PySem.W.Frag} {mg : Str → Option Value} {base : Heap}
theorem ok_told (T : Txt K mg) : FnOk P w K mg base CX0 4 T.dtold.f T.dtold.fd P_told (spTold T) := by
  have G_split_row : FnOk P w K mg base (L2N.CX P w) 3 T.dsplit_row.f T.dsplit_row.fd P_split_row (spSplit T) := ok_split_row T
  have G_refusal : FnE P w K mg base 1 T.drefusal.f T.drefusal.fd P_refusal (fun q => spRef T q.1 q.2.cls q.2.dict) := ok_refusal T
  refine T.dtold.F.ok sc_told (fun vs H Q E h => ?_) (fun cdv A outer s_ H vs Q E hr h => ?_)
  · obtain ⟨s, v, w, dr, dl, rfl, _⟩ := h
    rfl
  · obtain ⟨s, v, w, dr, dl, rfl, st, h1, h2, hl, k⟩ := h
    refine ⟨_, (pss_one (L2N.ps_try_as (i := 2) rfl rfl sc_told.nd rfl rfl ⟨rfl, by decide, .inl T.cFrameError.g⟩ takesN0 (fun W pn xe tk _ => (pss_one (ps_ret (pe_tup (pa_cons pe_str (pa_cons (pe_callS G_split_row (hr.mono (by omega)) rfl T.dsplit_row.g T.dsplit_row.F.kp T.dsplit_row.b (fun σ => L2N.passAt tk σ) (pa_cons (pv 0) (pa_cons (pv 1) pa_nil))) pa_nil)))))) (fun a oe cls d pn hz hf => (pss_one (ps_ret (pe_callX G_refusal hz.1 hz.2.1 (L2H.roomH_mark (hr.mono (by omega)) _) ⟨rfl, hf.elim fun vs e => ⟨vs, e, hz.2.2 vs e⟩⟩ (List.mem_cons_self ..) rfl T.drefusal.g T.drefusal.F.kp T.drefusal.b (pa_cons (pv 2) pa_nil))))))), ?_⟩
    try dsimp only [cxOf, Cx.nox, Cx.wish]
    walk_at "go"
    refine g_callS ?_
    walk_at "go"
    refine ⟨s, v, w, dr, dl, rfl, st, h1, h2, hl, fun cls d H' x xo => ?_, fun q xs l H' x hq hxs ws e ne lz => ?_⟩
    · refine ⟨true, ?_, fun _ a ha => ?_, fun z => by cases z⟩
      · rcases xo with ⟨_, e, _⟩ | ⟨_, e, _⟩ | ⟨_, _, _, e, _⟩
        · rw [e]
          exact T.xWrongKind
        · rw [e]
          exact T.xOutOfBounds
        · rw [e]
          exact T.xBadText
      · walk_at "go"
        refine g_callS ?_
        walk_at "go"
        refine ⟨rfl, s, d, _, st.same x, rfl, xo, fun u H2 x2 da => ?_⟩
        exact k u H2 (x.trans x2) da fun l e => (x_not_told xo e).elim
    · walk_at "go"
      refine ⟨by show 2 ≤ sizeLine; decide, fun p hp => ?_⟩
      have st1 := st.same x
      refine k _ _ (x.trans (same_new hp)) ?_ fun l e => ⟨p, q, xs, rfl, upd_same, by rw [upd_ne (ne_of_none hxs hp)]; exact hxs, hq, ne, lz⟩
      rw [e]
      exact Da.tupI st1 hp (l := [.str "told", .lst (wds l)]) (.cons rfl (.cons ⟨q, xs, rfl, st.ne hq, hxs, ws.da⟩ .nil))
end
end My
namespace My
open PySem PySem.Spec PyProof.Rows L2
/-! ### the plain law -/
def RowOK (z : Str) : Prop := ¬ (z = "" ∨ 10 ∈ z.cps.toList)
theorem app_len (x y : Str) : (x ++ y).length = x.length + y.length := by rw [str_len, str_app, List.length_append, ← str_len, ← str_len]
theorem nl_sp : 10 ∉ (" " : Str).cps.toList := by decide +kernel
theorem nl_ha : 10 ∉ ("#" : Str).cps.toList := by decide +kernel
theorem len_sp : (" " : Str).length = 1 := by decide +kernel
theorem len_ha : ("#" : Str).length = 1 := by decide +kernel
theorem ok_pre {y z : Str} (hy : 10 ∉ y.cps.toList) (hz : RowOK z) : RowOK (y ++ z) := fun h => by
  rcases h with h | h
  · have e := app_len y z
    rw [h] at e
    refine hz (.inl (str_ext ?_))
    have e0 : z.length = 0 := by
      have : (0 : Nat) = y.length + z.length := e
      omega
    rw [str_len] at e0
    rw [List.eq_nil_of_length_eq_zero e0]
    decide +kernel
  · rw [str_app] at h
    rcases List.mem_append.mp h with h | h
    · exact hy h
    · exact hz (.inr h)
theorem ok_post {y z : Str} (hy : 10 ∉ y.cps.toList) (hz : RowOK z) : RowOK (z ++ y) := fun h => by
  rcases h with h | h
  · have e := app_len z y
    rw [h] at e
    refine hz (.inl (str_ext ?_))
    have e0 : z.length = 0 := by
      have : (0 : Nat) = z.length + y.length := e
      omega
    rw [str_len] at e0
    rw [List.eq_nil_of_length_eq_zero e0]
    decide +kernel
  · rw [str_app] at h
    rcases List.mem_append.mp h with h | h
    · exact hz (.inr h)
    · exact hy h
theorem good_ne {ps : List Str} (g : GoodP ps) : ps ≠ [] := fun e => by
  subst e
  rcases g.2.2 with h | ⟨p, h, _⟩
  · exact absurd h (by decide)
  · cases h
theorem good_sum {ps : List Str} (g : GoodP ps) : (ps.map (·.length)).sum ≤ 270000 := by
  have h : ∀ (l : List Str), (∀ p ∈ l, p.length ≤ 900) → (l.map (·.length)).sum ≤ l.length * 900 := by
    intro l
    induction l with
    | nil => intro _; exact Nat.zero_le _
    | cons p r ih =>
      intro hl
      have h1 := hl p (List.mem_cons_self ..)
      have h2 := ih fun q hq => hl q (List.mem_cons_of_mem _ hq)
      rw [List.map_cons, List.sum_cons, List.length_cons, Nat.succ_mul]
      omega
  have := h ps fun p hp => (g.2.1 p hp).2
  have := g.1
  omega
theorem good_len {ps : List Str} (g : GoodP ps) : (Txt.join " " ps).length ≤ 270300 := by
  have h := join_len " " ps
  have h1 := good_sum g
  have h2 := g.1
  rw [len_sp] at h
  omega
theorem good_row {ps : List Str} (g : GoodP ps) : RowOK (Txt.join " " ps) := fun h => by
  rcases h with h | h
  · rcases g.2.2 with h2 | ⟨p, h2, h3⟩
    · match ps, h2, h with
      | p :: q :: r, _, h =>
        have e := congrArg (fun x : Str => x.cps.toList) h
        try dsimp only at e
        rw [join_tl, List.map_cons, List.map_cons] at e
        have e2 : p.cps.toList ++ ((" " : Str).cps.toList ++ TL.joinL (" " : Str).cps.toList (q.cps.toList :: r.map fun p => p.cps.toList)) = [] := e
        rw [sp_tl] at e2
        have e3 := (List.append_eq_nil_iff.mp e2).2
        cases e3
      | [p], h2, _ => exact absurd (show 2 ≤ 1 from h2) (by decide)
      | [], h2, _ => exact absurd (show 2 ≤ 0 from h2) (by decide)
    · subst h2
      exact h3 h
  · rcases join_mem h with h | ⟨p, h1, h2⟩
    · exact nl_sp h
    · exact (g.2.1 p h1).1.2 h2
theorem join_pre (ps : List Str) (h : ps ≠ []) : (" " : Str) ++ Txt.join " " ps = Txt.join " " ("" :: ps) := by
  refine str_ext ?_
  rw [str_app, join_tl, join_tl]
  cases ps with
  | nil => exact absurd rfl h
  | cons p r =>
    have e : ("" : Str).cps.toList = [] := by decide +kernel
    rw [List.map_cons (a := ("" : Str)), e, List.map_cons]
    rfl
theorem joinL_post (S : List Nat) : ∀ ls : List (List Nat), ls ≠ [] → TL.joinL S (ls ++ [[]]) = TL.joinL S ls ++ S
  | [], h => absurd rfl h
  | [p], _ => by
    show p ++ (S ++ []) = p ++ S
    rw [List.append_nil]
  | p :: q :: r, _ => by
    show p ++ (S ++ TL.joinL S ((q :: r) ++ [[]])) = p ++ (S ++ TL.joinL S (q :: r)) ++ S
    rw [joinL_post S (q :: r) (List.cons_ne_nil _ _), List.append_assoc, List.append_assoc]
theorem join_post (ps : List Str) (h : ps ≠ []) : Txt.join " " ps ++ (" " : Str) = Txt.join " " (ps ++ [("" : Str)]) := by
  refine str_ext ?_
  have e : ("" : Str).cps.toList = [] := by decide +kernel
  rw [str_app, join_tl, join_tl, List.map_append, List.map_cons, e, List.map_nil, joinL_post _ _ (fun z => h (List.map_eq_nil_iff.mp z))]
theorem join_ha (p : Str) (r : List Str) : ("#" : Str) ++ Txt.join " " (p :: r) = Txt.join " " (("#" ++ p) :: r) := by
  refine str_ext ?_
  rw [str_app, join_tl, join_tl, List.map_cons, List.map_cons, str_app]
  cases r with
  | nil => rfl
  | cons q t =>
    rw [List.map_cons]
    show _ ++ (_ ++ _) = (_ ++ _) ++ _
    rw [List.append_assoc]
theorem ans_row {qs : List Str} {i : Int} (hn : qs ≠ []) (hf : ∀ p ∈ qs, 32 ∉ p.cps.toList) (hr : RowOK (Txt.join " " qs)) (hi : 1 ≤ i) : ansOf (.str (Txt.join " " qs)) (.int i) = dueGo i qs 1 [] := by
  rw [ans_go hr (by omega), split_join hn hf]
theorem ok_scal : Ok 0 (.str "") := trivial
theorem dueGo_ok (line : Int) : ∀ (ps : List Str) (a : Int) (out : List (Str × Int)), out.length + ps.length ≤ 1000000 → Ok 3 (dueGo line ps a out)
  | [], a, out, h => by
    refine ⟨by show 2 ≤ 1000000; decide, fun d hd => ?_⟩
    rcases List.mem_cons.mp hd with e | hd
    · rw [e]
      exact trivial
    · rw [List.mem_singleton.mp hd]
      refine ⟨by unfold wds; rw [List.length_map]; simpa using h, fun d hd => ?_⟩
      obtain ⟨w, _, e⟩ := List.mem_map.mp hd
      rw [← e]
      refine ⟨by show 2 ≤ 1000000; decide, fun d hd => ?_⟩
      rcases List.mem_cons.mp hd with e | hd
      · rw [e]
        exact trivial
      · rw [List.mem_singleton.mp hd]
        exact trivial
  | p :: r, a, out, h => by
    by_cases hp : p = ""
    · rw [show dueGo line (p :: r) a out = .tup [.str "BadText", .tup [.int line, .int a, .str "spacing"]] from if_pos hp]
      refine ⟨by show 2 ≤ 1000000; decide, fun d hd => ?_⟩
      rcases List.mem_cons.mp hd with e | hd
      · rw [e]
        exact trivial
      · rw [List.mem_singleton.mp hd]
        refine ⟨by show 3 ≤ 1000000; decide, fun d hd => ?_⟩
        rcases List.mem_cons.mp hd with e | hd
        · rw [e]
          exact trivial
        rcases List.mem_cons.mp hd with e | hd
        · rw [e]
          exact trivial
        · rw [List.mem_singleton.mp hd]
          exact trivial
    · rw [show dueGo line (p :: r) a out = dueGo line r (a + p.length + 1) (out ++ [(p, a)]) from if_neg hp]
      exact dueGo_ok line r _ _ (by rw [List.length_append]; simp only [List.length_cons, List.length_nil] at h ⊢; omega)
theorem dueGo_tup (line : Int) : ∀ (ps : List Str) (a : Int) (out : List (Str × Int)), ∃ k l, dueGo line ps a out = .tup [.str k, l]
  | [], a, out => ⟨_, _, rfl⟩
  | p :: r, a, out => by
    by_cases hp : p = ""
    · exact ⟨_, _, if_pos hp⟩
    · obtain ⟨k, l, e⟩ := dueGo_tup line r (a + p.length + 1) (out ++ [(p, a)])
      exact ⟨k, l, (if_neg hp).trans e⟩
theorem ok_two (a b : Str) : Ok 3 (.tup [.str a, .str b]) := by
  refine ⟨by show 2 ≤ 1000000; decide, fun d hd => ?_⟩
  rcases List.mem_cons.mp hd with e | hd
  · rw [e]
    exact trivial
  · rw [List.mem_singleton.mp hd]
    exact trivial
theorem ans_bad {d dl : D} (h : badRow d) : ansOf d dl = .tup [.str "WrongKind", .str "row"] := by
  rcases h with h | ⟨z, rfl, _, h⟩
  · refine ans_no ?_
    unfold badTxt at h
    cases e : isIn d "str" with
    | false => rfl
    | true =>
      rw [e] at h
      cases h
  · exact ans_badrow h
/-! ### what is asked -/
def Ask (s : Addr) (H : Hp) (v : V) : Prop := ∃ (dr dl : D) (k : Str) (l : D), (∀ x, dr = .str x → x.length ≤ 1000000) ∧ ansOf dr dl = .tup [.str k, l] ∧ Ok 3 (.tup [.str k, l]) ∧ Da s H (.tup [dr, dl, .tup [.str k, l]]) v
theorem Ask.mono {s : Addr} {H H' : Hp} {v : V} (x : Sx s H H') (h : Ask s H v) : Ask s H' v := by
  obtain ⟨dr, dl, k, l, h1, h2, h3, h4⟩ := h
  exact ⟨dr, dl, k, l, h1, h2, h3, Da.mono x _ _ h4⟩
theorem del_sx {s A : Addr} {H H' : Hp} (n : A ≠ s) (x : Sx s H H') : Sx s (del H A) (del H' A) := ⟨fun b o nb h => by
  have hb : b ≠ A := fun z => by
    rw [z, del_same] at h
    cases h
  rw [del_ne hb] at h ⊢
  exact x.kp b o nb h, fun L xs h => by
  rw [del_ne (Ne.symm n)] at h ⊢
  exact x.ce L xs h⟩
theorem del_sub (s : Addr) (H : Hp) (A : Addr) : Sx s (del H A) H := Sx.of fun b o h => by
  have hb : b ≠ A := fun z => by
    rw [z, del_same] at h
    cases h
  rw [del_ne hb] at h
  exact h
theorem del_upd {H : Hp} {A : Addr} {o : HO} : del (upd H A o) A = del H A := by
  funext b
  by_cases h : b = A
  · rw [h, del_same, del_same]
  · rw [del_ne h, del_ne h, upd_ne h]
theorem new_del {s A : Addr} {H H' : Hp} {o : HO} (h : H A = some o) : Sx s (newOf H H') (del H' A) := Sx.of fun b u e => by
  obtain ⟨h1, h2⟩ := newOf_s e
  rw [del_ne (Ne.symm (ne_of_none h h1))]
  exact h2
theorem Da.tupD {K : PySem.W.Frag} {s A p : Addr} {H : Hp} {o : HO} {l : List D} {xs : List V} (hA : H A = some o) (st : Store K H s) (hp : H p = none) (q : DaL s (del H A) l xs) : Da s (del (upd H p (.tup xs)) A) (.tup l) (.ref p) := by
  have n : p ≠ A := Ne.symm (ne_of_none hA hp)
  refine ⟨p, xs, rfl, st.ne hp, by rw [del_ne n, upd_same], DaL.mono (Sx.of fun b u e => ?_) _ _ q⟩
  have hb : b ≠ A := fun z => by
    rw [z, del_same] at e
    cases e
  rw [del_ne hb] at e ⊢
  rw [upd_ne (ne_of_none e hp)]
  exact e
structure Asks (K : PySem.W.Frag) (s A : Addr) (B : Hp) (p1 : Addr) (ps : List Str) (dodd : D) (vodd : V) (H : Hp) (xs : List V) (n : Nat) : Prop where
  b0 : Store K B s
  b1 : Sx s B H
  b2 : B A = none
  st : Store K H s
  hA : H A = some (.lst xs)
  n1 : xs.length = n
  all : ∀ v ∈ xs, Ask s (del H A) v
  one : del H A p1 = some (.lst (ps.map V.str))
  odd : Da s (del H A) dodd vodd
  ne1 : p1 ≠ s
section
variable {K : PySem.W.Frag} {s A : Addr} {B : Hp} {p1 : Addr} {ps : List Str} {dodd : D} {vodd : V} {H H' : Hp} {xs : List V} {n : Nat} {v : V}
theorem Asks.ns (a : Asks K s A B p1 ps dodd vodd H xs n) : A ≠ s := a.b0.ne a.b2
theorem Asks.step (a : Asks K s A B p1 ps dodd vodd H xs n) (x : Sx s H H') (st : Store K H' s) : Asks K s A B p1 ps dodd vodd H' xs n :=
  ⟨a.b0, a.b1.trans x, a.b2, st, x.kp _ _ a.ns a.hA, a.n1, fun v hv => (a.all v hv).mono (del_sx a.ns x), (del_sx a.ns x).kp _ _ a.ne1 a.one, Da.mono (del_sx a.ns x) _ _ a.odd, a.ne1⟩
theorem Asks.app (a : Asks K s A B p1 ps dodd vodd H xs n) (h : Ask s (del H A) v) : Asks K s A B p1 ps dodd vodd (upd H A (.lst (xs ++ [v]))) (xs ++ [v]) (n + 1) :=
  ⟨a.b0, a.b1.mut a.b2, a.b2, a.b0.mut a.b1 a.st a.b2, upd_same, by rw [List.length_append, a.n1]; rfl, fun u hu => by
    rw [del_upd]
    rcases List.mem_append.mp hu with h2 | h2
    · exact a.all u h2
    · rw [List.mem_singleton.mp h2]
      exact h, by rw [del_upd]; exact a.one, by rw [del_upd]; exact a.odd, a.ne1⟩
theorem Asks.new {p : Addr} {o : HO} (a : Asks K s A B p1 ps dodd vodd H xs n) (hp : H p = none) : Asks K s A B p1 ps dodd vodd (upd H p o) xs n := a.step (Sx.new hp) (a.st.new hp)
theorem Asks.at1 (a : Asks K s A B p1 ps dodd vodd H xs n) : H p1 = some (.lst (ps.map V.str)) := (del_sub s H A).kp _ _ a.ne1 a.one
theorem mkAsk {t : Addr} {v1 v2 v3 : V} {dr dl ans : D} {o : HO} (hA : H A = some o) (st : Store K H s) (ht : H t = none) (hl : ∀ x, dr = .str x → x.length ≤ 1000000) (ha : ansOf dr dl = ans) (ht' : ∃ k l, ans = .tup [.str k, l]) (ok : Ok 3 ans)
    (d1 : Da s (del H A) dr v1) (d2 : Da s (del H A) dl v2) (d3 : Da s (del H A) ans v3) : Ask s (del (upd H t (.tup [v1, v2, v3])) A) (.ref t) := by
  obtain ⟨k, l, rfl⟩ := ht'
  exact ⟨dr, dl, k, l, hl, ha, ok, Da.tupD hA st ht (.cons d1 (.cons d2 (.cons d3 .nil)))⟩
theorem fresh_del {o : HO} (h : H A = none) : Sx s H (del (upd H A o) A) := Sx.of fun b u e => by
  have hb := ne_of_none e h
  rw [del_ne hb, upd_ne hb]
  exact e
theorem mkAsk0 {t : Addr} {v1 v2 v3 : V} {dr dl ans : D} (st : Store K H s) (ht : H t = none) (hl : ∀ x, dr = .str x → x.length ≤ 1000000) (ha : ansOf dr dl = ans) (ht' : ∃ k l, ans = .tup [.str k, l]) (ok : Ok 3 ans)
    (d1 : Da s H dr v1) (d2 : Da s H dl v2) (d3 : Da s H ans v3) : Ask s (upd H t (.tup [v1, v2, v3])) (.ref t) := by
  obtain ⟨k, l, rfl⟩ := ht'
  exact ⟨dr, dl, k, l, hl, ha, ok, Da.tupI st ht (.cons d1 (.cons d2 (.cons d3 .nil)))⟩
end
theorem ix0 {n : Nat} (h : 0 < n) : ixN n 0 = some 0 := by
  unfold ixN
  rw [if_pos (Int.le_refl 0), if_pos (by omega)]
  rfl
theorem at0 (p : Str) (r : List Str) : atI ((p :: r).map V.str) 0 = some (.str p) := atI_nat (j := 0) rfl
theorem cut1 (p : Str) (r : List Str) : cutV ((p :: r).map V.str) (some 1) none = r.map V.str := by
  have e0 : HT.sIx ((p :: r).map V.str).length 0 (some 1) = 1 := by
    simp [HT.sIx]
  have e1 : HT.sIx ((p :: r).map V.str).length ((p :: r).map V.str).length none = ((p :: r).map V.str).length := rfl
  unfold cutV
  rw [e0, e1, List.map_cons, List.length_cons, List.drop_succ_cons, List.drop_zero]
  exact List.take_of_length_le (by omega)
theorem str_len_of {x : Str} (h : x.length ≤ 1000000) : ∀ y, D.str x = .str y → y.length ≤ 1000000 := fun y e => by
  injection e with e
  rw [← e]
  exact h
theorem bad_len {d : D} (h : badRow d) : ∀ y, d = .str y → y.length ≤ 1000000 := fun y e => by
  rcases h with h | ⟨z, h1, h2, _⟩
  · rw [e] at h
    unfold badTxt at h
    rw [in_str] at h
    cases h
  · rw [h1] at e
    injection e with e
    rw [← e]
    omega
end My
namespace My
open PySem PySem.Spec PyProof.Rows L2
local macro_rules | `(tactic| walk_at "arith") => `(tactic| first
  | (with_reducible show _ ≠ _; omega)
  | (unfold CMul; omega)
  | (unfold CPow; omega)
  | (unfold CPow; decide)
  | exact wide_div (b := 100) (by decide) (by decide) (by decide) (by decide))
local macro_rules | `(tactic| walk_at "go") => `(tactic| repeat (first
  | with_reducible refine g_seq ?_
  | with_reducible refine g_asg ?_
  | with_reducible refine g_name ?_
  | with_reducible refine g_sub ?_
  | with_reducible refine g_ret ?_
  | with_reducible refine g_drop ?_
  | ((with_reducible refine g_next ?_); dsimp only)
  | with_reducible refine g_if ?_
  | with_reducible refine g_var rfl ?_
  | with_reducible refine g_c ?_
  | with_reducible refine g_op ?_
  | with_reducible refine g_un ?_
  | with_reducible refine g_I0 ?_
  | with_reducible refine g_U ?_
  | with_reducible refine g_eq rfl ?_
  | with_reducible refine g_test ?_
  | with_reducible refine g_bl ?_
  | with_reducible refine iteF ?_
  | with_reducible refine iteT ?_
  | ((with_reducible apply g_iteT); (case e => rfl))
  | ((with_reducible apply g_iteF); (case e => rfl))
  | with_reducible refine g_int1 ?_
  | with_reducible refine g_max2 ?_
  | with_reducible refine g_min2 ?_
  | with_reducible refine g_isN ?_
  | with_reducible refine g_notN ?_
  | ((with_reducible apply g_lenL); (case hs => assumption))
  | ((with_reducible apply g_ixL); (case hs => exact SqL.of (by assumption)); (case ha => rfl))
  | with_reducible refine g_pow9 ?_
  | with_reducible refine g_pow18 ?_
  | ((with_reducible apply g_I); (case c => walk_at "arith"))
  | ((with_reducible apply g_st); (case hs => assumption); (case hL => assumption); (case ne => assumption); (case x0 => assumption); (case hj => rfl); (case j0 => decide); intro _ _ _ _)
  | with_reducible refine g_and ?_
  | with_reducible refine g_or ?_
  | with_reducible refine g_not ?_
  | with_reducible refine g_nil ?_
  | with_reducible refine g_cons ?_
  | with_reducible refine g_callB ?_
  | with_reducible refine g_call ?_
  | with_reducible refine g_tup ?_
  | with_reducible refine g_lst ?_
  | with_reducible refine g_andV ?_
  | with_reducible refine g_orV ?_
  | with_reducible refine g_notV ?_
  | with_reducible refine g_tB ?_
  | with_reducible refine g_ne rfl ?_
  | with_reducible refine g_abs ?_
  | with_reducible refine g_isB ?_
  | with_reducible refine g_for ?_
  | with_reducible refine g_rng1 ?_
  | with_reducible refine g_rng2 ?_
  | with_reducible refine g_iList ?_
  | ((with_reducible refine g_break ?_); dsimp only)
  | ((with_reducible refine g_cont ?_); dsimp only)
  | with_reducible refine g_retN ?_
  | ((with_reducible apply isi_go (T := "int")); (case h => assumption); (case hb => exact k_int_ _))
  | ((with_reducible apply isi_go (T := "str")); (case h => assumption); (case hb => exact k_str_ _))
  | ((with_reducible apply isi_go (T := "bool")); (case h => assumption); (case hb => exact k_bool_ _))
  | ((with_reducible apply isi_go (T := "list")); (case h => assumption); (case hb => exact k_list_ _))
  | ((with_reducible apply isi_go (T := "tuple")); (case h => assumption); (case hb => exact k_tuple_ _))
  | ((with_reducible apply isi_go (T := "dict")); (case h => assumption); (case hb => exact k_dict_ _))
  | with_reducible refine g_intb ?_
  | with_reducible refine g_bm ?_
  | with_reducible refine g_tyS ?_
  | ((with_reducible apply g_tyL); (case hs => assumption))
  | with_reducible refine g_lc ?_
  | with_reducible refine g_sl ?_
  | with_reducible refine g_noP ?_
  | with_reducible refine g_part ?_
  | with_reducible refine g_pI ?_))

def spLaw (K : PySem.W.Frag) : Sp := fun vs H Q _ => ∃ (a : Addr) (ns : List Int), vs = [.ref a] ∧ SqL K H a (ns.map V.int) ∧ ns.length ≤ 63 ∧ ∀ H', Q (.bl true) H'
abbrev s_law : Stmt := topS 30
abbrev N_law : List Str := ["script", "store", "one", "two", "row", "line", "other", "low", "odd", "asks", "ask", "told"]
abbrev P_law : List Str := ["script"]
theorem sc_law : FnScope N_law P_law (defScope s_law) := ⟨rfl, rfl, rfl, by decide +kernel, rfl, by decide +kernel, by decide +kernel⟩

section
variable {P : Program} {w : World} {K : PySem.W.Frag} {mg : Str → Option Value} {base : Heap}
theorem ok_law (T : Txt K mg) : FnOk P w K mg base CX0 176 T.dlaw.f T.dlaw.fd P_law (spLaw K) := by
  have G_store : FnOk P w K mg base CX0 1 T.dstore.f T.dstore.fd P_store (spStore K) := ok_store T
  have G_row_pieces : FnOk P w K mg base CX0 174 T.drow_pieces.f T.drow_pieces.fd P_row_pieces (spPieces K) := ok_row_pieces T
  have G_line : FnOk P w K mg base CX0 175 T.dline.f T.dline.fd P_line (spLine K) := ok_line T
  have G_not_integer : FnOk P w K mg base CX0 173 T.dnot_integer.f T.dnot_integer.fd P_not_integer (spOdd K badInt) := ok_not_integer T
  have G_due : FnOk P w K mg base CX0 1 T.ddue.f T.ddue.fd P_due (spDue K) := ok_due T
  have G_no_row : FnOk P w K mg base CX0 174 T.dno_row.f T.dno_row.fd P_no_row (spNoRow K) := ok_no_row T
  have G_mixed : FnOk P w K mg base CX0 172 T.dmixed.f T.dmixed.fd P_mixed (spMixed K) := ok_mixed T
  have G_told : FnOk P w K mg base CX0 4 T.dtold.f T.dtold.fd P_told (spTold T) := ok_told T
  have G_same : FnOk P w K mg base CX0 4 T.dsame.f T.dsame.fd P_same (spSame 4) := ok_same T 4
  refine T.dlaw.F.ok sc_law (fun vs H Q E h => ?_) (fun cdv A_ outer s_ H vs Q E hr h => ?_)
  · obtain ⟨a, ns, rfl, _⟩ := h
    rfl
  · obtain ⟨a0, ns, rfl, hS, hl, k⟩ := h
    refine ⟨_, (pss_cons (ps_set (i := 1) sc_law.nd rfl (by first | exact .inl rfl | exact .inr rfl) (pe_call G_store (hr.mono (by omega)) rfl T.dstore.g T.dstore.F.kp T.dstore.b .nil pass0 (pa_cons (pv 0) pa_nil)))
      (pss_cons (ps_set (i := 2) sc_law.nd rfl (by first | exact .inl rfl | exact .inr rfl) (pe_call G_row_pieces (hr.mono (by omega)) rfl T.drow_pieces.g T.drow_pieces.F.kp T.drow_pieces.b .nil pass0 (pa_cons (pv 1) pa_nil)))
      (pss_cons (ps_set (i := 3) sc_law.nd rfl (by first | exact .inl rfl | exact .inr rfl) (pe_call G_row_pieces (hr.mono (by omega)) rfl T.drow_pieces.g T.drow_pieces.F.kp T.drow_pieces.b .nil pass0 (pa_cons (pv 1) pa_nil)))
      (pss_cons (ps_set (i := 4) sc_law.nd rfl (by first | exact .inl rfl | exact .inr rfl) (pe_bm PySem.F.plainAttrs_str PySem.F.slot_str_join PySem.F.type_str_join mt_join pe_str (pa_cons (pv 2) pa_nil)))
      (pss_cons (ps_set (i := 5) sc_law.nd rfl (by first | exact .inl rfl | exact .inr rfl) (pe_call G_line (hr.mono (by omega)) rfl T.dline.g T.dline.F.kp T.dline.b .nil pass0 (pa_cons (pv 1) (pa_cons pe_bl pa_nil))))
      (pss_cons (ps_set (i := 6) sc_law.nd rfl (by first | exact .inl rfl | exact .inr rfl) (pe_call G_line (hr.mono (by omega)) rfl T.dline.g T.dline.F.kp T.dline.b .nil pass0 (pa_cons (pv 1) (pa_cons pe_bl pa_nil))))
      (pss_cons (ps_set (i := 7) sc_law.nd rfl (by first | exact .inl rfl | exact .inr rfl) (pe_call G_line (hr.mono (by omega)) rfl T.dline.g T.dline.F.kp T.dline.b .nil pass0 (pa_cons (pv 1) (pa_cons pe_bl pa_nil))))
      (pss_cons (ps_set (i := 8) sc_law.nd rfl (by first | exact .inl rfl | exact .inr rfl) (pe_call G_not_integer (hr.mono (by omega)) rfl T.dnot_integer.g T.dnot_integer.F.kp T.dnot_integer.b .nil pass0 (pa_cons (pv 1) pa_nil)))
      (pss_cons (ps_set (i := 9) sc_law.nd rfl (by first | exact .inl rfl | exact .inr rfl) (pe_lst (pa_cons (pe_tup (pa_cons (pv 4) (pa_cons (pv 5) (pa_cons (pe_call G_due (hr.mono (by omega)) rfl T.ddue.g T.ddue.F.kp T.ddue.b .nil pass0 (pa_cons (pv 2) (pa_cons (pv 5) pa_nil))) pa_nil)))) (pa_cons (pe_tup (pa_cons (pe_bm PySem.F.plainAttrs_str PySem.F.slot_str_join PySem.F.type_str_join mt_join pe_str (pa_cons (pv 3) pa_nil)) (pa_cons (pv 5) (pa_cons (pe_call G_due (hr.mono (by omega)) rfl T.ddue.g T.ddue.F.kp T.ddue.b .nil pass0 (pa_cons (pv 3) (pa_cons (pv 5) pa_nil))) pa_nil)))) pa_nil))))
      (pss_cons (ps_expr (pe_bm PySem.F.plainAttrs_list PySem.F.slot_list_append PySem.F.type_list_append mt_append (pv 9) (pa_cons (pe_tup (pa_cons (pv 4) (pa_cons (pv 6) (pa_cons (pe_call G_due (hr.mono (by omega)) rfl T.ddue.g T.ddue.F.kp T.ddue.b .nil pass0 (pa_cons (pv 2) (pa_cons (pv 6) pa_nil))) pa_nil)))) pa_nil)))
      (pss_cons (ps_expr (pe_bm PySem.F.plainAttrs_list PySem.F.slot_list_append PySem.F.type_list_append mt_append (pv 9) (pa_cons (pe_tup (pa_cons (pe_op o_addS pe_str (pv 4)) (pa_cons (pv 5) (pa_cons (pe_call G_due (hr.mono (by omega)) rfl T.ddue.g T.ddue.F.kp T.ddue.b .nil pass0 (pa_cons (pe_op op_cat (pe_lst (pa_cons (pe_op o_addS pe_str (pe_ix ix_list (pv 2) pe_int (fun _ _ => rfl))) pa_nil)) (pe_slice sl_list (pv 2) (po_some pe_int) po_none)) (pa_cons (pv 5) pa_nil))) pa_nil)))) pa_nil)))
      (pss_cons (ps_expr (pe_bm PySem.F.plainAttrs_list PySem.F.slot_list_append PySem.F.type_list_append mt_append (pv 9) (pa_cons (pe_tup (pa_cons (pe_op o_addS (pv 4) pe_str) (pa_cons pe_int (pa_cons (pe_call G_due (hr.mono (by omega)) rfl T.ddue.g T.ddue.F.kp T.ddue.b .nil pass0 (pa_cons (pe_op op_cat (pv 2) (pe_lst (pa_cons pe_str pa_nil))) (pa_cons pe_int pa_nil))) pa_nil)))) pa_nil)))
      (pss_cons (ps_expr (pe_bm PySem.F.plainAttrs_list PySem.F.slot_list_append PySem.F.type_list_append mt_append (pv 9) (pa_cons (pe_tup (pa_cons (pe_op o_addS pe_str (pv 4)) (pa_cons (pv 6) (pa_cons (pe_tup (pa_cons pe_str (pa_cons (pe_tup (pa_cons (pv 6) (pa_cons pe_int (pa_cons pe_str pa_nil)))) pa_nil))) pa_nil)))) pa_nil)))
      (pss_cons (ps_expr (pe_bm PySem.F.plainAttrs_list PySem.F.slot_list_append PySem.F.type_list_append mt_append (pv 9) (pa_cons (pe_tup (pa_cons (pe_call G_no_row (hr.mono (by omega)) rfl T.dno_row.g T.dno_row.F.kp T.dno_row.b .nil pass0 (pa_cons (pv 1) (pa_cons (pv 4) pa_nil))) (pa_cons (pv 5) (pa_cons (pe_tup (pa_cons pe_str (pa_cons pe_str pa_nil))) pa_nil)))) pa_nil)))
      (pss_cons (ps_expr (pe_bm PySem.F.plainAttrs_list PySem.F.slot_list_append PySem.F.type_list_append mt_append (pv 9) (pa_cons (pe_tup (pa_cons (pe_call G_no_row (hr.mono (by omega)) rfl T.dno_row.g T.dno_row.F.kp T.dno_row.b .nil pass0 (pa_cons (pv 1) (pa_cons (pv 4) pa_nil))) (pa_cons (pv 8) (pa_cons (pe_tup (pa_cons pe_str (pa_cons pe_str pa_nil))) pa_nil)))) pa_nil)))
      (pss_cons (ps_expr (pe_bm PySem.F.plainAttrs_list PySem.F.slot_list_append PySem.F.type_list_append mt_append (pv 9) (pa_cons (pe_tup (pa_cons (pe_call G_no_row (hr.mono (by omega)) rfl T.dno_row.g T.dno_row.F.kp T.dno_row.b .nil pass0 (pa_cons (pv 1) (pa_cons (pe_op o_addS pe_str (pv 4)) pa_nil))) (pa_cons (pv 7) (pa_cons (pe_tup (pa_cons pe_str (pa_cons pe_str pa_nil))) pa_nil)))) pa_nil)))
      (pss_cons (ps_expr (pe_bm PySem.F.plainAttrs_list PySem.F.slot_list_append PySem.F.type_list_append mt_append (pv 9) (pa_cons (pe_tup (pa_cons (pv 4) (pa_cons (pv 8) (pa_cons (pe_tup (pa_cons pe_str (pa_cons pe_str pa_nil))) pa_nil)))) pa_nil)))
      (pss_cons (ps_expr (pe_bm PySem.F.plainAttrs_list PySem.F.slot_list_append PySem.F.type_list_append mt_append (pv 9) (pa_cons (pe_tup (pa_cons (pe_op o_addS (pv 4) pe_str) (pa_cons (pv 8) (pa_cons (pe_tup (pa_cons pe_str (pa_cons pe_str pa_nil))) pa_nil)))) pa_nil)))
      (pss_cons (ps_expr (pe_bm PySem.F.plainAttrs_list PySem.F.slot_list_append PySem.F.type_list_append mt_append (pv 9) (pa_cons (pe_tup (pa_cons (pv 4) (pa_cons (pv 7) (pa_cons (pe_tup (pa_cons pe_str (pa_cons pe_str pa_nil))) pa_nil)))) pa_nil)))
      (pss_cons (ps_expr (pe_bm PySem.F.plainAttrs_list PySem.F.slot_list_append PySem.F.type_list_append mt_append (pv 9) (pa_cons (pe_tup (pa_cons (pe_op o_addS pe_str (pv 4)) (pa_cons (pv 7) (pa_cons (pe_tup (pa_cons pe_str (pa_cons pe_str pa_nil))) pa_nil)))) pa_nil)))
      (pss_cons (ps_for PassesOwn.never rfl (pi_list (pe_op op_cat (pe_call G_mixed (hr.mono (by omega)) rfl T.dmixed.g T.dmixed.F.kp T.dmixed.b .nil pass0 (pa_cons (pv 1) (pa_cons (pv 9) pa_nil))) (pe_call G_mixed (hr.mono (by omega)) rfl T.dmixed.g T.dmixed.F.kp T.dmixed.b .nil pass0 (pa_cons (pv 1) (pa_cons (pv 9) pa_nil))))) (pg_name (i := 10) sc_law.nd rfl (by first | exact .inl rfl | exact .inr rfl))
        (pss_cons (ps_set (i := 11) sc_law.nd rfl (by first | exact .inl rfl | exact .inr rfl) (pe_call G_told (hr.mono (by omega)) rfl T.dtold.g T.dtold.F.kp T.dtold.b .nil pass0 (pa_cons (pe_ix ix_tup (pv 10) pe_int (fun _ _ => rfl)) (pa_cons (pe_ix ix_tup (pv 10) pe_int (fun _ _ => rfl)) pa_nil))))
        (pss_cons (ps_if (pt_not (pt_val (pe_call G_same (hr.mono (by omega)) rfl T.dsame.g T.dsame.F.kp T.dsame.b .nil pass0 (pa_cons (pv 11) (pa_cons (pe_ix ix_tup (pv 10) pe_int (fun _ _ => rfl)) pa_nil)))))
          (pss_one (ps_ret pe_bl))
          pss_nil)
        (pss_one (ps_if (pt_cmpR op_eq (pe_ix ix_tup (pv 11) pe_int (fun _ _ => rfl)) pe_str (nomark _))
          (pss_cons (ps_expr (pe_bm PySem.F.plainAttrs_list PySem.F.slot_list_append PySem.F.type_list_append mt_append (pe_ix ix_tup (pv 11) pe_int (fun _ _ => rfl)) (pa_cons (pe_ix ix_list (pe_ix ix_tup (pv 11) pe_int (fun _ _ => rfl)) pe_int (fun _ _ => rfl)) pa_nil)))
          (pss_one (ps_asg (pe_tup (pa_cons pe_str (pa_cons pe_int pa_nil))) (pg_sub (pe_ix ix_tup (pv 11) pe_int (fun _ _ => rfl)) pe_int set_list))))
          pss_nil)))))
      (pss_one (ps_ret pe_bl))))))))))))))))))))))), ?_⟩
    try dsimp only [cxOf, Cx.nox, Cx.wish]
    walk_at "go"
    refine ⟨a0, ns, rfl, hS, hl, fun s H0 hs0 x00 st0 => ?_⟩
    walk_at "go"
    refine ⟨s, rfl, st0, fun p1 ps H1 f1 u1 g1 x1 st1 => ?_⟩
    walk_at "go"
    refine ⟨s, rfl, st1, fun p2 qs H2 f2 u2 g2 x2 st2 => ?_⟩
    have ne1 := st0.ne f1
    have ne2 := st1.ne f2
    replace u1 := x2.kp _ _ ne1 u1
    walk_at "go"
    have sm1 := good_sum g1
    have sm2 := good_sum g2
    have c1 := g1.1
    have c2 := g2.1
    refine ⟨_, p1, ps, rfl, rfl, .inl (SqL.of u1), by rw [show (Str.ofString " ").length = 1 from len_sp]; omega, ?_⟩
    walk_at "go"
    refine ⟨s, true, rfl, st2, fun line H3 l1 _ x3 st3 => ?_⟩
    walk_at "go"
    refine ⟨s, true, rfl, st3, fun other H4 o1 _ x4 st4 => ?_⟩
    walk_at "go"
    refine ⟨s, false, rfl, st4, fun low H5 _ w1 x5 st5 => ?_⟩
    walk_at "go"
    refine ⟨s, rfl, st5, fun dodd vodd H6 hodd dao x6 st6 => ?_⟩
    replace l1 := l1 rfl
    replace o1 := o1 rfl
    replace w1 := w1 rfl
    replace dao := Da.mono (newOf_sub s _ _) _ _ dao
    have x26 := ((x3.trans x4).trans x5).trans x6
    replace u1 := x26.kp _ _ ne1 u1
    replace u2 := x26.kp _ _ ne2 u2
    have rk : RowOK (Txt.join " " ps) := good_row g1
    have rl : (Txt.join " " ps).length ≤ 270300 := good_len g1
    have rk2 : RowOK (Txt.join " " qs) := good_row g2
    have rl2 : (Txt.join " " qs).length ≤ 270300 := good_len g2
    have n1 := good_ne g1
    have n2 := good_ne g2
    have fr1 : ∀ p ∈ ps, 32 ∉ p.cps.toList := fun p hp => (g1.2.1 p hp).1.1
    have fr2 : ∀ p ∈ qs, 32 ∉ p.cps.toList := fun p hp => (g2.2.1 p hp).1.1
    have ln1 : ∀ p ∈ ps, p.length ≤ 2000 := fun p hp => by have := (g1.2.1 p hp).2; omega
    have ln2 : ∀ p ∈ qs, p.length ≤ 2000 := fun p hp => by have := (g2.2.1 p hp).2; omega
    have an1 : ∀ i : Int, 1 ≤ i → ansOf (.str (Txt.join " " ps)) (.int i) = dueGo i ps 1 [] := fun i hi => ans_row n1 fr1 rk hi
    have an2 : ∀ i : Int, 1 ≤ i → ansOf (.str (Txt.join " " qs)) (.int i) = dueGo i qs 1 [] := fun i hi => ans_row n2 fr2 rk2 hi
    have rj : ∀ z : Str, z = Txt.join (Str.ofString " ") ps → z = Txt.join " " ps := fun z e => e
    obtain ⟨row, hrow⟩ : ∃ row, row = Txt.join " " ps := ⟨_, rfl⟩
    have hrow2 : Txt.join (Str.ofString " ") ps = row := hrow.symm
    clear x26 x1 x2 x3 x4 x5 x6 st1 st2 st3 st4 st5 x00 hs0
    rw [hrow2]
    rw [← hrow] at rk rl an1
    walk_at "go"
    refine ⟨s, p1, ps, line, rfl, st6, u1, by omega, ln1, fun v1 H7 y7 da1 => ?_⟩
    replace da1 := Da.mono (newOf_sub s _ _) _ _ da1
    have st7 := st6.same y7
    replace u1 := y7 _ _ u1
    replace u2 := y7 _ _ u2
    replace dao := Da.mono (Sx.of y7) _ _ dao
    walk_at "go"
    refine ⟨by show 3 ≤ sizeLine; decide, fun t1 e1 => ?_⟩
    have q1 := mkAsk0 (dr := .str row) (dl := .int line) (v1 := .str row) (v2 := .int line) st7 e1 (str_len_of (by omega)) (an1 line l1) (dueGo_tup ..) (dueGo_ok _ _ _ _ (by show 0 + _ ≤ _; omega)) rfl rfl da1
    have z1 : Same H7 (upd H7 t1 (.tup [.str row, .int line, v1])) := same_new e1
    replace u1 := z1 _ _ u1
    replace u2 := z1 _ _ u2
    replace dao := Da.mono (Sx.of z1) _ _ dao
    have st8 := st7.same z1
    generalize upd H7 t1 (.tup [.str row, .int line, v1]) = H8 at *
    clear z1 y7
    walk_at "go"
    refine ⟨_, p2, qs, rfl, rfl, .inl (SqL.of u2), by rw [show (Str.ofString " ").length = 1 from len_sp]; omega, ?_⟩
    obtain ⟨row2, hr2⟩ : ∃ row2, row2 = Txt.join " " qs := ⟨_, rfl⟩
    have hr3 : Txt.join (Str.ofString " ") qs = row2 := hr2.symm
    rw [hr3]
    rw [← hr2] at rk2 rl2 an2
    walk_at "go"
    refine ⟨s, p2, qs, line, rfl, st8, u2, by omega, ln2, fun v2 H9 y9 da2 => ?_⟩
    replace da2 := Da.mono (newOf_sub s _ _) _ _ da2
    have st9 := st8.same y9
    replace u1 := y9 _ _ u1
    replace dao := Da.mono (Sx.of y9) _ _ dao
    replace q1 := q1.mono (Sx.of y9)
    walk_at "go"
    refine ⟨by show 3 ≤ sizeLine; decide, fun t2 e2 => ?_⟩
    have q2 := mkAsk0 (dr := .str row2) (dl := .int line) (v1 := .str row2) (v2 := .int line) st9 e2 (str_len_of (by omega)) (an2 line l1) (dueGo_tup ..) (dueGo_ok _ _ _ _ (by show 0 + _ ≤ _; omega)) rfl rfl da2
    have z2 : Same H9 (upd H9 t2 (.tup [.str row2, .int line, v2])) := same_new e2
    replace u1 := z2 _ _ u1
    replace dao := Da.mono (Sx.of z2) _ _ dao
    replace q1 := q1.mono (Sx.of z2)
    have st10 := st9.same z2
    generalize upd H9 t2 (.tup [.str row2, .int line, v2]) = H10 at *
    clear z2 y9
    walk_at "go"
    refine ⟨by show 2 ≤ sizeLine; decide, fun A gA => ?_⟩
    have xf : Sx s H10 (del (upd H10 A (.lst [.ref t1, .ref t2])) A) := fresh_del gA
    have all2 : ∀ v ∈ [V.ref t1, V.ref t2], Ask s (del (upd H10 A (.lst [.ref t1, .ref t2])) A) v := fun v hv => by
      rcases List.mem_cons.mp hv with e | hv
      · rw [e]
        exact q1.mono xf
      · rw [List.mem_singleton.mp hv]
        exact q2.mono xf
    have a : Asks K s A H10 p1 ps dodd vodd (upd H10 A (.lst [.ref t1, .ref t2])) [.ref t1, .ref t2] 2 := ⟨st10, Sx.new gA, gA, st10.new gA, upd_same, rfl, all2, xf.kp _ _ ne1 u1, Da.mono xf _ _ dao, ne1⟩
    clear all2
    generalize upd H10 A (.lst [.ref t1, .ref t2]) = H11 at *
    generalize [V.ref t1, V.ref t2] = xs0 at *
    clear q1 q2 u1 u2 dao xf da1 da2 hr2 hr3
    have hA := a.hA
    walk_at "go"
    refine ⟨s, p1, ps, other, rfl, a.st, a.at1, (by omega), ln1, fun v2 H1 y3 da4 => ?_⟩
    have hd5 := Da.mono (new_del hA) _ _ da4
    replace a := a.step (Sx.of y3) (a.st.same y3)
    clear hA
    have hA := a.hA
    walk_at "go"
    refine ⟨by show 3 ≤ sizeLine; decide, fun t6 g7 => ?_⟩
    have q8 := mkAsk (dr := .str row) (dl := .int other) a.hA a.st g7 (str_len_of (by first | omega | (rw [app_len]; omega))) (an1 other o1) (dueGo_tup ..) (dueGo_ok _ _ _ _ (by show 0 + _ ≤ _; omega)) rfl rfl hd5
    replace a := a.new (o := .tup [.str row, .int other, v2]) g7
    clear hA
    have hA := a.hA
    walk_at "go"
    refine g_app hA (by rw [a.n1, sizeLine_eq]; omega) ?_
    replace a := a.app q8
    clear q8 hA
    generalize upd (upd H1 t6 (.tup [.str row, .int other, v2])) A (.lst (xs0 ++ [.ref t6])) = K9 at *
    generalize xs0 ++ [V.ref t6] = xs10 at *
    have hA := a.hA
    walk_at "go"
    obtain ⟨p0, r, rfl⟩ : ∃ p0 r, ps = p0 :: r := by
      cases ps with
      | nil => exact absurd rfl n1
      | cons p0 r => exact ⟨p0, r, rfl⟩
    refine g_addS (by rw [show (Str.ofString "#").length = 1 from len_ha, sizeLine_eq]; omega) ?_
    walk_at "go"
    refine g_ixL (SqL.of a.at1) (at0 p0 r) ?_
    walk_at "go"
    have lp0 := ln1 p0 (List.mem_cons_self ..)
    refine g_addS (by rw [show (Str.ofString "#").length = 1 from len_ha, sizeLine_eq]; omega) ?_
    walk_at "go"
    refine ⟨by show 1 ≤ sizeLine; decide, fun z1 e1 => ?_⟩
    replace a := a.new (o := .lst [.str (Str.ofString "#" ++ p0)]) e1
    have w1z := upd_same (H := K9) (a := z1) (o := .lst [.str (Str.ofString "#" ++ p0)])
    generalize upd K9 z1 (.lst [.str (Str.ofString "#" ++ p0)]) = L1 at *
    clear hA
    have hA := a.hA
    walk_at "go"
    refine ⟨p1, _, rfl, SqL.of a.at1, fun z2 e2 => ?_⟩
    rw [cut1]
    replace a := a.new (o := .lst (r.map V.str)) e2
    have w2z := upd_same (H := L1) (a := z2) (o := .lst (r.map V.str))
    replace w1z := (upd_ne (o := .lst (r.map V.str)) (ne_of_none w1z e2)).trans w1z
    generalize upd L1 z2 (.lst (r.map V.str)) = L2_ at *
    clear hA
    have hA := a.hA
    walk_at "go"
    rw [List.length_cons] at c1
    refine ⟨z1, z2, _, _, rfl, rfl, w1z, w2z, by rw [List.length_map, sizeLine_eq]; show 1 + _ ≤ _; omega, fun z3 e3 => ?_⟩
    replace a := a.new (o := .lst ([.str (Str.ofString "#" ++ p0)] ++ r.map V.str)) e3
    have w3z : upd L2_ z3 (.lst ([.str (Str.ofString "#" ++ p0)] ++ r.map V.str)) z3 = some (.lst (((Str.ofString "#" ++ p0) :: r).map V.str)) := upd_same
    generalize upd L2_ z3 (.lst ([.str (Str.ofString "#" ++ p0)] ++ r.map V.str)) = L3 at *
    clear hA w1z w2z
    have hA := a.hA
    walk_at "go"
    have hf3 : ∀ p ∈ ((Str.ofString "#" ++ p0) :: r), 32 ∉ p.cps.toList := fun p hp => by
      rcases List.mem_cons.mp hp with e | hp
      · rw [e, str_app]
        intro z
        rcases List.mem_append.mp z with z | z
        · exact absurd z (by decide +kernel)
        · exact fr1 p0 (List.mem_cons_self ..) z
      · exact fr1 p (List.mem_cons_of_mem _ hp)
    have hl3 : ∀ p ∈ ((Str.ofString "#" ++ p0) :: r), p.length ≤ 2000 := fun p hp => by
      rcases List.mem_cons.mp hp with e | hp
      · rw [e, app_len, show (Str.ofString "#").length = 1 from len_ha]
        have := (g1.2.1 p0 (List.mem_cons_self ..)).2
        omega
      · exact ln1 p (List.mem_cons_of_mem _ hp)
    refine ⟨s, z3, ((Str.ofString "#" ++ p0) :: r), line, rfl, a.st, w3z, (by rw [List.length_cons]; omega), hl3, fun v12 H11 y13 da14 => ?_⟩
    have hd15 := Da.mono (new_del hA) _ _ da14
    replace a := a.step (Sx.of y13) (a.st.same y13)
    clear hA
    have hA := a.hA
    walk_at "go"
    have rkh : RowOK (Str.ofString "#" ++ row) := ok_pre nl_ha rk
    have ejh : Str.ofString "#" ++ row = Txt.join " " ((Str.ofString "#" ++ p0) :: r) := by
      rw [hrow]
      exact join_ha p0 r
    have anh : ansOf (.str (Str.ofString "#" ++ row)) (.int line) = dueGo line ((Str.ofString "#" ++ p0) :: r) 1 [] := by
      rw [ejh] at rkh ⊢
      exact ans_row (List.cons_ne_nil _ _) hf3 rkh l1
    have lrh : (Str.ofString "#" ++ row).length ≤ 1000000 := by
      rw [app_len, show (Str.ofString "#").length = 1 from len_ha]
      omega
    refine ⟨by show 3 ≤ sizeLine; decide, fun t16 g17 => ?_⟩
    have q18 := mkAsk (dr := .str (Str.ofString "#" ++ row)) (dl := .int line) a.hA a.st g17 (str_len_of lrh) anh (dueGo_tup ..) (dueGo_ok _ _ _ _ (by rw [List.length_cons]; show 0 + _ ≤ _; omega)) rfl rfl hd15
    replace a := a.new (o := .tup [.str (Str.ofString "#" ++ row), .int line, v12]) g17
    clear hA
    have hA := a.hA
    walk_at "go"
    refine g_app hA (by rw [a.n1, sizeLine_eq]; omega) ?_
    replace a := a.app q18
    clear q18 hA
    generalize upd (upd H11 t16 (.tup [.str (Str.ofString "#" ++ row), .int line, v12])) A (.lst (xs10 ++ [.ref t16])) = K19 at *
    generalize xs10 ++ [V.ref t16] = xs20 at *
    have hA := a.hA
    walk_at "go"
    have lrs : (row ++ Str.ofString " ").length ≤ 1000000 := by
      rw [app_len, show (Str.ofString " ").length = 1 from len_sp]
      omega
    have lsr : (Str.ofString " " ++ row).length ≤ 1000000 := by
      rw [app_len, show (Str.ofString " ").length = 1 from len_sp]
      omega
    have rks : RowOK (row ++ Str.ofString " ") := ok_post nl_sp rk
    have rsk : RowOK (Str.ofString " " ++ row) := ok_pre nl_sp rk
    refine g_addS (by rw [show (Str.ofString " ").length = 1 from len_sp, sizeLine_eq]; omega) ?_
    walk_at "go"
    refine ⟨by show 1 ≤ sizeLine; decide, fun z4 e4 => ?_⟩
    replace a := a.new (o := .lst [.str ""]) e4
    have w1z := upd_same (H := K19) (a := z4) (o := .lst [.str ""])
    generalize upd K19 z4 (.lst [.str ""]) = L4 at *
    clear hA
    have hA := a.hA
    walk_at "go"
    refine ⟨p1, z4, _, _, rfl, rfl, a.at1, w1z, by rw [List.length_map, sizeLine_eq]; show (p0 :: r).length + 1 ≤ _; rw [List.length_cons]; omega, fun z5 e5 => ?_⟩
    replace a := a.new (o := .lst ((p0 :: r).map V.str ++ [.str ""])) e5
    have w3z : upd L4 z5 (.lst ((p0 :: r).map V.str ++ [.str ""])) z5 = some (.lst (((p0 :: r) ++ [("" : Str)]).map V.str)) := by
      rw [upd_same, List.map_append]
      rfl
    generalize upd L4 z5 (.lst ((p0 :: r).map V.str ++ [.str ""])) = L5 at *
    clear hA w1z
    have hA := a.hA
    walk_at "go"
    have hf5 : ∀ p ∈ (p0 :: r) ++ [("" : Str)], 32 ∉ p.cps.toList := fun p hp => by
      rcases List.mem_append.mp hp with hp | hp
      · exact fr1 p hp
      · rw [List.mem_singleton.mp hp]
        exact free_nil.1
    have hl5 : ∀ p ∈ (p0 :: r) ++ [("" : Str)], p.length ≤ 2000 := fun p hp => by
      rcases List.mem_append.mp hp with hp | hp
      · exact ln1 p hp
      · rw [List.mem_singleton.mp hp]
        decide
    have ll5 : ((p0 :: r) ++ [("" : Str)]).length ≤ 301 := by
      rw [List.length_append, List.length_cons]
      show r.length + 1 + 1 ≤ 301
      omega
    refine ⟨s, z5, ((p0 :: r) ++ [("" : Str)]), 1, rfl, a.st, w3z, (by omega), hl5, fun v22 H21 y23 da24 => ?_⟩
    have hd25 := Da.mono (new_del hA) _ _ da24
    replace a := a.step (Sx.of y23) (a.st.same y23)
    clear hA
    have hA := a.hA
    walk_at "go"
    have ejs : row ++ Str.ofString " " = Txt.join " " ((p0 :: r) ++ [("" : Str)]) := by
      rw [hrow]
      exact join_post (p0 :: r) (List.cons_ne_nil _ _)
    have ans5 : ansOf (.str (row ++ Str.ofString " ")) (.int 1) = dueGo 1 ((p0 :: r) ++ [("" : Str)]) 1 [] := by
      rw [ejs] at rks ⊢
      exact ans_row (List.cons_ne_nil _ _) hf5 rks (by decide)
    refine ⟨by show 3 ≤ sizeLine; decide, fun t26 g27 => ?_⟩
    have q28 := mkAsk (dr := .str (row ++ Str.ofString " ")) (dl := .int 1) a.hA a.st g27 (str_len_of lrs) ans5 (dueGo_tup ..) (dueGo_ok _ _ _ _ (by show 0 + _ ≤ _; omega)) rfl rfl hd25
    replace a := a.new (o := .tup [.str (row ++ Str.ofString " "), .int 1, v22]) g27
    clear hA
    have hA := a.hA
    walk_at "go"
    refine g_app hA (by rw [a.n1, sizeLine_eq]; omega) ?_
    replace a := a.app q28
    clear q28 hA
    generalize upd (upd H21 t26 (.tup [.str (row ++ Str.ofString " "), .int 1, v22])) A (.lst (xs20 ++ [.ref t26])) = K29 at *
    generalize xs20 ++ [V.ref t26] = xs30 at *
    have hA := a.hA
    walk_at "go"
    refine g_addS (by rw [show (Str.ofString " ").length = 1 from len_sp, sizeLine_eq]; omega) ?_
    walk_at "go"
    refine ⟨by show 3 ≤ sizeLine; decide, fun t6 g6 => ?_⟩
    have hd6 := Da.tupD hA a.st g6 (l := [.int other, .int 1, .str "spacing"]) (.cons rfl (.cons rfl (.cons rfl .nil)))
    replace a := a.new (o := .tup [.int other, .int 1, .str "spacing"]) g6
    generalize upd K29 t6 (.tup [.int other, .int 1, .str "spacing"]) = L6 at *
    clear hA
    have hA := a.hA
    walk_at "go"
    refine ⟨by show 2 ≤ sizeLine; decide, fun t7 g7 => ?_⟩
    have hd7 := Da.tupD hA a.st g7 (l := [.str "BadText", .tup [.int other, .int 1, .str "spacing"]]) (.cons rfl (.cons hd6 .nil))
    replace a := a.new (o := .tup [.str "BadText", .ref t6]) g7
    generalize upd L6 t7 (.tup [.str "BadText", .ref t6]) = L7 at *
    clear hA hd6
    have hA := a.hA
    walk_at "go"
    have ej6 : Str.ofString " " ++ row = Txt.join " " (("" : Str) :: (p0 :: r)) := by
      rw [hrow]
      exact join_pre (p0 :: r) (List.cons_ne_nil _ _)
    have hf6 : ∀ p ∈ ("" : Str) :: (p0 :: r), 32 ∉ p.cps.toList := fun p hp => by
      rcases List.mem_cons.mp hp with e | hp
      · rw [e]
        exact free_nil.1
      · exact fr1 p hp
    have ans6 : ansOf (.str (Str.ofString " " ++ row)) (.int other) = .tup [.str "BadText", .tup [.int other, .int 1, .str "spacing"]] := by
      have rsk2 := rsk
      rw [ej6] at rsk2 ⊢
      rw [ans_row (List.cons_ne_nil _ _) hf6 rsk2 o1]
      exact if_pos rfl
    have ok6 : Ok 3 (.tup [.str "BadText", .tup [.int other, .int 1, .str "spacing"]]) := by
      have z := dueGo_ok other [""] 1 [] (by decide)
      exact z
    refine ⟨by show 3 ≤ sizeLine; decide, fun t31 g32 => ?_⟩
    have q33 := mkAsk (dr := .str (Str.ofString " " ++ row)) (dl := .int other) a.hA a.st g32 (str_len_of lsr) ans6 ⟨_, _, rfl⟩ ok6 rfl rfl hd7
    replace a := a.new (o := .tup [.str (Str.ofString " " ++ row), .int other, (.ref t7)]) g32
    clear hA
    have hA := a.hA
    walk_at "go"
    refine g_app hA (by rw [a.n1, sizeLine_eq]; omega) ?_
    replace a := a.app q33
    clear q33 hA
    generalize upd (upd L7 t31 (.tup [.str (Str.ofString " " ++ row), .int other, (.ref t7)])) A (.lst (xs30 ++ [.ref t31])) = K34 at *
    generalize xs30 ++ [V.ref t31] = xs35 at *
    have hA := a.hA
    walk_at "go"
    refine ⟨s, row, rfl, a.st, (by omega), fun d37 v38 H36 b39 da40 x41 st42 => ?_⟩
    have hd43 := Da.mono (new_del hA) _ _ da40
    replace a := a.step x41 st42
    clear hA
    have hA := a.hA
    walk_at "go"
    refine ⟨by show 2 ≤ sizeLine; decide, fun t44 g45 => ?_⟩
    have hd46 := Da.tupD hA a.st g45 (l := [.str "WrongKind", .str "row"]) (.cons rfl (.cons rfl .nil))
    replace hd43 := Da.mono (del_sx a.ns (Sx.new (o := .tup [.str "WrongKind", .str "row"]) g45)) _ _ hd43
    replace a := a.new (o := .tup [.str "WrongKind", .str "row"]) g45
    generalize upd H36 t44 (.tup [.str "WrongKind", .str "row"]) = H47 at *
    clear hA
    have hA := a.hA
    walk_at "go"
    refine ⟨by show 3 ≤ sizeLine; decide, fun t48 g49 => ?_⟩
    have q50 := mkAsk (dr := d37) (dl := .int line) a.hA a.st g49 (bad_len b39) (ans_bad b39) ⟨_, _, rfl⟩ (ok_two "WrongKind" "row") hd43 rfl hd46
    replace a := a.new (o := .tup [v38, .int line, (.ref t44)]) g49
    clear hA
    have hA := a.hA
    walk_at "go"
    refine g_app hA (by rw [a.n1, sizeLine_eq]; omega) ?_
    replace a := a.app q50
    clear q50 hA
    generalize upd (upd H47 t48 (.tup [v38, .int line, (.ref t44)])) A (.lst (xs35 ++ [.ref t48])) = K51 at *
    generalize xs35 ++ [V.ref t48] = xs52 at *
    have hA := a.hA
    walk_at "go"
    refine ⟨s, row, rfl, a.st, (by omega), fun d54 v55 H53 b56 da57 x58 st59 => ?_⟩
    have hd60 := Da.mono (new_del hA) _ _ da57
    replace a := a.step x58 st59
    clear hA
    have hA := a.hA
    walk_at "go"
    refine ⟨by show 2 ≤ sizeLine; decide, fun t61 g62 => ?_⟩
    have hd63 := Da.tupD hA a.st g62 (l := [.str "WrongKind", .str "row"]) (.cons rfl (.cons rfl .nil))
    replace hd60 := Da.mono (del_sx a.ns (Sx.new (o := .tup [.str "WrongKind", .str "row"]) g62)) _ _ hd60
    replace a := a.new (o := .tup [.str "WrongKind", .str "row"]) g62
    generalize upd H53 t61 (.tup [.str "WrongKind", .str "row"]) = H64 at *
    clear hA
    have hA := a.hA
    walk_at "go"
    refine ⟨by show 3 ≤ sizeLine; decide, fun t65 g66 => ?_⟩
    have q67 := mkAsk (dr := d54) (dl := dodd) a.hA a.st g66 (bad_len b56) (ans_bad b56) ⟨_, _, rfl⟩ (ok_two "WrongKind" "row") hd60 a.odd hd63
    replace a := a.new (o := .tup [v55, vodd, (.ref t61)]) g66
    clear hA
    have hA := a.hA
    walk_at "go"
    refine g_app hA (by rw [a.n1, sizeLine_eq]; omega) ?_
    replace a := a.app q67
    clear q67 hA
    generalize upd (upd H64 t65 (.tup [v55, vodd, (.ref t61)])) A (.lst (xs52 ++ [.ref t65])) = K68 at *
    generalize xs52 ++ [V.ref t65] = xs69 at *
    have hA := a.hA
    walk_at "go"
    refine g_addS (by rw [show (Str.ofString " ").length = 1 from len_sp, sizeLine_eq]; omega) ?_
    walk_at "go"
    refine ⟨s, (Str.ofString " " ++ row), rfl, a.st, (by rw [app_len, show (Str.ofString " ").length = 1 from len_sp]; omega), fun d71 v72 H70 b73 da74 x75 st76 => ?_⟩
    have hd77 := Da.mono (new_del hA) _ _ da74
    replace a := a.step x75 st76
    clear hA
    have hA := a.hA
    walk_at "go"
    refine ⟨by show 2 ≤ sizeLine; decide, fun t78 g79 => ?_⟩
    have hd80 := Da.tupD hA a.st g79 (l := [.str "WrongKind", .str "row"]) (.cons rfl (.cons rfl .nil))
    replace hd77 := Da.mono (del_sx a.ns (Sx.new (o := .tup [.str "WrongKind", .str "row"]) g79)) _ _ hd77
    replace a := a.new (o := .tup [.str "WrongKind", .str "row"]) g79
    generalize upd H70 t78 (.tup [.str "WrongKind", .str "row"]) = H81 at *
    clear hA
    have hA := a.hA
    walk_at "go"
    refine ⟨by show 3 ≤ sizeLine; decide, fun t82 g83 => ?_⟩
    have q84 := mkAsk (dr := d71) (dl := .int low) a.hA a.st g83 (bad_len b73) (ans_bad b73) ⟨_, _, rfl⟩ (ok_two "WrongKind" "row") hd77 rfl hd80
    replace a := a.new (o := .tup [v72, .int low, (.ref t78)]) g83
    clear hA
    have hA := a.hA
    walk_at "go"
    refine g_app hA (by rw [a.n1, sizeLine_eq]; omega) ?_
    replace a := a.app q84
    clear q84 hA
    generalize upd (upd H81 t82 (.tup [v72, .int low, (.ref t78)])) A (.lst (xs69 ++ [.ref t82])) = K85 at *
    generalize xs69 ++ [V.ref t82] = xs86 at *
    have hA := a.hA
    walk_at "go"
    refine ⟨by show 2 ≤ sizeLine; decide, fun t87 g88 => ?_⟩
    have hd89 := Da.tupD hA a.st g88 (l := [.str "WrongKind", .str "line"]) (.cons rfl (.cons rfl .nil))
    replace a := a.new (o := .tup [.str "WrongKind", .str "line"]) g88
    generalize upd K85 t87 (.tup [.str "WrongKind", .str "line"]) = H90 at *
    clear hA
    have hA := a.hA
    walk_at "go"
    refine ⟨by show 3 ≤ sizeLine; decide, fun t91 g92 => ?_⟩
    have q93 := mkAsk (dr := .str row) (dl := dodd) a.hA a.st g92 (str_len_of (by omega)) (ans_badline rk hodd) ⟨_, _, rfl⟩ (ok_two "WrongKind" "line") rfl a.odd hd89
    replace a := a.new (o := .tup [.str row, vodd, (.ref t87)]) g92
    clear hA
    have hA := a.hA
    walk_at "go"
    refine g_app hA (by rw [a.n1, sizeLine_eq]; omega) ?_
    replace a := a.app q93
    clear q93 hA
    generalize upd (upd H90 t91 (.tup [.str row, vodd, (.ref t87)])) A (.lst (xs86 ++ [.ref t91])) = K94 at *
    generalize xs86 ++ [V.ref t91] = xs95 at *
    have hA := a.hA
    walk_at "go"
    refine g_addS (by rw [show (Str.ofString " ").length = 1 from len_sp, sizeLine_eq]; omega) ?_
    walk_at "go"
    refine ⟨by show 2 ≤ sizeLine; decide, fun t96 g97 => ?_⟩
    have hd98 := Da.tupD hA a.st g97 (l := [.str "WrongKind", .str "line"]) (.cons rfl (.cons rfl .nil))
    replace a := a.new (o := .tup [.str "WrongKind", .str "line"]) g97
    generalize upd K94 t96 (.tup [.str "WrongKind", .str "line"]) = H99 at *
    clear hA
    have hA := a.hA
    walk_at "go"
    refine ⟨by show 3 ≤ sizeLine; decide, fun t100 g101 => ?_⟩
    have q102 := mkAsk (dr := .str (row ++ Str.ofString " ")) (dl := dodd) a.hA a.st g101 (str_len_of lrs) (ans_badline rks hodd) ⟨_, _, rfl⟩ (ok_two "WrongKind" "line") rfl a.odd hd98
    replace a := a.new (o := .tup [.str (row ++ Str.ofString " "), vodd, (.ref t96)]) g101
    clear hA
    have hA := a.hA
    walk_at "go"
    refine g_app hA (by rw [a.n1, sizeLine_eq]; omega) ?_
    replace a := a.app q102
    clear q102 hA
    generalize upd (upd H99 t100 (.tup [.str (row ++ Str.ofString " "), vodd, (.ref t96)])) A (.lst (xs95 ++ [.ref t100])) = K103 at *
    generalize xs95 ++ [V.ref t100] = xs104 at *
    have hA := a.hA
    walk_at "go"
    refine ⟨by show 2 ≤ sizeLine; decide, fun t105 g106 => ?_⟩
    have hd107 := Da.tupD hA a.st g106 (l := [.str "OutOfBounds", .str "line"]) (.cons rfl (.cons rfl .nil))
    replace a := a.new (o := .tup [.str "OutOfBounds", .str "line"]) g106
    generalize upd K103 t105 (.tup [.str "OutOfBounds", .str "line"]) = H108 at *
    clear hA
    have hA := a.hA
    walk_at "go"
    refine ⟨by show 3 ≤ sizeLine; decide, fun t109 g110 => ?_⟩
    have q111 := mkAsk (dr := .str row) (dl := .int low) a.hA a.st g110 (str_len_of (by omega)) (ans_low rk (by omega)) ⟨_, _, rfl⟩ (ok_two "OutOfBounds" "line") rfl rfl hd107
    replace a := a.new (o := .tup [.str row, .int low, (.ref t105)]) g110
    clear hA
    have hA := a.hA
    walk_at "go"
    refine g_app hA (by rw [a.n1, sizeLine_eq]; omega) ?_
    replace a := a.app q111
    clear q111 hA
    generalize upd (upd H108 t109 (.tup [.str row, .int low, (.ref t105)])) A (.lst (xs104 ++ [.ref t109])) = K112 at *
    generalize xs104 ++ [V.ref t109] = xs113 at *
    have hA := a.hA
    walk_at "go"
    refine g_addS (by rw [show (Str.ofString " ").length = 1 from len_sp, sizeLine_eq]; omega) ?_
    walk_at "go"
    refine ⟨by show 2 ≤ sizeLine; decide, fun t114 g115 => ?_⟩
    have hd116 := Da.tupD hA a.st g115 (l := [.str "OutOfBounds", .str "line"]) (.cons rfl (.cons rfl .nil))
    replace a := a.new (o := .tup [.str "OutOfBounds", .str "line"]) g115
    generalize upd K112 t114 (.tup [.str "OutOfBounds", .str "line"]) = H117 at *
    clear hA
    have hA := a.hA
    walk_at "go"
    refine ⟨by show 3 ≤ sizeLine; decide, fun t118 g119 => ?_⟩
    have q120 := mkAsk (dr := .str (Str.ofString " " ++ row)) (dl := .int low) a.hA a.st g119 (str_len_of lsr) (ans_low rsk (by omega)) ⟨_, _, rfl⟩ (ok_two "OutOfBounds" "line") rfl rfl hd116
    replace a := a.new (o := .tup [.str (Str.ofString " " ++ row), .int low, (.ref t114)]) g119
    clear hA
    have hA := a.hA
    walk_at "go"
    refine g_app hA (by rw [a.n1, sizeLine_eq]; omega) ?_
    replace a := a.app q120
    clear q120 hA
    generalize upd (upd H117 t118 (.tup [.str (Str.ofString " " ++ row), .int low, (.ref t114)])) A (.lst (xs113 ++ [.ref t118])) = K121 at *
    generalize xs113 ++ [V.ref t118] = xs122 at *
    have hA := a.hA
    walk_at "go"
    have hask : ∀ v ∈ xs122, Ask s K121 v := fun v hv => (a.all v hv).mono (del_sub s _ A)
    have hn := a.n1
    have hst := a.st
    have hns := a.ns
    clear a rk rl an1 rk2 rl2 an2 fr1 fr2 ln1 ln2 hf3 hl3 hf5 hl5 ll5 hf6 ans6 ok6 rj
    refine ⟨s, A, xs122, rfl, hst, hns, hA, by rw [hn]; decide, fun m1 ys1 M1 i1 j1 in1 len1 y1 s1 => ?_⟩
    walk_at "go"
    refine ⟨s, A, xs122, rfl, s1, hns, y1.kp _ _ hns hA, by rw [hn]; decide, fun m2 ys2 M2 i2 j2 in2 len2 y2 s2 => ?_⟩
    walk_at "go"
    refine ⟨m1, m2, _, _, rfl, rfl, y2.kp _ _ (hst.ne i1) j1, j2, by rw [len1, len2, hn, sizeLine_eq]; omega, fun L gL => ?_⟩
    have hz : ∀ v ∈ ys1 ++ ys2, Ask s (upd M2 L (.lst (ys1 ++ ys2))) v := fun v hv => by
      have hv2 : v ∈ xs122 := (List.mem_append.mp hv).elim (in1 v) (in2 v)
      exact (hask v hv2).mono ((y1.trans y2).trans (Sx.new gL))
    have s3 := s2.new (o := .lst (ys1 ++ ys2)) gL
    have nL : L ≠ s := s2.ne gL
    have uL := upd_same (H := M2) (a := L) (o := .lst (ys1 ++ ys2))
    generalize upd M2 L (.lst (ys1 ++ ys2)) = M3 at *
    generalize ys1 ++ ys2 = zs at *
    clear hask y1 y2 s1 s2 in1 in2 len1 len2 i1 i2 j1 j2 hA hst hns hn
    walk_at "go"
    refine ⟨L, rfl, ⟨_, SqL.of uL⟩, ?_⟩
    refine for_list (xs := zs) (fun i σ' H' => ∃ z1 z2 : Option V, σ' = [some (.ref a0), some (.ref s), some (.ref p1), some (.ref p2), some (.str row), some (.int line), some (.int other), some (.int low), some vodd, some (.ref A), z1, z2] ∧ Sx s M3 H' ∧ Store K H' s)
      ⟨none, none, rfl, Sx.refl s M3, s3⟩ (fun i σ' H' _ h => ?_) ?_ ?_
    · obtain ⟨_, _, _, x, _⟩ := h
      exact SqL.of (x.kp _ _ nL uL)
    · rintro i v σ' N0 hv ⟨z1, z2, rfl, x, st⟩
      obtain ⟨dr, dl, kk, l, hlen, hans, hok, hd⟩ := (hz v (List.mem_of_getElem? hv)).mono x
      obtain ⟨t, vs, rfl, nt, ht, q⟩ := hd
      obtain ⟨v1, r1, rfl, d1, v2, r2, rfl, d2, v3, r3, rfl, d3, e4⟩ := q
      have e4 : r3 = [] := e4
      subst e4
      walk_at "go"
      refine g_ixT (SqT.of ht) rfl ?_
      walk_at "go"
      refine g_ixT (SqT.of ht) rfl ?_
      walk_at "go"
      refine ⟨s, v1, v2, dr, dl, rfl, st, d1, d2, hlen, fun u N1 y da fr => ?_⟩
      rw [hans] at da fr
      walk_at "go"
      refine g_ixT (SqT.of (y _ _ ht)) rfl ?_
      walk_at "go"
      refine ⟨s, _, u, v3, rfl, da, Da.mono (Sx.of y) _ _ d3, hok, fun N2 y2 => ?_⟩
      obtain ⟨w, us, rfl, nw, hw, qw⟩ := da
      obtain ⟨u1, w1', rfl, c1', u2, w2', rfl, c2', e5⟩ := qw
      have e5 : w2' = [] := e5
      have e6 : u1 = .str kk := c1'
      subst e5 e6
      have x2 := (x.trans (Sx.of y)).trans (Sx.of y2)
      have st2 := (st.same y).same y2
      walk_at "go"
      refine g_ixT (SqT.of (y2 _ _ hw)) rfl ?_
      walk_at "go"
      refine g_ite (fun h => ?_) (fun h => ?_)
      · have ek : kk = "told" := V.str.inj (of_decide_eq_true h)
        obtain ⟨t', q, xs, e7, e8, e9, e10, e11, e13⟩ := fr l (by rw [ek])
        cases e7
        replace e8 := y2 _ _ e8
        replace e9 := y2 _ _ e9
        match xs, e11, e13, e9 with
        | x0 :: xr, _, e13, e9 =>
          have hM : M3 q = none := st.free x e10
          walk_at "go"
          refine g_ixT (SqT.of e8) rfl ?_
          walk_at "go"
          refine g_ixT (SqT.of e8) rfl ?_
          walk_at "go"
          refine g_ixL (SqL.of e9) (atI_nat (j := 0) rfl) ?_
          walk_at "go"
          refine g_app e9 (by rw [sizeLine_eq]; omega) ?_
          have x4 := x2.mut (o := .lst ((x0 :: xr) ++ [x0])) hM
          have st4 := s3.mut (o := .lst ((x0 :: xr) ++ [x0])) x2 st2 hM
          have nwq : w ≠ q := fun z => by
            rw [z, e9] at e8
            cases e8
          replace e8 := (upd_ne (o := .lst ((x0 :: xr) ++ [x0])) nwq).trans e8
          have e12 := upd_same (H := N2) (a := q) (o := .lst ((x0 :: xr) ++ [x0]))
          generalize upd N2 q (.lst ((x0 :: xr) ++ [x0])) = N3 at *
          walk_at "go"
          refine ⟨by show 2 ≤ sizeLine; decide, fun p5 g5 => ?_⟩
          have x5 := x4.trans (Sx.new (o := .tup [.str "a", .int 1]) g5)
          have st5 := st4.new (o := .tup [.str "a", .int 1]) g5
          replace e8 := (upd_ne (o := .tup [.str "a", .int 1]) (ne_of_none e8 g5)).trans e8
          replace e12 := (upd_ne (o := .tup [.str "a", .int 1]) (ne_of_none e12 g5)).trans e12
          generalize upd N3 p5 (.tup [.str "a", .int 1]) = N4 at *
          walk_at "go"
          refine g_ixT (SqT.of e8) rfl ?_
          walk_at "go"
          refine ⟨q, _, 0, 0, rfl, rfl, e12, ix0 (by rw [List.length_append, List.length_cons]; omega), ?_⟩
          walk_at "go"
          exact ⟨_, _, rfl, x5.mut hM, s3.mut x5 st5 hM⟩
        | [], e11, _, _ => exact absurd rfl e11
      · walk_at "go"
        exact ⟨_, _, rfl, x2, st2⟩
    · rintro σ' N0 ⟨z1, z2, rfl, x, st⟩
      walk_at "go"
      exact k _
end
end My
namespace My
open PySem PySem.Spec PyProof.Rows L2
theorem cl_of {K : PySem.W.Frag} {C N : Addr} {nm q : Str} {bs bm : List Value} {sn : List Str} {sub : List Value} {ab : Bool} {col : Option Bool} {dd : Option Addr} {m0 m1 m2 m3 m5 : Option Value}
    (h : K.lookup C = some (excClassObj nm q C N bs bm true sn sub ab col dd m0 m1 m2 m3 m5 "ValueError.__new__")) : (PySem.W.clsIn K C).isSome = true := by
  unfold PySem.W.clsIn
  rw [h]
  rfl
theorem all_mk {l : PySem.W.OpenLaw} {w : World} {K : PySem.W.Frag} {h : Heap} {mg : Str → Option Value} {fa : Addr} (X : K.In h) (G : h.Ns mainGlobals mg) (hfa : mg "law" = some (.ref fa))
    {CFrameError CWrongKind COutOfBounds CRepeatedName CUnknownName CUnfitError CUnsafe CBadText : Addr}
    {f_split_row : Addr} {od_split_row an_split_row : Option Addr} {sl_split_row : Array (Option Value)} {oc_split_row kV_split_row dc_split_row pm_split_row cd_split_row ct_split_row : Value}
    {f_store : Addr} {od_store an_store : Option Addr} {sl_store : Array (Option Value)} {oc_store kV_store dc_store pm_store cd_store ct_store : Value}
    {f_take : Addr} {od_take an_take : Option Addr} {sl_take : Array (Option Value)} {oc_take kV_take dc_take pm_take cd_take ct_take : Value}
    {f_edge : Addr} {od_edge an_edge : Option Addr} {sl_edge : Array (Option Value)} {oc_edge kV_edge dc_edge pm_edge cd_edge ct_edge : Value}
    {f_between : Addr} {od_between an_between : Option Addr} {sl_between : Array (Option Value)} {oc_between kV_between dc_between pm_between cd_between ct_between : Value}
    {f_mixed : Addr} {od_mixed an_mixed : Option Addr} {sl_mixed : Array (Option Value)} {oc_mixed kV_mixed dc_mixed pm_mixed cd_mixed ct_mixed : Value}
    {f_tens : Addr} {od_tens an_tens : Option Addr} {sl_tens : Array (Option Value)} {oc_tens kV_tens dc_tens pm_tens cd_tens ct_tens : Value}
    {f_integer : Addr} {od_integer an_integer : Option Addr} {sl_integer : Array (Option Value)} {oc_integer kV_integer dc_integer pm_integer cd_integer ct_integer : Value}
    {f_tail : Addr} {od_tail an_tail : Option Addr} {sl_tail : Array (Option Value)} {oc_tail kV_tail dc_tail pm_tail cd_tail ct_tail : Value}
    {f_text : Addr} {od_text an_text : Option Addr} {sl_text : Array (Option Value)} {oc_text kV_text dc_text pm_text cd_text ct_text : Value}
    {f_not_integer : Addr} {od_not_integer an_not_integer : Option Addr} {sl_not_integer : Array (Option Value)} {oc_not_integer kV_not_integer dc_not_integer pm_not_integer cd_not_integer ct_not_integer : Value}
    {f_not_text : Addr} {od_not_text an_not_text : Option Addr} {sl_not_text : Array (Option Value)} {oc_not_text kV_not_text dc_not_text pm_not_text cd_not_text ct_not_text : Value}
    {f_same : Addr} {od_same an_same : Option Addr} {sl_same : Array (Option Value)} {oc_same kV_same dc_same pm_same cd_same ct_same : Value}
    {f_refusal : Addr} {od_refusal an_refusal : Option Addr} {sl_refusal : Array (Option Value)} {oc_refusal kV_refusal dc_refusal pm_refusal cd_refusal ct_refusal : Value}
    {f_told : Addr} {od_told an_told : Option Addr} {sl_told : Array (Option Value)} {oc_told kV_told dc_told pm_told cd_told ct_told : Value}
    {f_row_pieces : Addr} {od_row_pieces an_row_pieces : Option Addr} {sl_row_pieces : Array (Option Value)} {oc_row_pieces kV_row_pieces dc_row_pieces pm_row_pieces cd_row_pieces ct_row_pieces : Value}
    {f_due : Addr} {od_due an_due : Option Addr} {sl_due : Array (Option Value)} {oc_due kV_due dc_due pm_due cd_due ct_due : Value}
    {f_line : Addr} {od_line an_line : Option Addr} {sl_line : Array (Option Value)} {oc_line kV_line dc_line pm_line cd_line ct_line : Value}
    {f_no_row : Addr} {od_no_row an_no_row : Option Addr} {sl_no_row : Array (Option Value)} {oc_no_row kV_no_row dc_no_row pm_no_row cd_no_row ct_no_row : Value}
    {f_law : Addr} {od_law an_law : Option Addr} {sl_law : Array (Option Value)} {oc_law kV_law dc_law pm_law cd_law ct_law : Value}
    {nmWrongKind qnWrongKind : Str} {NWrongKind : Addr} {bsWrongKind bmWrongKind : List Value} {snWrongKind : List Str} {subWrongKind : List Value} {abWrongKind : Bool} {colWrongKind : Option Bool} {ddWrongKind : Option Addr} {m0WrongKind m1WrongKind m2WrongKind m3WrongKind m5WrongKind : Option Value}
    {fiWrongKind : Addr} {odiWrongKind aniWrongKind : Option Addr} {sliWrongKind : Array (Option Value)} {ociWrongKind kViWrongKind dciWrongKind pmiWrongKind cdiWrongKind ctiWrongKind : Value}
    {nmOutOfBounds qnOutOfBounds : Str} {NOutOfBounds : Addr} {bsOutOfBounds bmOutOfBounds : List Value} {snOutOfBounds : List Str} {subOutOfBounds : List Value} {abOutOfBounds : Bool} {colOutOfBounds : Option Bool} {ddOutOfBounds : Option Addr} {m0OutOfBounds m1OutOfBounds m2OutOfBounds m3OutOfBounds m5OutOfBounds : Option Value}
    {fiOutOfBounds : Addr} {odiOutOfBounds aniOutOfBounds : Option Addr} {sliOutOfBounds : Array (Option Value)} {ociOutOfBounds kViOutOfBounds dciOutOfBounds pmiOutOfBounds cdiOutOfBounds ctiOutOfBounds : Value}
    {nmBadText qnBadText : Str} {NBadText : Addr} {bsBadText bmBadText : List Value} {snBadText : List Str} {subBadText : List Value} {abBadText : Bool} {colBadText : Option Bool} {ddBadText : Option Addr} {m0BadText m1BadText m2BadText m3BadText m5BadText : Option Value}
    {fiBadText : Addr} {odiBadText aniBadText : Option Addr} {sliBadText : Array (Option Value)} {ociBadText kViBadText dciBadText pmiBadText cdiBadText ctiBadText : Value}
    (aFrameError : PySem.W.nsIn K mainGlobals "FrameError" = some (some (.ref CFrameError)))
    (aWrongKind : PySem.W.nsIn K mainGlobals "WrongKind" = some (some (.ref CWrongKind)))
    (aOutOfBounds : PySem.W.nsIn K mainGlobals "OutOfBounds" = some (some (.ref COutOfBounds)))
    (aRepeatedName : PySem.W.nsIn K mainGlobals "RepeatedName" = some (some (.ref CRepeatedName)))
    (aUnknownName : PySem.W.nsIn K mainGlobals "UnknownName" = some (some (.ref CUnknownName)))
    (aUnfitError : PySem.W.nsIn K mainGlobals "UnfitError" = some (some (.ref CUnfitError)))
    (aUnsafe : PySem.W.nsIn K mainGlobals "Unsafe" = some (some (.ref CUnsafe)))
    (aBadText : PySem.W.nsIn K mainGlobals "BadText" = some (some (.ref CBadText)))
    (a_split_row : PySem.W.nsIn K mainGlobals "split_row" = some (some (.ref f_split_row)))
    (l_split_row : K.lookup f_split_row = some ⟨oc_split_row, od_split_row, .func (PySem.W.fnOf "split_row" "split_row" (defArgs (topS 10)) (defBody (topS 10)) (defScope (topS 10)) .none kV_split_row dc_split_row pm_split_row an_split_row cd_split_row ct_split_row), sl_split_row⟩)
    (c_split_row : PySem.W.codeIn K cd_split_row "split_row" = true)
    (k_split_row : PySem.W.keepIn K (.ref f_split_row) = true)
    (a_store : PySem.W.nsIn K mainGlobals "_law_store" = some (some (.ref f_store)))
    (l_store : K.lookup f_store = some ⟨oc_store, od_store, .func (PySem.W.fnOf "_law_store" "_law_store" (defArgs (topS 12)) (defBody (topS 12)) (defScope (topS 12)) .none kV_store dc_store pm_store an_store cd_store ct_store), sl_store⟩)
    (c_store : PySem.W.codeIn K cd_store "_law_store" = true)
    (k_store : PySem.W.keepIn K (.ref f_store) = true)
    (a_take : PySem.W.nsIn K mainGlobals "_law_take" = some (some (.ref f_take)))
    (l_take : K.lookup f_take = some ⟨oc_take, od_take, .func (PySem.W.fnOf "_law_take" "_law_take" (defArgs (topS 13)) (defBody (topS 13)) (defScope (topS 13)) .none kV_take dc_take pm_take an_take cd_take ct_take), sl_take⟩)
    (c_take : PySem.W.codeIn K cd_take "_law_take" = true)
    (k_take : PySem.W.keepIn K (.ref f_take) = true)
    (a_edge : PySem.W.nsIn K mainGlobals "_law_edge" = some (some (.ref f_edge)))
    (l_edge : K.lookup f_edge = some ⟨oc_edge, od_edge, .func (PySem.W.fnOf "_law_edge" "_law_edge" (defArgs (topS 14)) (defBody (topS 14)) (defScope (topS 14)) .none kV_edge dc_edge pm_edge an_edge cd_edge ct_edge), sl_edge⟩)
    (c_edge : PySem.W.codeIn K cd_edge "_law_edge" = true)
    (k_edge : PySem.W.keepIn K (.ref f_edge) = true)
    (a_between : PySem.W.nsIn K mainGlobals "_law_between" = some (some (.ref f_between)))
    (l_between : K.lookup f_between = some ⟨oc_between, od_between, .func (PySem.W.fnOf "_law_between" "_law_between" (defArgs (topS 15)) (defBody (topS 15)) (defScope (topS 15)) .none kV_between dc_between pm_between an_between cd_between ct_between), sl_between⟩)
    (c_between : PySem.W.codeIn K cd_between "_law_between" = true)
    (k_between : PySem.W.keepIn K (.ref f_between) = true)
    (a_mixed : PySem.W.nsIn K mainGlobals "_law_mixed" = some (some (.ref f_mixed)))
    (l_mixed : K.lookup f_mixed = some ⟨oc_mixed, od_mixed, .func (PySem.W.fnOf "_law_mixed" "_law_mixed" (defArgs (topS 16)) (defBody (topS 16)) (defScope (topS 16)) .none kV_mixed dc_mixed pm_mixed an_mixed cd_mixed ct_mixed), sl_mixed⟩)
    (c_mixed : PySem.W.codeIn K cd_mixed "_law_mixed" = true)
    (k_mixed : PySem.W.keepIn K (.ref f_mixed) = true)
    (a_tens : PySem.W.nsIn K mainGlobals "_law_tens" = some (some (.ref f_tens)))
    (l_tens : K.lookup f_tens = some ⟨oc_tens, od_tens, .func (PySem.W.fnOf "_law_tens" "_law_tens" (defArgs (topS 17)) (defBody (topS 17)) (defScope (topS 17)) .none kV_tens dc_tens pm_tens an_tens cd_tens ct_tens), sl_tens⟩)
    (c_tens : PySem.W.codeIn K cd_tens "_law_tens" = true)
    (k_tens : PySem.W.keepIn K (.ref f_tens) = true)
    (a_integer : PySem.W.nsIn K mainGlobals "_law_integer" = some (some (.ref f_integer)))
    (l_integer : K.lookup f_integer = some ⟨oc_integer, od_integer, .func (PySem.W.fnOf "_law_integer" "_law_integer" (defArgs (topS 18)) (defBody (topS 18)) (defScope (topS 18)) .none kV_integer dc_integer pm_integer an_integer cd_integer ct_integer), sl_integer⟩)
    (c_integer : PySem.W.codeIn K cd_integer "_law_integer" = true)
    (k_integer : PySem.W.keepIn K (.ref f_integer) = true)
    (a_tail : PySem.W.nsIn K mainGlobals "_law_tail" = some (some (.ref f_tail)))
    (l_tail : K.lookup f_tail = some ⟨oc_tail, od_tail, .func (PySem.W.fnOf "_law_tail" "_law_tail" (defArgs (topS 19)) (defBody (topS 19)) (defScope (topS 19)) .none kV_tail dc_tail pm_tail an_tail cd_tail ct_tail), sl_tail⟩)
    (c_tail : PySem.W.codeIn K cd_tail "_law_tail" = true)
    (k_tail : PySem.W.keepIn K (.ref f_tail) = true)
    (a_text : PySem.W.nsIn K mainGlobals "_law_text" = some (some (.ref f_text)))
    (l_text : K.lookup f_text = some ⟨oc_text, od_text, .func (PySem.W.fnOf "_law_text" "_law_text" (defArgs (topS 20)) (defBody (topS 20)) (defScope (topS 20)) .none kV_text dc_text pm_text an_text cd_text ct_text), sl_text⟩)
    (c_text : PySem.W.codeIn K cd_text "_law_text" = true)
    (k_text : PySem.W.keepIn K (.ref f_text) = true)
    (a_not_integer : PySem.W.nsIn K mainGlobals "_law_not_integer" = some (some (.ref f_not_integer)))
    (l_not_integer : K.lookup f_not_integer = some ⟨oc_not_integer, od_not_integer, .func (PySem.W.fnOf "_law_not_integer" "_law_not_integer" (defArgs (topS 21)) (defBody (topS 21)) (defScope (topS 21)) .none kV_not_integer dc_not_integer pm_not_integer an_not_integer cd_not_integer ct_not_integer), sl_not_integer⟩)
    (c_not_integer : PySem.W.codeIn K cd_not_integer "_law_not_integer" = true)
    (k_not_integer : PySem.W.keepIn K (.ref f_not_integer) = true)
    (a_not_text : PySem.W.nsIn K mainGlobals "_law_not_text" = some (some (.ref f_not_text)))
    (l_not_text : K.lookup f_not_text = some ⟨oc_not_text, od_not_text, .func (PySem.W.fnOf "_law_not_text" "_law_not_text" (defArgs (topS 22)) (defBody (topS 22)) (defScope (topS 22)) .none kV_not_text dc_not_text pm_not_text an_not_text cd_not_text ct_not_text), sl_not_text⟩)
    (c_not_text : PySem.W.codeIn K cd_not_text "_law_not_text" = true)
    (k_not_text : PySem.W.keepIn K (.ref f_not_text) = true)
    (a_same : PySem.W.nsIn K mainGlobals "_law_same" = some (some (.ref f_same)))
    (l_same : K.lookup f_same = some ⟨oc_same, od_same, .func (PySem.W.fnOf "_law_same" "_law_same" (defArgs (topS 23)) (defBody (topS 23)) (defScope (topS 23)) .none kV_same dc_same pm_same an_same cd_same ct_same), sl_same⟩)
    (c_same : PySem.W.codeIn K cd_same "_law_same" = true)
    (k_same : PySem.W.keepIn K (.ref f_same) = true)
    (a_refusal : PySem.W.nsIn K mainGlobals "_law_refusal" = some (some (.ref f_refusal)))
    (l_refusal : K.lookup f_refusal = some ⟨oc_refusal, od_refusal, .func (PySem.W.fnOf "_law_refusal" "_law_refusal" (defArgs (topS 24)) (defBody (topS 24)) (defScope (topS 24)) .none kV_refusal dc_refusal pm_refusal an_refusal cd_refusal ct_refusal), sl_refusal⟩)
    (c_refusal : PySem.W.codeIn K cd_refusal "_law_refusal" = true)
    (k_refusal : PySem.W.keepIn K (.ref f_refusal) = true)
    (a_told : PySem.W.nsIn K mainGlobals "_law_told" = some (some (.ref f_told)))
    (l_told : K.lookup f_told = some ⟨oc_told, od_told, .func (PySem.W.fnOf "_law_told" "_law_told" (defArgs (topS 25)) (defBody (topS 25)) (defScope (topS 25)) .none kV_told dc_told pm_told an_told cd_told ct_told), sl_told⟩)
    (c_told : PySem.W.codeIn K cd_told "_law_told" = true)
    (k_told : PySem.W.keepIn K (.ref f_told) = true)
    (a_row_pieces : PySem.W.nsIn K mainGlobals "_law_row_pieces" = some (some (.ref f_row_pieces)))
    (l_row_pieces : K.lookup f_row_pieces = some ⟨oc_row_pieces, od_row_pieces, .func (PySem.W.fnOf "_law_row_pieces" "_law_row_pieces" (defArgs (topS 26)) (defBody (topS 26)) (defScope (topS 26)) .none kV_row_pieces dc_row_pieces pm_row_pieces an_row_pieces cd_row_pieces ct_row_pieces), sl_row_pieces⟩)
    (c_row_pieces : PySem.W.codeIn K cd_row_pieces "_law_row_pieces" = true)
    (k_row_pieces : PySem.W.keepIn K (.ref f_row_pieces) = true)
    (a_due : PySem.W.nsIn K mainGlobals "_law_due" = some (some (.ref f_due)))
    (l_due : K.lookup f_due = some ⟨oc_due, od_due, .func (PySem.W.fnOf "_law_due" "_law_due" (defArgs (topS 27)) (defBody (topS 27)) (defScope (topS 27)) .none kV_due dc_due pm_due an_due cd_due ct_due), sl_due⟩)
    (c_due : PySem.W.codeIn K cd_due "_law_due" = true)
    (k_due : PySem.W.keepIn K (.ref f_due) = true)
    (a_line : PySem.W.nsIn K mainGlobals "_law_line" = some (some (.ref f_line)))
    (l_line : K.lookup f_line = some ⟨oc_line, od_line, .func (PySem.W.fnOf "_law_line" "_law_line" (defArgs (topS 28)) (defBody (topS 28)) (defScope (topS 28)) .none kV_line dc_line pm_line an_line cd_line ct_line), sl_line⟩)
    (c_line : PySem.W.codeIn K cd_line "_law_line" = true)
    (k_line : PySem.W.keepIn K (.ref f_line) = true)
    (a_no_row : PySem.W.nsIn K mainGlobals "_law_no_row" = some (some (.ref f_no_row)))
    (l_no_row : K.lookup f_no_row = some ⟨oc_no_row, od_no_row, .func (PySem.W.fnOf "_law_no_row" "_law_no_row" (defArgs (topS 29)) (defBody (topS 29)) (defScope (topS 29)) .none kV_no_row dc_no_row pm_no_row an_no_row cd_no_row ct_no_row), sl_no_row⟩)
    (c_no_row : PySem.W.codeIn K cd_no_row "_law_no_row" = true)
    (k_no_row : PySem.W.keepIn K (.ref f_no_row) = true)
    (a_law : PySem.W.nsIn K mainGlobals "law" = some (some (.ref f_law)))
    (l_law : K.lookup f_law = some ⟨oc_law, od_law, .func (PySem.W.fnOf "law" "law" (defArgs (topS 30)) (defBody (topS 30)) (defScope (topS 30)) .none kV_law dc_law pm_law an_law cd_law ct_law), sl_law⟩)
    (c_law : PySem.W.codeIn K cd_law "law" = true)
    (k_law : PySem.W.keepIn K (.ref f_law) = true)
    (xLWrongKind : K.lookup CWrongKind = some (excClassObj nmWrongKind qnWrongKind CWrongKind NWrongKind bsWrongKind bmWrongKind true snWrongKind subWrongKind abWrongKind colWrongKind ddWrongKind m0WrongKind m1WrongKind m2WrongKind m3WrongKind m5WrongKind "ValueError.__new__"))
    (rvWrongKind : PySem.HandSPX.refsVE bmWrongKind = true)
    (saWrongKind : PySem.W.findIn K (.ref CWrongKind) "__setattr__" = some (some (.builtin "object.__setattr__")))
    (exWrongKind : PySem.W.subIn K (.ref CWrongKind) (.type "BaseException") = some true)
    (tyWrongKind : PySem.W.typeIn K (.ref CWrongKind) = some (.type "type"))
    (kcWrongKind : PySem.W.keepIn K (.ref CWrongKind) = true)
    (hgWrongKind : PySem.W.findIn K (.ref CWrongKind) "__getattribute__" = some (some (.builtin "BaseException.__getattribute__")))
    (hkWrongKind : PySem.W.findIn K (.ref CWrongKind) "__getattr__" = some none)
    (hdWrongKind : PySem.W.hasDictIn K CWrongKind = true)
    (haWrongKind : PySem.W.findIn K (.ref CWrongKind) "__class__" = some (some (.builtin "object.__class__")))
    (hmWrongKind : PySem.W.mroIn K CWrongKind (.type "object") = some true)
    (aiWrongKind : PySem.W.findIn K (.ref CWrongKind) "__init__" = some (some (.ref fiWrongKind)))
    (liWrongKind : K.lookup fiWrongKind = some ⟨ociWrongKind, odiWrongKind, .func (PySem.W.fnOf "__init__" "WrongKind.__init__" (defArgs (inClass (topS 2) 0)) (defBody (inClass (topS 2) 0)) (defScope (inClass (topS 2) 0)) .none kViWrongKind dciWrongKind pmiWrongKind aniWrongKind cdiWrongKind ctiWrongKind), sliWrongKind⟩)
    (ciWrongKind : PySem.W.codeIn K cdiWrongKind "WrongKind.__init__" = true)
    (kiWrongKind : PySem.W.keepIn K (.ref fiWrongKind) = true)
    (tiWrongKind : PySem.W.typeIn K (.ref fiWrongKind) = some (.type "function"))
    (nWrongKind_argument : PySem.W.findIn K (.ref CWrongKind) "argument" = some none)
    (kWrongKind_WrongKind : PySem.W.kitOne K (.ref CWrongKind) (.ref CWrongKind) = some true)
    (kWrongKind_OutOfBounds : PySem.W.kitOne K (.ref CWrongKind) (.ref COutOfBounds) = some false)
    (kWrongKind_RepeatedName : PySem.W.kitOne K (.ref CWrongKind) (.ref CRepeatedName) = some false)
    (kWrongKind_UnknownName : PySem.W.kitOne K (.ref CWrongKind) (.ref CUnknownName) = some false)
    (kWrongKind_BadText : PySem.W.kitOne K (.ref CWrongKind) (.ref CBadText) = some false)
    (kWrongKind_Unsafe : PySem.W.kitOne K (.ref CWrongKind) (.ref CUnsafe) = some false)
    (kWrongKind_UnfitError : PySem.W.kitOne K (.ref CWrongKind) (.ref CUnfitError) = some false)
    (kWrongKind_ValueError : PySem.W.kitOne K (.ref CWrongKind) (.type "ValueError") = some true)
    (xWrongKind : PySem.W.exmOne K (.ref CWrongKind) (.ref CFrameError) = some true)
    (xLOutOfBounds : K.lookup COutOfBounds = some (excClassObj nmOutOfBounds qnOutOfBounds COutOfBounds NOutOfBounds bsOutOfBounds bmOutOfBounds true snOutOfBounds subOutOfBounds abOutOfBounds colOutOfBounds ddOutOfBounds m0OutOfBounds m1OutOfBounds m2OutOfBounds m3OutOfBounds m5OutOfBounds "ValueError.__new__"))
    (rvOutOfBounds : PySem.HandSPX.refsVE bmOutOfBounds = true)
    (saOutOfBounds : PySem.W.findIn K (.ref COutOfBounds) "__setattr__" = some (some (.builtin "object.__setattr__")))
    (exOutOfBounds : PySem.W.subIn K (.ref COutOfBounds) (.type "BaseException") = some true)
    (tyOutOfBounds : PySem.W.typeIn K (.ref COutOfBounds) = some (.type "type"))
    (kcOutOfBounds : PySem.W.keepIn K (.ref COutOfBounds) = true)
    (hgOutOfBounds : PySem.W.findIn K (.ref COutOfBounds) "__getattribute__" = some (some (.builtin "BaseException.__getattribute__")))
    (hkOutOfBounds : PySem.W.findIn K (.ref COutOfBounds) "__getattr__" = some none)
    (hdOutOfBounds : PySem.W.hasDictIn K COutOfBounds = true)
    (haOutOfBounds : PySem.W.findIn K (.ref COutOfBounds) "__class__" = some (some (.builtin "object.__class__")))
    (hmOutOfBounds : PySem.W.mroIn K COutOfBounds (.type "object") = some true)
    (aiOutOfBounds : PySem.W.findIn K (.ref COutOfBounds) "__init__" = some (some (.ref fiOutOfBounds)))
    (liOutOfBounds : K.lookup fiOutOfBounds = some ⟨ociOutOfBounds, odiOutOfBounds, .func (PySem.W.fnOf "__init__" "OutOfBounds.__init__" (defArgs (inClass (topS 3) 0)) (defBody (inClass (topS 3) 0)) (defScope (inClass (topS 3) 0)) .none kViOutOfBounds dciOutOfBounds pmiOutOfBounds aniOutOfBounds cdiOutOfBounds ctiOutOfBounds), sliOutOfBounds⟩)
    (ciOutOfBounds : PySem.W.codeIn K cdiOutOfBounds "OutOfBounds.__init__" = true)
    (kiOutOfBounds : PySem.W.keepIn K (.ref fiOutOfBounds) = true)
    (tiOutOfBounds : PySem.W.typeIn K (.ref fiOutOfBounds) = some (.type "function"))
    (nOutOfBounds_argument : PySem.W.findIn K (.ref COutOfBounds) "argument" = some none)
    (kOutOfBounds_WrongKind : PySem.W.kitOne K (.ref COutOfBounds) (.ref CWrongKind) = some false)
    (kOutOfBounds_OutOfBounds : PySem.W.kitOne K (.ref COutOfBounds) (.ref COutOfBounds) = some true)
    (kOutOfBounds_RepeatedName : PySem.W.kitOne K (.ref COutOfBounds) (.ref CRepeatedName) = some false)
    (kOutOfBounds_UnknownName : PySem.W.kitOne K (.ref COutOfBounds) (.ref CUnknownName) = some false)
    (kOutOfBounds_BadText : PySem.W.kitOne K (.ref COutOfBounds) (.ref CBadText) = some false)
    (kOutOfBounds_Unsafe : PySem.W.kitOne K (.ref COutOfBounds) (.ref CUnsafe) = some false)
    (kOutOfBounds_UnfitError : PySem.W.kitOne K (.ref COutOfBounds) (.ref CUnfitError) = some false)
    (kOutOfBounds_ValueError : PySem.W.kitOne K (.ref COutOfBounds) (.type "ValueError") = some true)
    (xOutOfBounds : PySem.W.exmOne K (.ref COutOfBounds) (.ref CFrameError) = some true)
    (xLBadText : K.lookup CBadText = some (excClassObj nmBadText qnBadText CBadText NBadText bsBadText bmBadText true snBadText subBadText abBadText colBadText ddBadText m0BadText m1BadText m2BadText m3BadText m5BadText "ValueError.__new__"))
    (rvBadText : PySem.HandSPX.refsVE bmBadText = true)
    (saBadText : PySem.W.findIn K (.ref CBadText) "__setattr__" = some (some (.builtin "object.__setattr__")))
    (exBadText : PySem.W.subIn K (.ref CBadText) (.type "BaseException") = some true)
    (tyBadText : PySem.W.typeIn K (.ref CBadText) = some (.type "type"))
    (kcBadText : PySem.W.keepIn K (.ref CBadText) = true)
    (hgBadText : PySem.W.findIn K (.ref CBadText) "__getattribute__" = some (some (.builtin "BaseException.__getattribute__")))
    (hkBadText : PySem.W.findIn K (.ref CBadText) "__getattr__" = some none)
    (hdBadText : PySem.W.hasDictIn K CBadText = true)
    (haBadText : PySem.W.findIn K (.ref CBadText) "__class__" = some (some (.builtin "object.__class__")))
    (hmBadText : PySem.W.mroIn K CBadText (.type "object") = some true)
    (aiBadText : PySem.W.findIn K (.ref CBadText) "__init__" = some (some (.ref fiBadText)))
    (liBadText : K.lookup fiBadText = some ⟨ociBadText, odiBadText, .func (PySem.W.fnOf "__init__" "BadText.__init__" (defArgs (inClass (topS 8) 0)) (defBody (inClass (topS 8) 0)) (defScope (inClass (topS 8) 0)) .none kViBadText dciBadText pmiBadText aniBadText cdiBadText ctiBadText), sliBadText⟩)
    (ciBadText : PySem.W.codeIn K cdiBadText "BadText.__init__" = true)
    (kiBadText : PySem.W.keepIn K (.ref fiBadText) = true)
    (tiBadText : PySem.W.typeIn K (.ref fiBadText) = some (.type "function"))
    (nBadText_line : PySem.W.findIn K (.ref CBadText) "line" = some none)
    (nBadText_column : PySem.W.findIn K (.ref CBadText) "column" = some none)
    (nBadText_fault : PySem.W.findIn K (.ref CBadText) "fault" = some none)
    (kBadText_WrongKind : PySem.W.kitOne K (.ref CBadText) (.ref CWrongKind) = some false)
    (kBadText_OutOfBounds : PySem.W.kitOne K (.ref CBadText) (.ref COutOfBounds) = some false)
    (kBadText_RepeatedName : PySem.W.kitOne K (.ref CBadText) (.ref CRepeatedName) = some false)
    (kBadText_UnknownName : PySem.W.kitOne K (.ref CBadText) (.ref CUnknownName) = some false)
    (kBadText_BadText : PySem.W.kitOne K (.ref CBadText) (.ref CBadText) = some true)
    (kBadText_Unsafe : PySem.W.kitOne K (.ref CBadText) (.ref CUnsafe) = some false)
    (kBadText_UnfitError : PySem.W.kitOne K (.ref CBadText) (.ref CUnfitError) = some false)
    (kBadText_ValueError : PySem.W.kitOne K (.ref CBadText) (.type "ValueError") = some true)
    (xBadText : PySem.W.exmOne K (.ref CBadText) (.ref CFrameError) = some true)
    (hn : PySem.W.specialIn K (.builtin "object.__class__") "__get__" = some (some (.builtin "getset_descriptor.__get__")))
    (ht : PySem.W.takesIn K (.builtin "object.__class__") = some true)
    (z_len : PySem.W.nsIn K mainGlobals "len" = some none)
    (z_max : PySem.W.nsIn K mainGlobals "max" = some none)
    (z_min : PySem.W.nsIn K mainGlobals "min" = some none)
    (z_abs : PySem.W.nsIn K mainGlobals "abs" = some none)
    (z_int : PySem.W.nsIn K mainGlobals "int" = some none)
    (z_str : PySem.W.nsIn K mainGlobals "str" = some none)
    (z_bool : PySem.W.nsIn K mainGlobals "bool" = some none)
    (z_list : PySem.W.nsIn K mainGlobals "list" = some none)
    (z_tuple : PySem.W.nsIn K mainGlobals "tuple" = some none)
    (z_dict : PySem.W.nsIn K mainGlobals "dict" = some none)
    (z_isinstance : PySem.W.nsIn K mainGlobals "isinstance" = some none)
    (z_range : PySem.W.nsIn K mainGlobals "range" = some none)
    (z_reversed : PySem.W.nsIn K mainGlobals "reversed" = some none)
    (z_ValueError : PySem.W.nsIn K mainGlobals "ValueError" = some none)
    (dig : PySem.W.nsIn K cStatics "sys.int_max_str_digits" = some none) :
    ∃ fd : FuncData, (∀ (s : Shared) (v : Value), BindsTo s fd ⟨[v], []⟩ [("script", v)]) ∧ ∀ base : Heap, K.In base → base.Ns mainGlobals mg → FnOk l.prog w K mg base CX0 176 fa fd ["script"] (spLaw K) := by
  have e := hfa.symm.trans (PySem.W.mg_of X G a_law)
  cases e
  have F_split_row := fun_mk (st := topS 10) l_split_row c_split_row k_split_row
  have b_split_row := F_split_row.binds (ps := ["row", "line"]) fun _ _ _ _ _ _ us hl => match us, hl with | [_, _], _ => rfl
  have F_store := fun_mk (st := topS 12) l_store c_store k_store
  have b_store := F_store.binds (ps := ["script"]) fun _ _ _ _ _ _ us hl => match us, hl with | [_], _ => rfl
  have F_take := fun_mk (st := topS 13) l_take c_take k_take
  have b_take := F_take.binds (ps := ["store", "many"]) fun _ _ _ _ _ _ us hl => match us, hl with | [_, _], _ => rfl
  have F_edge := fun_mk (st := topS 14) l_edge c_edge k_edge
  have b_edge := F_edge.binds (ps := ["store", "many"]) fun _ _ _ _ _ _ us hl => match us, hl with | [_, _], _ => rfl
  have F_between := fun_mk (st := topS 15) l_between c_between k_between
  have b_between := F_between.binds (ps := ["store", "low", "high"]) fun _ _ _ _ _ _ us hl => match us, hl with | [_, _, _], _ => rfl
  have F_mixed := fun_mk (st := topS 16) l_mixed c_mixed k_mixed
  have b_mixed := F_mixed.binds (ps := ["store", "items"]) fun _ _ _ _ _ _ us hl => match us, hl with | [_, _], _ => rfl
  have F_tens := fun_mk (st := topS 17) l_tens c_tens k_tens
  have b_tens := F_tens.binds (ps := ["figures"]) fun _ _ _ _ _ _ us hl => match us, hl with | [_], _ => rfl
  have F_integer := fun_mk (st := topS 18) l_integer c_integer k_integer
  have b_integer := F_integer.binds (ps := ["store", "figures"]) fun _ _ _ _ _ _ us hl => match us, hl with | [_, _], _ => rfl
  have F_tail := fun_mk (st := topS 19) l_tail c_tail k_tail
  have b_tail := F_tail.binds (ps := ["store", "size"]) fun _ _ _ _ _ _ us hl => match us, hl with | [_, _], _ => rfl
  have F_text := fun_mk (st := topS 20) l_text c_text k_text
  have b_text := F_text.binds (ps := ["store", "size"]) fun _ _ _ _ _ _ us hl => match us, hl with | [_, _], _ => rfl
  have F_not_integer := fun_mk (st := topS 21) l_not_integer c_not_integer k_not_integer
  have b_not_integer := F_not_integer.binds (ps := ["store"]) fun _ _ _ _ _ _ us hl => match us, hl with | [_], _ => rfl
  have F_not_text := fun_mk (st := topS 22) l_not_text c_not_text k_not_text
  have b_not_text := F_not_text.binds (ps := ["store"]) fun _ _ _ _ _ _ us hl => match us, hl with | [_], _ => rfl
  have F_same := fun_mk (st := topS 23) l_same c_same k_same
  have b_same := F_same.binds (ps := ["got", "due"]) fun _ _ _ _ _ _ us hl => match us, hl with | [_, _], _ => rfl
  have F_refusal := fun_mk (st := topS 24) l_refusal c_refusal k_refusal
  have b_refusal := F_refusal.binds (ps := ["e"]) fun _ _ _ _ _ _ us hl => match us, hl with | [_], _ => rfl
  have F_told := fun_mk (st := topS 25) l_told c_told k_told
  have b_told := F_told.binds (ps := ["row", "line"]) fun _ _ _ _ _ _ us hl => match us, hl with | [_, _], _ => rfl
  have F_row_pieces := fun_mk (st := topS 26) l_row_pieces c_row_pieces k_row_pieces
  have b_row_pieces := F_row_pieces.binds (ps := ["store"]) fun _ _ _ _ _ _ us hl => match us, hl with | [_], _ => rfl
  have F_due := fun_mk (st := topS 27) l_due c_due k_due
  have b_due := F_due.binds (ps := ["pieces", "line"]) fun _ _ _ _ _ _ us hl => match us, hl with | [_, _], _ => rfl
  have F_line := fun_mk (st := topS 28) l_line c_line k_line
  have b_line := F_line.binds (ps := ["store", "good"]) fun _ _ _ _ _ _ us hl => match us, hl with | [_, _], _ => rfl
  have F_no_row := fun_mk (st := topS 29) l_no_row c_no_row k_no_row
  have b_no_row := F_no_row.binds (ps := ["store", "row"]) fun _ _ _ _ _ _ us hl => match us, hl with | [_, _], _ => rfl
  have F_law := fun_mk (st := topS 30) l_law c_law k_law
  have b_law := F_law.binds (ps := ["script"]) fun _ _ _ _ _ _ us hl => match us, hl with | [_], _ => rfl
  have FiWrongKind := fun_mk (st := inClass (topS 2) 0) liWrongKind ciWrongKind kiWrongKind
  have biWrongKind := FiWrongKind.binds (ps := ["self", "argument"]) fun _ _ _ _ _ _ us hl => match us, hl with | [_, _], _ => rfl
  have FiOutOfBounds := fun_mk (st := inClass (topS 3) 0) liOutOfBounds ciOutOfBounds kiOutOfBounds
  have biOutOfBounds := FiOutOfBounds.binds (ps := ["self", "argument"]) fun _ _ _ _ _ _ us hl => match us, hl with | [_, _], _ => rfl
  have FiBadText := fun_mk (st := inClass (topS 8) 0) liBadText ciBadText kiBadText
  have biBadText := FiBadText.binds (ps := ["self", "line", "column", "fault"]) fun _ _ _ _ _ _ us hl => match us, hl with | [_, _, _, _], _ => rfl
  let T : Txt K mg := {
    dsplit_row := ⟨f_split_row, _, F_split_row, b_split_row, PySem.W.mg_of X G a_split_row⟩
    dstore := ⟨f_store, _, F_store, b_store, PySem.W.mg_of X G a_store⟩
    dtake := ⟨f_take, _, F_take, b_take, PySem.W.mg_of X G a_take⟩
    dedge := ⟨f_edge, _, F_edge, b_edge, PySem.W.mg_of X G a_edge⟩
    dbetween := ⟨f_between, _, F_between, b_between, PySem.W.mg_of X G a_between⟩
    dmixed := ⟨f_mixed, _, F_mixed, b_mixed, PySem.W.mg_of X G a_mixed⟩
    dtens := ⟨f_tens, _, F_tens, b_tens, PySem.W.mg_of X G a_tens⟩
    dinteger := ⟨f_integer, _, F_integer, b_integer, PySem.W.mg_of X G a_integer⟩
    dtail := ⟨f_tail, _, F_tail, b_tail, PySem.W.mg_of X G a_tail⟩
    dtext := ⟨f_text, _, F_text, b_text, PySem.W.mg_of X G a_text⟩
    dnot_integer := ⟨f_not_integer, _, F_not_integer, b_not_integer, PySem.W.mg_of X G a_not_integer⟩
    dnot_text := ⟨f_not_text, _, F_not_text, b_not_text, PySem.W.mg_of X G a_not_text⟩
    dsame := ⟨f_same, _, F_same, b_same, PySem.W.mg_of X G a_same⟩
    drefusal := ⟨f_refusal, _, F_refusal, b_refusal, PySem.W.mg_of X G a_refusal⟩
    dtold := ⟨f_told, _, F_told, b_told, PySem.W.mg_of X G a_told⟩
    drow_pieces := ⟨f_row_pieces, _, F_row_pieces, b_row_pieces, PySem.W.mg_of X G a_row_pieces⟩
    ddue := ⟨f_due, _, F_due, b_due, PySem.W.mg_of X G a_due⟩
    dline := ⟨f_line, _, F_line, b_line, PySem.W.mg_of X G a_line⟩
    dno_row := ⟨f_no_row, _, F_no_row, b_no_row, PySem.W.mg_of X G a_no_row⟩
    dlaw := ⟨fa, _, F_law, b_law, PySem.W.mg_of X G a_law⟩
    m_len := PySem.W.mg_none_of X G z_len
    m_max := PySem.W.mg_none_of X G z_max
    m_min := PySem.W.mg_none_of X G z_min
    m_abs := PySem.W.mg_none_of X G z_abs
    m_int := PySem.W.mg_none_of X G z_int
    m_str := PySem.W.mg_none_of X G z_str
    m_bool := PySem.W.mg_none_of X G z_bool
    m_list := PySem.W.mg_none_of X G z_list
    m_tuple := PySem.W.mg_none_of X G z_tuple
    m_dict := PySem.W.mg_none_of X G z_dict
    m_isinstance := PySem.W.mg_none_of X G z_isinstance
    m_range := PySem.W.mg_none_of X G z_range
    m_reversed := PySem.W.mg_none_of X G z_reversed
    m_ValueError := PySem.W.mg_none_of X G z_ValueError
    dig := dig
    cFrameError := ⟨CFrameError, PySem.W.mg_of X G aFrameError⟩
    cWrongKind := ⟨CWrongKind, PySem.W.mg_of X G aWrongKind, ⟨⟨nmWrongKind, qnWrongKind, NWrongKind, bsWrongKind, bmWrongKind, snWrongKind, subWrongKind, abWrongKind, colWrongKind, ddWrongKind, m0WrongKind, m1WrongKind, m2WrongKind, m3WrongKind, m5WrongKind, xLWrongKind, rvWrongKind⟩, saWrongKind, exWrongKind, tyWrongKind, kcWrongKind⟩, ⟨⟨hgWrongKind, hkWrongKind, exWrongKind, hdWrongKind, haWrongKind, hn, ht, hmWrongKind⟩, cl_of xLWrongKind⟩⟩
    cOutOfBounds := ⟨COutOfBounds, PySem.W.mg_of X G aOutOfBounds, ⟨⟨nmOutOfBounds, qnOutOfBounds, NOutOfBounds, bsOutOfBounds, bmOutOfBounds, snOutOfBounds, subOutOfBounds, abOutOfBounds, colOutOfBounds, ddOutOfBounds, m0OutOfBounds, m1OutOfBounds, m2OutOfBounds, m3OutOfBounds, m5OutOfBounds, xLOutOfBounds, rvOutOfBounds⟩, saOutOfBounds, exOutOfBounds, tyOutOfBounds, kcOutOfBounds⟩, ⟨⟨hgOutOfBounds, hkOutOfBounds, exOutOfBounds, hdOutOfBounds, haOutOfBounds, hn, ht, hmOutOfBounds⟩, cl_of xLOutOfBounds⟩⟩
    cRepeatedName := ⟨CRepeatedName, PySem.W.mg_of X G aRepeatedName⟩
    cUnknownName := ⟨CUnknownName, PySem.W.mg_of X G aUnknownName⟩
    cUnfitError := ⟨CUnfitError, PySem.W.mg_of X G aUnfitError⟩
    cUnsafe := ⟨CUnsafe, PySem.W.mg_of X G aUnsafe⟩
    cBadText := ⟨CBadText, PySem.W.mg_of X G aBadText, ⟨⟨nmBadText, qnBadText, NBadText, bsBadText, bmBadText, snBadText, subBadText, abBadText, colBadText, ddBadText, m0BadText, m1BadText, m2BadText, m3BadText, m5BadText, xLBadText, rvBadText⟩, saBadText, exBadText, tyBadText, kcBadText⟩, ⟨⟨hgBadText, hkBadText, exBadText, hdBadText, haBadText, hn, ht, hmBadText⟩, cl_of xLBadText⟩⟩
    iWrongKind := ⟨fiWrongKind, _, FiWrongKind, biWrongKind, aiWrongKind, tiWrongKind⟩
    nWrongKind_argument := nWrongKind_argument
    kWrongKind_WrongKind := kWrongKind_WrongKind
    kWrongKind_OutOfBounds := kWrongKind_OutOfBounds
    kWrongKind_RepeatedName := kWrongKind_RepeatedName
    kWrongKind_UnknownName := kWrongKind_UnknownName
    kWrongKind_BadText := kWrongKind_BadText
    kWrongKind_Unsafe := kWrongKind_Unsafe
    kWrongKind_UnfitError := kWrongKind_UnfitError
    kWrongKind_ValueError := kWrongKind_ValueError
    xWrongKind := xWrongKind
    iOutOfBounds := ⟨fiOutOfBounds, _, FiOutOfBounds, biOutOfBounds, aiOutOfBounds, tiOutOfBounds⟩
    nOutOfBounds_argument := nOutOfBounds_argument
    kOutOfBounds_WrongKind := kOutOfBounds_WrongKind
    kOutOfBounds_OutOfBounds := kOutOfBounds_OutOfBounds
    kOutOfBounds_RepeatedName := kOutOfBounds_RepeatedName
    kOutOfBounds_UnknownName := kOutOfBounds_UnknownName
    kOutOfBounds_BadText := kOutOfBounds_BadText
    kOutOfBounds_Unsafe := kOutOfBounds_Unsafe
    kOutOfBounds_UnfitError := kOutOfBounds_UnfitError
    kOutOfBounds_ValueError := kOutOfBounds_ValueError
    xOutOfBounds := xOutOfBounds
    iBadText := ⟨fiBadText, _, FiBadText, biBadText, aiBadText, tiBadText⟩
    nBadText_line := nBadText_line
    nBadText_column := nBadText_column
    nBadText_fault := nBadText_fault
    kBadText_WrongKind := kBadText_WrongKind
    kBadText_OutOfBounds := kBadText_OutOfBounds
    kBadText_RepeatedName := kBadText_RepeatedName
    kBadText_UnknownName := kBadText_UnknownName
    kBadText_BadText := kBadText_BadText
    kBadText_Unsafe := kBadText_Unsafe
    kBadText_UnfitError := kBadText_UnfitError
    kBadText_ValueError := kBadText_ValueError
    xBadText := xBadText
  }
  exact ⟨PySem.W.fnOf "law" "law" (defArgs (topS 30)) (defBody (topS 30)) (defScope (topS 30)) .none kV_law dc_law pm_law an_law cd_law ct_law, fun s v => .of_eq rfl, fun base _ _ => ok_law T⟩
theorem walk {l : PySem.W.OpenLaw} {q : Program} {loose : List Str} {XP : (Str → Option Value) → Heap → Prop} {YP : World → Heap → Prop} {d : DefRec} {K : Params → PySem.W.Frag} (hn : l.most = some 63) (hdf : d.params.defaults = [])
    (hY : ∀ (w : World) (h : Heap), YP w h → (K w.params).In h)
    (F : ∀ (w : World) (mg : Str → Option Value) (fa : Addr) (h : Heap), (K w.params).In h → h.Ns mainGlobals mg → mg d.name = some (.ref fa) →
      ∃ fd : FuncData, (∀ (s : Shared) (u : Value), BindsTo s fd ⟨[u], []⟩ [("script", u)]) ∧ ∀ base : Heap, (K w.params).In base → base.Ns mainGlobals mg → FnOk l.prog w (K w.params) mg base CX0 176 fa fd ["script"] (spLaw (K w.params))) :
    PySem.W.WalkO q loose XP YP l.row.toRowW d [] (fun f vs => PySem.call f vs) :=
  L2.walk_of (n := 63) (k := 176) (x := "script") (CX := fun _ => CX0) (sp := fun w => spLaw (K w.params)) hn (by decide) hdf ⟨rfl, by decide, by decide⟩ hY F (fun _ _ a ns hl _ hS => ⟨a, ns, rfl, hS, hl, fun _ => rfl⟩) fun _ _ _ _ _ z => z
end My
open PySem PySem.W PyProof.Rows in
set_option maxRecDepth 100000 in
set_option maxHeartbeats 0 in
theorem PySem.Challenge.cw_standframes_k63_split_row_holds : PySem.Challenge.rw_standframes_k63_split_row.Holds := by
  w_on; o_law; k_head; (case hw => w_witness2)
  k_fill
  refine My.walk (l := PySem.Challenge.rw_standframes_k63_split_row) rfl rfl (fun w h Y => PySem.W.kIn_of Y) ?F
  case F =>
    intro w mg fa h KX G hmg
    refine' My.all_mk KX G hmg ?aFrameError ?aWrongKind ?aOutOfBounds ?aRepeatedName ?aUnknownName ?aUnfitError ?aUnsafe ?aBadText ?a_split_row ?l_split_row ?c_split_row ?k_split_row ?a_store ?l_store ?c_store ?k_store ?a_take ?l_take ?c_take ?k_take ?a_edge ?l_edge ?c_edge ?k_edge ?a_between ?l_between ?c_between ?k_between ?a_mixed ?l_mixed ?c_mixed ?k_mixed ?a_tens ?l_tens ?c_tens ?k_tens ?a_integer ?l_integer ?c_integer ?k_integer ?a_tail ?l_tail ?c_tail ?k_tail ?a_text ?l_text ?c_text ?k_text ?a_not_integer ?l_not_integer ?c_not_integer ?k_not_integer ?a_not_text ?l_not_text ?c_not_text ?k_not_text ?a_same ?l_same ?c_same ?k_same ?a_refusal ?l_refusal ?c_refusal ?k_refusal ?a_told ?l_told ?c_told ?k_told ?a_row_pieces ?l_row_pieces ?c_row_pieces ?k_row_pieces ?a_due ?l_due ?c_due ?k_due ?a_line ?l_line ?c_line ?k_line ?a_no_row ?l_no_row ?c_no_row ?k_no_row ?a_law ?l_law ?c_law ?k_law ?xLWrongKind ?rvWrongKind ?saWrongKind ?exWrongKind ?tyWrongKind ?kcWrongKind ?hgWrongKind ?hkWrongKind ?hdWrongKind ?haWrongKind ?hmWrongKind ?aiWrongKind ?liWrongKind ?ciWrongKind ?kiWrongKind ?tiWrongKind ?nWrongKind_argument ?kWrongKind_WrongKind ?kWrongKind_OutOfBounds ?kWrongKind_RepeatedName ?kWrongKind_UnknownName ?kWrongKind_BadText ?kWrongKind_Unsafe ?kWrongKind_UnfitError ?kWrongKind_ValueError ?xWrongKind ?xLOutOfBounds ?rvOutOfBounds ?saOutOfBounds ?exOutOfBounds ?tyOutOfBounds ?kcOutOfBounds ?hgOutOfBounds ?hkOutOfBounds ?hdOutOfBounds ?haOutOfBounds ?hmOutOfBounds ?aiOutOfBounds ?liOutOfBounds ?ciOutOfBounds ?kiOutOfBounds ?tiOutOfBounds ?nOutOfBounds_argument ?kOutOfBounds_WrongKind ?kOutOfBounds_OutOfBounds ?kOutOfBounds_RepeatedName ?kOutOfBounds_UnknownName ?kOutOfBounds_BadText ?kOutOfBounds_Unsafe ?kOutOfBounds_UnfitError ?kOutOfBounds_ValueError ?xOutOfBounds ?xLBadText ?rvBadText ?saBadText ?exBadText ?tyBadText ?kcBadText ?hgBadText ?hkBadText ?hdBadText ?haBadText ?hmBadText ?aiBadText ?liBadText ?ciBadText ?kiBadText ?tiBadText ?nBadText_line ?nBadText_column ?nBadText_fault ?kBadText_WrongKind ?kBadText_OutOfBounds ?kBadText_RepeatedName ?kBadText_UnknownName ?kBadText_BadText ?kBadText_Unsafe ?kBadText_UnfitError ?kBadText_ValueError ?xBadText ?hn ?ht ?z_len ?z_max ?z_min ?z_abs ?z_int ?z_str ?z_bool ?z_list ?z_tuple ?z_dict ?z_isinstance ?z_range ?z_reversed ?z_ValueError ?dig
    (case aFrameError => k_is)
    (case aWrongKind => k_is)
    (case aOutOfBounds => k_is)
    (case aRepeatedName => k_is)
    (case aUnknownName => k_is)
    (case aUnfitError => k_is)
    (case aUnsafe => k_is)
    (case aBadText => k_is)
    (case a_split_row => k_is)
    (case l_split_row => k_is)
    (case c_split_row => k_is)
    (case k_split_row => k_is)
    (case a_store => k_is)
    (case l_store => k_is)
    (case c_store => k_is)
    (case k_store => k_is)
    (case a_take => k_is)
    (case l_take => k_is)
    (case c_take => k_is)
    (case k_take => k_is)
    (case a_edge => k_is)
    (case l_edge => k_is)
    (case c_edge => k_is)
    (case k_edge => k_is)
    (case a_between => k_is)
    (case l_between => k_is)
    (case c_between => k_is)
    (case k_between => k_is)
    (case a_mixed => k_is)
    (case l_mixed => k_is)
    (case c_mixed => k_is)
    (case k_mixed => k_is)
    (case a_tens => k_is)
    (case l_tens => k_is)
    (case c_tens => k_is)
    (case k_tens => k_is)
    (case a_integer => k_is)
    (case l_integer => k_is)
    (case c_integer => k_is)
    (case k_integer => k_is)
    (case a_tail => k_is)
    (case l_tail => k_is)
    (case c_tail => k_is)
    (case k_tail => k_is)
    (case a_text => k_is)
    (case l_text => k_is)
    (case c_text => k_is)
    (case k_text => k_is)
    (case a_not_integer => k_is)
    (case l_not_integer => k_is)
    (case c_not_integer => k_is)
    (case k_not_integer => k_is)
    (case a_not_text => k_is)
    (case l_not_text => k_is)
    (case c_not_text => k_is)
    (case k_not_text => k_is)
    (case a_same => k_is)
    (case l_same => k_is)
    (case c_same => k_is)
    (case k_same => k_is)
    (case a_refusal => k_is)
    (case l_refusal => k_is)
    (case c_refusal => k_is)
    (case k_refusal => k_is)
    (case a_told => k_is)
    (case l_told => k_is)
    (case c_told => k_is)
    (case k_told => k_is)
    (case a_row_pieces => k_is)
    (case l_row_pieces => k_is)
    (case c_row_pieces => k_is)
    (case k_row_pieces => k_is)
    (case a_due => k_is)
    (case l_due => k_is)
    (case c_due => k_is)
    (case k_due => k_is)
    (case a_line => k_is)
    (case l_line => k_is)
    (case c_line => k_is)
    (case k_line => k_is)
    (case a_no_row => k_is)
    (case l_no_row => k_is)
    (case c_no_row => k_is)
    (case k_no_row => k_is)
    (case a_law => k_is)
    (case l_law => k_is)
    (case c_law => k_is)
    (case k_law => k_is)
    (case xLWrongKind => k_is)
    (case rvWrongKind => first | rfl | decide +kernel | kernel_rfl)
    (case saWrongKind => k_is)
    (case exWrongKind => k_is)
    (case tyWrongKind => k_is)
    (case kcWrongKind => k_is)
    (case hgWrongKind => k_is)
    (case hkWrongKind => k_is)
    (case hdWrongKind => k_is)
    (case haWrongKind => k_is)
    (case hmWrongKind => k_is)
    (case aiWrongKind => k_is)
    (case liWrongKind => k_is)
    (case ciWrongKind => k_is)
    (case kiWrongKind => k_is)
    (case tiWrongKind => k_is)
    (case nWrongKind_argument => k_is)
    (case kWrongKind_WrongKind => kernel_rfl)
    (case kWrongKind_OutOfBounds => kernel_rfl)
    (case kWrongKind_RepeatedName => kernel_rfl)
    (case kWrongKind_UnknownName => kernel_rfl)
    (case kWrongKind_BadText => kernel_rfl)
    (case kWrongKind_Unsafe => kernel_rfl)
    (case kWrongKind_UnfitError => kernel_rfl)
    (case kWrongKind_ValueError => kernel_rfl)
    (case xWrongKind => kernel_rfl)
    (case xLOutOfBounds => k_is)
    (case rvOutOfBounds => first | rfl | decide +kernel | kernel_rfl)
    (case saOutOfBounds => k_is)
    (case exOutOfBounds => k_is)
    (case tyOutOfBounds => k_is)
    (case kcOutOfBounds => k_is)
    (case hgOutOfBounds => k_is)
    (case hkOutOfBounds => k_is)
    (case hdOutOfBounds => k_is)
    (case haOutOfBounds => k_is)
    (case hmOutOfBounds => k_is)
    (case aiOutOfBounds => k_is)
    (case liOutOfBounds => k_is)
    (case ciOutOfBounds => k_is)
    (case kiOutOfBounds => k_is)
    (case tiOutOfBounds => k_is)
    (case nOutOfBounds_argument => k_is)
    (case kOutOfBounds_WrongKind => kernel_rfl)
    (case kOutOfBounds_OutOfBounds => kernel_rfl)
    (case kOutOfBounds_RepeatedName => kernel_rfl)
    (case kOutOfBounds_UnknownName => kernel_rfl)
    (case kOutOfBounds_BadText => kernel_rfl)
    (case kOutOfBounds_Unsafe => kernel_rfl)
    (case kOutOfBounds_UnfitError => kernel_rfl)
    (case kOutOfBounds_ValueError => kernel_rfl)
    (case xOutOfBounds => kernel_rfl)
    (case xLBadText => k_is)
    (case rvBadText => first | rfl | decide +kernel | kernel_rfl)
    (case saBadText => k_is)
    (case exBadText => k_is)
    (case tyBadText => k_is)
    (case kcBadText => k_is)
    (case hgBadText => k_is)
    (case hkBadText => k_is)
    (case hdBadText => k_is)
    (case haBadText => k_is)
    (case hmBadText => k_is)
    (case aiBadText => k_is)
    (case liBadText => k_is)
    (case ciBadText => k_is)
    (case kiBadText => k_is)
    (case tiBadText => k_is)
    (case nBadText_line => k_is)
    (case nBadText_column => k_is)
    (case nBadText_fault => k_is)
    (case kBadText_WrongKind => kernel_rfl)
    (case kBadText_OutOfBounds => kernel_rfl)
    (case kBadText_RepeatedName => kernel_rfl)
    (case kBadText_UnknownName => kernel_rfl)
    (case kBadText_BadText => kernel_rfl)
    (case kBadText_Unsafe => kernel_rfl)
    (case kBadText_UnfitError => kernel_rfl)
    (case kBadText_ValueError => kernel_rfl)
    (case xBadText => kernel_rfl)
    (case hn => k_is)
    (case ht => k_is)
    (case z_len => k_is)
    (case z_max => k_is)
    (case z_min => k_is)
    (case z_abs => k_is)
    (case z_int => k_is)
    (case z_str => k_is)
    (case z_bool => k_is)
    (case z_list => k_is)
    (case z_tuple => k_is)
    (case z_dict => k_is)
    (case z_isinstance => k_is)
    (case z_range => k_is)
    (case z_reversed => k_is)
    (case z_ValueError => k_is)
    (case dig => k_is)
