import PyProof.Rows.All
import Wide.All
import OpenK.AllK
import Wide.FinOn
import HandS.ForMost
import HandS.ForExc
import HandS.Wide
import HandS.IsInst
import HandS.More
import HandS.Evl
import HandS.ExcCtx
import HandS.HotCalls
import HandS.ExcInit
import HandS.ExcInitHot
import HandS.ExcIs
import HandS.ExcField
import KE.KExcIs
import HandS.Replace
import HandS.ReplaceLit
import HandS.ReplaceList
import HandS.Text
import HandS.Style
import KE.IntText
import PyProof.Rows.Digits
import PyProof.Rows.CountFlat
import KE.IntTextLaws
import PyProof.Rows.StrOr
import HandS.FStr
import PySem.Challenge.RW_standframes_k62_numbers_written_and_read
set_option Elab.async false
set_option linter.all false
set_option maxRecDepth 100000
set_option maxHeartbeats 8000000
namespace My
open PySem PySem.Spec PyProof.Rows L2
/-! ### heaps: all but the store -/
structure Sx (s : Addr) (H H' : Hp) : Prop where
  kp : ∀ b o, b ≠ s → H b = some o → H' b = some o
  ce : ∀ L xs, H s = some (.lst (.ref L :: xs)) → ∃ ys, H' s = some (.lst (.ref L :: ys))
theorem Sx.refl (s : Addr) (H : Hp) : Sx s H H := ⟨fun _ _ _ h => h, fun _ xs h => ⟨xs, h⟩⟩
theorem Sx.trans {s : Addr} {H H1 H2 : Hp} (a : Sx s H H1) (b : Sx s H1 H2) : Sx s H H2 := ⟨fun c o n h => b.kp c o n (a.kp c o n h), fun L xs h => by
  obtain ⟨ys, e⟩ := a.ce L xs h
  exact b.ce L ys e⟩
theorem Sx.of {s : Addr} {H H' : Hp} (a : Same H H') : Sx s H H' := ⟨fun c o _ h => a c o h, fun _ xs h => ⟨xs, a _ _ h⟩⟩
theorem Sx.new {s p : Addr} {H : Hp} {o : HO} (h : H p = none) : Sx s H (upd H p o) := Sx.of fun b u e => by
  rw [upd_ne (ne_of_none e h)]
  exact e
/-- a thing that was not there at first is changed -/
theorem Sx.mut {s p : Addr} {H H' : Hp} {o : HO} (x : Sx s H H') (h : H p = none) : Sx s H (upd H' p o) := ⟨fun b u n e => by
  rw [upd_ne (ne_of_none e h)]
  exact x.kp b u n e, fun L xs e => by
  rw [upd_ne (ne_of_none e h)]
  exact x.ce L xs e⟩
theorem Sx.self {s : Addr} {H H' : Hp} {xs : List V} {j : Nat} {v : V} (x : Sx s H H') (hs : H' s = some (.lst xs)) (j0 : j ≠ 0) : Sx s H (upd H' s (.lst (xs.set j v))) := ⟨fun b u n e => by
  rw [upd_ne n]
  exact x.kp b u n e, fun L zs e => by
  obtain ⟨ys, e2⟩ := x.ce L zs e
  rw [hs] at e2
  cases e2
  cases j with
  | zero => exact absurd rfl j0
  | succ j => exact ⟨ys.set j v, by rw [upd_same]; rfl⟩⟩
theorem Sx.sq {K : PySem.W.Frag} {s a : Addr} {H H' : Hp} {xs : List V} (x : Sx s H H') (n : a ≠ s) (h : SqL K H a xs) : SqL K H' a xs := by
  rcases h with (h | ⟨o, h⟩) | h
  · exact .inl (.inl (x.kp _ _ n h))
  · exact .inl (.inr ⟨o, x.kp _ _ n h⟩)
  · exact .inr h
theorem same_new {H : Hp} {p : Addr} {o : HO} (h : H p = none) : Same H (upd H p o) := fun b x e => by
  rw [upd_ne (ne_of_none e h)]
  exact e
/-! ### readings by name -/
def rIsN : R2 := fun x y H Q => y = .non ∧ Q (.bl (decide (x = .non))) H
def rNotN : R2 := fun x y H Q => y = .non ∧ Q (.bl (!decide (x = .non))) H
def rAddS : R2 := fun x y H Q => ∃ i j, x = .str i ∧ y = .str j ∧ i.length + j.length ≤ sizeLine ∧ Q (.str (i ++ j)) H
def rInt1 : List V → Hp → VK → Prop := fun xs H Q => (∃ i, xs = [.int i] ∧ Q (.int i) H) ∨ ∃ k, xs = [.bl k] ∧ Q (.int (if k then 1 else 0)) H
def rMaxQ : List V → Hp → VK → Prop := fun xs H Q => ∃ i j, xs = [.int i, .int j] ∧ Q (.int (if j > i then j else i)) H
def rMinQ : List V → Hp → VK → Prop := fun xs H Q => ∃ i j, xs = [.int i, .int j] ∧ Q (.int (if j < i then j else i)) H
def rAbsQ : List V → Hp → VK → Prop := fun xs H Q => ∃ i, xs = [.int i] ∧ Q (.int (if i < 0 then -i else i)) H
def rLenQ (K : PySem.W.Frag) : List V → Hp → VK → Prop := fun xs H Q => ∃ p ys, xs = [.ref p] ∧ (SqL K H p ys ∨ SqT K H p ys) ∧ Q (.int ys.length) H
def rLenSQ : List V → Hp → VK → Prop := fun xs H Q => ∃ z, xs = [.str z] ∧ z.length ≤ sizeLine ∧ Q (.int z.length) H
def rListQ (K : PySem.W.Frag) : List V → Hp → VK → Prop := fun xs H Q => ∃ p ys, xs = [.ref p] ∧ (SqL K H p ys ∨ SqT K H p ys) ∧ ∀ l, H l = none → Q (.ref l) (upd H l (.lst ys))
def rIsBQ : R2 := fun x y H Q => ∃ b, y = .bl b ∧ Q (.bl (decide (x = .bl b))) H
section
variable {X : Cx}
theorem o_isN : OpR X (compareOp .Is) rIsN := op_isN
theorem o_notN : OpR X (compareOp .IsNot) rNotN := op_notN
theorem o_isB : OpR X (compareOp .Is) rIsBQ := by
  intro pins s σ H x y v u Q I rx ry h
  obtain ⟨b, rfl, q⟩ := h
  cases (show u = Value.bool b from ry)
  by_cases e : x = .bl b
  · subst e
    cases (show v = Value.bool b from rx)
    exact wpAny_is_self rfl ⟨.bl true, H, I, rfl, by simpa using q⟩
  · have ne : v ≠ Value.bool b := by
      intro z
      subst z
      cases x with
      | bl a =>
        have z : Value.bool b = Value.bool a := rx
        cases z
        exact e rfl
      | non => cases (show Value.bool b = Value.none from rx)
      | ref a => cases (show Value.bool b = Value.ref a from rx)
      | ty n => cases (show Value.bool b = Value.type n from rx)
      | int i => obtain ⟨t, z⟩ := rx; cases z
      | str i => obtain ⟨t, z⟩ := rx; cases z
      | byt i => obtain ⟨t, z⟩ := rx; cases z
      | flt i => obtain ⟨t, z⟩ := rx; cases z
    refine wpAny_is_other ?_ ne ⟨.bl false, H, I, rfl, by simpa [e] using q⟩
    cases x <;> first
      | (cases rx; rfl)
      | (obtain ⟨t, rfl⟩ := rx; rfl)
theorem o_addS : OpR X (binaryOp .Add) rAddS := op_add_str
theorem c_int1 : CallR X (.type "int") rInt1 := call_int1
theorem c_max2 (hc : X.calm = true) : CallR X (.builtin "max") rMaxQ := call_max2 hc
theorem c_min2 (hc : X.calm = true) : CallR X (.builtin "min") rMinQ := call_min2 hc
theorem c_abs : CallR X (.builtin "abs") rAbsQ := call_abs
theorem c_len : CallR X (.builtin "len") (rLenQ X.K) := call_len_seq
theorem c_lenS : CallR X (.builtin "len") rLenSQ := call_len_str
theorem c_list : CallR X (.type "list") (rListQ X.K) := call_list_of
end
/-! ### steps of readings -/
section
variable {σ : L2.St} {H : Hp} {Q : VK} {D : Ends} {te ta tb : TE} {t u : TS}
theorem g_seq (h : t { D with nx := u D } σ H) : tSeq t u D σ H := h
theorem g_asg {g : TG} (h : te σ H fun x H1 => g x σ H1 D.nx) : tAsg te g D σ H := h
theorem g_name {i : Nat} {v : V} {R : L2.St → Hp → Prop} (h : R (σ.set i (some v)) H) : gName i v σ H R := h
theorem g_sub {to ti : TE} {ts : TSet} {v : V} {R : L2.St → Hp → Prop} (h : to σ H fun o H1 => ti σ H1 fun i H2 => ts o i v H2 fun H3 => R σ H3) : gSub to ti ts v σ H R := h
theorem g_ret (h : te σ H D.rt) : tRet te D σ H := h
theorem g_drop (h : te σ H fun _ H1 => D.nx σ H1) : tDrop te D σ H := h
theorem g_if {c : TT} (h : c σ H fun b H1 => if b = true then t D σ H1 else u D σ H1) : tIfS c t u D σ H := h
theorem g_next (h : D.nx σ H) : tNext D σ H := h
theorem g_var {i : Nat} {v : V} (e : σ[i]? = some (some v)) (h : Q v H) : tVar i σ H Q := ⟨v, e, h⟩
theorem g_c {v : V} (h : Q v H) : tC v σ H Q := h
theorem g_op {r : R2} (h : ta σ H fun x H1 => tb σ H1 fun y H2 => r x y H2 Q) : tOp r ta tb σ H Q := h
theorem g_un {r : V → Hp → VK → Prop} (h : ta σ H fun x H1 => r x H1 Q) : tUn r ta σ H Q := h
theorem g_I0 {g : Int → Int → V} {i j : Int} (h : Q (g i j) H) : rI0 g (.int i) (.int j) H Q := ⟨i, j, rfl, rfl, h⟩
theorem g_I {C : Int → Int → Prop} {g : Int → Int → V} {i j : Int} (c : C i j) (h : Q (g i j) H) : rI C g (.int i) (.int j) H Q := ⟨i, j, rfl, rfl, c, h⟩
theorem g_pow9 (h : Q (.int 1000000000) H) : rI CPow (fun i j => V.int (i ^ j.toNat)) (.int 10) (.int 9) H Q := ⟨10, 9, rfl, rfl, by unfold CPow; decide, h⟩
theorem g_pow18 (h : Q (.int 1000000000000000000) H) : rI CPow (fun i j => V.int (i ^ j.toNat)) (.int 10) (.int 18) H Q := ⟨10, 18, rfl, rfl, by unfold CPow; decide, h⟩
theorem g_U {g : Int → V} {i : Int} (h : Q (g i) H) : rU g (.int i) H Q := ⟨i, rfl, h⟩
theorem g_eq {x y : V} (s : scal x y = true) (h : Q (.bl (decide (x = y))) H) : rEq x y H Q := ⟨s, h⟩
theorem g_ne {x y : V} (s : scal x y = true) (h : Q (.bl (!decide (x = y))) H) : rNe x y H Q := ⟨s, h⟩
theorem g_test {R : Bool → Hp → Prop} (h : te σ H fun x H' => ∃ k, x = .bl k ∧ R k H') : tTest te σ H R := h
theorem g_tB {R : Bool → Hp → Prop} (h : te σ H fun x H' => ∃ k, x = .bl k ∧ R k H') : tB te σ H R := h
theorem g_bl {k : Bool} {R : Bool → Prop} (h : R k) : ∃ k', V.bl k = .bl k' ∧ R k' := ⟨k, rfl, h⟩
theorem g_cut {Mid : L2.St → Hp → Prop} (h : t { D with nx := Mid } σ H) (h2 : ∀ σ' H', Mid σ' H' → u D σ' H') : Evl.tCut t u D σ H := ⟨Mid, h, h2⟩
theorem g_isN {x : V} (h : Q (.bl (decide (x = .non))) H) : rIsN x .non H Q := ⟨rfl, h⟩
theorem g_notN {x : V} (h : Q (.bl (!decide (x = .non))) H) : rNotN x .non H Q := ⟨rfl, h⟩
theorem g_addS {x y : Str} (hl : x.length + y.length ≤ sizeLine) (h : Q (.str (x ++ y)) H) : rAddS (.str x) (.str y) H Q := ⟨x, y, rfl, rfl, hl, h⟩
theorem g_int1 {i : Int} (h : Q (.int i) H) : rInt1 [.int i] H Q := .inl ⟨i, rfl, h⟩
theorem g_intb {k : Bool} (h : Q (.int (if k = true then 1 else 0)) H) : rInt1 [.bl k] H Q := .inr ⟨k, rfl, h⟩
theorem g_max2 {i j : Int} (h : Q (.int (if j > i then j else i)) H) : rMaxQ [.int i, .int j] H Q := ⟨i, j, rfl, h⟩
theorem g_min2 {i j : Int} (h : Q (.int (if j < i then j else i)) H) : rMinQ [.int i, .int j] H Q := ⟨i, j, rfl, h⟩
theorem g_abs {i : Int} (h : Q (.int (if i < 0 then -i else i)) H) : rAbsQ [.int i] H Q := ⟨i, rfl, h⟩
theorem g_lenL {K : PySem.W.Frag} {p : Addr} {xs : List V} (hs : SqL K H p xs) (h : Q (.int xs.length) H) : rLenQ K [.ref p] H Q := ⟨p, xs, rfl, .inl hs, h⟩
theorem g_lenT {K : PySem.W.Frag} {p : Addr} {xs : List V} (hs : SqT K H p xs) (h : Q (.int xs.length) H) : rLenQ K [.ref p] H Q := ⟨p, xs, rfl, .inr hs, h⟩
theorem g_lenS {z : Str} (hl : z.length ≤ sizeLine) (h : Q (.int z.length) H) : rLenSQ [.str z] H Q := ⟨z, rfl, hl, h⟩
theorem g_ixT {K : PySem.W.Frag} {p : Addr} {xs : List V} {i : Int} {v : V} (hs : SqT K H p xs) (ha : atI xs i = some v) (h : Q v H) : rIxT K (.ref p) (.int i) H Q := ⟨p, xs, i, v, rfl, rfl, hs, ha, h⟩
theorem g_ixS {z : Str} {i : Int} {c : Nat} (hl : z.length ≤ sizeLine) (ha : atI z.cps.toList i = some c) (h : Q (.str ⟨#[c]⟩) H) : rIxS (.str z) (.int i) H Q := ⟨z, i, c, rfl, rfl, hl, ha, h⟩
theorem g_tup {tt : TA} (h : tt σ H fun xs H1 => xs.length ≤ sizeLine ∧ ∀ p, H1 p = none → Q (.ref p) (upd H1 p (.tup xs))) : tTup tt σ H Q := h
theorem g_lst {tt : TA} (h : tt σ H fun xs H1 => xs.length ≤ sizeLine ∧ ∀ p, H1 p = none → Q (.ref p) (upd H1 p (.lst xs))) : tLst tt σ H Q := h
theorem g_andV (h : ta σ H fun x H1 => ∃ c, x = .bl c ∧ if c = true then tb σ H1 Q else Q (.bl false) H1) : tAndV ta tb σ H Q := h
theorem g_orV (h : ta σ H fun x H1 => ∃ c, x = .bl c ∧ if c = true then Q (.bl true) H1 else tb σ H1 Q) : tOrV ta tb σ H Q := h
theorem g_notV (h : ta σ H fun x H1 => ∃ c, x = .bl c ∧ Q (.bl (!c)) H1) : tNotV ta σ H Q := h
/-- a cell of the store is set: H0 the heap at the entry -/
theorem g_st {K : PySem.W.Frag} {H0 : Hp} {s L : Addr} {xs cs : List V} {k : Int} {v : V} {j : Nat} {R : Hp → Prop} (hs : H s = some (.lst xs)) (hL : SqL K H L cs) (ne : L ≠ s) (x0 : Sx s H0 H) (hj : ixN xs.length k = some j) (j0 : j ≠ 0)
    (h : ∀ H1, H1 s = some (.lst (xs.set j v)) → SqL K H1 L cs → Sx s H0 H1 → R H1) : rSetL (.ref s) (.int k) v H R :=
  ⟨s, xs, k, j, rfl, rfl, hs, hj, h _ upd_same (Sx.sq ((Sx.refl s H).self hs j0) ne hL) (x0.self hs j0)⟩
theorem g_and {c d : TT} {R : Bool → Hp → Prop} (h : c σ H fun b H1 => if b = true then d σ H1 R else R false H1) : tAnd c d σ H R := h
theorem g_or {c d : TT} {R : Bool → Hp → Prop} (h : c σ H fun b H1 => if b = true then R true H1 else d σ H1 R) : tOr c d σ H R := h
theorem g_not {c : TT} {R : Bool → Hp → Prop} (h : c σ H fun b H1 => R (!b) H1) : tNot c σ H R := h
theorem g_nil {R : List V → Hp → Prop} (h : R [] H) : tNil σ H R := h
theorem g_cons {tr : TA} {R : List V → Hp → Prop} (h : ta σ H fun x H1 => tr σ H1 fun xs H2 => R (x :: xs) H2) : tCons ta tr σ H R := h
theorem g_callB {r : List V → Hp → VK → Prop} {tt : TA} (h : tt σ H fun vs H1 => r vs H1 Q) : tCB r tt σ H Q := h
theorem g_call {sp : Sp} {dvs : List V} {E : XK} {tt : TA} (h : tt σ H fun vs H1 => sp (vs ++ dvs) H1 Q E) : tCall sp dvs E tt σ H Q := h
theorem g_ixL {K : PySem.W.Frag} {p : Addr} {xs : List V} {i : Int} {v : V} (hs : SqL K H p xs) (ha : atI xs i = some v) (h : Q v H) : rIxL K (.ref p) (.int i) H Q := ⟨p, xs, i, v, rfl, rfl, hs, ha, h⟩
theorem g_setL {p : Addr} {xs : List V} {k : Int} {v : V} {j : Nat} {R : Hp → Prop} (hs : H p = some (.lst xs)) (hj : ixN xs.length k = some j) (h : R (upd H p (.lst (xs.set j v)))) : rSetL (.ref p) (.int k) v H R := ⟨p, xs, k, j, rfl, rfl, hs, hj, h⟩
theorem g_ite {b : Bool} {A B : Prop} (h1 : b = true → A) (h2 : b = false → B) : if b = true then A else B := by
  cases b with
  | true => exact h1 rfl
  | false => exact h2 rfl
theorem g_iteT {b : Bool} {A B : Prop} (e : b = true) (h : A) : if b = true then A else B := by
  subst e
  exact h
theorem g_iteF {b : Bool} {A B : Prop} (e : b = false) (h : B) : if b = true then A else B := by
  subst e
  exact iteF h
theorem g_isB {x : V} {b : Bool} (h : Q (.bl (decide (x = .bl b))) H) : rIsBQ x (.bl b) H Q := ⟨b, rfl, h⟩
theorem g_or3 {K : PySem.W.Frag} {p : Addr} {xs : List V} {i : Int} {v : V} (hs : SqL K H p xs ∨ SqT K H p xs) (ha : atI xs i = some v) (h : Q v H) : rIx K (.ref p) (.int i) H Q := by
  rcases hs with hs | hs
  · exact .inl ⟨p, xs, i, v, rfl, rfl, hs, ha, h⟩
  · exact .inr (.inl ⟨p, xs, i, v, rfl, rfl, hs, ha, h⟩)
theorem g_for {wi : TI} {g : TG} {tb : TS} (h : wi σ H fun J H1 => ∃ W : Nat → Nat → L2.St → Hp → Prop, (∃ m, W 0 m σ H1) ∧ ∀ i m σ H, W i m σ H →
    (J.stop i H ∧ D.nx σ H) ∨ (J.go i H ∧ ∃ N : L2.St → Hp → Prop, (∀ σ' H', N σ' H' → ∃ m', m' < m ∧ W (i + 1) m' σ' H') ∧ ∀ x H', J.yld i H x H' → g x σ H' fun σ2 H2 => tb { D with nx := N, ct := N, bk := D.nx } σ2 H2)) : tFor wi g tb D σ H := h
theorem g_rng1 {ta : TA} {R : It → Hp → Prop} (h : ta σ H fun vs H1 => ∃ j : Int, vs = [.int j] ∧ -(2 ^ 62) ≤ j ∧ j < 2 ^ 62 ∧ R (Itr 0 j.toNat) H1) : iRng1 ta σ H R := h
theorem g_rng2 {ta : TA} {R : It → Hp → Prop} (h : ta σ H fun vs H1 => ∃ i j : Int, vs = [.int i, .int j] ∧ (-(2 ^ 62) ≤ i ∧ i < 2 ^ 62 ∧ -(2 ^ 62) ≤ j ∧ j < 2 ^ 62) ∧ R (Itr i (j - i).toNat) H1) : iRng2 ta σ H R := h
theorem g_iList {K : PySem.W.Frag} {tl : TE} {R : It → Hp → Prop} (h : tl σ H fun x H1 => ∃ a, x = .ref a ∧ (∃ xs, SqL K H1 a xs) ∧ R (Itl K a) H1) : iList K tl σ H R := h
theorem g_break (h : D.bk σ H) : tBreak D σ H := h
theorem g_cont (h : D.ct σ H) : tCont D σ H := h
theorem g_retN (h : D.rt .non H) : tRetN D σ H := h
end
theorem dec_int {i j : Int} : decide (V.int i = V.int j) = decide (i = j) := by
  by_cases h : i = j
  · rw [h, decide_eq_true rfl, decide_eq_true rfl]
  · rw [decide_eq_false h, decide_eq_false fun e => h (V.int.inj e)]
theorem bt_len : bootBuiltins "len" = some (.builtin "len") := by decide +kernel
theorem bt_max : bootBuiltins "max" = some (.builtin "max") := by decide +kernel
theorem bt_min : bootBuiltins "min" = some (.builtin "min") := by decide +kernel
theorem bt_abs : bootBuiltins "abs" = some (.builtin "abs") := by decide +kernel
theorem bt_isinstance : bootBuiltins "isinstance" = some (.builtin "isinstance") := by decide +kernel
theorem bt_int : bootBuiltins "int" = some (.type "int") := by decide +kernel
theorem bt_str : bootBuiltins "str" = some (.type "str") := by decide +kernel
theorem bt_bool : bootBuiltins "bool" = some (.type "bool") := by decide +kernel
theorem bt_list : bootBuiltins "list" = some (.type "list") := by decide +kernel
theorem bt_tuple : bootBuiltins "tuple" = some (.type "tuple") := by decide +kernel
theorem bt_dict : bootBuiltins "dict" = some (.type "dict") := by decide +kernel
theorem atI_map {α : Type} (g : α → V) (xs : List α) (i : Int) (d : α) (h0 : 0 ≤ i) (h1 : i < xs.length) : atI (xs.map g) i = some (g (xs.getD i.toNat d)) := by
  obtain ⟨j, rfl⟩ : ∃ j : Nat, i = j := ⟨i.toNat, by omega⟩
  have hj : j < xs.length := by omega
  unfold atI ixN
  rw [if_pos h0, if_pos (by rw [List.length_map]; exact h1)]
  simp [hj]
theorem dint_t {i j : Int} (h : decide (V.int i = V.int j) = true) : i = j := V.int.inj (of_decide_eq_true h)
theorem dint_f {i j : Int} (h : decide (V.int i = V.int j) = false) : i ≠ j := fun e => of_decide_eq_false h (by rw [e])
/-- a def of the top -/
structure Df (K : PySem.W.Frag) (mg : Str → Option Value) (x : Str) (st : Stmt) (ps : List Str) where
  f : Addr
  fd : FuncData
  F : Fun K x x st f fd
  b : Binds K fd ps []
  g : mg x = some (.ref f)
/-! ### the store -/
def StL (L : Addr) (p a b c d : Int) : List V := [.ref L, .int p, .int a, .int b, .int c, .int d]
structure StOk (K : PySem.W.Frag) (H : Hp) (s : Addr) (L : Addr) (ns : List Int) (p a b c d : Int) : Prop where
  at_ : H s = some (.lst (StL L p a b c d))
  ne : L ≠ s
  cells : SqL K H L (ns.map V.int)
  p0 : 0 ≤ p
  a0 : 0 ≤ a
  b0 : 0 ≤ b
  c0 : 0 ≤ c
  c1 : c < 2305843009213693951
  len : ns.length ≤ 63
def Store (K : PySem.W.Frag) (H : Hp) (s : Addr) : Prop := ∃ L ns p a b c d, StOk K H s L ns p a b c d
theorem Store.there {K : PySem.W.Frag} {H : Hp} {s : Addr} (h : Store K H s) : ∃ xs, H s = some (.lst xs) := by
  obtain ⟨L, ns, p, a, b, c, d, h⟩ := h
  exact ⟨_, h.at_⟩
theorem Store.free {K : PySem.W.Frag} {s l : Addr} {H H' : Hp} (st : Store K H' s) (x : Sx s H H') (h : H' l = none) : H l = none := by
  cases e : H l with
  | none => rfl
  | some o =>
    obtain ⟨xs, hs⟩ := st.there
    have n : l ≠ s := fun z => by
      rw [z, hs] at h
      cases h
    rw [x.kp l o n e] at h
    cases h
theorem Store.ne {K : PySem.W.Frag} {s l : Addr} {H : Hp} (st : Store K H s) (h : H l = none) : l ≠ s := fun z => by
  obtain ⟨xs, hs⟩ := st.there
  rw [z, hs] at h
  cases h
theorem Store.same {K : PySem.W.Frag} {s : Addr} {H H' : Hp} (st : Store K H s) (x : Same H H') : Store K H' s := by
  obtain ⟨L, ns, p, a, b, c, d, h⟩ := st
  exact ⟨L, ns, p, a, b, c, d, ⟨x _ _ h.at_, h.ne, Sx.sq (Sx.of x) h.ne h.cells, h.p0, h.a0, h.b0, h.c0, h.c1, h.len⟩⟩
/-- what was not there at first is changed: the store stays a store -/
theorem Store.mut {K : PySem.W.Frag} {s l : Addr} {H H' : Hp} {o : HO} (st0 : Store K H s) (x : Sx s H H') (st : Store K H' s) (h : H l = none) : Store K (upd H' l o) s := by
  obtain ⟨L0, ns0, p0, a0, b0, c0, d0, h0⟩ := st0
  obtain ⟨L, ns, p, a, b, c, d, h1⟩ := st
  obtain ⟨ys, e⟩ := x.ce L0 _ h0.at_
  have e2 : L = L0 := by
    have e3 := h1.at_
    rw [e] at e3
    cases e3
    rfl
  subst e2
  have nl : s ≠ l := fun z => by
    have q := h0.at_
    rw [z, h] at q
    cases q
  have q := h0.cells
  by_cases hk : L = l
  · subst hk
    rcases q with (q | ⟨o2, q⟩) | q
    · rw [h] at q
      cases q
    · rw [h] at q
      cases q
    · exact ⟨L, ns0, p, a, b, c, d, ⟨by rw [upd_ne nl]; exact h1.at_, h1.ne, .inr q, h1.p0, h1.a0, h1.b0, h1.c0, h1.c1, h0.len⟩⟩
  · refine ⟨L, ns, p, a, b, c, d, ⟨by rw [upd_ne nl]; exact h1.at_, h1.ne, ?_, h1.p0, h1.a0, h1.b0, h1.c0, h1.c1, h1.len⟩⟩
    rcases h1.cells with (r | ⟨o2, r⟩) | r
    · exact .inl (.inl (by rw [upd_ne hk]; exact r))
    · exact .inl (.inr ⟨o2, by rw [upd_ne hk]; exact r⟩)
    · exact .inr r
/-- the widest draw -/
def BIG : Int := 2 ^ 5000
theorem big_div {i m : Int} (h0 : 0 < m) (h : m < BIG) : CDivW i m := wide_div (b := 5000) h0 (by unfold BIG at h; omega) (by decide) (by decide)
/-- a draw: below many, and nothing else has changed -/
def spTake (K : PySem.W.Frag) (B : Int) : Sp := fun vs H Q _ => ∃ (s : Addr) (many : Int), vs = [.ref s, .int many] ∧ Store K H s ∧ many ≤ B ∧ many < BIG ∧
  ∀ (r : Int) (H' : Hp), 0 ≤ r → (r = 0 ∨ r < many) → Sx s H H' → Store K H' s → Q (.int r) H'
def topS (i : Nat) : Stmt := PySem.Challenge.pw_standframes_k62_numbers_written_and_read.main.body.getD i (.Pass ⟨0, 0, 0, 0⟩)
end My
namespace My
open PySem PySem.Spec PyProof.Rows L2
/-! ### raising: an own class whose __init__ is a def; the context of what is raised is None -/
section
variable {X : Cx}
theorem pmkN {CXc : CXT} {nm : Str} {C fI : Addr} {lv : Nat} {fdI : FuncData} {psI : List Str} {spI : Sp} {ds : List Value} {dvs : List V} {e : Expr} {es : List Expr} {ta : TA} {p pos : Pos} (T : OexC X.K C)
    (iC : PySem.W.findIn X.K (.ref C) "__init__" = some (some (.ref fI))) (tI : PySem.W.typeIn X.K (.ref fI) = some (.type "function"))
    (FI : FnOk X.prog X.w X.K X.mg X.base CXc lv fI fdI psI spI) (room : Room (lv + 1) X.A) (bnd : Binds X.K fdI psI ds) (dfl : Vals dvs ds) (px : Passes CXc X (fun _ _ _ => False)) (gl : Gl X nm) (gm : X.mg nm = some (.ref C)) (args : PA X (e :: es) ta)
    (nd : (nm == ("__debug__" : Str)) = false := by decide) (st1 : starEach (e :: es) X.env = (false, eval e X.env) :: starEach es X.env := by rfl) (st2 : (backTo pos (starEach es X.env)).any (·.1) = false := by rfl) :
    L2N.PMk X (.Call (.Name nm p) (e :: es) [] pos) (tMkO C spI dvs ta) := by
  intro pins s σ H Q I rd
  have T' := T.cls
  obtain ⟨n0, n1, n2, n3, n4, n5, n6, n7, n8, n9, j0, j1, j2, j3, j5, lkC, rfs⟩ := T'
  refine wpAny_Call_Name_kw (ld_glob I gl gm ?_ nd)
  refine PySem.W.callWith_K (h₀ := X.base) I.ok.mod.kin T.kC (thn (args.run pos pins s σ H _ I rd) fun us s1 hh => ?_) st1 st2
  obtain ⟨vs, H1, I1, rel, sz, rd1⟩ := hh
  refine ⟨I1.kIn, ?_⟩
  show wpAny _ _ (call (.ref C) us) _ _ _
  obtain ⟨hp, gn, dr, tk, os⟩ := s1
  generalize en : hp.objs.size + 1 = nx at *
  have le : hp.objs.size ≤ nx := by omega
  have fresh : H1 nx = none := I1.hok.fresh le
  have rd2 := rd1 nx fresh
  have keep : ∀ b o, hp.get? b = some o → ((hp.push (PySem.W.kdv_tup us)).push (PySem.HandSPX.excO C hp.objs.size)).get? b = some o :=
    fun b o z => Heap.get?_push_of_some _ (Heap.get?_push_of_some _ z)
  have there : ((hp.push (PySem.W.kdv_tup us)).push (PySem.HandSPX.excO C hp.objs.size)).get? nx = some (PySem.HandSPX.excO C hp.objs.size) := by
    rw [← en]
    heap_get
  have I2 := I1.laid (t' := tk) (a := nx) (o := exo nx C none) (h' := (hp.push (PySem.W.kdv_tup us)).push (PySem.HandSPX.excO C hp.objs.size)) keep le (exo_ok there)
  have rel2 : Vals (V.ref nx :: (vs ++ dvs)) (Value.ref nx :: (us ++ ds)) := .cons rfl (rel.append dfl)
  have hlen : (Value.ref nx :: us ++ ds).length = psI.length := by
    have q := rel2.length
    rw [FI.len _ _ _ _ rd2] at q
    exact q.symm
  have few : us.length ≤ sizeLine := by
    have q := Paired.length rel
    rw [← q, sizeLine_eq]
    omega
  refine wpAny_call ?_
  refine PySem.HandSPX.call_own F.excBase_ValueError (fun Y => PySem.HandSPX.refsVE_contains Y n4 rfs) (I1.kIn _ _ lkC) (PySem.W.looks_findIn I1.kIn iC) (fun self => PySem.W.bind_fn I1.kIn self tI) few ?_
  rw [en]
  refine codeAny_mono (FI.run _ X.stack _ _ ⟨Value.ref nx :: us, []⟩ (Value.ref nx :: (us ++ ds)) _ _ (fun _ _ _ => False) (room.make C us []) (I2.env0.make C us []) (bnd _ (Value.ref nx :: us) I2.kIn hlen) rel2 rd2) fun r s' back => ?_
  cases r with
  | error er => exact px pins σ _ _ er s' I2 back
  | ok fl =>
    cases fl with
    | next => exact back.elim
    | brk => exact back.elim
    | cont => exact back.elim
    | ret u =>
      obtain ⟨v, H2, os2, bare2, un2, hok2, rv, ev, d, fs, ea, ed, hd1, q2⟩ := back
      subst ev
      obtain ⟨h2, g2, d2, t2, os'⟩ := s'
      obtain ⟨t0, G, J, kG, ge, hoe, na⟩ := mk_end0 (d2 := d2) (t2 := t2) I1 le keep un2 hok2 os2 bare2 ea ed hd1
      exact ⟨rv, nx, _, _, ⟨G, g2, d2, t2, os'⟩, _, .ref C, some d, rfl, J, kG, ge, hoe, ⟨rfl, rfl, fun ws hw => by cases hw; rfl⟩, rfl, rfl, na, rfl, bare2, raises_own T.exC T.tyC, q2⟩
/-! ### what may be asked of an exception that is pinned -/
/-- the class facts of its class at C -/
structure XC (K : PySem.W.Frag) (C : Addr) : Prop where
  e : ExcC K C
  cl : (PySem.W.clsIn K C).isSome = true
/-- e.n -/
def tXg (K : PySem.W.Frag) (a : Addr) (cls : Value) (d : Option Addr) (n : Str) (te : TE) : TE := fun σ H Q => te σ H fun x H1 => x = .ref a ∧ ∃ (C dd : Addr) (fs : List (Str × V)) (v : V),
  cls = .ref C ∧ XC K C ∧ PySem.W.findIn K (.ref C) n = some none ∧ d = some dd ∧ H1 dd = some (.xd fs) ∧ fs.lookup n = some v ∧ Q v H1
theorem pe_xg {a : Addr} {oe : Obj} {cls : Value} {d : Option Addr} {e : Expr} {te : TE} {pos : Pos} {n : Str} (hp : (a, oe) ∈ X.pn) (hz : oe.cls = cls ∧ oe.dict = d) (hf : ∃ vs, oe.data = .fields vs) (he : PE X e te)
    (hb : attributeBase e n X.env (eval e X.env) = eval e X.env := by rfl) : PE X (.Attribute e n pos) (tXg X.K a cls d n te) := by
  refine ⟨fun pins s σ H Q I rd => attr_of hb (thn (he.run pins s σ H _ I rd) fun u s1 hh => ?_)⟩
  obtain ⟨x, H1, I1, rx, ex, C, dd, fs, v, ec, T, no, ed, ea, l, q⟩ := hh
  subst ex ec ed
  cases (show u = Value.ref a from rx)
  have there := (I1.pin (a, oe) (List.mem_append_left _ hp)).1
  obtain ⟨ws, hd⟩ := hf
  obtain ⟨mA, hns, rel⟩ := (show ObjOk X.prog X.w H1 s1.heap dd (.xd fs) from I1.hok dd _ ea)
  obtain ⟨od, ho, hl⟩ := lookIn_ns hns
  obtain ⟨u', hu, ru⟩ := RelO.some_of (v := v) (o := mA n) (by rw [← l]; exact rel n)
  have J : PySem.W.InstAt s1.heap a oe C (some od) := ⟨there, hz.1, by unfold PySem.W.notCls; rw [hd] <;> rfl, by rw [hz.2]; exact ho⟩
  exact HandSPX.exc_get I1.kIn J T.e.hg T.e.hk T.e.hs (PySem.W.findObj_own T.e.hd no rfl (by rw [hl, hu])) (handed_of ru) ⟨v, H1, I1.tok _, ru, q⟩
/-- isinstance(e, c) of it -/
def rIsP (K : PySem.W.Frag) (a : Addr) (cls : Value) (d : Option Addr) : List V → Hp → VK → Prop := fun xs H Q => ∃ (C dd : Addr) (fs : List (Str × V)) (c : V) (cv : Value) (b : Bool),
  xs = [.ref a, c] ∧ cls = .ref C ∧ XC K C ∧ d = some dd ∧ H dd = some (.xd fs) ∧ ClsV c cv ∧ PySem.W.kitOne K (.ref C) cv = some b ∧ Q (.bl b) H
theorem c_isP {a : Addr} {oe : Obj} {cls : Value} {d : Option Addr} (hp : (a, oe) ∈ X.pn) (hz : oe.cls = cls ∧ oe.dict = d) (hf : ∃ vs, oe.data = .fields vs) : CallR X (.builtin "isinstance") (rIsP X.K a cls d) := by
  intro pins s σ H xs us Q I r rd
  obtain ⟨C, dd, fs, c, cv, b, ex, ec, T, ed, ea, kc, kb, q⟩ := rd
  subst ex ec ed
  obtain ⟨u1, u2, rfl, r1, r2⟩ := vals2 r
  cases (show u1 = Value.ref a from r1)
  have e2 := kc.eq r2
  subst e2
  have there := (I.pin (a, oe) (List.mem_append_left _ hp)).1
  obtain ⟨ws, hd⟩ := hf
  obtain ⟨mA, hns, rel⟩ := (show ObjOk X.prog X.w H s.heap dd (.xd fs) from I.hok dd _ ea)
  obtain ⟨od, ho, hl⟩ := lookIn_ns hns
  have J : PySem.W.InstAt s.heap a oe C (some od) := ⟨there, hz.1, by unfold PySem.W.notCls; rw [hd] <;> rfl, by rw [hz.2]; exact ho⟩
  exact PySem.W.kia_one (PySem.W.kitx_exc T.cl T.e.hg T.e.hk T.e.hs T.e.ha T.e.hn T.e.ht T.e.hm) I.kIn J kb (fun z => nomatch z) fun tk => ⟨.bl b, H, I.kept (t' := tk) fun _ _ z => z, rfl, q⟩
end
/-! ### a def that is called with the exception that is handled -/
open L2H in
/-- as L2H.FnH, the promise told of the pinned exception -/
structure FnE (P : Program) (w : World) (K : PySem.W.Frag) (mg : Str → Option Value) (base : Heap) (lv : Nat) (f : Addr) (fd : FuncData) (ps : List Str) (sp : Addr × Obj → Sp) : Prop where
  few : ∀ q vs H Q E, sp q vs H Q E → vs.length = ps.length
  go : ∀ (q : Addr × Obj) (A : Around) (outer : List Env) (s : Shared) (H : Hp) (args : Args) (us : List Value) (vs : List V) (Q : VK) (E : XK),
    RoomH lv A → Hot1 A q → PinOk outer H s q → Env0 P w K mg base A outer s H → BindsTo s fd args (ps.zip us) → Vals vs us → sp q vs H Q E → codeAny (model P w) A (.call (.ref f) args) (CR CX0 outer P w H s Q E) s
section
variable {P : Program} {w : World} {K : PySem.W.Frag} {mg : Str → Option Value} {base : Heap}
open L2H in
theorem Df.okE {x : Str} {st : Stmt} {N ps : List Str} {lv : Nat} {sp : Addr × Obj → Sp} (D : Df K mg x st ps) (S : FnScope N ps (defScope st)) (len : ∀ q vs H Q E, sp q vs H Q E → vs.length = ps.length)
    (body : ∀ (q : Addr × Obj) (cdv : Value) (A : Around) (outer : List Env) (s : Shared) (H : Hp) (vs : List V) (Q : VK) (E : XK), Hot1 A q → RoomH lv (A.deeper (envOfC x (defScope st) s.heap.objs.size D.f cdv)) → sp q vs H Q E →
      ∃ t, PSs (cxH CX0 P w K mg base N x (defScope st) D.f cdv A outer s H E q).nox (defBody st) t ∧ t { nx := fun _ H' => Q .non H', rt := Q } (L2.start N vs) H) :
    FnE P w K mg base (lv + 1) D.f D.fd ps sp := by
  obtain ⟨f, fd, F, bnd, gl⟩ := D
  obtain ⟨oc, od, kV, doc, pm, an, cdv, ct, osl, e, lk, hcd⟩ := F.ex
  have e : fd = _ := e
  subst e
  refine ⟨len, fun q A outer s H args us vs Q E room hot pin e0 hb rel rd => ?_⟩
  have hl := len _ _ _ _ _ rd
  have keep : ∀ b o, base.get? b = some o → s.heap.get? b = some o := fun b o z => (e0.bs b o z).1
  have KX : K.In s.heap := e0.mod.kin.keeps keep
  have lim : s.heap.NoLimit := e0.mod.nolimit.keeps keep
  have kinds : ∀ y ∈ ps.zip us, (defScope st).names.lookup y.1 = some .local ∨ ((defScope st).names.lookup y.1 = some .cell ∧ ((cellsFrom (s.heap.objs.size + 1) (defScope st).names []).lookup y.1).isSome = true) := by
    rintro ⟨n, v⟩ hy
    rcases S.par n (List.of_mem_zip hy).1 with z | z
    · exact .inl z
    · exact .inr ⟨z, PySem.W.cellsFrom_some _ _ _ (.inl z)⟩
  refine codeAny_call_function room.depth (KX _ _ lk) rfl S.co S.gen rfl (PySem.W.codeRec_of KX hcd) (hb _ _ _ _ ?_)
  refine wpAny_newFunctionEnv_cells S.kind kinds fun env he s1 y => ?_
  subst he
  refine ⟨lim.keeps y.toInCall.keep, codeAny_func ?_⟩
  obtain ⟨t, ht, hq⟩ := body q cdv A outer s H vs Q E hot (room.deeper _) rd
  have I := inv_startH (CX := CX0) (E := E) S pin e0 hl rel y
  refine wpAny_mono (ht.nox.run [] s1 (L2.start N vs) H _ I hq) (fun fl s' hs => ?_) fun _ _ z => z
  cases fl with
  | brk => exact (hs.choose_spec.choose_spec.2).elim
  | cont => exact (hs.choose_spec.choose_spec.2).elim
  | ret u =>
    obtain ⟨v, _, H', J, rv, z⟩ := hs
    exact ⟨v, H', J.os, J.bare, J.base, J.hok, rv, z⟩
  | next =>
    obtain ⟨_, H', J, z⟩ := hs
    exact ⟨V.non, H', J.os, J.bare, J.base, J.hok, rfl, z⟩
end
section
variable {X : Cx}
open L2H in
theorem pe_callE {lv : Nat} {f a : Addr} {oe : Obj} {fd : FuncData} {ps : List Str} {sp : Addr × Obj → Sp} {nm : Str} {p pos : Pos} {e : Expr} {es : List Expr} {t : TA} (F : FnE X.prog X.w X.K X.mg X.base lv f fd ps sp) (room : RoomH lv X.A) (hot : Hot1 X.A (a, oe)) (hp : (a, oe) ∈ X.pn)
    (gl : Gl X nm) (gm : X.mg nm = some (.ref f)) (kp : PySem.W.keepIn X.K (.ref f) = true) (bnd : Binds X.K fd ps []) (args : PA X (e :: es) t) (nd : (nm == ("__debug__" : Str)) = false := by decide)
    (st1 : starEach (e :: es) X.env = (false, eval e X.env) :: starEach es X.env := by rfl) (st2 : (backTo pos (starEach es X.env)).any (·.1) = false := by rfl) : PE X (.Call (.Name nm p) (e :: es) [] pos) (tCallS (sp (a, oe)) (fun _ => E0) t) := by
  refine ⟨fun pins s σ H Q I rd => wpAny_Call_Name_kw (ld_glob I gl gm ?_ nd)⟩
  refine PySem.W.callWith_K (h₀ := X.base) I.ok.mod.kin kp (thn (args.run pos pins s σ H _ I rd) fun us s1 hh => ?_) st1 st2
  obtain ⟨vs, H1, I1, rel, q⟩ := hh
  refine ⟨I1.kIn, ?_⟩
  have hl : us.length = ps.length := by
    rw [← rel.length]
    exact F.few _ _ _ _ _ q
  have b := bnd s1 us I1.kIn (by rw [List.append_nil]; exact hl)
  rw [List.append_nil] at b
  have P1 := I1.pin (a, oe) (List.mem_append_left _ hp)
  have pin : PinOk X.stack H1 s1 (a, oe) := ⟨P1.1, P1.2.1, fun hm => (List.mem_cons.mp (I1.stkSub a hm)).elim P1.2.2.1 P1.2.2.2.1, P1.2.2.2.2⟩
  refine wpAny_call (codeAny_mono (F.go (a, oe) X.A X.stack s1 H1 ⟨us, []⟩ us vs Q _ room hot pin I1.env0 b rel q) fun r s' back => ?_)
  cases r with
  | error z => exact back.elim
  | ok fl =>
    cases fl with
    | ret u => exact I1.after back
    | next => exact back.elim
    | brk => exact back.elim
    | cont => exact back.elim
end
/-! ### defs that raise -/
section
variable {P : Program} {w : World} {K : PySem.W.Frag} {mg : Str → Option Value} {base : Heap}
theorem Df.okN {x : Str} {st : Stmt} {N ps : List Str} {lv : Nat} {sp : Sp} (D : Df K mg x st ps) (S : FnScope N ps (defScope st)) (len : ∀ vs H Q E, sp vs H Q E → vs.length = ps.length)
    (body : ∀ (cdv : Value) (A : Around) (outer : List Env) (s : Shared) (H : Hp) (vs : List V) (Q : VK) (E : XK), Room lv (A.deeper (envOfC x (defScope st) s.heap.objs.size D.f cdv)) → sp vs H Q E →
      ∃ t, PSs (cxOf (L2N.CX P w) P w K mg base N x (defScope st) D.f cdv A outer s H E) (defBody st) t ∧ t { nx := fun _ H' => Q .non H', rt := Q } (L2.start N vs) H) :
    FnOk P w K mg base (L2N.CX P w) (lv + 1) D.f D.fd ps sp := by
  obtain ⟨f, fd, F, bnd, gl⟩ := D
  obtain ⟨oc, od, kV, doc, pm, an, cdv, ct, osl, e, lk, hcd⟩ := F.ex
  have e : fd = _ := e
  subst e
  exact fn_of lk hcd S len fun A outer s H vs Q E room rd => body cdv A outer s H vs Q E room rd
/-- around a body nothing is let out -/
theorem takesN0 {X : Cx} : L2N.Takes X (fun _ _ _ _ => False) := fun _ _ z => by
  obtain ⟨_, _, _, _, _, _, _, _, _, _, _, _, _, _, _, _, z⟩ := z
  exact z.elim
end
end My
namespace My
open PySem PySem.Spec PyProof.Rows L2
/-! ### the digits' limit -/
theorem none_of_k {K : PySem.W.Frag} {h : Heap} {a : Addr} {m : Str → Option Value} {n : Str} (X : K.In h) (G : h.Ns a m) (e : PySem.W.nsIn K a n = some none) : m n = none := by
  obtain ⟨o, es, ep, ho, hd, _, hf⟩ := G
  unfold PySem.W.nsIn at e
  split at e
  · rename_i c d es' n' sl lk
    have two := ho.symm.trans (X _ _ lk)
    cases two
    cases hd
    split at e
    · cases e
    · rename_i none_
      rw [← hf]
      unfold nsFind findBy
      rw [← Array.find?_toList, none_]
      rfl
  · cases e
def NoDig (K : PySem.W.Frag) : Prop := PySem.W.nsIn K cStatics "sys.int_max_str_digits" = some none
theorem noDigits {X : Cx} {pins : List (Addr × Obj)} {σ : L2.St} {H : Hp} {s : Shared} (nd : NoDig X.K) (I : Inv X pins σ H s) : s.heap.NoDigits := by
  obtain ⟨mc, a, b⟩ := I.nolimit
  exact ⟨mc, a, none_of_k I.kIn a nd⟩
/-! ### int of a longer text -/
theorem wp_long {M : Model} {A : Around} {E : Value → Shared → Prop} {s : Shared} {Q : Value → Shared → Prop} {v : Value} {text : List Nat} {n : Int} (nd : s.heap.NoDigits)
    (hs : ¬ (text.takeWhile (· != 0)).length ≤ 640) (hr : (int_private% "readNumeral") 4300 10 (text.takeWhile (· != 0)) = (int_private% "Numeral.value") n)
    (ha : ((text.takeWhile (· != 0)).length == text.length) = true) (h : Q (.int n s.toks) { s with toks := s.toks + 1 }) :
    wpAny M A ((int_private% "intFromText") v text 10) Q E s := by
  obtain ⟨mc, hns, hno⟩ := nd
  obtain ⟨hp, g, d, tk, os⟩ := s
  repeat (any_goals (first
    | assumption
    | (with_reducible refine wpAny_ite_false (decide_eq_false hs) ?_)
    | (with_reducible refine wpAny_ite_true (decide_eq_true ha) ?_)
    | (with_reducible refine wpAny_nsGet hns ?_; rw [hno])
    | wp_step))
  all_goals (rw [hr]; dsimp only)
  repeat (any_goals (first
    | assumption
    | (with_reducible refine wpAny_ite_true (decide_eq_true ha) ?_)
    | wp_step))
structure Hold (p : Prop) : Prop where
  out : p
theorem meets_long {x : PySem.Str} {u : Tok} {n : Int} (hz : x.length ≤ sizeLine) (hl : ¬ (PySem.numSeenOf x).length ≤ 640) (hn : PySem.intText? x = some n) :
    Meets (Builtin.«int.__new__» ⟨[.type "int", .str x u], []⟩) (fun _ R s => s.heap.NoDigits ∧ R (.ok (.ret (.int n s.toks))) { s with toks := s.toks + 1 }) :=
  .of_wp fun prog w A R s h => by
    obtain ⟨nd, h⟩ := h
    have f1 := PySem.F.conv_sub_int
    have f2 := PySem.F.madeHere_int
    have f3 := PySem.W.KIN.str_int
    have f4 := PySem.W.KIN.str_idx
    have f5 := PySem.W.KIN.str_trunc
    have f6 : typeOf (.str x u) = pure (.type "str") := rfl
    have two : (int_private% "readNumeral") 4300 10 (PySem.numSeenOf x) = (int_private% "Numeral.value") n ∧ ((PySem.numSeenOf x).length == (PySem.numTextOf x).length) = true := by
      rcases PySem.read4300 x hz with ⟨m, h1, h2, h3⟩ | ⟨h1, _⟩
      · rw [hn] at h1
        cases h1
        exact ⟨h3, h2⟩
      · rw [hn] at h1
        cases h1
    have hk := Hold.mk (And.intro nd (And.intro hl two))
    obtain ⟨hp, g, d, tk, os⟩ := s
    clear nd hl two hn
    repeat (any_goals (first
      | assumption
      | ((with_reducible show wpAny _ _ ((int_private% "intFromText") _ _ _) _ _ _); refine wp_long hk.out.1 hk.out.2.1 hk.out.2.2.1 hk.out.2.2.2 ?_)
      | wp_step))
    all_goals first | exact ⟨_, rfl, h⟩ | skip
/-- int of a text of at most 4300 digits -/
def rIntS (K : PySem.W.Frag) : List V → Hp → VK → Prop := fun xs H Q => ∃ a n, xs = [.str a] ∧ PySem.intText? a = some n ∧ a.length ≤ sizeLine ∧ (PySem.numSeenOf a).length = a.length ∧ NoDig K ∧ Q (.int n) H
theorem c_intS {X : Cx} : CallR X (.type "int") (rIntS X.K) := by
  intro pins s σ H xs us Q I rs h
  obtain ⟨a, n, rfl, hn, hl, hsn, nd, h⟩ := h
  cases rs with
  | cons r1 rs =>
    cases rs
    obtain ⟨t, rfl⟩ := r1
    have fin : ∀ t', EP X pins σ Q (.int n t') { s with toks := s.toks + 1 } := fun t' => ⟨.int n, H, I.tok _, ⟨_, rfl⟩, h⟩
    by_cases h6 : a.length ≤ 640
    · exact PySem.W.KIN.call_text hn h6 (fin _)
    · exact call_int_1 (meets_long hl (by rw [hsn]; exact h6) hn) ⟨noDigits nd I, rfl, fin _⟩
/-! ### text * int -/
def rMulS : R2 := fun x y H Q => ∃ z n, x = .str z ∧ y = .int n ∧ 0 ≤ n ∧ n ≤ 100000 ∧ z.length ≤ 100 ∧ Q (.str (PySem.Txt.mul z n)) H
theorem o_mulS {X : Cx} : OpR X (binaryOp .Mult) rMulS := by
  intro pins s σ H x y v u Q I rx ry h
  obtain ⟨z, n, rfl, rfl, h0, h1, h2, h⟩ := h
  obtain ⟨t, rfl⟩ := (show ∃ t, v = Value.str z t from rx)
  obtain ⟨t', rfl⟩ := (show ∃ t, u = Value.int n t from ry)
  refine PySem.SB.mul ⟨by simp; omega, fun a _ => ?_, fun a _ => ?_⟩ fun t2 k => ⟨.str (PySem.Txt.mul z n), H, I.tok _, ⟨t2, rfl⟩, h⟩
  · have hq : (100000 : Int) ≤ (2 ^ 63 - 1) / n := (Int.le_ediv_iff_mul_le (by omega)).mpr (by omega)
    omega
  · have e : z.length * n.toNat ≤ 100 * 100000 := Nat.mul_le_mul h2 (by omega)
    unfold Builtin.Str.tooLong
    refine decide_eq_false ?_
    rw [sizeLine_eq]
    omega
/-! ### how often a truth value stands in a list of such -/
def rCntB (K : PySem.W.Frag) : V → List V → Hp → VK → Prop := fun x xs H Q => ∃ (a : Addr) (bs : List Bool) (k : Bool), x = .ref a ∧ xs = [.bl k] ∧ SqL K H a (bs.map V.bl) ∧ Q (.int (countIn (.bool k) (bs.map PyData.bool))) H
theorem reads_bools {h : Heap} : ∀ {bs : List Bool} {vs : List Value}, Vals (bs.map V.bl) vs → ReadsAll h vs (bs.map PyData.bool) []
  | [], _, r => by cases r; exact .nil
  | b :: bs, _, r => by
    cases r with
    | cons r1 r2 =>
      cases r1
      exact .cons (as := []) (by constructor) (reads_bools r2)
theorem all_bools (bs : List Bool) : (bs.map PyData.bool).all Shape.bool.has = true := by
  rw [List.all_map, List.all_eq_true]
  intro x _
  rfl
theorem mt_cntB {X : Cx} : MtR X "list.count" (rCntB X.K) := by
  intro pins s σ H x xs v us Q I rx rs h
  obtain ⟨a, bs, k, rfl, rfl, hq, h⟩ := h
  cases (show v = Value.ref a from rx)
  cases rs with
  | cons r1 r2 =>
    cases r2
    cases r1
    obtain ⟨its, rv, pl, hz⟩ := I.list hq
    exact count_list_bools pl.isList (reads_bools (h := s.heap) rv) (all_bools bs) ⟨.int _, H, I.tok _, ⟨_, rfl⟩, h⟩
/-! ### replace: a token must be out -/
def PE1 (X : Cx) (e : Expr) (t : TE) : Prop := ∀ (pins : List (Addr × Obj)) (s : Shared) (σ : L2.St) (H : Hp) (Q : VK), Inv X pins σ H s → t σ H Q →
  wpAny (model X.prog X.w) X.A (eval e X.env) (fun u s' => 1 ≤ s'.toks ∧ EP X pins σ Q u s') X.xe s
def PA1 (X : Cx) (es : List Expr) (t : TA) : Prop := ∀ (pos : Pos) (pins : List (Addr × Obj)) (s : Shared) (σ : L2.St) (H : Hp) (Q : List V → Hp → Prop), Inv X pins σ H s → t σ H Q →
  wpAny (model X.prog X.w) X.A (spliced (backTo pos (starEach es X.env))) (fun us s' => 1 ≤ s'.toks ∧ AP X pins σ Q us s') X.xe s
section
variable {X : Cx}
theorem PE1.pe {e : Expr} {t : TE} (h : PE1 X e t) : PE X e t := ⟨fun pins s σ H Q I q => thn (h pins s σ H Q I q) fun _ _ z => z.2⟩
theorem drop_toks {α : Type} {M : Model} {A : Around} {t : Sem α} {Q : α → Shared → Prop} {E : Value → Shared → Prop} {s : Shared} {n : Nat} (hn : n ≤ s.toks) (h : wpAny M A t Q E s) :
    wpAny M A t (fun a s' => n ≤ s'.toks ∧ Q a s') E s := wpAny_mono (wpAny_toks_of hn h) (fun _ _ z => z) fun _ _ z => z.2
theorem pe1_intL {op : Operator} {r : R2} {b : Expr} {tb : TE} {i : Int} {j : Nat} {cp pos : Pos} (ho : OpR X (binaryOp op) r) (hb : PE X b tb) : PE1 X (.BinOp (.Constant (.int i) j cp) op b pos) (tOp r (tC (.int i)) tb) := by
  intro pins s σ H Q I h
  refine wpAny_BinOp (wpAny_Constant_int ?_)
  refine thn (drop_toks (n := 1) (by show 1 ≤ s.toks + 1; omega) (hb.run pins _ σ H _ (I.tok _) h)) fun u s1 hh => ?_
  obtain ⟨h1, y, H1, I1, ry, q⟩ := hh
  exact drop_toks h1 (ho pins s1 σ H1 (.int i) y _ u Q I1 ⟨_, rfl⟩ ry q)
theorem pa1_head {e : Expr} {es : List Expr} {te : TE} {t : TA} (ha : PE1 X e te) (hr : PA X es t) (hs : starEach (e :: es) X.env = (false, eval e X.env) :: starEach es X.env := by rfl) : PA1 X (e :: es) (tCons te t) := by
  intro pos pins s σ H Q I h
  rw [hs]
  refine Calls.spliced_cons (thn (ha pins s σ H _ I h) fun u s1 hh => ?_)
  obtain ⟨h1, x, H1, I1, r1, q1⟩ := hh
  exact thn (drop_toks h1 (hr.run pos pins s1 σ H1 _ I1 q1)) fun us s2 ⟨h2, xs, H2, I2, r2, q2⟩ => ⟨h2, x :: xs, H2, I2, .cons r1 r2, q2⟩
theorem pa1_tail {e : Expr} {es : List Expr} {te : TE} {t : TA} (ha : PE X e te) (hr : PA1 X es t) (hs : starEach (e :: es) X.env = (false, eval e X.env) :: starEach es X.env := by rfl) : PA1 X (e :: es) (tCons te t) := by
  intro pos pins s σ H Q I h
  rw [hs]
  refine Calls.spliced_cons (thn (ha.run pins s σ H _ I h) fun u s1 hh => ?_)
  obtain ⟨x, H1, I1, r1, q1⟩ := hh
  exact thn (hr pos pins s1 σ H1 _ I1 q1) fun us s2 ⟨h2, xs, H2, I2, r2, q2⟩ => ⟨h2, x :: xs, H2, I2, .cons r1 r2, q2⟩
theorem pe1_call {CX : CXT} {lv : Nat} {f : Addr} {fd : FuncData} {ps : List Str} {sp : Sp} {E : XK} {nm : Str} {p pos : Pos} {e : Expr} {es : List Expr} {t : TA} (F : FnOk X.prog X.w X.K X.mg X.base CX lv f fd ps sp) (hr : Room lv X.A) (hg : Gl X nm) (hm : X.mg nm = some (.ref f)) (hk : PySem.W.keepIn X.K (.ref f) = true)
    (hb : Binds X.K fd ps []) (hx : Passes CX X E) (ha : PA1 X (e :: es) t) (nd : (nm == ("__debug__" : Str)) = false := by decide) (st1 : starEach (e :: es) X.env = (false, eval e X.env) :: starEach es X.env := by rfl)
    (st2 : (backTo pos (starEach es X.env)).any (·.1) = false := by rfl) : PE1 X (.Call (.Name nm p) (e :: es) [] pos) (tCall sp [] E t) := by
  intro pins s σ H Q I h
  refine wpAny_Call_Name_kw (ld_glob I hg hm ?_ nd)
  refine PySem.W.callWith_K (h₀ := X.base) I.ok.mod.kin hk (thn (ha pos pins s σ H _ I h) fun us s1 hh => ?_) st1 st2
  obtain ⟨h1, vs, H1, I1, r, q⟩ := hh
  exact ⟨I1.kIn, drop_toks h1 (run_fn F hr hb .nil hx I1 r q)⟩
def tRepl (y z : Str) (to : TE) : TE := fun σ H Q => to σ H fun v H1 => ∃ x, v = .str x ∧ x.length + (x.length + 1) * z.length ≤ 16777216 ∧ Q (.str (PySem.Txt.replace x y z)) H1
theorem pe1_repl {o : Expr} {to : TE} {y z : Str} {j k : Nat} {c0 c1 apos pos : Pos} (ho : PE1 X o to) (hyz : (y == z) = false := by decide)
    (hst : starEach [.Constant (.str y) j c0, .Constant (.str z) k c1] X.env = [(false, eval (.Constant (.str y) j c0) X.env), (false, eval (.Constant (.str z) k c1) X.env)] := by rfl)
    (hbase : attributeBase o "replace" X.env (eval o X.env) = eval o X.env := by rfl) (hline : (apos.endLine == pos.line) = true := by rfl) :
    PE1 X (.Call (.Attribute o "replace" apos) [.Constant (.str y) j c0, .Constant (.str z) k c1] [] pos) (tRepl y z to) := by
  intro pins s σ H Q I h
  refine PySem.Call_method2 hbase hst hline (thn (ho pins s σ H _ I h) fun v s1 q => ?_)
  obtain ⟨h1, v', H1, I1, r1, x, rfl, hb, q⟩ := q
  obtain ⟨tx, rfl⟩ := (show ∃ t, v = Value.str x t from r1)
  refine ⟨"str", _, PySem.F.plainAttrs_str, PySem.F.slot_str_replace, PySem.F.type_str_replace, typeIs_str _ _ _, (fun _ e => nomatch e), Calls.callWith_builtin rfl (Calls.evalArgs_plain (Calls.spliced_cons ?_))⟩
  refine Calls.Constant_str (Calls.spliced_cons (Calls.Constant_str (Calls.spliced_nil ?_)))
  refine drop_toks (n := 1) (by show 1 ≤ s1.toks + 1 + 1; omega) ?_
  refine PySem.SC.replace ?_ ?_ ?_ hyz hb fun t' k => ⟨.str (PySem.Txt.replace x y z), H1, I1.tok k, ⟨t', rfl⟩, q⟩
  · show s1.toks ≠ 0
    omega
  · show s1.toks + 1 ≠ 0
    omega
  · show s1.toks ≠ s1.toks + 1
    omega
end
end My
namespace My
open PySem PySem.Spec PyProof.Rows L2
/-- an own exception class of the top -/
structure Xc (K : PySem.W.Frag) (mg : Str → Option Value) (x : Str) where
  C : Addr
  g : mg x = some (.ref C)
  o : OexC K C
  x : XC K C
structure Xg (mg : Str → Option Value) (x : Str) where
  C : Addr
  g : mg x = some (.ref C)
/-- the __init__ of the class at C -/
structure Mi (K : PySem.W.Frag) (C : Addr) (q : Str) (st : Stmt) (ps : List Str) where
  f : Addr
  fd : FuncData
  F : Fun K "__init__" q st f fd
  b : Binds K fd ps []
  i : PySem.W.findIn K (.ref C) "__init__" = some (some (.ref f))
  t : PySem.W.typeIn K (.ref f) = some (.type "function")
structure Txt (K : PySem.W.Frag) (mg : Str → Option Value) where
  dis_whole : Df K mg "is_whole" (topS 9) ["value"]
  ddivisor : Df K mg "divisor" (topS 10) ["one", "other"]
  dis_ratio : Df K mg "is_ratio" (topS 11) ["value"]
  dwrite_ratio : Df K mg "write_ratio" (topS 14) ["one"]
  dread_digits : Df K mg "read_digits" (topS 15) ["word"]
  dread_ratio : Df K mg "read_ratio" (topS 16) ["word"]
  dstore : Df K mg "_law_store" (topS 18) ["script"]
  dtake : Df K mg "_law_take" (topS 19) ["store", "many"]
  dtens : Df K mg "_law_tens" (topS 20) ["figures"]
  dlow : Df K mg "_law_low" (topS 21) ["up", "down"]
  dalike : Df K mg "_law_alike" (topS 22) ["got", "due"]
  dpart : Df K mg "_law_part" (topS 23) ["store"]
  dnumber : Df K mg "_law_number" (topS 24) ["store"]
  ddigits : Df K mg "_law_digits" (topS 25) ["text"]
  dreading : Df K mg "_law_reading" (topS 26) ["text"]
  dbent : Df K mg "_law_bent" (topS 27) ["store", "text"]
  dshort : Df K mg "_law_short" (topS 28) ["store"]
  dlong : Df K mg "_law_long" (topS 29) ["store"]
  dtold : Df K mg "_law_told" (topS 30) ["way", "thing"]
  dlaw : Df K mg "law" (topS 31) ["script"]
  m_len : mg "len" = none
  m_max : mg "max" = none
  m_min : mg "min" = none
  m_abs : mg "abs" = none
  m_int : mg "int" = none
  m_str : mg "str" = none
  m_bool : mg "bool" = none
  m_list : mg "list" = none
  m_tuple : mg "tuple" = none
  m_dict : mg "dict" = none
  m_isinstance : mg "isinstance" = none
  m_range : mg "range" = none
  m_ValueError : mg "ValueError" = none
  dig : NoDig K
  uMOST_DIGITS : Value
  kMOST_DIGITS : mg "MOST_DIGITS" = some uMOST_DIGITS
  vMOST_DIGITS : RelV (.int 400) uMOST_DIGITS
  cFrameError : Xg mg "FrameError"
  cWrongKind : Xc K mg "WrongKind"
  cOutOfBounds : Xg mg "OutOfBounds"
  cRepeatedName : Xg mg "RepeatedName"
  cUnknownName : Xg mg "UnknownName"
  cUnfitError : Xg mg "UnfitError"
  cBadText : Xg mg "BadText"
  iWrongKind : Mi K cWrongKind.C "WrongKind.__init__" (inClass (topS 2) 0) ["self", "argument"]
  nWrongKind_argument : PySem.W.findIn K (.ref cWrongKind.C) "argument" = some none
  kWrongKind_OutOfBounds : PySem.W.kitOne K (.ref cWrongKind.C) (.ref cOutOfBounds.C) = some false
  kWrongKind_RepeatedName : PySem.W.kitOne K (.ref cWrongKind.C) (.ref cRepeatedName.C) = some false
  kWrongKind_UnknownName : PySem.W.kitOne K (.ref cWrongKind.C) (.ref cUnknownName.C) = some false
  kWrongKind_UnfitError : PySem.W.kitOne K (.ref cWrongKind.C) (.ref cUnfitError.C) = some false
  kWrongKind_BadText : PySem.W.kitOne K (.ref cWrongKind.C) (.ref cBadText.C) = some false
  kWrongKind_WrongKind : PySem.W.kitOne K (.ref cWrongKind.C) (.ref cWrongKind.C) = some true
  kWrongKind_ValueError : PySem.W.kitOne K (.ref cWrongKind.C) (.type "ValueError") = some true
  xWrongKind : PySem.W.exmOne K (.ref cWrongKind.C) (.ref cFrameError.C) = some true

end My
namespace My
open PySem PySem.Spec PyProof.Rows L2
local macro_rules | `(tactic| walk_at "arith") => `(tactic| first
  | (with_reducible show _ ≠ _; omega)
  | (unfold CMul; omega)
  | (unfold CPow; omega)
  | (unfold CPow; decide)
  | exact wide_div (b := 100) (by decide) (by decide) (by decide) (by decide))
local macro_rules | `(tactic| walk_at "go") => `(tactic| repeat (first
  | with_reducible refine g_seq ?_
  | with_reducible refine g_asg ?_
  | with_reducible refine g_name ?_
  | with_reducible refine g_sub ?_
  | with_reducible refine g_ret ?_
  | with_reducible refine g_drop ?_
  | ((with_reducible refine g_next ?_); dsimp only)
  | with_reducible refine g_if ?_
  | with_reducible refine g_var rfl ?_
  | with_reducible refine g_c ?_
  | with_reducible refine g_op ?_
  | with_reducible refine g_un ?_
  | with_reducible refine g_I0 ?_
  | with_reducible refine g_U ?_
  | with_reducible refine g_eq rfl ?_
  | with_reducible refine g_test ?_
  | with_reducible refine g_bl ?_
  | with_reducible refine iteF ?_
  | with_reducible refine iteT ?_
  | ((with_reducible apply g_iteT); (case e => rfl))
  | ((with_reducible apply g_iteF); (case e => rfl))
  | with_reducible refine g_int1 ?_
  | with_reducible refine g_max2 ?_
  | with_reducible refine g_min2 ?_
  | with_reducible refine g_isN ?_
  | with_reducible refine g_notN ?_
  | ((with_reducible apply g_lenL); (case hs => assumption))
  | ((with_reducible apply g_ixL); (case hs => exact SqL.of (by assumption)); (case ha => rfl))
  | with_reducible refine g_pow9 ?_
  | with_reducible refine g_pow18 ?_
  | ((with_reducible apply g_I); (case c => walk_at "arith"))
  | ((with_reducible apply g_st); (case hs => assumption); (case hL => assumption); (case ne => assumption); (case x0 => assumption); (case hj => rfl); (case j0 => decide); intro _ _ _ _)
  | with_reducible refine g_and ?_
  | with_reducible refine g_or ?_
  | with_reducible refine g_not ?_
  | with_reducible refine g_nil ?_
  | with_reducible refine g_cons ?_
  | with_reducible refine g_callB ?_
  | with_reducible refine g_call ?_
  | with_reducible refine g_tup ?_
  | with_reducible refine g_lst ?_
  | with_reducible refine g_andV ?_
  | with_reducible refine g_orV ?_
  | with_reducible refine g_notV ?_
  | with_reducible refine g_tB ?_
  | with_reducible refine g_ne rfl ?_
  | with_reducible refine g_abs ?_
  | with_reducible refine g_isB ?_
  | with_reducible refine g_for ?_
  | with_reducible refine g_rng1 ?_
  | with_reducible refine g_rng2 ?_
  | with_reducible refine g_iList ?_
  | ((with_reducible refine g_break ?_); dsimp only)
  | ((with_reducible refine g_cont ?_); dsimp only)
  | with_reducible refine g_retN ?_
  | ((with_reducible apply isi_go (T := "int")); (case h => assumption); (case hb => exact k_int_ _))
  | ((with_reducible apply isi_go (T := "str")); (case h => assumption); (case hb => exact k_str_ _))
  | ((with_reducible apply isi_go (T := "bool")); (case h => assumption); (case hb => exact k_bool_ _))
  | ((with_reducible apply isi_go (T := "list")); (case h => assumption); (case hb => exact k_list_ _))
  | ((with_reducible apply isi_go (T := "tuple")); (case h => assumption); (case hb => exact k_tuple_ _))
  | ((with_reducible apply isi_go (T := "dict")); (case h => assumption); (case hb => exact k_dict_ _))
  | with_reducible refine g_intb ?_))

abbrev s_take : Stmt := topS 19
abbrev N_take : List Str := ["store", "many", "cell", "got", "once", "twice"]
abbrev P_take : List Str := ["store", "many"]
theorem sc_take : FnScope N_take P_take (defScope s_take) := ⟨rfl, rfl, rfl, by decide +kernel, rfl, by decide +kernel, by decide +kernel⟩

def BN : Nat → Int
  | 0 => 1000000000
  | n + 1 => 1000000000 * (BN n - 1)
def spTakeN (K : PySem.W.Frag) : Nat → Sp
  | 0 => fun _ _ _ _ => False
  | n + 1 => spTake K (BN n)
theorem fmod0 {x m : Int} (h : 0 < m) : 0 ≤ x.fmod m := by
  rw [Int.fmod_eq_emod_of_nonneg _ (by omega)]
  exact Int.emod_nonneg _ (by omega)
theorem fmod1 {x m : Int} (h : 0 < m) : x.fmod m < m := by
  rw [Int.fmod_eq_emod_of_nonneg _ (by omega)]
  exact Int.emod_lt_of_pos _ h
theorem fmod_lt {x m : Int} {n : Nat} (h : 0 < m) (hm : m ≤ 2 ^ n) : (x.fmod m).natAbs < 2 ^ n := by
  have h0 := fmod0 (x := x) h
  have h1 := fmod1 (x := x) h
  have : ((x.fmod m).natAbs : Int) < (2 : Int) ^ n := by omega
  exact_mod_cast this
theorem BN_ge (n : Nat) : 1000000000 ≤ BN n := by
  induction n with
  | zero => exact Int.le_refl _
  | succ n ih =>
    have e : BN (n + 1) = 1000000000 * (BN n - 1) := rfl
    omega
section
variable {P : Program} {w : World} {K : PySem.W.Frag} {mg : Str → Option Value} {base : Heap}
theorem ok_take (T : Txt K mg) (n : Nat) : FnOk P w K mg base CX0 n T.dtake.f T.dtake.fd P_take (spTakeN K n) := by
  induction n with
  | zero => exact ⟨fun _ _ _ _ h => h.elim, fun _ _ _ _ _ _ _ _ _ _ _ _ _ h => h.elim⟩
  | succ n G_take =>
    refine T.dtake.F.ok sc_take (fun vs H Q E h => ?_) (fun cdv A outer s H vs Q E hr h => ?_)
    · obtain ⟨s, many, rfl, _⟩ := h
      rfl
    · obtain ⟨s, many, rfl, hst, hB, hW, k⟩ := h
      refine ⟨_, (pss_cons (ps_if (pt_cmpR op_lt (pv 1) pe_int (nomark _))
        (pss_one (ps_ret pe_int))
        pss_nil)
      (pss_cons (ps_asg (pe_op op_add (pe_ix ix_list (pv 0) pe_int (fun _ _ => rfl)) pe_int) (pg_sub (pv 0) pe_int set_list))
      (Evl.pss_cut (ps_if (PW.pt (pw_and (pt_cmpR op_eq (pe_ix ix_list (pv 0) pe_int (fun _ _ => rfl)) pe_int (nomark _)) (pw_and (pt_cmpR op_eq (pe_ix ix_list (pv 0) pe_int (fun _ _ => rfl)) pe_int (nomark _)) (pw_and1 (pt_cmpR op_lt (pe_ix ix_list (pv 0) pe_int (fun _ _ => rfl)) (pe_callB c_len (by rfl) T.m_len bt_len (pa_cons (pe_ix ix_list (pv 0) pe_int (fun _ _ => rfl)) pa_nil)) (nomark _))))))
        (pss_cons (ps_set (i := 2) sc_take.nd rfl (by first | exact .inl rfl | exact .inr rfl) (pe_callTy c_int1 (by rfl) T.m_int bt_int (pa_cons (pe_ix ix_list (pe_ix ix_list (pv 0) pe_int (fun _ _ => rfl)) (pe_ix ix_list (pv 0) pe_int (fun _ _ => rfl)) (fun _ _ => rfl)) pa_nil)))
        (pss_cons (ps_asg (pe_op op_add (pe_ix ix_list (pv 0) pe_int (fun _ _ => rfl)) pe_int) (pg_sub (pv 0) pe_int set_list))
        (pss_cons (ps_asg (pe_op op_modN (pe_callTy c_int1 (by rfl) T.m_int bt_int (pa_cons (pe_op op_add (pe_op op_add (pe_op op_mul (pe_ix ix_list (pv 0) pe_int (fun _ _ => rfl)) pe_int) (pv 2)) pe_int) pa_nil)) pe_int) (pg_sub (pv 0) pe_int set_list))
        (pss_one (ps_if (pt_cmpR op_ge (pe_callB (c_max2 rfl) (by rfl) T.m_max bt_max (pa_cons (pv 2) (pa_cons (pe_un un_neg (pv 2)) pa_nil))) (pe_op op_pow pe_int pe_int) (nomark _))
          (pss_one (ps_asg (pe_callB (c_max2 rfl) (by rfl) T.m_max bt_max (pa_cons (pv 2) (pa_cons (pe_un un_neg (pv 2)) pa_nil))) (pg_sub (pv 0) pe_int set_list)))
          (pss_one (ps_asg pe_int (pg_sub (pv 0) pe_int set_list))))))))
        pss_nil)
      (pss_cons (ps_if (pt_cmpR op_gt (pe_ix ix_list (pv 0) pe_int (fun _ _ => rfl)) pe_int (nomark _))
        (pss_cons (ps_set (i := 3) sc_take.nd rfl (by first | exact .inl rfl | exact .inr rfl) (pe_op op_modN (pe_callTy c_int1 (by rfl) T.m_int bt_int (pa_cons (pe_ix ix_list (pv 0) pe_int (fun _ _ => rfl)) pa_nil)) (pv 1)))
        (pss_cons (ps_asg (pe_op op_fdivW (pe_ix ix_list (pv 0) pe_int (fun _ _ => rfl)) (pv 1)) (pg_sub (pv 0) pe_int set_list))
        (pss_one (ps_ret (pv 3)))))
        pss_nil)
      (pss_cons (ps_if (pt_cmpR op_gt (pv 1) (pe_op op_pow pe_int pe_int) (nomark _))
        (pss_cons (ps_set (i := 3) sc_take.nd rfl (by first | exact .inl rfl | exact .inr rfl) (pe_call G_take (hr.mono (by omega)) rfl T.dtake.g T.dtake.F.kp T.dtake.b .nil pass0 (pa_cons (pv 0) (pa_cons (pe_op op_pow pe_int pe_int) pa_nil))))
        (pss_one (ps_ret (pe_op op_modN (pe_callTy c_int1 (by rfl) T.m_int bt_int (pa_cons (pe_op op_add (pv 3) (pe_op op_mul (pe_op op_pow pe_int pe_int) (pe_call G_take (hr.mono (by omega)) rfl T.dtake.g T.dtake.F.kp T.dtake.b .nil pass0 (pa_cons (pv 0) (pa_cons (pe_op op_add (pe_op op_fdivW (pv 1) (pe_op op_pow pe_int pe_int)) pe_int) pa_nil))))) pa_nil)) (pv 1)))))
        pss_nil)
      (pss_cons (ps_asg (pe_callB (c_max2 rfl) (by rfl) T.m_max bt_max (pa_cons pe_int (pa_cons (pe_op op_sub (pe_ix ix_list (pv 0) pe_int (fun _ _ => rfl)) pe_int) pa_nil))) (pg_sub (pv 0) pe_int set_list))
      (pss_cons (ps_set (i := 4) sc_take.nd rfl (by first | exact .inl rfl | exact .inr rfl) (pe_op op_add (pe_op op_add (pe_op op_mul (pe_ix ix_list (pv 0) pe_int (fun _ _ => rfl)) pe_int) (pe_op op_mul (pe_ix ix_list (pv 0) pe_int (fun _ _ => rfl)) pe_int)) pe_int))
      (pss_cons (ps_set (i := 4) sc_take.nd rfl (by first | exact .inl rfl | exact .inr rfl) (pe_op op_modN (pe_callTy c_int1 (by rfl) T.m_int bt_int (pa_cons (pv 4) pa_nil)) pe_int))
      (pss_cons (ps_asg (pv 4) (pg_sub (pv 0) pe_int set_list))
      (pss_cons (ps_set (i := 5) sc_take.nd rfl (by first | exact .inl rfl | exact .inr rfl) (pe_op op_modN (pe_callTy c_int1 (by rfl) T.m_int bt_int (pa_cons (pe_op op_add (pe_op op_add (pe_op op_mulW (pv 4) (pv 4)) (pe_op op_fdivW (pv 4) pe_int)) (pe_ix ix_list (pv 0) pe_int (fun _ _ => rfl))) pa_nil)) pe_int))
      (pss_one (ps_ret (pe_op op_modN (pe_callTy c_int1 (by rfl) T.m_int bt_int (pa_cons (pe_op op_fdivW (pv 5) pe_int) pa_nil)) (pv 1)))))))))))))), ?_⟩
      obtain ⟨L, ns, p, a, b, c, d, hs, ne, hL, p0, a0, b0, c0, c1, len⟩ := hst
      have x0 := Sx.refl s H
      dsimp only [cxOf, Cx.nox, Cx.wish]
      walk_at "go"
      refine g_ite (fun h => ?_) (fun h => ?_)
      · walk_at "go"
        exact k 0 H (Int.le_refl _) (.inl rfl) x0 ⟨L, ns, p, a, b, c, d, hs, ne, hL, p0, a0, b0, c0, c1, len⟩
      have hm : 2 ≤ many := by
        have := of_decide_eq_false h
        omega
      walk_at "go"
      refine g_cut (Mid := fun σ' H' => ∃ v p a b c d, σ' = [some (.ref s), some (.int many), v, none, none, none] ∧ StOk K H' s L ns p a b c d ∧ Sx s H H') ?_ ?_
      · walk_at "go"
        refine g_ite (fun h1 => ?_) (fun h1 => ?_)
        · walk_at "go"
          refine g_ite (fun h2 => ?_) (fun h2 => ?_)
          · walk_at "go"
            refine g_ite (fun h3 => ?_) (fun h3 => ?_)
            · walk_at "go"
              have hp : p < ns.length := by
                have := of_decide_eq_true h3
                rw [List.length_map] at this
                exact this
              refine g_ixL (by assumption) (atI_map V.int ns p 0 p0 hp) ?_
              walk_at "go"
              refine g_ite (fun h4 => ?_) (fun h4 => ?_)
              · walk_at "go"
                exact ⟨_, p + 1, _, b, _, _, rfl, ⟨by assumption, ne, by assumption, by omega, by have := of_decide_eq_true h4; omega, b0, by exact fmod0 (by decide), by exact fmod1 (by decide), len⟩, by assumption⟩
              · walk_at "go"
                exact ⟨_, p + 1, a, _, _, _, rfl, ⟨by assumption, ne, by assumption, by omega, a0, by decide, by exact fmod0 (by decide), by exact fmod1 (by decide), len⟩, by assumption⟩
            · walk_at "go"
              exact ⟨_, p, a, b, c, _, rfl, ⟨by assumption, ne, by assumption, p0, a0, b0, c0, c1, len⟩, by assumption⟩
          · walk_at "go"
            exact ⟨_, p, a, b, c, _, rfl, ⟨by assumption, ne, by assumption, p0, a0, b0, c0, c1, len⟩, by assumption⟩
        · walk_at "go"
          exact ⟨_, p, a, b, c, _, rfl, ⟨by assumption, ne, by assumption, p0, a0, b0, c0, c1, len⟩, by assumption⟩
      · rintro σ' H' ⟨v, p, a, b, c, d, rfl, ⟨hs, ne, hL, p0, a0, b0, c0, c1, len⟩, x0⟩
        walk_at "go"
        refine g_ite (fun h5 => ?_) (fun h5 => ?_)
        · walk_at "go"
          refine g_I (big_div (by omega) hW) ?_
          walk_at "go"
          refine k _ _ (fmod0 (by omega)) (.inr (fmod1 (by omega))) (by assumption) ⟨L, ns, p, _, b, c, d, ⟨by assumption, ne, by assumption, p0, ?_, b0, c0, c1, len⟩⟩
          exact Int.ediv_nonneg (by have := of_decide_eq_true h5; omega) (by omega)
        walk_at "go"
        refine g_ite (fun h6 => ?_) (fun h6 => ?_)
        · have hbig := of_decide_eq_true h6
          cases n with
          | zero =>
            exfalso
            have : BN 0 = 1000000000 := rfl
            omega
          | succ m =>
            have eB : BN (m + 1) = 1000000000 * (BN m - 1) := rfl
            have eG := BN_ge m
            walk_at "go"
            refine ⟨s, _, rfl, ⟨L, ns, p, a, b, c, d, hs, ne, hL, p0, a0, b0, c0, c1, len⟩, by omega, by unfold BIG; omega, fun r H1 r0 r1 x1 st1 => ?_⟩
            walk_at "go"
            refine ⟨s, _, rfl, st1, by omega, by omega, fun r2 H2 r20 r21 x2 st2 => ?_⟩
            walk_at "go"
            exact k _ _ (fmod0 (by omega)) (.inr (fmod1 (by omega))) ((x0.trans x1).trans x2) st2
        walk_at "go"
        refine g_I (wide_mul (a := 61) (b := 61) (fmod_lt (by decide) (by decide)) (fmod_lt (by decide) (by decide)) (by decide) (by decide) (by decide)) ?_
        walk_at "go"
        refine k _ _ (fmod0 (by omega)) (.inr (fmod1 (by omega))) (by assumption) ⟨L, ns, p, a, _, _, d, ⟨by assumption, ne, by assumption, p0, a0, ?_, by exact fmod0 (by decide), by exact fmod1 (by decide), len⟩⟩
        split <;> omega
end
end My
namespace My
open PySem PySem.Spec PyProof.Rows L2
local macro_rules | `(tactic| walk_at "arith") => `(tactic| first
  | (with_reducible show _ ≠ _; omega)
  | (unfold CMul; omega)
  | (unfold CPow; omega)
  | (unfold CPow; decide)
  | exact wide_div (b := 100) (by decide) (by decide) (by decide) (by decide))
local macro_rules | `(tactic| walk_at "go") => `(tactic| repeat (first
  | with_reducible refine g_seq ?_
  | with_reducible refine g_asg ?_
  | with_reducible refine g_name ?_
  | with_reducible refine g_sub ?_
  | with_reducible refine g_ret ?_
  | with_reducible refine g_drop ?_
  | ((with_reducible refine g_next ?_); dsimp only)
  | with_reducible refine g_if ?_
  | with_reducible refine g_var rfl ?_
  | with_reducible refine g_c ?_
  | with_reducible refine g_op ?_
  | with_reducible refine g_un ?_
  | with_reducible refine g_I0 ?_
  | with_reducible refine g_U ?_
  | with_reducible refine g_eq rfl ?_
  | with_reducible refine g_test ?_
  | with_reducible refine g_bl ?_
  | with_reducible refine iteF ?_
  | with_reducible refine iteT ?_
  | ((with_reducible apply g_iteT); (case e => rfl))
  | ((with_reducible apply g_iteF); (case e => rfl))
  | with_reducible refine g_int1 ?_
  | with_reducible refine g_max2 ?_
  | with_reducible refine g_min2 ?_
  | with_reducible refine g_isN ?_
  | with_reducible refine g_notN ?_
  | ((with_reducible apply g_lenL); (case hs => assumption))
  | ((with_reducible apply g_ixL); (case hs => exact SqL.of (by assumption)); (case ha => rfl))
  | with_reducible refine g_pow9 ?_
  | with_reducible refine g_pow18 ?_
  | ((with_reducible apply g_I); (case c => walk_at "arith"))
  | ((with_reducible apply g_st); (case hs => assumption); (case hL => assumption); (case ne => assumption); (case x0 => assumption); (case hj => rfl); (case j0 => decide); intro _ _ _ _)
  | with_reducible refine g_and ?_
  | with_reducible refine g_or ?_
  | with_reducible refine g_not ?_
  | with_reducible refine g_nil ?_
  | with_reducible refine g_cons ?_
  | with_reducible refine g_callB ?_
  | with_reducible refine g_call ?_
  | with_reducible refine g_tup ?_
  | with_reducible refine g_lst ?_
  | with_reducible refine g_andV ?_
  | with_reducible refine g_orV ?_
  | with_reducible refine g_notV ?_
  | with_reducible refine g_tB ?_
  | with_reducible refine g_ne rfl ?_
  | with_reducible refine g_abs ?_
  | with_reducible refine g_isB ?_
  | with_reducible refine g_for ?_
  | with_reducible refine g_rng1 ?_
  | with_reducible refine g_rng2 ?_
  | with_reducible refine g_iList ?_
  | ((with_reducible refine g_break ?_); dsimp only)
  | ((with_reducible refine g_cont ?_); dsimp only)
  | with_reducible refine g_retN ?_
  | ((with_reducible apply isi_go (T := "int")); (case h => assumption); (case hb => exact k_int_ _))
  | ((with_reducible apply isi_go (T := "str")); (case h => assumption); (case hb => exact k_str_ _))
  | ((with_reducible apply isi_go (T := "bool")); (case h => assumption); (case hb => exact k_bool_ _))
  | ((with_reducible apply isi_go (T := "list")); (case h => assumption); (case hb => exact k_list_ _))
  | ((with_reducible apply isi_go (T := "tuple")); (case h => assumption); (case hb => exact k_tuple_ _))
  | ((with_reducible apply isi_go (T := "dict")); (case h => assumption); (case hb => exact k_dict_ _))
  | with_reducible refine g_intb ?_))

theorem fn_weak {P : Program} {w : World} {K : PySem.W.Frag} {mg : Str → Option Value} {base : Heap} {CX : CXT} {k : Nat} {f : Addr} {fd : FuncData} {ps : List Str} {sp sp' : Sp} (F : FnOk P w K mg base CX k f fd ps sp) (h : ∀ vs H Q E, sp' vs H Q E → sp vs H Q E) : FnOk P w K mg base CX k f fd ps sp' :=
  ⟨fun vs H Q E z => F.len vs H Q E (h vs H Q E z), fun A outer s H args us vs Q E a b c d e => F.run A outer s H args us vs Q E a b c d (h vs H Q E e)⟩
theorem big_of {m : Int} (h : m ≤ 1000000000) : m < BIG := by
  have : (1000000000 : Int) < BIG := by decide +kernel
  omega
theorem BN_big : BIG ≤ BN 170 := by decide +kernel
def spTakeB (K : PySem.W.Frag) : Sp := fun vs H Q _ => ∃ (s : Addr) (many : Int), vs = [.ref s, .int many] ∧ Store K H s ∧ many < BIG ∧
  ∀ (r : Int) (H' : Hp), 0 ≤ r → (r = 0 ∨ r < many) → Sx s H H' → Store K H' s → Q (.int r) H'
theorem take_go {K : PySem.W.Frag} {H : Hp} {s : Addr} {many : Int} {Q : VK} {E : XK} (st : Store K H s) (hm : many < BIG)
    (k : ∀ (r : Int) (H' : Hp), 0 ≤ r → (r = 0 ∨ r < many) → Sx s H H' → Store K H' s → Q (.int r) H') : spTakeB K [.ref s, .int many] H Q E := ⟨s, many, rfl, st, hm, k⟩
def spBetween (K : PySem.W.Frag) : Sp := fun vs H Q _ => ∃ (s : Addr) (low high : Int), vs = [.ref s, .int low, .int high] ∧ Store K H s ∧ low ≤ high ∧ high - low < 1000000000 ∧
  ∀ (r : Int) (H' : Hp), low ≤ r → r ≤ high → Sx s H H' → Store K H' s → Q (.int r) H'
def spTens : Sp := fun vs H Q _ => ∃ (n : Nat), vs = [.int n] ∧ n ≤ 1000 ∧ Q (.int (10 ^ n)) H
def spInteger (K : PySem.W.Frag) : Sp := fun vs H Q _ => ∃ (s : Addr) (figures : Int), vs = [.ref s, .int figures] ∧ Store K H s ∧ 0 ≤ figures ∧ figures ≤ 1000 ∧
  ∀ (r : Int) (H' : Hp), -(10 ^ 1000) < r → r < 10 ^ 1000 → Sx s H H' → Store K H' s → Q (.int r) H'
def spStore (K : PySem.W.Frag) : Sp := fun vs H Q _ => ∃ (a : Addr) (ns : List Int), vs = [.ref a] ∧ SqL K H a (ns.map V.int) ∧ ns.length ≤ 63 ∧
  ∀ (s : Addr) (H' : Hp), H s = none → Same H H' → Store K H' s → Q (.ref s) H'
abbrev s_store : Stmt := topS 18
abbrev N_store : List Str := ["script"]
abbrev P_store : List Str := ["script"]
theorem sc_store : FnScope N_store P_store (defScope s_store) := ⟨rfl, rfl, rfl, by decide +kernel, rfl, by decide +kernel, by decide +kernel⟩

abbrev s_tens : Stmt := topS 20
abbrev N_tens : List Str := ["figures"]
abbrev P_tens : List Str := ["figures"]
theorem sc_tens : FnScope N_tens P_tens (defScope s_tens) := ⟨rfl, rfl, rfl, by decide +kernel, rfl, by decide +kernel, by decide +kernel⟩

/-! ### "1" and zeros -/
theorem foldl_rep {α : Type} (xs : Array α) (n : Nat) : ((List.replicate n xs).foldl (· ++ ·) (#[] : Array α)).toList = (List.replicate n xs.toList).flatten := by
  have h : ∀ (n : Nat) (acc : Array α), ((List.replicate n xs).foldl (· ++ ·) acc).toList = acc.toList ++ (List.replicate n xs.toList).flatten := by
    intro n
    induction n with
    | zero => intro acc; simp
    | succ n ih =>
      intro acc
      rw [List.replicate_succ, List.foldl_cons, ih, Array.toList_append, List.replicate_succ, List.flatten_cons, List.append_assoc]
  rw [h n #[]]
  rfl
theorem mul_list (z : Str) (n : Nat) : (PySem.Txt.mul z n).cps.toList = (List.replicate n z.cps.toList).flatten := by
  unfold PySem.Txt.mul
  by_cases h : (n : Int) < 1
  · have e : n = 0 := by omega
    subst e
    rfl
  · rw [if_neg h]
    by_cases h2 : ((n : Int) == 1 || z.length == 0) = true
    · rw [if_pos h2]
      rcases Bool.or_eq_true_iff.mp h2 with h3 | h3
      · have e : n = 1 := by
          have := beq_iff_eq.mp h3
          omega
        subst e
        simp
      · have e : z.cps.toList = [] := by
          have h4 : z.cps.size = 0 := beq_iff_eq.mp h3
          exact List.eq_nil_of_length_eq_zero (by rw [Array.length_toList]; exact h4)
        rw [e]
        simp
    · rw [if_neg h2]
      rw [show ((n : Int)).toNat = n from rfl]
      exact foldl_rep z.cps n
theorem rep_one (c n : Nat) : (List.replicate n [c]).flatten = List.replicate n c := by
  induction n with
  | zero => rfl
  | succ n ih => rw [List.replicate_succ, List.flatten_cons, ih]; rfl
theorem str_app (x y : Str) : (x ++ y).cps.toList = x.cps.toList ++ y.cps.toList := Array.toList_append
theorem one_zeros (n : Nat) : (("1" : Str) ++ PySem.Txt.mul "0" n).cps.toList = 49 :: List.replicate n 48 := by
  rw [str_app, mul_list]
  have e1 : ("1" : Str).cps.toList = [49] := by decide +kernel
  have e0 : ("0" : Str).cps.toList = [48] := by decide +kernel
  rw [e1, e0, rep_one]
  rfl
theorem val_zeros (n a : Nat) : (List.replicate n 48).foldl (fun acc c => acc * 10 + (c - 48)) a = a * 10 ^ n := by
  induction n generalizing a with
  | zero => simp
  | succ n ih =>
    rw [List.replicate_succ, List.foldl_cons, ih, Nat.pow_succ]
    show (a * 10 + 0) * 10 ^ n = a * (10 ^ n * 10)
    rw [Nat.add_zero, Nat.mul_assoc, Nat.mul_comm 10]
theorem digs_zeros (n : Nat) : PySem.NumText.AllDigits (49 :: List.replicate n 48) := by
  intro c hc
  rcases List.mem_cons.mp hc with e | h
  · subst e
    decide
  · have e := (List.mem_replicate.mp h).2
    subst e
    decide
theorem str_len (x : Str) : x.length = x.cps.toList.length := by rw [Array.length_toList]; rfl
theorem tens_read (n : Nat) (h : n ≤ 1000) : PySem.intText? (("1" : Str) ++ PySem.Txt.mul "0" n) = some ((10 ^ n : Nat) : Int) := by
  have e := one_zeros n
  have l : (("1" : Str) ++ PySem.Txt.mul "0" n).length ≤ 4300 := by
    rw [str_len, e]
    simp
    omega
  rw [PySem.intText_digits (by rw [e]; exact digs_zeros n) (by rw [e]; exact List.cons_ne_nil _ _) l, e]
  have v : PySem.NumText.digitsVal (49 :: List.replicate n 48) = 10 ^ n := by
    show (List.replicate n 48).foldl (fun acc c => acc * 10 + (c - 48)) 1 = 10 ^ n
    rw [val_zeros, Nat.one_mul]
  rw [v]
theorem seen_digits (x : Str) (h : PySem.NumText.AllDigits x.cps.toList) : (PySem.numSeenOf x).length = x.length := by
  have ha : x.cps.all (· < 128) = true := by
    rw [← Array.all_toList, List.all_eq_true]
    intro c hc
    have := h c hc
    exact decide_eq_true (by omega)
  have e : PySem.numTextOf x = x.cps.toList := if_pos ha
  have t : ∀ l : List Nat, PySem.NumText.AllDigits l → l.takeWhile (· != 0) = l := by
    intro l
    induction l with
    | nil => intro _; rfl
    | cons c r ih =>
      intro hl
      have hc := hl.head
      rw [List.takeWhile_cons, if_pos (by simp; omega), ih hl.tail]
  show ((PySem.numTextOf x).takeWhile (· != 0)).length = x.length
  rw [e, t _ h, str_len]
theorem ten_le {n m : Nat} (h : n ≤ m) : (10 : Int) ^ n ≤ 10 ^ m := by
  have := Nat.pow_le_pow_right (show 0 < 10 by decide) h
  exact_mod_cast this
theorem ten_lt {n m : Nat} (h : n < m) : (10 : Int) ^ n < 10 ^ m := by
  have := Nat.pow_lt_pow_right (show 1 < 10 by decide) h
  exact_mod_cast this
theorem ten_pos (n : Nat) : (1 : Int) ≤ 10 ^ n := by
  have := Nat.pow_pos (n := n) (show 0 < 10 by decide)
  have h : (1 : Nat) ≤ 10 ^ n := this
  exact_mod_cast h
theorem ten_big : (10 : Int) ^ 1000 < BIG := by decide +kernel
section
variable {P : Program} {w : World} {K : PySem.W.Frag} {mg : Str → Option Value} {base : Heap}
theorem ok_takeB (T : Txt K mg) : FnOk P w K mg base CX0 171 T.dtake.f T.dtake.fd P_take (spTakeB K) :=
  fn_weak (ok_take (P := P) (w := w) (base := base) T 171) fun vs H Q E h => by
    obtain ⟨s, many, e, st, hm, k⟩ := h
    exact ⟨s, many, e, st, Int.le_of_lt (Int.lt_of_lt_of_le hm BN_big), hm, k⟩
theorem ok_store (T : Txt K mg) : FnOk P w K mg base CX0 1 T.dstore.f T.dstore.fd P_store (spStore K) := by
  refine T.dstore.F.ok sc_store (fun vs H Q E h => ?_) (fun cdv A outer s H vs Q E hr h => ?_)
  · obtain ⟨a, ns, rfl, _⟩ := h
    rfl
  · obtain ⟨a, ns, rfl, hq, hl, k⟩ := h
    refine ⟨_, (pss_one (ps_ret (pe_lst (pa_cons (pe_callTy c_list (by rfl) T.m_list bt_list (pa_cons (pv 0) pa_nil)) (pa_cons pe_int (pa_cons pe_int (pa_cons pe_int (pa_cons pe_int (pa_cons pe_int pa_nil))))))))), ?_⟩
    try dsimp only [cxOf, Cx.nox, Cx.wish]
    walk_at "go"
    refine ⟨a, _, rfl, .inl hq, fun L hL => ?_⟩
    walk_at "go"
    refine ⟨by show 6 ≤ sizeLine; decide, fun p hp => ?_⟩
    have nLp : L ≠ p := fun e => by
      rw [← e, upd_same] at hp
      cases hp
    have sL : Same H (upd H L (.lst (ns.map V.int))) := same_new hL
    refine k p _ (sL.free hp) (sL.trans (same_new hp)) ⟨L, ns, 0, 0, 0, 0, 0, ⟨upd_same, nLp, ?_, by decide, by decide, by decide, by decide, by decide, hl⟩⟩
    exact .inl (.inl (by rw [upd_ne nLp, upd_same]))
theorem ok_tens (T : Txt K mg) : FnOk P w K mg base CX0 1 T.dtens.f T.dtens.fd P_tens spTens := by
  refine T.dtens.F.ok sc_tens (fun vs H Q E h => ?_) (fun cdv A outer s_ H vs Q E hr h => ?_)
  · obtain ⟨n, rfl, _⟩ := h
    rfl
  · obtain ⟨n, rfl, h1, k⟩ := h
    refine ⟨_, (pss_one (ps_ret (pe_callTy c_intS (by rfl) T.m_int bt_int (pa_cons (pe_op o_addS pe_str (pe_op o_mulS pe_str (pv 0))) pa_nil)))), ?_⟩
    try dsimp only [cxOf, Cx.nox, Cx.wish]
    walk_at "go"
    refine ⟨_, _, rfl, rfl, by omega, by omega, by decide, ?_⟩
    have e := one_zeros n
    have l : (("1" : Str) ++ PySem.Txt.mul "0" n).length = n + 1 := by
      rw [str_len, e]
      simp
    have l2 : ("1" : Str).length + (PySem.Txt.mul "0" n).length = n + 1 := by
      rw [← l, str_len, str_len, str_len, str_app, List.length_append]
    refine g_addS (by rw [l2, sizeLine_eq]; omega) ?_
    walk_at "go"
    refine ⟨_, _, rfl, tens_read n h1, by rw [l, sizeLine_eq]; omega, seen_digits _ (by rw [e]; exact digs_zeros n), T.dig, ?_⟩
    have v : (((10 ^ n : Nat)) : Int) = (10 : Int) ^ n := by exact_mod_cast rfl
    rw [v]
    exact k
end
end My
namespace My
open PySem PySem.Spec PyProof.Rows L2
/-! ### data -/
inductive D where
  | non | bl (b : Bool) | int (i : Int) | str (x : Str) | dct | tup (l : List D) | lst (l : List D)
mutual
/-- at v stands the data d, apart from s -/
def Da (s : Addr) (H : Hp) : D → V → Prop
  | .non, v => v = .non
  | .bl b, v => v = .bl b
  | .int i, v => v = .int i
  | .str x, v => v = .str x
  | .dct, v => ∃ a, v = .ref a ∧ a ≠ s ∧ H a = some (.dK [])
  | .tup l, v => ∃ a xs, v = .ref a ∧ a ≠ s ∧ H a = some (.tup xs) ∧ DaL s H l xs
  | .lst l, v => ∃ a xs, v = .ref a ∧ a ≠ s ∧ H a = some (.lst xs) ∧ DaL s H l xs
def DaL (s : Addr) (H : Hp) : List D → List V → Prop
  | [], xs => xs = []
  | d :: l, xs => ∃ x r, xs = x :: r ∧ Da s H d x ∧ DaL s H l r
end
mutual
theorem Da.mono {s : Addr} {H H' : Hp} (x : Sx s H H') : ∀ (d : D) (v : V), Da s H d v → Da s H' d v
  | .non, _, h => h
  | .bl _, _, h => h
  | .int _, _, h => h
  | .str _, _, h => h
  | .dct, _, ⟨a, e, n, h⟩ => ⟨a, e, n, x.kp a _ n h⟩
  | .tup l, _, ⟨a, xs, e, n, h, q⟩ => ⟨a, xs, e, n, x.kp a _ n h, DaL.mono x l xs q⟩
  | .lst l, _, ⟨a, xs, e, n, h, q⟩ => ⟨a, xs, e, n, x.kp a _ n h, DaL.mono x l xs q⟩
theorem DaL.mono {s : Addr} {H H' : Hp} (x : Sx s H H') : ∀ (l : List D) (xs : List V), DaL s H l xs → DaL s H' l xs
  | [], _, h => h
  | d :: l, _, ⟨v, r, e, h, q⟩ => ⟨v, r, e, Da.mono x d v h, DaL.mono x l r q⟩
end
theorem DaL.len {s : Addr} {H : Hp} : ∀ {l : List D} {xs : List V}, DaL s H l xs → xs.length = l.length
  | [], _, h => by
    have e : _ = _ := h
    rw [e]
    rfl
  | d :: l, _, ⟨v, r, e, h, q⟩ => by
    rw [e, List.length_cons, List.length_cons, q.len]
theorem DaL.get {s : Addr} {H : Hp} : ∀ {l : List D} {xs : List V} {i : Nat} {d : D}, DaL s H l xs → l[i]? = some d → ∃ v, xs[i]? = some v ∧ Da s H d v
  | [], _, _, _, _, e => by simp at e
  | c :: l, _, 0, d, ⟨v, r, e1, h, q⟩, e => by
    have e2 : c = d := by simpa using e
    subst e2
    exact ⟨v, by rw [e1]; rfl, h⟩
  | c :: l, _, i + 1, d, ⟨v, r, e1, h, q⟩, e => by
    obtain ⟨z, h1, h2⟩ := q.get (i := i) (d := d) (by simpa using e)
    exact ⟨z, by rw [e1]; simpa using h1, h2⟩
theorem DaL.back {s : Addr} {H : Hp} : ∀ {l : List D} {xs : List V} {i : Nat} {v : V}, DaL s H l xs → xs[i]? = some v → ∃ d, l[i]? = some d ∧ Da s H d v := fun {l xs i v} q e => by
  have hi : i < xs.length := (List.getElem?_eq_some_iff.mp e).1
  rw [q.len] at hi
  obtain ⟨w, h1, h2⟩ := q.get (List.getElem?_eq_getElem hi)
  have e2 : v = w := Option.some.inj (e.symm.trans h1)
  subst e2
  exact ⟨_, List.getElem?_eq_getElem hi, h2⟩
theorem DaL.app {s : Addr} {H : Hp} : ∀ {l m : List D} {xs ys : List V}, DaL s H l xs → DaL s H m ys → DaL s H (l ++ m) (xs ++ ys)
  | [], _, _, _, h, q => by
    have e : _ = _ := h
    rw [e]
    exact q
  | d :: l, m, _, ys, ⟨v, r, e, h, z⟩, q => ⟨v, r ++ ys, by rw [e]; rfl, h, z.app q⟩
/-- no dict, at most so deep -/
def Ok : Nat → D → Prop
  | _, .non => True
  | _, .bl _ => True
  | _, .int _ => True
  | _, .str _ => True
  | _, .dct => False
  | 0, .tup _ => False
  | 0, .lst _ => False
  | n + 1, .tup l => l.length ≤ 1000000 ∧ ∀ d ∈ l, Ok n d
  | n + 1, .lst l => l.length ≤ 1000000 ∧ ∀ d ∈ l, Ok n d
/-! ### isinstance -/
def tyN : D → String
  | .non => "NoneType"
  | .bl _ => "bool"
  | .int _ => "int"
  | .str _ => "str"
  | .dct => "dict"
  | .tup _ => "tuple"
  | .lst _ => "list"
theorem Da.ty {K : PySem.W.Frag} {s : Addr} {H : Hp} : ∀ {d : D} {v : V}, Da s H d v → TyX K H v (.type (tyN d))
  | .non, _, h => by
    have e : _ = _ := h
    subst e
    exact .base .non
  | .bl b, _, h => by
    have e : _ = _ := h
    subst e
    exact .base (.bl b)
  | .int b, _, h => by
    have e : _ = _ := h
    subst e
    exact .base (.int b)
  | .str b, _, h => by
    have e : _ = _ := h
    subst e
    exact .base (.str b)
  | .dct, _, ⟨a, e, n, h⟩ => by
    subst e
    exact .base (.dK h)
  | .tup l, _, ⟨a, xs, e, n, h, q⟩ => by
    subst e
    exact .base (.tup h)
  | .lst l, _, ⟨a, xs, e, n, h, q⟩ => by
    subst e
    exact .base (.lst h)
theorem isi_go {K : PySem.W.Frag} {s : Addr} {H : Hp} {d : D} {v : V} {T : String} {b : Bool} {Q : VK} (h : Da s H d v) (hb : kitB (tyN d) T = some b) (q : Q (.bl b) H) : rIsi K [v, .ty T] H Q :=
  ⟨v, .ty T, _, _, b, rfl, .ty T, h.ty, kit_ty hb, q⟩
theorem isi2_go {K : PySem.W.Frag} {s tp : Addr} {H : Hp} {d : D} {v : V} {b c : Bool} {T U : String} {Q : VK} (h : Da s H d v) (ht : H tp = some (.tup [.ty T, .ty U])) (hb : kitB (tyN d) T = some b) (hc : kitB (tyN d) U = some c)
    (q : Q (.bl (b || c)) H) : rIsiT K [v, .ref tp] H Q := by
  refine ⟨v, tp, _, _, _, b || c, rfl, ht, .cons (.ty T) (.cons (.ty U) .nil), h.ty, ?_, q⟩
  refine kitAny_cons (kit_ty hb) (fun e => ?_) (fun e => by rw [e]; rfl)
  refine kitAny_cons (kit_ty hc) (fun e2 => ?_) (fun e2 => by rw [e2, Bool.or_true])
  rw [e, e2]
  exact kitAny_nil
theorem k_NoneType : kitB "NoneType" "int" = some false ∧ kitB "NoneType" "str" = some false ∧ kitB "NoneType" "bool" = some false ∧ kitB "NoneType" "list" = some false ∧ kitB "NoneType" "tuple" = some false ∧ kitB "NoneType" "dict" = some false := by decide +kernel
theorem k_bool : kitB "bool" "int" = some true ∧ kitB "bool" "str" = some false ∧ kitB "bool" "bool" = some true ∧ kitB "bool" "list" = some false ∧ kitB "bool" "tuple" = some false ∧ kitB "bool" "dict" = some false := by decide +kernel
theorem k_int : kitB "int" "int" = some true ∧ kitB "int" "str" = some false ∧ kitB "int" "bool" = some false ∧ kitB "int" "list" = some false ∧ kitB "int" "tuple" = some false ∧ kitB "int" "dict" = some false := by decide +kernel
theorem k_str : kitB "str" "int" = some false ∧ kitB "str" "str" = some true ∧ kitB "str" "bool" = some false ∧ kitB "str" "list" = some false ∧ kitB "str" "tuple" = some false ∧ kitB "str" "dict" = some false := by decide +kernel
theorem k_dict : kitB "dict" "int" = some false ∧ kitB "dict" "str" = some false ∧ kitB "dict" "bool" = some false ∧ kitB "dict" "list" = some false ∧ kitB "dict" "tuple" = some false ∧ kitB "dict" "dict" = some true := by decide +kernel
theorem k_tuple : kitB "tuple" "int" = some false ∧ kitB "tuple" "str" = some false ∧ kitB "tuple" "bool" = some false ∧ kitB "tuple" "list" = some false ∧ kitB "tuple" "tuple" = some true ∧ kitB "tuple" "dict" = some false := by decide +kernel
theorem k_list : kitB "list" "int" = some false ∧ kitB "list" "str" = some false ∧ kitB "list" "bool" = some false ∧ kitB "list" "list" = some true ∧ kitB "list" "tuple" = some false ∧ kitB "list" "dict" = some false := by decide +kernel
def isIn (d : D) (T : String) : Bool := match d with
  | .non => false
  | .bl _ => T == "bool" || T == "int"
  | .int _ => T == "int"
  | .str _ => T == "str"
  | .dct => T == "dict"
  | .tup _ => T == "tuple"
  | .lst _ => T == "list"
theorem k_int_ : ∀ d : D, kitB (tyN d) "int" = some (isIn d "int")
  | .non => k_NoneType.1
  | .bl _ => k_bool.1
  | .int _ => k_int.1
  | .str _ => k_str.1
  | .dct => k_dict.1
  | .tup _ => k_tuple.1
  | .lst _ => k_list.1
theorem k_str_ : ∀ d : D, kitB (tyN d) "str" = some (isIn d "str")
  | .non => k_NoneType.2.1
  | .bl _ => k_bool.2.1
  | .int _ => k_int.2.1
  | .str _ => k_str.2.1
  | .dct => k_dict.2.1
  | .tup _ => k_tuple.2.1
  | .lst _ => k_list.2.1
theorem k_bool_ : ∀ d : D, kitB (tyN d) "bool" = some (isIn d "bool")
  | .non => k_NoneType.2.2.1
  | .bl _ => k_bool.2.2.1
  | .int _ => k_int.2.2.1
  | .str _ => k_str.2.2.1
  | .dct => k_dict.2.2.1
  | .tup _ => k_tuple.2.2.1
  | .lst _ => k_list.2.2.1
theorem k_list_ : ∀ d : D, kitB (tyN d) "list" = some (isIn d "list")
  | .non => k_NoneType.2.2.2.1
  | .bl _ => k_bool.2.2.2.1
  | .int _ => k_int.2.2.2.1
  | .str _ => k_str.2.2.2.1
  | .dct => k_dict.2.2.2.1
  | .tup _ => k_tuple.2.2.2.1
  | .lst _ => k_list.2.2.2.1
theorem k_tuple_ : ∀ d : D, kitB (tyN d) "tuple" = some (isIn d "tuple")
  | .non => k_NoneType.2.2.2.2.1
  | .bl _ => k_bool.2.2.2.2.1
  | .int _ => k_int.2.2.2.2.1
  | .str _ => k_str.2.2.2.2.1
  | .dct => k_dict.2.2.2.2.1
  | .tup _ => k_tuple.2.2.2.2.1
  | .lst _ => k_list.2.2.2.2.1
theorem k_dict_ : ∀ d : D, kitB (tyN d) "dict" = some (isIn d "dict")
  | .non => k_NoneType.2.2.2.2.2
  | .bl _ => k_bool.2.2.2.2.2
  | .int _ => k_int.2.2.2.2.2
  | .str _ => k_str.2.2.2.2.2
  | .dct => k_dict.2.2.2.2.2
  | .tup _ => k_tuple.2.2.2.2.2
  | .lst _ => k_list.2.2.2.2.2
theorem _root_.L2.Same.sqt {K : PySem.W.Frag} {H H' : Hp} {a : Addr} {xs : List V} (x : Same H H') (h : SqT K H a xs) : SqT K H' a xs := by
  rcases h with (h | ⟨o, h⟩) | h
  · exact .inl (.inl (x _ _ h))
  · exact .inl (.inr ⟨o, x _ _ h⟩)
  · exact .inr h
theorem at_i {α : Type} {xs : List α} {i : Nat} {v : α} (h : xs[i]? = some v) : atI xs (0 + (i : Int)) = some v := by
  rw [Int.zero_add]
  exact atI_nat h
local macro_rules | `(tactic| walk_at "arith") => `(tactic| first
  | (with_reducible show _ ≠ _; omega)
  | (unfold CMul; omega)
  | (unfold CPow; omega)
  | (unfold CPow; decide)
  | exact wide_div (b := 100) (by decide) (by decide) (by decide) (by decide))
local macro_rules | `(tactic| walk_at "go") => `(tactic| repeat (first
  | with_reducible refine g_seq ?_
  | with_reducible refine g_asg ?_
  | with_reducible refine g_name ?_
  | with_reducible refine g_sub ?_
  | with_reducible refine g_ret ?_
  | with_reducible refine g_drop ?_
  | ((with_reducible refine g_next ?_); dsimp only)
  | with_reducible refine g_if ?_
  | with_reducible refine g_var rfl ?_
  | with_reducible refine g_c ?_
  | with_reducible refine g_op ?_
  | with_reducible refine g_un ?_
  | with_reducible refine g_I0 ?_
  | with_reducible refine g_U ?_
  | with_reducible refine g_eq rfl ?_
  | with_reducible refine g_test ?_
  | with_reducible refine g_bl ?_
  | with_reducible refine iteF ?_
  | with_reducible refine iteT ?_
  | ((with_reducible apply g_iteT); (case e => rfl))
  | ((with_reducible apply g_iteF); (case e => rfl))
  | with_reducible refine g_int1 ?_
  | with_reducible refine g_max2 ?_
  | with_reducible refine g_min2 ?_
  | with_reducible refine g_isN ?_
  | with_reducible refine g_notN ?_
  | ((with_reducible apply g_lenL); (case hs => assumption))
  | ((with_reducible apply g_ixL); (case hs => exact SqL.of (by assumption)); (case ha => rfl))
  | with_reducible refine g_pow9 ?_
  | with_reducible refine g_pow18 ?_
  | ((with_reducible apply g_I); (case c => walk_at "arith"))
  | ((with_reducible apply g_st); (case hs => assumption); (case hL => assumption); (case ne => assumption); (case x0 => assumption); (case hj => rfl); (case j0 => decide); intro _ _ _ _)
  | with_reducible refine g_and ?_
  | with_reducible refine g_or ?_
  | with_reducible refine g_not ?_
  | with_reducible refine g_nil ?_
  | with_reducible refine g_cons ?_
  | with_reducible refine g_callB ?_
  | with_reducible refine g_call ?_
  | with_reducible refine g_tup ?_
  | with_reducible refine g_lst ?_
  | with_reducible refine g_andV ?_
  | with_reducible refine g_orV ?_
  | with_reducible refine g_notV ?_
  | with_reducible refine g_tB ?_
  | with_reducible refine g_ne rfl ?_
  | with_reducible refine g_abs ?_
  | with_reducible refine g_isB ?_
  | with_reducible refine g_for ?_
  | with_reducible refine g_rng1 ?_
  | with_reducible refine g_rng2 ?_
  | with_reducible refine g_iList ?_
  | ((with_reducible refine g_break ?_); dsimp only)
  | ((with_reducible refine g_cont ?_); dsimp only)
  | with_reducible refine g_retN ?_
  | ((with_reducible apply isi_go (T := "int")); (case h => assumption); (case hb => exact k_int_ _))
  | ((with_reducible apply isi_go (T := "str")); (case h => assumption); (case hb => exact k_str_ _))
  | ((with_reducible apply isi_go (T := "bool")); (case h => assumption); (case hb => exact k_bool_ _))
  | ((with_reducible apply isi_go (T := "list")); (case h => assumption); (case hb => exact k_list_ _))
  | ((with_reducible apply isi_go (T := "tuple")); (case h => assumption); (case hb => exact k_tuple_ _))
  | ((with_reducible apply isi_go (T := "dict")); (case h => assumption); (case hb => exact k_dict_ _))
  | with_reducible refine g_intb ?_))

end My
namespace My
open PySem PySem.Spec PyProof.Rows L2
/-! ### steps of methods -/
def rJoin (K : PySem.W.Frag) : V → List V → Hp → VK → Prop := fun x xs H Q => ∃ a p, ∃ ys : List Str, x = .str a ∧ xs = [.ref p] ∧ (SqL K H p (ys.map V.str) ∨ SqT K H p (ys.map V.str)) ∧
    (ys.map (·.length)).sum + ys.length * a.length ≤ 16777216 ∧ Q (.str (Txt.join a ys)) H
theorem m_join {X : Cx} : MtR X "str.join" (rJoin X.K) := mt_join
def rSplit : V → List V → Hp → VK → Prop := fun x xs H Q => ∃ a b, x = .str a ∧ xs = [.str b] ∧ (b.length == 0) = false ∧ a.length + 2 ≤ sizeLine ∧ rNewStrs (Txt.split a b) H Q
theorem m_split {X : Cx} : MtR X "str.split" rSplit := mt_split
def rInsert : V → List V → Hp → VK → Prop := fun x vs H Q => ∃ (l : Addr) (xs : List V) (i : Int) (y : V), x = .ref l ∧ vs = [.int i, y] ∧ H l = some (.lst xs) ∧ xs.length < sizeLine ∧ 0 ≤ i ∧ i < 2 ^ 63 ∧
    Q .non (upd H l (.lst (xs.take i.toNat ++ [y] ++ xs.drop i.toNat)))
theorem m_insert {X : Cx} : MtR X "list.insert" rInsert := mt_insert
def rInS : R2 := fun x y H Q => ∃ (c : Nat) (z : Str), x = .str ⟨#[c]⟩ ∧ y = .str z ∧ Q (.bl (decide (c ∈ z.cps.toList))) H
theorem o_inS {X : Cx} : OpR X (compareOp .In) rInS := op_in_sign
section
variable {σ : L2.St} {H : Hp} {Q : VK} {D : Ends} {to te : TE} {t : TA}
theorem g_bm {K : PySem.W.Frag} {T : String} {r : V → List V → Hp → VK → Prop} (h : to σ H fun x H1 => tyV K T x H1 ∧ t σ H1 fun xs H2 => r x xs H2 Q) : tBM K T r to t σ H Q := h
theorem g_tyL {K : PySem.W.Frag} {p : Addr} {xs : List V} {R : Prop} (hs : H p = some (.lst xs)) (h : R) : tyV K "list" (.ref p) H ∧ R := ⟨.inl ⟨rfl, xs, SqL.of hs⟩, h⟩
theorem g_tyS {K : PySem.W.Frag} {z : Str} {R : Prop} (h : R) : tyV K "str" (.str z) H ∧ R := ⟨rfl, h⟩
theorem g_app {l : Addr} {xs : List V} {y : V} (hH : H l = some (.lst xs)) (hz : xs.length < sizeLine) (h : Q .non (upd H l (.lst (xs ++ [y])))) : rAppend (.ref l) [y] H Q := ⟨l, xs, y, rfl, rfl, hH, hz, h⟩
theorem g_list {K : PySem.W.Frag} {p : Addr} {xs : List V} (hs : SqL K H p xs) (h : ∀ l, H l = none → Q (.ref l) (upd H l (.lst xs))) : rListQ K [.ref p] H Q := ⟨p, xs, rfl, .inl hs, h⟩
theorem g_sl {r : V → Option Int → Option Int → Hp → VK → Prop} {tl th : TO} (h : te σ H fun x H1 => tl σ H1 fun l H2 => th σ H2 fun u H3 => r x l u H3 Q) : tSl r te tl th σ H Q := h
theorem g_noP {R : Option Int → Hp → Prop} (h : R none H) : tNoPart σ H R := h
theorem g_part {R : Option Int → Hp → Prop} (h : te σ H fun x H1 => ∃ i, x = .int i ∧ R (some i) H1) : tPart te σ H R := h
theorem g_pI {i : Int} {R : Int → Prop} (h : R i) : ∃ j, V.int i = .int j ∧ R j := ⟨i, rfl, h⟩
theorem g_lc {wi : TI} {g : TG} {tt : TT} {vs : List Nat} (h : wi σ H fun J H1 => ∀ D, H1 D = none → ∃ W : Nat → Nat → Hp → Prop, (∃ m, W 0 m (upd H1 D (.lst []))) ∧ ∀ i m H, W i m H →
  (J.stop i H ∧ Q (.ref D) H) ∨ (J.go i H ∧ ∃ Nx : Hp → Prop, (∀ H', Nx H' → ∃ m', m' < m ∧ W (i + 1) m' H') ∧ ∀ x H', J.yld i H x H' → g x (wipe σ vs) H' fun σ2 H2 => wipe σ2 vs = wipe σ vs ∧ tt σ2 H2 fun b H3 =>
    if b = true then te σ2 H3 fun y H4 => ∃ acc, H4 D = some (.lst acc) ∧ acc.length < sizeLine ∧ Nx (upd H4 D (.lst (acc ++ [y]))) else Nx H3)) : tLc wi g tt te vs σ H Q := h
end
theorem idx_ok {i : Int} {n : Nat} (h0 : 0 ≤ i) (h1 : i < n) : seqIndex? i n = some i.toNat := by
  have e : (if i < 0 then i + (n : Int) else i) = i := if_neg (by omega)
  unfold seqIndex?
  simp only [e]
  rw [if_pos (by simp [h0, h1])]
end My
namespace My
open PySem PySem.Spec PyProof.Rows L2
/-! ### new data -/
theorem Da.tupI {K : PySem.W.Frag} {s p : Addr} {H : Hp} {l : List D} {xs : List V} (st : Store K H s) (hp : H p = none) (q : DaL s H l xs) : Da s (upd H p (.tup xs)) (.tup l) (.ref p) :=
  ⟨p, xs, rfl, st.ne hp, upd_same, DaL.mono (Sx.new hp) _ _ q⟩
theorem Da.lstI {K : PySem.W.Frag} {s p : Addr} {H : Hp} {l : List D} {xs : List V} (st : Store K H s) (hp : H p = none) (q : DaL s H l xs) : Da s (upd H p (.lst xs)) (.lst l) (.ref p) :=
  ⟨p, xs, rfl, st.ne hp, upd_same, DaL.mono (Sx.new hp) _ _ q⟩
theorem Da.dctI {K : PySem.W.Frag} {s p : Addr} {H : Hp} (st : Store K H s) (hp : H p = none) : Da s (upd H p (.dK [])) .dct (.ref p) :=
  ⟨p, rfl, st.ne hp, upd_same⟩
theorem Store.new {K : PySem.W.Frag} {s p : Addr} {H : Hp} {o : HO} (st : Store K H s) (hp : H p = none) : Store K (upd H p o) s := st.same (same_new hp)
theorem DaL.nil {s : Addr} {H : Hp} : DaL s H [] [] := rfl
theorem DaL.cons {s : Addr} {H : Hp} {d : D} {l : List D} {x : V} {xs : List V} (h : Da s H d x) (q : DaL s H l xs) : DaL s H (d :: l) (x :: xs) := ⟨x, xs, rfl, h, q⟩
/-- what is new since H0 -/
def newOf (H0 H : Hp) : Hp := fun b => match H0 b with
  | none => H b
  | some _ => none
theorem newOf_n {H0 H : Hp} {b : Addr} (h : H0 b = none) : newOf H0 H b = H b := by
  unfold newOf
  rw [h]
theorem newOf_s {H0 H : Hp} {b : Addr} {o : HO} (h : newOf H0 H b = some o) : H0 b = none ∧ H b = some o := by
  unfold newOf at h
  cases e : H0 b with
  | none =>
    rw [e] at h
    exact ⟨rfl, h⟩
  | some u =>
    rw [e] at h
    cases h
theorem Sx.newOf {s : Addr} {H H' : Hp} (H0 : Hp) (x : Sx s H H') : Sx s (newOf H0 H) (newOf H0 H') := ⟨fun b o n h => by
  obtain ⟨h1, h2⟩ := newOf_s h
  rw [newOf_n h1]
  exact x.kp b o n h2, fun L xs h => by
  obtain ⟨h1, h2⟩ := newOf_s h
  rw [newOf_n h1]
  exact x.ce L xs h2⟩
theorem newOf_sub (s : Addr) (H0 H : Hp) : Sx s (newOf H0 H) H := Sx.of fun b o h => (newOf_s h).2
theorem newOf_anti {s : Addr} {H0 H1 H : Hp} (h : ∀ b, H1 b = none → H0 b = none) : Sx s (newOf H1 H) (newOf H0 H) := Sx.of fun b o e => by
  obtain ⟨h1, h2⟩ := newOf_s e
  rw [newOf_n (h b h1)]
  exact h2
theorem Da.tupN {K : PySem.W.Frag} {s p : Addr} {H0 H : Hp} {l : List D} {xs : List V} (st : Store K H s) (h0 : H0 p = none) (hp : H p = none) (q : DaL s (newOf H0 H) l xs) : Da s (newOf H0 (upd H p (.tup xs))) (.tup l) (.ref p) :=
  ⟨p, xs, rfl, st.ne hp, by rw [newOf_n h0, upd_same], DaL.mono (Sx.newOf H0 (Sx.new hp)) _ _ q⟩
theorem Da.lstN {K : PySem.W.Frag} {s p : Addr} {H0 H : Hp} {l : List D} {xs : List V} (st : Store K H s) (h0 : H0 p = none) (hp : H p = none) (q : DaL s (newOf H0 H) l xs) : Da s (newOf H0 (upd H p (.lst xs))) (.lst l) (.ref p) :=
  ⟨p, xs, rfl, st.ne hp, by rw [newOf_n h0, upd_same], DaL.mono (Sx.newOf H0 (Sx.new hp)) _ _ q⟩
theorem Da.dctN {K : PySem.W.Frag} {s p : Addr} {H0 H : Hp} (st : Store K H s) (h0 : H0 p = none) (hp : H p = none) : Da s (newOf H0 (upd H p (.dK []))) .dct (.ref p) :=
  ⟨p, rfl, st.ne hp, by rw [newOf_n h0, upd_same]⟩
def badInt (d : D) : Bool := !isIn d "int" || isIn d "bool"
def badTxt (d : D) : Bool := !isIn d "str"
def spOdd (K : PySem.W.Frag) (f : D → Bool) : Sp := fun vs H Q _ => ∃ (s : Addr), vs = [.ref s] ∧ Store K H s ∧
  ∀ (d : D) (v : V) (H' : Hp), f d = true → Da s (newOf H H') d v → Sx s H H' → Store K H' s → Q v H'
theorem at_da {s : Addr} {H : Hp} {l : List D} {xs : List V} {r : Int} {f : D → Bool} (q : DaL s H l xs) (r0 : 0 ≤ r) (r1 : r < l.length) (hf : l.all f = true) : ∃ d v, atI xs r = some v ∧ Da s H d v ∧ f d = true := by
  have hr : r.toNat < l.length := by omega
  obtain ⟨v, e, h⟩ := q.get (List.getElem?_eq_getElem hr)
  refine ⟨_, v, ?_, h, List.all_eq_true.mp hf _ (List.getElem_mem hr)⟩
  have e2 : r = (r.toNat : Int) := by omega
  rw [e2]
  exact atI_nat e
end My
namespace My
open PySem PySem.Spec PyProof.Rows L2
/-! ### texts -/
def Free (x : Str) : Prop := 32 ∉ x.cps.toList ∧ 10 ∉ x.cps.toList
theorem joinL_mem {c : Nat} {S : List Nat} : ∀ {ls : List (List Nat)}, c ∈ TL.joinL S ls → c ∈ S ∨ ∃ l ∈ ls, c ∈ l
  | [], h => by cases h
  | [p], h => .inr ⟨p, List.mem_singleton.mpr rfl, h⟩
  | p :: q :: r, h => by
    rcases List.mem_append.mp (show c ∈ p ++ (S ++ TL.joinL S (q :: r)) from h) with h | h
    · exact .inr ⟨p, List.mem_cons_self .., h⟩
    rcases List.mem_append.mp h with h | h
    · exact .inl h
    rcases joinL_mem h with h | ⟨l, h1, h2⟩
    · exact .inl h
    · exact .inr ⟨l, List.mem_cons_of_mem _ h1, h2⟩
theorem joinL_len {S : List Nat} : ∀ {ls : List (List Nat)}, (TL.joinL S ls).length ≤ (ls.map List.length).sum + ls.length * S.length
  | [] => Nat.zero_le _
  | [p] => by
    show p.length ≤ _
    simp
  | p :: q :: r => by
    have e : (TL.joinL S (p :: q :: r)).length = p.length + (S.length + (TL.joinL S (q :: r)).length) := by
      show (p ++ (S ++ TL.joinL S (q :: r))).length = _
      rw [List.length_append, List.length_append]
    have ih := joinL_len (S := S) (ls := q :: r)
    rw [e, List.map_cons, List.sum_cons, List.length_cons (a := p), Nat.succ_mul]
    omega
theorem joinL_flat : ∀ ls : List (List Nat), TL.joinL [] ls = ls.flatten
  | [] => rfl
  | [p] => by
    show p = [p].flatten
    simp
  | p :: q :: r => by
    show p ++ ([] ++ TL.joinL [] (q :: r)) = _
    rw [joinL_flat (q :: r), List.nil_append, List.flatten_cons (l := p)]
theorem join_tl (y : Str) (ps : List Str) : (Txt.join y ps).cps.toList = TL.joinL y.cps.toList (ps.map fun p => p.cps.toList) := by
  rw [TL.join_eq]
  exact TL.tl_join y ps
theorem join_mem {c : Nat} {y : Str} {ps : List Str} (h : c ∈ (Txt.join y ps).cps.toList) : c ∈ y.cps.toList ∨ ∃ p ∈ ps, c ∈ p.cps.toList := by
  rw [join_tl] at h
  rcases joinL_mem h with h | ⟨l, h1, h2⟩
  · exact .inl h
  · obtain ⟨p, h3, h4⟩ := List.mem_map.mp h1
    subst h4
    exact .inr ⟨p, h3, h2⟩
theorem join_len (y : Str) (ps : List Str) : (Txt.join y ps).length ≤ (ps.map (·.length)).sum + ps.length * y.length := by
  rw [str_len, join_tl]
  have h := joinL_len (S := y.cps.toList) (ls := ps.map fun p => p.cps.toList)
  rw [List.map_map, List.length_map] at h
  have e : ((fun p : List Nat => p.length) ∘ fun p : Str => p.cps.toList) = fun p : Str => p.length := funext fun p => (str_len p).symm
  have e2 : (List.length ∘ fun p : Str => p.cps.toList) = fun p : Str => p.length := e
  rw [e2] at h
  rw [str_len y]
  exact h
theorem sp_tl : (" " : Str).cps.toList = [32] := by decide +kernel
theorem kind_sp (x : Str) : ¬ Builtin.Str.strKind x < Builtin.Str.strKind (" " : Str) := by
  have e : Builtin.Str.strKind (" " : Str) = 1 := by decide +kernel
  rw [e]
  unfold Builtin.Str.strKind
  repeat (first | omega | split)
theorem str_ext {x y : Str} (h : x.cps.toList = y.cps.toList) : x = y := by
  cases x
  cases y
  exact congrArg _ (Array.toList_inj.mp h)
theorem map_tl_inj : ∀ {ps qs : List Str}, ps.map (fun p => p.cps.toList) = qs.map (fun p => p.cps.toList) → ps = qs
  | [], [], _ => rfl
  | [], _ :: _, h => by cases h
  | _ :: _, [], h => by cases h
  | p :: ps, q :: qs, h => by
    rw [List.map_cons, List.map_cons] at h
    injection h with h1 h2
    rw [str_ext h1, map_tl_inj h2]
theorem split_join {ps : List Str} (hn : ps ≠ []) (hf : ∀ p ∈ ps, 32 ∉ p.cps.toList) : Txt.split (Txt.join " " ps) " " = ps := by
  refine map_tl_inj ?_
  have h := TL.split_spl (Txt.join " " ps) " " (by show (" " : Str).cps.toList ≠ []; rw [sp_tl]; exact List.cons_ne_nil _ _) (kind_sp _)
  have e : (Txt.split (Txt.join " " ps) " ").map (fun p => p.cps.toList) = TL.spl [32] 0 [] (TL.joinL [32] (ps.map fun p => p.cps.toList)) := by
    have e1 : TL.tl (" " : Str) = [32] := sp_tl
    have e2 : TL.tl (Txt.join " " ps) = TL.joinL [32] (ps.map fun p => p.cps.toList) := by
      rw [← sp_tl]
      exact join_tl " " ps
    rw [e1, e2] at h
    exact h
  rw [e]
  refine TL.spl_join (by intro z; exact hn (List.map_eq_nil_iff.mp z)) fun p hp => ?_
  obtain ⟨q, hq, e3⟩ := List.mem_map.mp hp
  rw [← e3]
  exact hf q hq
theorem replL1 (a b : Nat) : ∀ l : List Nat, StrLaws.replL [a] [b] l = l.map fun c => if c = a then b else c
  | [] => StrLaws.replL_nil
  | c :: r => by
    by_cases h : c = a
    · subst h
      rw [StrLaws.replL_hit (List.cons_ne_nil _ _) rfl, List.map_cons, if_pos rfl]
      show [b] ++ StrLaws.replL [c] [b] r = _
      rw [replL1 c b r]
      rfl
    · rw [StrLaws.replL_miss (by
        intro e
        have e2 : [c] = [a] := e
        injection e2 with e3
        exact h e3), List.map_cons, if_neg h, replL1 a b r]
theorem rep1 {x y z : Str} {a b : Nat} (hy : y.cps.toList = [a]) (hz : z.cps.toList = [b]) : (Txt.replace x y z).cps.toList = x.cps.toList.map fun c => if c = a then b else c := by
  rw [StrLaws.replace_list (by rw [str_len, hy]; exact Nat.le_refl 1), hy, hz, replL1]
theorem ones_mem {c : Nat} {ys : List Str} {M : List Nat} (h : ∀ y ∈ ys, ∃ c ∈ M, y = ⟨#[c]⟩) (hc : c ∈ (Txt.join "" ys).cps.toList) : c ∈ M := by
  rcases join_mem hc with h1 | ⟨p, h1, h2⟩
  · have e : ("" : Str).cps.toList = [] := by decide +kernel
    rw [e] at h1
    cases h1
  · obtain ⟨d, h3, h4⟩ := h p h1
    subst h4
    rw [show c = d from List.mem_singleton.mp h2]
    exact h3
theorem ones_len {ys : List Str} {M : List Nat} (h : ∀ y ∈ ys, ∃ c ∈ M, y = ⟨#[c]⟩) : (Txt.join "" ys).length = ys.length ∧ (ys.map (·.length)).sum = ys.length := by
  have h1 : ∀ y ∈ ys, y.length = 1 := fun y hy => by
    obtain ⟨c, _, e⟩ := h y hy
    rw [e]
    rfl
  have e : (ys.map (·.length)).sum = ys.length := by
    clear h
    induction ys with
    | nil => rfl
    | cons y r ih => rw [List.map_cons, List.sum_cons, h1 y (List.mem_cons_self ..), ih fun z hz => h1 z (List.mem_cons_of_mem _ hz), List.length_cons, Nat.add_comm]
  refine ⟨?_, e⟩
  have e0 : ("" : Str).cps.toList = [] := by decide +kernel
  have e2 : (List.length ∘ fun p : Str => p.cps.toList) = fun p : Str => p.length := funext fun p => (str_len p).symm
  rw [str_len, join_tl, e0, joinL_flat, List.length_flatten, List.map_map, e2, e]
theorem at_get {xs : List Nat} {i : Int} (h0 : 0 ≤ i) (h1 : i < xs.length) : ∃ c ∈ xs, atI xs i = some c := by
  obtain ⟨j, rfl⟩ : ∃ j : Nat, i = j := ⟨i.toNat, by omega⟩
  have hj : j < xs.length := by omega
  exact ⟨xs[j], List.getElem_mem hj, atI_nat (List.getElem?_eq_getElem hj)⟩
theorem g_yes {σ : L2.St} {H : Hp} {Q : Bool → Hp → Prop} (h : Q true H) : tYes σ H Q := h
end My
namespace My
open PySem PySem.Spec PyProof.Rows L2
/-! ### numbers as texts, up to 4300 digits -/
def rStrW (K : PySem.W.Frag) : List V → Hp → VK → Prop := fun xs H Q => ∃ i : Int, xs = [.int i] ∧ i.natAbs < 10 ^ 4300 ∧ NoDig K ∧ Q (.str (toString i)) H
theorem c_strW {X : Cx} (hc : X.calm = true) : CallR X (.type "str") (rStrW X.K) := by
  intro pins s σ H xs us Q I r h
  obtain ⟨i, rfl, hz, nd, q⟩ := h
  cases r with
  | cons r1 r2 =>
    cases r2
    obtain ⟨t, rfl⟩ := r1
    exact PyProof.Rows.str_of_int_or (I.ok.hd hc) (noDigits nd I) (fun _ => ⟨.str _, H, I.tok _, ⟨_, rfl⟩, q⟩) (fun hge => absurd hz (Nat.not_lt.mpr hge))
def tFmtW (K : PySem.W.Frag) (te : TE) : TE := fun σ H Q => te σ H fun x H1 => ∃ i : Int, x = .int i ∧ i.natAbs < 10 ^ 4300 ∧ NoDig K ∧ Q (.str (toString i)) H1
theorem pe_fmtW {X : Cx} {e : Expr} {te : TE} {pos : Pos} (hc : X.calm = true) (he : PE X e te) : PE X (.FormattedValue e (-1) none pos) (tFmtW X.K te) := by
  refine ⟨fun pins s σ H Q I h => ?_⟩
  refine wpAny_FormattedValue_plain (thn (he.run pins s σ H _ I h) fun v s1 hv => ?_)
  obtain ⟨x, H1, I1, r1, i, rfl, hz, nd, q⟩ := hv
  obtain ⟨t, rfl⟩ := r1
  exact PyProof.Rows.formatField_int (I1.ok.hd hc) (noDigits nd I1) (fun _ => ⟨.str (toString i), H1, (I1.tok _).tok _, ⟨_, rfl⟩, q⟩) (fun hge => absurd hz (Nat.not_lt.mpr hge))
section
variable {K : PySem.W.Frag} {H : Hp} {Q : VK} {σ : L2.St} {te : TE} {D : Ends}
theorem g_strW {i : Int} (hz : i.natAbs < 10 ^ 4300) (nd : NoDig K) (h : Q (.str (toString i)) H) : rStrW K [.int i] H Q := ⟨i, rfl, hz, nd, h⟩
theorem g_fmtW (h : te σ H fun x H1 => ∃ i : Int, x = .int i ∧ i.natAbs < 10 ^ 4300 ∧ NoDig K ∧ Q (.str (toString i)) H1) : tFmtW K te σ H Q := h
theorem g_par {i j : Nat} {ta : TA} (h : ta σ H fun vs H1 => ∃ v w, vs = [v, w] ∧ D.nx ((σ.set i (some v)).set j (some w)) H1) : tPar i j ta D σ H := h
theorem g_two {v w : V} {R : V → V → Prop} (h : R v w) : ∃ a b, [v, w] = [a, b] ∧ R a b := ⟨v, w, rfl, h⟩
theorem g_ifE {c : TT} {ta tb : TE} (h : c σ H fun b H1 => if b = true then ta σ H1 Q else tb σ H1 Q) : tIf c ta tb σ H Q := h
theorem g_gTup {K : PySem.W.Frag} {n : Nat} {t : TGs} {a : Addr} {xs : List V} {R : L2.St → Hp → Prop} (hs : SqT K H a xs) (hn : xs.length = n) (h : t xs σ H R) : gTup K n t (.ref a) σ H R := ⟨a, xs, rfl, hs, hn, h⟩
theorem g_gCons {t : TG} {u : TGs} {v : V} {r : List V} {R : L2.St → Hp → Prop} (h : t v σ H fun σ' H' => u r σ' H' R) : gCons t u (v :: r) σ H R := ⟨v, r, rfl, h⟩
theorem g_gNil {R : L2.St → Hp → Prop} (h : R σ H) : gNil [] σ H R := ⟨rfl, h⟩
end
local macro_rules | `(tactic| walk_at "arith") => `(tactic| first
  | (with_reducible show _ ≠ _; omega)
  | (unfold CMul; omega)
  | (unfold CPow; omega)
  | (unfold CPow; decide)
  | exact wide_div (b := 100) (by decide) (by decide) (by decide) (by decide))
local macro_rules | `(tactic| walk_at "go") => `(tactic| repeat (first
  | with_reducible refine g_seq ?_
  | with_reducible refine g_asg ?_
  | with_reducible refine g_name ?_
  | with_reducible refine g_sub ?_
  | with_reducible refine g_ret ?_
  | with_reducible refine g_drop ?_
  | ((with_reducible refine g_next ?_); dsimp only)
  | with_reducible refine g_if ?_
  | with_reducible refine g_var rfl ?_
  | with_reducible refine g_c ?_
  | with_reducible refine g_op ?_
  | with_reducible refine g_un ?_
  | with_reducible refine g_I0 ?_
  | with_reducible refine g_U ?_
  | with_reducible refine g_eq rfl ?_
  | with_reducible refine g_test ?_
  | with_reducible refine g_bl ?_
  | with_reducible refine iteF ?_
  | with_reducible refine iteT ?_
  | ((with_reducible apply g_iteT); (case e => rfl))
  | ((with_reducible apply g_iteF); (case e => rfl))
  | with_reducible refine g_int1 ?_
  | with_reducible refine g_max2 ?_
  | with_reducible refine g_min2 ?_
  | with_reducible refine g_isN ?_
  | with_reducible refine g_notN ?_
  | ((with_reducible apply g_lenL); (case hs => assumption))
  | ((with_reducible apply g_ixL); (case hs => exact SqL.of (by assumption)); (case ha => rfl))
  | with_reducible refine g_pow9 ?_
  | with_reducible refine g_pow18 ?_
  | ((with_reducible apply g_I); (case c => walk_at "arith"))
  | ((with_reducible apply g_st); (case hs => assumption); (case hL => assumption); (case ne => assumption); (case x0 => assumption); (case hj => rfl); (case j0 => decide); intro _ _ _ _)
  | with_reducible refine g_and ?_
  | with_reducible refine g_or ?_
  | with_reducible refine g_not ?_
  | with_reducible refine g_nil ?_
  | with_reducible refine g_cons ?_
  | with_reducible refine g_callB ?_
  | with_reducible refine g_call ?_
  | with_reducible refine g_tup ?_
  | with_reducible refine g_lst ?_
  | with_reducible refine g_andV ?_
  | with_reducible refine g_orV ?_
  | with_reducible refine g_notV ?_
  | with_reducible refine g_tB ?_
  | with_reducible refine g_ne rfl ?_
  | with_reducible refine g_abs ?_
  | with_reducible refine g_isB ?_
  | with_reducible refine g_for ?_
  | with_reducible refine g_rng1 ?_
  | with_reducible refine g_rng2 ?_
  | with_reducible refine g_iList ?_
  | ((with_reducible refine g_break ?_); dsimp only)
  | ((with_reducible refine g_cont ?_); dsimp only)
  | with_reducible refine g_retN ?_
  | ((with_reducible apply isi_go (T := "int")); (case h => assumption); (case hb => exact k_int_ _))
  | ((with_reducible apply isi_go (T := "str")); (case h => assumption); (case hb => exact k_str_ _))
  | ((with_reducible apply isi_go (T := "bool")); (case h => assumption); (case hb => exact k_bool_ _))
  | ((with_reducible apply isi_go (T := "list")); (case h => assumption); (case hb => exact k_list_ _))
  | ((with_reducible apply isi_go (T := "tuple")); (case h => assumption); (case hb => exact k_tuple_ _))
  | ((with_reducible apply isi_go (T := "dict")); (case h => assumption); (case hb => exact k_dict_ _))
  | with_reducible refine g_intb ?_
  | with_reducible refine g_bm ?_
  | with_reducible refine g_tyS ?_
  | ((with_reducible apply g_tyL); (case hs => assumption))
  | with_reducible refine g_lc ?_
  | with_reducible refine g_sl ?_
  | with_reducible refine g_noP ?_
  | with_reducible refine g_part ?_
  | with_reducible refine g_pI ?_
  | with_reducible refine g_ifE ?_
  | with_reducible refine g_par ?_
  | with_reducible refine g_two ?_
  | with_reducible refine g_yes ?_
  | with_reducible refine g_gCons ?_
  | with_reducible refine g_gNil ?_))

abbrev s_is_whole : Stmt := topS 9
abbrev N_is_whole : List Str := ["value"]
abbrev P_is_whole : List Str := ["value"]
theorem sc_is_whole : FnScope N_is_whole P_is_whole (defScope s_is_whole) := ⟨rfl, rfl, rfl, by decide +kernel, rfl, by decide +kernel, by decide +kernel⟩

abbrev s_divisor : Stmt := topS 10
abbrev N_divisor : List Str := ["one", "other", "first", "second"]
abbrev P_divisor : List Str := ["one", "other"]
theorem sc_divisor : FnScope N_divisor P_divisor (defScope s_divisor) := ⟨rfl, rfl, rfl, by decide +kernel, rfl, by decide +kernel, by decide +kernel⟩

abbrev s_is_ratio : Stmt := topS 11
abbrev N_is_ratio : List Str := ["value", "top", "bottom"]
abbrev P_is_ratio : List Str := ["value"]
theorem sc_is_ratio : FnScope N_is_ratio P_is_ratio (defScope s_is_ratio) := ⟨rfl, rfl, rfl, by decide +kernel, rfl, by decide +kernel, by decide +kernel⟩

abbrev s_low : Stmt := topS 21
abbrev N_low : List Str := ["up", "down", "one", "two", "rest"]
abbrev P_low : List Str := ["up", "down"]
theorem sc_low : FnScope N_low P_low (defScope s_low) := ⟨rfl, rfl, rfl, by decide +kernel, rfl, by decide +kernel, by decide +kernel⟩

/-! ### the greatest common divisor -/
theorem fmod_nat (m n : Nat) (h : 0 < n) : (m : Int).fmod (n : Int) = ((m % n : Nat) : Int) := by
  rw [Int.fmod_eq_emod_of_nonneg _ (by omega)]
  exact (Int.natCast_emod m n).symm
theorem gcd_step (m n : Nat) : Nat.gcd n (m % n) = Nat.gcd m n := by
  rw [Nat.gcd_comm m n, Nat.gcd_rec n m, Nat.gcd_comm]
theorem abs_nat (i : Int) : (if i < 0 then -i else i) = (i.natAbs : Int) := by
  split <;> omega
theorem max_nat (i : Int) : (if -i > i then -i else i) = (i.natAbs : Int) := by
  split <;> omega
def G2 (a b : Int) : Nat := Nat.gcd a.natAbs b.natAbs
def isRat : D → Bool
  | .tup [.int a, .int b] => decide (1 ≤ b) && decide (G2 a b = 1)
  | _ => false
theorem tup_cases : ∀ d : D, (isIn d "tuple" = false ∧ isRat d = false) ∨ ∃ l, d = .tup l
  | .tup l => .inr ⟨l, rfl⟩
  | .non => .inl ⟨by show isIn .non "tuple" = false; decide +kernel, rfl⟩
  | .bl _ => .inl ⟨by show isIn (.bl true) "tuple" = false; decide +kernel, rfl⟩
  | .int _ => .inl ⟨by show isIn (.int 0) "tuple" = false; decide +kernel, rfl⟩
  | .str _ => .inl ⟨by show isIn (.str "") "tuple" = false; decide +kernel, rfl⟩
  | .dct => .inl ⟨by show isIn .dct "tuple" = false; decide +kernel, rfl⟩
  | .lst _ => .inl ⟨by show isIn (.lst []) "tuple" = false; decide +kernel, rfl⟩
theorem whole_int : ∀ {d : D}, (isIn d "int" && !isIn d "bool") = true → ∃ i, d = .int i
  | .int i, _ => ⟨i, rfl⟩
  | .bl _, h => absurd (show (isIn (.bl true) "int" && !isIn (.bl true) "bool") = true from h) (by decide +kernel)
  | .non, h => absurd h (by decide +kernel)
  | .str _, h => absurd (show (isIn (.str "") "int" && !isIn (.str "") "bool") = true from h) (by decide +kernel)
  | .dct, h => absurd h (by decide +kernel)
  | .tup _, h => absurd (show (isIn (.tup []) "int" && !isIn (.tup []) "bool") = true from h) (by decide +kernel)
  | .lst _, h => absurd (show (isIn (.lst []) "int" && !isIn (.lst []) "bool") = true from h) (by decide +kernel)
theorem int_whole (i : Int) : (isIn (.int i) "int" && !isIn (.int i) "bool") = true := by show (isIn (.int 0) "int" && !isIn (.int 0) "bool") = true; decide +kernel
theorem rat_no2 {d1 d2 : D} (h : (isIn d1 "int" && !isIn d1 "bool") = false ∨ (isIn d2 "int" && !isIn d2 "bool") = false) : isRat (.tup [d1, d2]) = false := by
  cases d1 with
  | int a =>
    cases d2 with
    | int b =>
      rcases h with h | h <;> (rw [int_whole] at h; cases h)
    | _ => rfl
  | _ => rfl
theorem rat_no {l : List D} (h : ¬ l.length = 2) : isRat (.tup l) = false := by
  match l, h with
  | [], _ => rfl
  | [d1], _ => cases d1 <;> rfl
  | [d1, d2], h => exact absurd rfl h
  | d1 :: d2 :: d3 :: r, _ =>
    cases d1 <;> first | rfl | (cases d2 <;> rfl)
theorem log2_mono {a b : Nat} (h : a ≤ b) : a.log2 ≤ b.log2 := by
  by_cases ha : a = 0
  · subst ha
    exact Nat.zero_le _
  · have hb : b ≠ 0 := by omega
    exact (Nat.le_log2 hb).mpr (Nat.le_trans (Nat.log2_self_le ha) h)
def spWhole : Sp := fun vs H Q _ => ∃ (s : Addr) (d : D) (v : V), vs = [v] ∧ Da s H d v ∧ Q (.bl (isIn d "int" && !isIn d "bool")) H
def spDiv : Sp := fun vs H Q _ => ∃ (a b : Int), vs = [.int a, .int b] ∧ Q (.int (G2 a b)) H
def spRatio : Sp := fun vs H Q _ => ∃ (s : Addr) (d : D) (v : V), vs = [v] ∧ Da s H d v ∧ Q (.bl (isRat d)) H
def spLow : Sp := fun vs H Q _ => ∃ (a b : Int), vs = [.int a, .int b] ∧ 1 ≤ b ∧ b.natAbs.log2 < 9000 ∧ ∀ p, H p = none → Q (.ref p) (upd H p (.tup [.int (a / G2 a b), .int (b / G2 a b)]))
section
variable {P : Program} {w : World} {K : PySem.W.Frag} {mg : Str → Option Value} {base : Heap}
theorem ok_whole (T : Txt K mg) : FnOk P w K mg base CX0 1 T.dis_whole.f T.dis_whole.fd P_is_whole spWhole := by
  refine T.dis_whole.F.ok sc_is_whole (fun vs H Q E h => ?_) (fun cdv A outer s_ H vs Q E hr h => ?_)
  · obtain ⟨s, d, v, rfl, _⟩ := h
    rfl
  · obtain ⟨s, d, v, rfl, da, k⟩ := h
    refine ⟨_, (pss_one (ps_ret (pe_and (pe_callB call_isi (by rfl) T.m_isinstance bt_isinstance (pa_cons (pv 0) (pa_cons (pe_bltn (v := .ty "int") (by rfl) T.m_int bt_int rfl) pa_nil))) (pe_one (pe_not (pe_callB call_isi (by rfl) T.m_isinstance bt_isinstance (pa_cons (pv 0) (pa_cons (pe_bltn (v := .ty "bool") (by rfl) T.m_bool bt_bool rfl) pa_nil)))))))), ?_⟩
    try dsimp only [cxOf, Cx.nox, Cx.wish]
    walk_at "go"
    cases h1 : isIn d "int" with
    | false =>
      rw [h1] at k
      refine g_iteF rfl ?_
      walk_at "go"
      exact k
    | true =>
      rw [h1] at k
      refine g_iteT rfl ?_
      walk_at "go"
      exact k
theorem ok_divisor (T : Txt K mg) : FnOk P w K mg base CX0 1 T.ddivisor.f T.ddivisor.fd P_divisor spDiv := by
  refine T.ddivisor.F.ok sc_divisor (fun vs H Q E h => ?_) (fun cdv A outer s_ H vs Q E hr h => ?_)
  · obtain ⟨a, b, rfl, _⟩ := h
    rfl
  · obtain ⟨a, b, rfl, k⟩ := h
    refine ⟨_, (pss_cons (ps_par (i := 2) (j := 3) (by rfl) sc_divisor.nd rfl rfl (by decide) rfl rfl (pa_cons (pe_callB c_abs (by rfl) T.m_abs bt_abs (pa_cons (pv 0) pa_nil)) (pa_cons (pe_callB c_abs (by rfl) T.m_abs bt_abs (pa_cons (pv 1) pa_nil)) pa_nil)) (by rfl))
      (pss_cons (ps_while PassesOwn.never (pt_cmpR op_ne (pv 3) pe_int (nomark _))
        (pss_one (ps_par (i := 2) (j := 3) (by rfl) sc_divisor.nd rfl rfl (by decide) rfl rfl (pa_cons (pv 3) (pa_cons (pe_op op_modN (pv 2) (pv 3)) pa_nil)) (by rfl))))
      (pss_one (ps_ret (pv 2))))), ?_⟩
    try dsimp only [cxOf, Cx.nox, Cx.wish]
    walk_at "go"
    try dsimp only
    walk_at "go"
    rw [abs_nat, abs_nat]
    refine ⟨fun m σ' H' => ∃ x : Nat, σ' = [some (.int a), some (.int b), some (.int (x : Int)), some (.int (m : Int))] ∧ Nat.gcd x m = G2 a b ∧ H' = H, ⟨b.natAbs, a.natAbs, rfl, rfl, rfl⟩, ?_⟩
    rintro m σ' H' ⟨x, rfl, hg, rfl⟩
    walk_at "go"
    refine g_ite (fun h => ?_) (fun h => ?_)
    · have hm : 0 < m := by
        cases m with
        | zero => exact absurd h (by decide)
        | succ m => exact Nat.succ_pos m
      refine ⟨fun σ' H2 => ∃ x : Nat, σ' = [some (.int a), some (.int b), some (.int (m : Int)), some (.int (x : Int))] ∧ Nat.gcd m x = G2 a b ∧ H2 = H' ∧ x < m, ?_, ?_⟩
      · rintro σ' H' ⟨y, e1, e2, e3, e4⟩
        exact ⟨y, e4, m, e1, e2, e3⟩
      · walk_at "go"
        rw [fmod_nat x m hm]
        try dsimp only
        exact ⟨x % m, rfl, by rw [gcd_step]; exact hg, rfl, Nat.mod_lt x hm⟩
    · have hm : m = 0 := by
        cases m with
        | zero => rfl
        | succ m =>
          have z : decide (V.int ((m + 1 : Nat) : Int) = V.int 0) = true := by simpa using h
          have e := V.int.inj (of_decide_eq_true z)
          omega
      subst hm
      walk_at "go"
      rw [Nat.gcd_zero_right] at hg
      rw [← hg] at k
      exact k
theorem ok_ratio (T : Txt K mg) : FnOk P w K mg base CX0 2 T.dis_ratio.f T.dis_ratio.fd P_is_ratio spRatio := by
  have G_is_whole : FnOk P w K mg base CX0 1 T.dis_whole.f T.dis_whole.fd P_is_whole spWhole := ok_whole T
  have G_divisor : FnOk P w K mg base CX0 1 T.ddivisor.f T.ddivisor.fd P_divisor spDiv := ok_divisor T
  refine T.dis_ratio.F.ok sc_is_ratio (fun vs H Q E h => ?_) (fun cdv A outer s_ H vs Q E hr h => ?_)
  · obtain ⟨s, d, v, rfl, _⟩ := h
    rfl
  · obtain ⟨s, d, v, rfl, da, k⟩ := h
    refine ⟨_, (pss_cons (ps_if (PW.pt (pw_or (pt_not (pt_val (pe_callB call_isi (by rfl) T.m_isinstance bt_isinstance (pa_cons (pv 0) (pa_cons (pe_bltn (v := .ty "tuple") (by rfl) T.m_tuple bt_tuple rfl) pa_nil))))) (pw_or1 (pt_cmpR op_ne (pe_callB c_len (by rfl) T.m_len bt_len (pa_cons (pv 0) pa_nil)) pe_int (nomark _)))))
        (pss_one (ps_ret pe_bl))
        pss_nil)
      (pss_cons (ps_asg (pv 0) (pg_tup rfl (pgs_cons (pg_name (i := 1) sc_is_ratio.nd rfl (by first | exact .inl rfl | exact .inr rfl)) (pgs_cons (pg_name (i := 2) sc_is_ratio.nd rfl (by first | exact .inl rfl | exact .inr rfl)) pgs_nil))))
      (pss_cons (ps_if (PW.pt (pw_or (pt_not (pt_val (pe_call G_is_whole (hr.mono (by omega)) rfl T.dis_whole.g T.dis_whole.F.kp T.dis_whole.b .nil pass0 (pa_cons (pv 1) pa_nil)))) (pw_or1 (pt_not (pt_val (pe_call G_is_whole (hr.mono (by omega)) rfl T.dis_whole.g T.dis_whole.F.kp T.dis_whole.b .nil pass0 (pa_cons (pv 2) pa_nil)))))))
        (pss_one (ps_ret pe_bl))
        pss_nil)
      (pss_one (ps_ret (pe_and (pe_cmpR op_ge (pv 2) pe_int (nomark _)) (pe_one (pe_cmpR op_eq (pe_call G_divisor (hr.mono (by omega)) rfl T.ddivisor.g T.ddivisor.F.kp T.ddivisor.b .nil pass0 (pa_cons (pv 1) (pa_cons (pv 2) pa_nil))) pe_int (nomark _))))))))), ?_⟩
    try dsimp only [cxOf, Cx.nox, Cx.wish]
    rcases tup_cases d with ⟨hd, hr2⟩ | ⟨l, rfl⟩
    · walk_at "go"
      refine g_iteT (by rw [hd]; rfl) ?_
      walk_at "go"
      rw [hr2] at k
      exact k
    have da0 := da
    obtain ⟨p, xs, rfl, np, hp, q⟩ := da
    have hl := q.len
    walk_at "go"
    refine g_lenT (SqT.of hp) ?_
    walk_at "go"
    by_cases h2 : l.length = 2
    · obtain ⟨d1, d2, rfl⟩ : ∃ d1 d2, l = [d1, d2] := by
        match l, h2 with
        | [d1, d2], _ => exact ⟨d1, d2, rfl⟩
      obtain ⟨x1, r1, rfl, c1, x2, r2, rfl, c2, e3⟩ := q
      have e3 : r2 = [] := e3
      subst e3
      refine g_iteF (by show (!decide (V.int ((2 : Nat) : Int) = V.int 2)) = false; decide) ?_
      walk_at "go"
      refine g_gTup (SqT.of hp) rfl ?_
      walk_at "go"
      refine ⟨s, d1, x1, rfl, c1, ?_⟩
      walk_at "go"
      by_cases w1 : (isIn d1 "int" && !isIn d1 "bool") = true
      · refine g_iteF (by rw [w1]; rfl) ?_
        walk_at "go"
        refine ⟨s, d2, x2, rfl, c2, ?_⟩
        walk_at "go"
        by_cases w2 : (isIn d2 "int" && !isIn d2 "bool") = true
        · refine g_iteF (by rw [w2]; rfl) ?_
          obtain ⟨a, rfl⟩ := whole_int w1
          obtain ⟨b, rfl⟩ := whole_int w2
          have e1 : x1 = _ := c1
          have e2 : x2 = _ := c2
          subst e1 e2
          walk_at "go"
          refine g_ite (fun h => ?_) (fun h => ?_)
          · walk_at "go"
            refine ⟨a, b, rfl, ?_⟩
            walk_at "go"
            have e : decide (V.int (G2 a b : Int) = V.int 1) = isRat (.tup [.int a, .int b]) := by
              rw [dec_int]
              show _ = (decide (1 ≤ b) && decide (G2 a b = 1))
              rw [decide_eq_true (of_decide_eq_true h), Bool.true_and]
              by_cases hg : G2 a b = 1
              · rw [decide_eq_true hg, hg]
                rfl
              · rw [decide_eq_false hg, decide_eq_false (by omega)]
            rw [e]
            exact k
          · walk_at "go"
            have e : isRat (.tup [.int a, .int b]) = false := by
              show (decide (1 ≤ b) && decide (G2 a b = 1)) = false
              rw [decide_eq_false (of_decide_eq_false h), Bool.false_and]
            rw [e] at k
            exact k
        · refine g_iteT (by rw [Bool.not_eq_true] at w2; rw [w2]; rfl) ?_
          walk_at "go"
          rw [rat_no2 (by rw [Bool.not_eq_true] at w2; exact .inr w2)] at k
          exact k
      · refine g_iteT (by rw [Bool.not_eq_true] at w1; rw [w1]; rfl) ?_
        walk_at "go"
        rw [rat_no2 (by rw [Bool.not_eq_true] at w1; exact .inl w1)] at k
        exact k
    · refine g_iteT ?_ ?_
      · rw [hl, decide_eq_false (fun e => h2 (by have := V.int.inj e; omega))]
        rfl
      walk_at "go"
      rw [rat_no h2] at k
      exact k
theorem ok_low (T : Txt K mg) : FnOk P w K mg base CX0 1 T.dlow.f T.dlow.fd P_low spLow := by
  refine T.dlow.F.ok sc_low (fun vs H Q E h => ?_) (fun cdv A outer s_ H vs Q E hr h => ?_)
  · obtain ⟨a, b, rfl, _⟩ := h
    rfl
  · obtain ⟨a, b, rfl, hb, hz, k⟩ := h
    refine ⟨_, (pss_cons (ps_if (pt_cmpR op_eq (pv 1) pe_int (nomark _))
        (pss_one (ps_ret (pe_tup (pa_cons pe_int (pa_cons pe_int pa_nil)))))
        pss_nil)
      (pss_cons (ps_set (i := 2) sc_low.nd rfl (by first | exact .inl rfl | exact .inr rfl) (pe_callB (c_max2 rfl) (by rfl) T.m_max bt_max (pa_cons (pv 0) (pa_cons (pe_un un_neg (pv 0)) pa_nil))))
      (pss_cons (ps_set (i := 3) sc_low.nd rfl (by first | exact .inl rfl | exact .inr rfl) (pe_callB (c_max2 rfl) (by rfl) T.m_max bt_max (pa_cons (pv 1) (pa_cons (pe_un un_neg (pv 1)) pa_nil))))
      (pss_cons (ps_while PassesOwn.never (pt_cmpR op_gt (pv 3) pe_int (nomark _))
        (pss_cons (ps_set (i := 4) sc_low.nd rfl (by first | exact .inl rfl | exact .inr rfl) (pe_op op_modN (pe_callTy c_int1 (by rfl) T.m_int bt_int (pa_cons (pv 2) pa_nil)) (pv 3)))
        (pss_cons (ps_set (i := 2) sc_low.nd rfl (by first | exact .inl rfl | exact .inr rfl) (pv 3))
        (pss_one (ps_set (i := 3) sc_low.nd rfl (by first | exact .inl rfl | exact .inr rfl) (pv 4))))))
      (pss_cons (ps_if (pt_cmpR op_lt (pv 1) pe_int (nomark _))
        (pss_one (ps_set (i := 2) sc_low.nd rfl (by first | exact .inl rfl | exact .inr rfl) (pe_un un_neg (pv 2))))
        pss_nil)
      (pss_one (ps_ret (pe_tup (pa_cons (pe_op op_fdivW (pv 0) (pv 2)) (pa_cons (pe_op op_fdivW (pv 1) (pv 2)) pa_nil)))))))))), ?_⟩
    try dsimp only [cxOf, Cx.nox, Cx.wish]
    have hG : 0 < G2 a b := Nat.gcd_pos_of_pos_right _ (by omega)
    have hGle : G2 a b ≤ b.natAbs := Nat.gcd_le_right _ (by omega)
    walk_at "go"
    refine g_iteF (by rw [dec_int]; exact decide_eq_false (by omega)) ?_
    walk_at "go"
    rw [max_nat, max_nat]
    refine ⟨fun m σ' H' => ∃ (x : Nat) (z : Option V), σ' = [some (.int a), some (.int b), some (.int (x : Int)), some (.int (m : Int)), z] ∧ Nat.gcd x m = G2 a b ∧ H' = H, ⟨b.natAbs, a.natAbs, none, rfl, rfl, rfl⟩, ?_⟩
    rintro m σ' H' ⟨x, z, rfl, hg, rfl⟩
    walk_at "go"
    refine g_ite (fun h => ?_) (fun h => ?_)
    · have hm : 0 < m := by
        have := of_decide_eq_true h
        omega
      refine ⟨fun σ' H2 => ∃ (x : Nat) (z : Option V), σ' = [some (.int a), some (.int b), some (.int (m : Int)), some (.int (x : Int)), z] ∧ Nat.gcd m x = G2 a b ∧ H2 = H' ∧ x < m, ?_, ?_⟩
      · rintro σ' H' ⟨y, z, e1, e2, e3, e4⟩
        exact ⟨y, e4, m, z, e1, e2, e3⟩
      · walk_at "go"
        rw [fmod_nat x m hm]
        exact ⟨x % m, _, rfl, by rw [gcd_step]; exact hg, rfl, Nat.mod_lt x hm⟩
    · have hm : m = 0 := by
        have := of_decide_eq_false h
        omega
      subst hm
      rw [Nat.gcd_zero_right] at hg
      subst hg
      walk_at "go"
      refine g_iteF (decide_eq_false (by omega)) ?_
      have cd : CDivW a (G2 a b : Int) := by
        refine ⟨by omega, Nat.lt_of_le_of_lt ?_ hz⟩
        exact log2_mono (by omega)
      walk_at "go"
      refine g_I cd ?_
      walk_at "go"
      refine g_I cd ?_
      walk_at "go"
      exact ⟨by show 2 ≤ sizeLine; decide, fun p hp => k p hp⟩
end
end My
namespace My
open PySem PySem.Spec PyProof.Rows L2
/-! ### digits -/
def dig (c : Nat) : Bool := decide (48 ≤ c) && decide (c ≤ 57)
theorem dig_iff {c : Nat} : dig c = true ↔ 48 ≤ c ∧ c ≤ 57 := by
  unfold dig
  rw [Bool.and_eq_true, decide_eq_true_eq, decide_eq_true_eq]
theorem all_dig {l : List Nat} : l.all dig = true ↔ PySem.NumText.AllDigits l := by
  rw [List.all_eq_true]
  exact ⟨fun h c hc => dig_iff.mp (h c hc), fun h c hc => dig_iff.mpr (h c hc)⟩
/-- a whole number as the document writes it -/
def readD (l : List Nat) : Option Nat :=
  if l.all dig = true ∧ l ≠ [] ∧ l.length ≤ 400 ∧ ¬ (l.head? = some 48 ∧ 1 < l.length) then some (PySem.NumText.digitsVal l) else none
def optV : Option Nat → V
  | none => .non
  | some n => .int n
def Asc (x : Str) : Prop := ∀ c ∈ x.cps.toList, c < 128
theorem uni_dig : ∀ c, c < 128 → Unicode.isDigit c = dig c := by decide +kernel
theorem isdigit_asc {x : Str} (h : Asc x) : Txt.isdigit x = (decide (x.cps.toList ≠ []) && x.cps.toList.all dig) := by
  show (decide (x.length > 0) && x.cps.all Unicode.isDigit) = _
  have e1 : decide (x.length > 0) = decide (x.cps.toList ≠ []) := by
    rw [str_len]
    cases x.cps.toList with
    | nil => rfl
    | cons a r => simp
  have e2 : x.cps.all Unicode.isDigit = x.cps.toList.all dig := by
    rw [← Array.all_toList]
    have g : ∀ l : List Nat, (∀ c ∈ l, c < 128) → l.all Unicode.isDigit = l.all dig := by
      intro l
      induction l with
      | nil => intro _; rfl
      | cons c r ih =>
        intro hl
        rw [List.all_cons, List.all_cons, uni_dig c (hl c (List.mem_cons_self ..)), ih fun d hd => hl d (List.mem_cons_of_mem _ hd)]
    exact g _ h
  rw [e1, e2]
theorem ten_digs : ∀ c, c < 128 → decide (c ∈ ("0123456789" : Str).cps.toList) = dig c := by decide +kernel
theorem in_digs (c : Nat) : decide (c ∈ ("0123456789" : Str).cps.toList) = dig c := by
  by_cases h : c < 128
  · exact ten_digs c h
  · have e : ("0123456789" : Str).cps.toList = [48, 49, 50, 51, 52, 53, 54, 55, 56, 57] := by decide +kernel
    have e2 : dig c = false := by
      cases hd : dig c with
      | false => rfl
      | true =>
        have := dig_iff.mp hd
        omega
    rw [e2, e]
    refine decide_eq_false fun z => ?_
    simp only [List.mem_cons, List.not_mem_nil, or_false] at z
    omega
def rNotInS : R2 := fun x y H Q => ∃ (c : Nat) (z : Str), x = .str ⟨#[c]⟩ ∧ y = .str z ∧ Q (.bl (!decide (c ∈ z.cps.toList))) H
theorem o_notInS {X : Cx} : OpR X (compareOp .NotIn) rNotInS := op_notIn_sign
section
variable {σ : L2.St} {H : Hp} {Q : VK} {te : TE} {K : PySem.W.Frag}
theorem g_bm0 {T : String} {r : V → List V → Hp → VK → Prop} (h : te σ H fun x H1 => tyV K T x H1 ∧ r x [] H1 Q) : tBM0 K T r te σ H Q := h
/-- all but o is kept, o was not there -/
theorem Same_mutF {H H' : Hp} {p : Addr} {o : HO} (x : Same H H') (h : H p = none) : Same H (upd H' p o) := fun b u e => by
  rw [upd_ne (ne_of_none e h)]
  exact x b u e
theorem g_notInS {c : Nat} {z : Str} (h : Q (.bl (!decide (c ∈ z.cps.toList))) H) : rNotInS (.str ⟨#[c]⟩) (.str z) H Q := ⟨c, z, rfl, rfl, h⟩
theorem g_iStr {R : It → Hp → Prop} (h : te σ H fun v H1 => ∃ x, v = .str x ∧ R (Its x) H1) : iStr te σ H R := h
theorem g_intS {a : Str} {n : Int} (h1 : PySem.intText? a = some n) (h2 : a.length ≤ sizeLine) (h3 : (PySem.numSeenOf a).length = a.length) (nd : NoDig K) (q : Q (.int n) H) : rIntS K [.str a] H Q := ⟨a, n, rfl, h1, h2, h3, nd, q⟩
/-- a list made over a text's signs -/
theorem lc_signs {x : Str} {g : TG} {tt : TT} {vs : List Nat} {H0 : Hp} {L : Addr} {F : Hp → Prop} (J : Nat → Hp → Prop) (j0 : J 0 (upd H0 L (.lst [])))
    (turn : ∀ i c Hi, x.cps[i]? = some c → J i Hi → g (.str ⟨#[c]⟩) (wipe σ vs) Hi fun s2 Hj => wipe s2 vs = wipe σ vs ∧ tt s2 Hj fun b Hk =>
      if b = true then te s2 Hk fun y Hl => ∃ acc, Hl L = some (.lst acc) ∧ acc.length < sizeLine ∧ J (i + 1) (upd Hl L (.lst (acc ++ [y]))) else J (i + 1) Hk) (fin : ∀ Hi, J x.cps.size Hi → F Hi) :
    ∃ W : Nat → Nat → Hp → Prop, (∃ m, W 0 m (upd H0 L (.lst []))) ∧ ∀ i m Hi, W i m Hi →
      ((Its x).stop i Hi ∧ F Hi) ∨ ((Its x).go i Hi ∧ ∃ Nx : Hp → Prop, (∀ Hj, Nx Hj → ∃ m', m' < m ∧ W (i + 1) m' Hj) ∧ ∀ v Hj, (Its x).yld i Hi v Hj → g v (wipe σ vs) Hj fun s2 Hj => wipe s2 vs = wipe σ vs ∧ tt s2 Hj fun b Hk =>
        if b = true then te s2 Hk fun y Hl => ∃ acc, Hl L = some (.lst acc) ∧ acc.length < sizeLine ∧ Nx (upd Hl L (.lst (acc ++ [y]))) else Nx Hk) := by
  refine ⟨fun i m Hi => i + m = x.cps.size ∧ J i Hi, ⟨x.cps.size, Nat.zero_add _, j0⟩, fun i m Hi ⟨em, j⟩ => ?_⟩
  cases m with
  | zero =>
    have e : i = x.cps.size := em
    subst e
    exact .inl ⟨Nat.le_refl _, fin Hi j⟩
  | succ m =>
    have lt : i < x.cps.size := by omega
    refine .inr ⟨lt, J (i + 1), fun Hj jj => ⟨m, Nat.lt_succ_self m, by omega, jj⟩, fun v Hj yy => ?_⟩
    obtain ⟨e1, c, e2, e3⟩ := yy
    subst e1 e3
    exact turn i c Hj e2 j
end
local macro_rules | `(tactic| walk_at "arith") => `(tactic| first
  | (with_reducible show _ ≠ _; omega)
  | (unfold CMul; omega)
  | (unfold CPow; omega)
  | (unfold CPow; decide)
  | exact wide_div (b := 100) (by decide) (by decide) (by decide) (by decide))
local macro_rules | `(tactic| walk_at "go") => `(tactic| repeat (first
  | with_reducible refine g_seq ?_
  | with_reducible refine g_asg ?_
  | with_reducible refine g_name ?_
  | with_reducible refine g_sub ?_
  | with_reducible refine g_ret ?_
  | with_reducible refine g_drop ?_
  | ((with_reducible refine g_next ?_); dsimp only)
  | with_reducible refine g_if ?_
  | with_reducible refine g_var rfl ?_
  | with_reducible refine g_c ?_
  | with_reducible refine g_op ?_
  | with_reducible refine g_un ?_
  | with_reducible refine g_I0 ?_
  | with_reducible refine g_U ?_
  | with_reducible refine g_eq rfl ?_
  | with_reducible refine g_test ?_
  | with_reducible refine g_bl ?_
  | with_reducible refine iteF ?_
  | with_reducible refine iteT ?_
  | ((with_reducible apply g_iteT); (case e => rfl))
  | ((with_reducible apply g_iteF); (case e => rfl))
  | with_reducible refine g_int1 ?_
  | with_reducible refine g_max2 ?_
  | with_reducible refine g_min2 ?_
  | with_reducible refine g_isN ?_
  | with_reducible refine g_notN ?_
  | ((with_reducible apply g_lenL); (case hs => assumption))
  | ((with_reducible apply g_ixL); (case hs => exact SqL.of (by assumption)); (case ha => rfl))
  | with_reducible refine g_pow9 ?_
  | with_reducible refine g_pow18 ?_
  | ((with_reducible apply g_I); (case c => walk_at "arith"))
  | ((with_reducible apply g_st); (case hs => assumption); (case hL => assumption); (case ne => assumption); (case x0 => assumption); (case hj => rfl); (case j0 => decide); intro _ _ _ _)
  | with_reducible refine g_and ?_
  | with_reducible refine g_or ?_
  | with_reducible refine g_not ?_
  | with_reducible refine g_nil ?_
  | with_reducible refine g_cons ?_
  | with_reducible refine g_callB ?_
  | with_reducible refine g_call ?_
  | with_reducible refine g_tup ?_
  | with_reducible refine g_lst ?_
  | with_reducible refine g_andV ?_
  | with_reducible refine g_orV ?_
  | with_reducible refine g_notV ?_
  | with_reducible refine g_tB ?_
  | with_reducible refine g_ne rfl ?_
  | with_reducible refine g_abs ?_
  | with_reducible refine g_isB ?_
  | with_reducible refine g_for ?_
  | with_reducible refine g_rng1 ?_
  | with_reducible refine g_rng2 ?_
  | with_reducible refine g_iList ?_
  | ((with_reducible refine g_break ?_); dsimp only)
  | ((with_reducible refine g_cont ?_); dsimp only)
  | with_reducible refine g_retN ?_
  | ((with_reducible apply isi_go (T := "int")); (case h => assumption); (case hb => exact k_int_ _))
  | ((with_reducible apply isi_go (T := "str")); (case h => assumption); (case hb => exact k_str_ _))
  | ((with_reducible apply isi_go (T := "bool")); (case h => assumption); (case hb => exact k_bool_ _))
  | ((with_reducible apply isi_go (T := "list")); (case h => assumption); (case hb => exact k_list_ _))
  | ((with_reducible apply isi_go (T := "tuple")); (case h => assumption); (case hb => exact k_tuple_ _))
  | ((with_reducible apply isi_go (T := "dict")); (case h => assumption); (case hb => exact k_dict_ _))
  | with_reducible refine g_intb ?_
  | with_reducible refine g_bm ?_
  | with_reducible refine g_tyS ?_
  | ((with_reducible apply g_tyL); (case hs => assumption))
  | with_reducible refine g_lc ?_
  | with_reducible refine g_sl ?_
  | with_reducible refine g_noP ?_
  | with_reducible refine g_part ?_
  | with_reducible refine g_pI ?_
  | with_reducible refine g_ifE ?_
  | with_reducible refine g_par ?_
  | with_reducible refine g_two ?_
  | with_reducible refine g_yes ?_
  | with_reducible refine g_gCons ?_
  | with_reducible refine g_gNil ?_))

def spRD : Sp := fun vs H Q _ => ∃ x : Str, vs = [.str x] ∧ Asc x ∧ x.length ≤ 1000000 ∧ Q (optV (readD x.cps.toList)) H
def spLD : Sp := fun vs H Q _ => ∃ x : Str, vs = [.str x] ∧ x.length ≤ 1000000 ∧ ∀ H', Same H H' → Q (optV (readD x.cps.toList)) H'
abbrev s_read_digits : Stmt := topS 15
abbrev N_read_digits : List Str := ["word"]
abbrev P_read_digits : List Str := ["word"]
theorem sc_read_digits : FnScope N_read_digits P_read_digits (defScope s_read_digits) := ⟨rfl, rfl, rfl, by decide +kernel, rfl, by decide +kernel, by decide +kernel⟩

abbrev s_digits : Stmt := topS 25
abbrev N_digits : List Str := ["text", "mark"]
abbrev P_digits : List Str := ["text"]
theorem sc_digits : FnScope N_digits P_digits (defScope s_digits) := ⟨rfl, rfl, rfl, by decide +kernel, rfl, by decide +kernel, by decide +kernel⟩

theorem cps_list (x : Str) (i : Nat) : x.cps[i]? = x.cps.toList[i]? := by rw [Array.getElem?_toList]
theorem head_str {x : Str} {c : Nat} (h : x.cps.toList.head? = some c) : atI x.cps.toList 0 = some c := by
  cases e : x.cps.toList with
  | nil => rw [e] at h; cases h
  | cons a r =>
    rw [e] at h
    cases h
    exact atI_nat (j := 0) rfl
theorem zero_eq (c : Nat) : decide (V.str ⟨#[c]⟩ = V.str (Str.ofString "0")) = decide (c = 48) := by
  have e : (Str.ofString "0") = ⟨#[48]⟩ := by decide +kernel
  rw [e]
  by_cases h : c = 48
  · rw [h, decide_eq_true rfl, decide_eq_true rfl]
  · rw [decide_eq_false h]
    refine decide_eq_false fun z => h ?_
    have z2 := V.str.inj z
    have z3 := congrArg (fun s : Str => s.cps.toList) z2
    have z4 : [c] = [48] := z3
    injection z4
theorem readD_some {l : List Nat} (h : l.all dig = true ∧ l ≠ [] ∧ l.length ≤ 400 ∧ ¬ (l.head? = some 48 ∧ 1 < l.length)) : readD l = some (PySem.NumText.digitsVal l) := if_pos h
theorem readD_none {l : List Nat} (h : ¬ (l.all dig = true ∧ l ≠ [] ∧ l.length ≤ 400 ∧ ¬ (l.head? = some 48 ∧ 1 < l.length))) : readD l = none := if_neg h
section
variable {P : Program} {w : World} {K : PySem.W.Frag} {mg : Str → Option Value} {base : Heap}
theorem ok_read_digits (T : Txt K mg) : FnOk P w K mg base CX0 1 T.dread_digits.f T.dread_digits.fd P_read_digits spRD := by
  refine T.dread_digits.F.ok sc_read_digits (fun vs H Q E h => ?_) (fun cdv A outer s_ H vs Q E hr h => ?_)
  · obtain ⟨x, rfl, _⟩ := h
    rfl
  · obtain ⟨x, rfl, asc, hl, k⟩ := h
    refine ⟨_, (pss_cons (ps_if (PW.pt (pw_or (pt_not (pt_val (pe_bm0 PySem.F.plainAttrs_str PySem.F.slot_str_isdigit PySem.F.type_str_isdigit mt_isdigit (pv 0)))) (pw_or1 (pt_cmpR op_gt (pe_callB c_lenS (by rfl) T.m_len bt_len (pa_cons (pv 0) pa_nil)) (pe_glob rfl T.kMOST_DIGITS T.vMOST_DIGITS) (nomark _)))))
        (pss_one (ps_ret pe_non))
        pss_nil)
      (pss_cons (ps_if (PW.pt (pw_and (pt_cmpR op_eq (pe_ix ix_str (pv 0) pe_int (fun _ _ => rfl)) pe_str (nomark _)) (pw_and1 (pt_cmpR op_gt (pe_callB c_lenS (by rfl) T.m_len bt_len (pa_cons (pv 0) pa_nil)) pe_int (nomark _)))))
        (pss_one (ps_ret pe_non))
        pss_nil)
      (pss_one (ps_ret (pe_callTy c_intS (by rfl) T.m_int bt_int (pa_cons (pv 0) pa_nil)))))), ?_⟩
    try dsimp only [cxOf, Cx.nox, Cx.wish]
    walk_at "go"
    refine g_bm0 ?_
    walk_at "go"
    refine ⟨x, rfl, rfl, trivial, ?_⟩
    rw [isdigit_asc asc]
    by_cases hd : (decide (x.cps.toList ≠ []) && x.cps.toList.all dig) = true
    · rw [hd]
      rw [Bool.and_eq_true, decide_eq_true_eq] at hd
      obtain ⟨hne, hal⟩ := hd
      obtain ⟨c, r, el⟩ : ∃ c r, x.cps.toList = c :: r := by
        cases e : x.cps.toList with
        | nil => exact absurd e hne
        | cons c r => exact ⟨c, r, rfl⟩
      have hz : x.length ≤ sizeLine := by rw [sizeLine_eq]; omega
      walk_at "go"
      refine g_lenS hz ?_
      walk_at "go"
      refine g_ite (fun h => ?_) (fun h4 => ?_)
      · have h := of_decide_eq_true h
        walk_at "go"
        rw [readD_none (fun z => by have := z.2.2.1; rw [← str_len] at this; omega)] at k
        exact k
      have h4 := of_decide_eq_false h4
      walk_at "go"
      refine g_ixS hz (head_str (c := c) (by rw [el]; rfl)) ?_
      walk_at "go"
      rw [zero_eq]
      have yes : ¬ (c = 48 ∧ 1 < x.length) → optV (readD x.cps.toList) = .int (PySem.NumText.digitsVal x.cps.toList : Nat) := fun hn => by
        rw [readD_some ⟨hal, hne, by rw [← str_len]; omega, fun z => hn ⟨?_, by rw [str_len]; exact z.2⟩⟩]
        · rfl
        · have z1 := z.1
          rw [el] at z1
          exact Option.some.inj z1
      have fin : ¬ (c = 48 ∧ 1 < x.length) → rIntS K [.str x] H Q := fun hn => by
        rw [yes hn] at k
        exact g_intS (PySem.intText_digits (all_dig.mp hal) hne (by omega)) hz (seen_digits x (all_dig.mp hal)) T.dig k
      refine g_ite (fun h0 => ?_) (fun h0 => ?_)
      · have h0 := of_decide_eq_true h0
        walk_at "go"
        refine g_lenS hz ?_
        walk_at "go"
        refine g_ite (fun h1 => ?_) (fun h1 => ?_)
        · have h1 := of_decide_eq_true h1
          walk_at "go"
          rw [readD_none (fun z => z.2.2.2 ⟨by rw [el, h0]; rfl, by rw [← str_len]; omega⟩)] at k
          exact k
        · have h1 := of_decide_eq_false h1
          walk_at "go"
          exact fin fun z => h1 (by omega)
      · have h0 := of_decide_eq_false h0
        walk_at "go"
        exact fin fun z => h0 z.1
    · rw [Bool.not_eq_true] at hd
      rw [hd]
      walk_at "go"
      rw [readD_none (fun z => by rw [decide_eq_true z.2.1, z.1] at hd; cases hd)] at k
      exact k
theorem ok_law_digits (T : Txt K mg) : FnOk P w K mg base CX0 1 T.ddigits.f T.ddigits.fd P_digits spLD := by
  refine T.ddigits.F.ok sc_digits (fun vs H Q E h => ?_) (fun cdv A outer s_ H vs Q E hr h => ?_)
  · obtain ⟨x, rfl, _⟩ := h
    rfl
  · obtain ⟨x, rfl, hl, k⟩ := h
    refine ⟨_, (Evl.pss_cut (ps_if (PW.pt (pw_or (pt_cmpR op_eq (pe_callB c_lenS (by rfl) T.m_len bt_len (pa_cons (pv 0) pa_nil)) pe_int (nomark _)) (pw_or (pt_cmpR op_gt (pe_callB c_lenS (by rfl) T.m_len bt_len (pa_cons (pv 0) pa_nil)) pe_int (nomark _)) (pw_or1 (PW.pt (pw_and (pt_cmpR op_eq (pe_ix ix_str (pv 0) pe_int (fun _ _ => rfl)) pe_str (nomark _)) (pw_and1 (pt_cmpR op_gt (pe_callB c_lenS (by rfl) T.m_len bt_len (pa_cons (pv 0) pa_nil)) pe_int (nomark _)))))))))
        (pss_one (ps_ret pe_non))
        pss_nil)
      (pss_cons (ps_if (pt_cmpR op_gt (pe_callB c_len (by rfl) T.m_len bt_len (pa_cons (pe_lc (own := [("mark", 1)]) (g := gName 1) rfl sc_digits.nd (pi_str (pv 0)) (blkOk_by (own := [("mark", 1)]) (N := N_digits) (sc := defScope s_digits) (by decide +kernel)) (fun _ _ _ _ _ => (pg_name (i := 1) sc_digits.nd rfl (by first | exact .inl rfl | exact .inr rfl))) (fun _ _ _ _ _ => (pts_one (pt_cmpR o_notInS (pv 1) pe_str rfl))) (fun _ _ _ _ _ => (pv 1))) pa_nil)) pe_int (nomark _))
        (pss_one (ps_ret pe_non))
        pss_nil)
      (pss_one (ps_ret (pe_callTy c_intS (by rfl) T.m_int bt_int (pa_cons (pv 0) pa_nil)))))), ?_⟩
    try dsimp only [cxOf, Cx.nox, Cx.wish]
    have hz : x.length ≤ sizeLine := by rw [sizeLine_eq]; omega
    have k0 := fun z => k H (Same.refl H) |> fun kk => (congrArg (fun v => Q (optV v) H) (readD_none z)).mp kk
    walk_at "go"
    refine g_cut (Mid := fun σ' H' => σ' = [some (.str x), none] ∧ H' = H ∧ x.cps.toList ≠ [] ∧ x.length ≤ 400 ∧ ¬ (x.cps.toList.head? = some 48 ∧ 1 < x.cps.toList.length)) ?_ ?_
    · walk_at "go"
      refine g_lenS hz ?_
      walk_at "go"
      refine g_ite (fun h => ?_) (fun hne => ?_)
      · have e : x.cps.toList = [] := List.eq_nil_of_length_eq_zero (by rw [← str_len]; have := dint_t h; omega)
        walk_at "go"
        exact k0 fun z => z.2.1 e
      obtain ⟨c, r, el⟩ : ∃ c r, x.cps.toList = c :: r := by
        cases e : x.cps.toList with
        | nil => exact absurd (by rw [str_len, e]; rfl) (dint_f hne)
        | cons c r => exact ⟨c, r, rfl⟩
      have ne : x.cps.toList ≠ [] := by rw [el]; exact List.cons_ne_nil _ _
      walk_at "go"
      refine g_lenS hz ?_
      walk_at "go"
      refine g_ite (fun h => ?_) (fun h4 => ?_)
      · have h := of_decide_eq_true h
        walk_at "go"
        exact k0 fun z => by have := z.2.2.1; rw [← str_len] at this; omega
      have h4 := of_decide_eq_false h4
      walk_at "go"
      refine g_ixS hz (head_str (c := c) (by rw [el]; rfl)) ?_
      walk_at "go"
      rw [zero_eq]
      refine g_ite (fun h0 => ?_) (fun h0 => ?_)
      · have h0 := of_decide_eq_true h0
        walk_at "go"
        refine g_lenS hz ?_
        walk_at "go"
        refine g_ite (fun h1 => ?_) (fun h1 => ?_)
        · have h1 := of_decide_eq_true h1
          walk_at "go"
          exact k0 fun z => z.2.2.2 ⟨by rw [el, h0]; rfl, by rw [← str_len]; omega⟩
        · have h1 := of_decide_eq_false h1
          walk_at "go"
          exact ⟨rfl, rfl, ne, by omega, fun z => by have := z.2; rw [← str_len] at this; omega⟩
      · have h0 := of_decide_eq_false h0
        walk_at "go"
        refine ⟨rfl, rfl, ne, by omega, fun z => h0 ?_⟩
        have z1 := z.1
        rw [el] at z1
        exact Option.some.inj z1
    · rintro σ' H' ⟨rfl, rfl, ne, h4, hh⟩
      walk_at "go"
      refine g_iStr ?_
      walk_at "go"
      refine ⟨x, rfl, fun L hL => ?_⟩
      refine lc_signs (fun i Hi => ∃ acc, Hi L = some (.lst acc) ∧ acc.length ≤ i ∧ (acc = [] ↔ (x.cps.toList.take i).all dig = true) ∧ Same H' Hi) ⟨[], upd_same, Nat.le_refl 0, ⟨fun _ => rfl, fun _ => rfl⟩, same_new hL⟩ ?_ ?_
      · rintro i c Hi hc ⟨acc, h1, h2, h3, xx⟩
        have hc2 : x.cps.toList[i]? = some c := by rw [← cps_list]; exact hc
        have hi : i < x.cps.toList.length := (List.getElem?_eq_some_iff.mp hc2).1
        have et : x.cps.toList.take (i + 1) = x.cps.toList.take i ++ [c] := by
          rw [List.take_add_one, hc2]
          rfl
        walk_at "go"
        refine ⟨rfl, ?_⟩
        walk_at "go"
        refine g_notInS ?_
        rw [show decide (c ∈ (Str.ofString "0123456789").cps.toList) = dig c from in_digs c]
        walk_at "go"
        cases hd : dig c with
        | true =>
          refine g_iteF rfl ?_
          refine ⟨acc, h1, by omega, ?_, xx⟩
          rw [et, List.all_append, List.all_cons, hd, h3]
          simp
        | false =>
          refine g_iteT rfl ?_
          walk_at "go"
          refine ⟨acc, h1, by rw [← str_len] at hi; rw [sizeLine_eq]; omega, _, upd_same, by rw [List.length_append]; exact Nat.succ_le_succ h2, ?_, Same_mutF xx hL⟩
          rw [et, List.all_append, List.all_cons, hd]
          simp
      · rintro Hi ⟨acc, h1, h2, h3, xx⟩
        have esz : x.cps.size = x.cps.toList.length := by rw [Array.length_toList]
        rw [esz, List.take_length] at h3
        walk_at "go"
        refine g_lenL (SqL.of h1) ?_
        walk_at "go"
        have kk := k Hi xx
        refine g_ite (fun h => ?_) (fun h => ?_)
        · have h := of_decide_eq_true h
          walk_at "go"
          rw [readD_none (fun z => by rw [h3.mpr z.1] at h; exact absurd h (by decide))] at kk
          exact kk
        · have h := of_decide_eq_false h
          have e : acc = [] := List.eq_nil_of_length_eq_zero (by omega)
          have hal := h3.mp e
          walk_at "go"
          rw [readD_some ⟨hal, ne, by rw [← str_len]; exact h4, hh⟩] at kk
          exact g_intS (PySem.intText_digits (all_dig.mp hal) ne (by omega)) hz (seen_digits x (all_dig.mp hal)) T.dig kk
end
end My
namespace My
open PySem PySem.Spec PyProof.Rows L2
/-! ### a text at its first slash -/
def topOf : List Nat → List Nat
  | [] => []
  | c :: r => if c = 47 then [] else c :: topOf r
def botOf : List Nat → Option (List Nat)
  | [] => none
  | c :: r => if c = 47 then some r else botOf r
theorem cut_none : ∀ {l : List Nat}, botOf l = none → 47 ∉ l ∧ topOf l = l
  | [], _ => ⟨fun h => (nomatch h), rfl⟩
  | c :: r, h => by
    by_cases e : c = 47
    · rw [show botOf (c :: r) = some r from if_pos e] at h
      cases h
    · rw [show botOf (c :: r) = botOf r from if_neg e] at h
      obtain ⟨h1, h2⟩ := cut_none h
      refine ⟨fun z => ?_, by rw [show topOf (c :: r) = c :: topOf r from if_neg e, h2]⟩
      rcases List.mem_cons.mp z with z | z
      · exact e z.symm
      · exact h1 z
theorem cut_some : ∀ {l b : List Nat}, botOf l = some b → l = topOf l ++ 47 :: b ∧ 47 ∉ topOf l
  | [], _, h => by cases h
  | c :: r, b, h => by
    by_cases e : c = 47
    · rw [show botOf (c :: r) = some r from if_pos e] at h
      cases h
      rw [show topOf (c :: r) = [] from if_pos e, e]
      exact ⟨rfl, fun h => (nomatch h)⟩
    · rw [show botOf (c :: r) = botOf r from if_neg e] at h
      obtain ⟨h1, h2⟩ := cut_some h
      rw [show topOf (c :: r) = c :: topOf r from if_neg e]
      refine ⟨by rw [List.cons_append, ← h1], fun z => ?_⟩
      rcases List.mem_cons.mp z with z | z
      · exact e z.symm
      · exact h2 z
theorem top_app {a b : List Nat} (h : 47 ∉ a) : topOf (a ++ 47 :: b) = a ∧ botOf (a ++ 47 :: b) = some b := by
  induction a with
  | nil => exact ⟨rfl, rfl⟩
  | cons c r ih =>
    have e : ¬ c = 47 := fun e => h (by rw [e]; exact List.mem_cons_self ..)
    obtain ⟨h1, h2⟩ := ih fun z => h (List.mem_cons_of_mem _ z)
    refine ⟨?_, ?_⟩
    · show (if c = 47 then [] else c :: topOf (r ++ 47 :: b)) = _
      rw [if_neg e, h1]
    · show (if c = 47 then some (r ++ 47 :: b) else botOf (r ++ 47 :: b)) = _
      rw [if_neg e, h2]
theorem top_free {a : List Nat} (h : 47 ∉ a) : topOf a = a ∧ botOf a = none := by
  induction a with
  | nil => exact ⟨rfl, rfl⟩
  | cons c r ih =>
    have e : ¬ c = 47 := fun e => h (by rw [e]; exact List.mem_cons_self ..)
    obtain ⟨h1, h2⟩ := ih fun z => h (List.mem_cons_of_mem _ z)
    refine ⟨?_, ?_⟩
    · show (if c = 47 then [] else c :: topOf r) = _
      rw [if_neg e, h1]
    · show (if c = 47 then some r else botOf r) = _
      rw [if_neg e, h2]
def isNeg (l : List Nat) : Bool := decide (l.head? = some 45)
def body (l : List Nat) : List Nat := if isNeg l = true then l.tail else l
theorem neg_top (l : List Nat) : isNeg (topOf l) = isNeg l := by
  cases l with
  | nil => rfl
  | cons c r =>
    by_cases e : c = 47
    · subst e
      rfl
    · rw [show topOf (c :: r) = c :: topOf r from if_neg e]
      rfl
theorem body_top (l : List Nat) : body (topOf l) = topOf (body l) ∧ botOf l = botOf (body l) := by
  unfold body
  rw [neg_top]
  cases hn : isNeg l with
  | false => exact ⟨rfl, rfl⟩
  | true =>
    cases l with
    | nil => cases hn
    | cons c r =>
      have e : c = 45 := by
        have z := of_decide_eq_true hn
        exact Option.some.inj z
      subst e
      exact ⟨rfl, rfl⟩
/-! ### a ratio that is read -/
def rfin (neg : Bool) (n m : Nat) : Option (Int × Nat) := if Nat.gcd n m = 1 then some (if neg = true then -(n : Int) else n, m) else none
def readR (l : List Nat) : Option (Int × Nat) :=
  match readD (topOf (body l)) with
  | none => none
  | some n => if isNeg l = true ∧ n = 0 then none else match botOf (body l) with
    | none => rfin (isNeg l) n 1
    | some b => match readD b with
      | none => none
      | some m => if m < 2 then none else rfin (isNeg l) n m
def ratD : Option (Int × Nat) → D
  | none => .non
  | some (p, q) => .tup [.int p, .int q]
theorem sl_tl : ("/" : Str).cps.toList = [47] := by decide +kernel
theorem part_none {x : Str} (h : botOf x.cps.toList = none) : Txt.partition x "/" = (x, Str.empty, Str.empty) := TL.partition_none (show TL.tl ("/" : Str) = 47 :: [] from sl_tl) (cut_none h).1
theorem part_some {x : Str} {b : List Nat} (h : botOf x.cps.toList = some b) : ∃ u v : Str, Txt.partition x "/" = (u, ("/" : Str), v) ∧ u.cps.toList = topOf x.cps.toList ∧ v.cps.toList = b := by
  obtain ⟨h1, h2⟩ := cut_some h
  refine ⟨⟨(topOf x.cps.toList).toArray⟩, ⟨b.toArray⟩, ?_, rfl, rfl⟩
  have e : x = (⟨(topOf x.cps.toList).toArray⟩ : Str) ++ "/" ++ ⟨b.toArray⟩ := by
    refine str_ext ?_
    rw [str_app, str_app, sl_tl]
    show x.cps.toList = topOf x.cps.toList ++ [47] ++ b
    rw [List.append_assoc]
    exact h1
  have p := TL.partition_app (y := "/") (show TL.tl ("/" : Str) = 47 :: [] from sl_tl) (a := ⟨(topOf x.cps.toList).toArray⟩) (b := ⟨b.toArray⟩) h2
  rw [← e] at p
  exact p
theorem starts_minus (x : Str) : Txt.startswith x "-" = isNeg x.cps.toList := by
  have e : ("-" : Str) = ⟨#[45]⟩ := by decide +kernel
  rw [e]
  have h := PySem.StrLaws.subAt_one x 45 0
  unfold isNeg
  rw [show x.cps.toList.head? = x.cps.toList[0]? from List.head?_eq_getElem?]
  show (decide (0 + (⟨#[45]⟩ : Str).length ≤ x.length) && _) = _
  by_cases h2 : x.cps.toList[0]? = some 45
  · obtain ⟨h3, h4⟩ := h.mpr h2
    rw [decide_eq_true h2, decide_eq_true h3, Bool.true_and]
    exact h4
  · rw [decide_eq_false h2]
    cases h3 : (decide (0 + (⟨#[45]⟩ : Str).length ≤ x.length) && Builtin.Str.subAt x ⟨#[45]⟩ 0) with
    | false => rfl
    | true =>
      rw [Bool.and_eq_true, decide_eq_true_eq] at h3
      exact absurd (h.mp h3) h2
theorem cut_tail (x : Str) : (cutS x (some 1) none).cps.toList = x.cps.toList.tail := by
  have e1 : HT.sIx x.length x.length none = x.length := rfl
  show (x.cps.toList.drop (HT.sIx x.length 0 (some 1))).take (HT.sIx x.length x.length none - HT.sIx x.length 0 (some 1)) = _
  rw [e1, str_len]
  cases e : x.cps.toList with
  | nil => rfl
  | cons c r =>
    have e0 : HT.sIx (c :: r).length 0 (some 1) = 1 := by simp [HT.sIx]
    rw [e0, List.drop_succ_cons, List.drop_zero, List.tail_cons]
    exact List.take_of_length_le (by rw [List.length_cons]; omega)
theorem cut_zero (x : Str) : (cutS x (some 0) none) = x := by
  refine str_ext ?_
  have e1 : HT.sIx x.length x.length none = x.length := rfl
  have e0 : HT.sIx x.length 0 (some 0) = 0 := by simp [HT.sIx]
  show (x.cps.toList.drop (HT.sIx x.length 0 (some 0))).take (HT.sIx x.length x.length none - HT.sIx x.length 0 (some 0)) = _
  rw [e1, e0, List.drop_zero, str_len]
  exact List.take_of_length_le (Nat.le_refl _)
theorem kind_sl (x : Str) : ¬ Builtin.Str.strKind x < Builtin.Str.strKind ("/" : Str) := by
  have e : Builtin.Str.strKind ("/" : Str) = 1 := by decide +kernel
  rw [e]
  unfold Builtin.Str.strKind
  repeat (first | omega | split)
theorem split_sl {ps : List Str} (hn : ps ≠ []) (hf : ∀ p ∈ ps, 47 ∉ p.cps.toList) : Txt.split (Txt.join "/" ps) "/" = ps :=
  TL.split_join (show TL.tl ("/" : Str) = 47 :: [] from sl_tl) (by decide +kernel) hn hf
theorem split_cases (z : Str) : (botOf z.cps.toList = none ∧ Txt.split z "/" = [z]) ∨ ∃ b, botOf z.cps.toList = some b ∧
    ((47 ∉ b ∧ ∃ u v : Str, Txt.split z "/" = [u, v] ∧ u.cps.toList = topOf z.cps.toList ∧ v.cps.toList = b) ∨ (47 ∈ b ∧ 2 < (Txt.split z "/").length)) := by
  cases h : botOf z.cps.toList with
  | none =>
    refine .inl ⟨rfl, ?_⟩
    have hf := (cut_none h).1
    have e := split_sl (ps := [z]) (List.cons_ne_nil _ _) fun p hp => by rw [List.mem_singleton.mp hp]; exact hf
    have e2 : Txt.join "/" [z] = z := str_ext (by rw [join_tl]; rfl)
    rw [e2] at e
    exact e
  | some b =>
    obtain ⟨h1, h2⟩ := cut_some h
    refine .inr ⟨b, rfl, ?_⟩
    by_cases hb : 47 ∈ b
    · refine .inr ⟨hb, ?_⟩
      have e47 : ("/" : Str) = ⟨#[47]⟩ := by decide +kernel
      have fr : ∀ p ∈ Txt.split (⟨b.toArray⟩ : Str) "/", 47 ∉ p.cps.toList := by
        rw [e47]
        exact PySem.StrLaws.split_free _ 47
      have jn : Txt.join "/" (Txt.split (⟨b.toArray⟩ : Str) "/") = ⟨b.toArray⟩ := by
        rw [TL.join_eq]
        exact PySem.StrLaws.join_split _ _
      have two : 2 ≤ (Txt.split (⟨b.toArray⟩ : Str) "/").length := by
        match hs : Txt.split (⟨b.toArray⟩ : Str) "/", fr, jn with
        | [], _, jn =>
          have := split_pos (⟨b.toArray⟩ : Str) "/"
          rw [hs] at this
          exact absurd this (by decide)
        | [p], fr, jn =>
          have e : p.cps.toList = b := by
            have q := congrArg (fun s : Str => s.cps.toList) jn
            have q2 : (Txt.join "/" [p]).cps.toList = b := q
            rw [join_tl] at q2
            exact q2
          exact absurd hb (by rw [← e]; exact fr p (List.mem_singleton.mpr rfl))
        | p :: q :: r, _, _ => simp
      have e := split_sl (ps := (⟨(topOf z.cps.toList).toArray⟩ : Str) :: Txt.split (⟨b.toArray⟩ : Str) "/") (List.cons_ne_nil _ _) fun p hp => by
        rcases List.mem_cons.mp hp with e | hp
        · rw [e]
          exact h2
        · exact fr p hp
      have e2 : Txt.join "/" ((⟨(topOf z.cps.toList).toArray⟩ : Str) :: Txt.split (⟨b.toArray⟩ : Str) "/") = z := by
        refine str_ext ?_
        rw [join_tl]
        match hs : Txt.split (⟨b.toArray⟩ : Str) "/", jn, two with
        | p :: r, jn, _ =>
          have q := congrArg (fun s : Str => s.cps.toList) jn
          have q2 : (Txt.join "/" (p :: r)).cps.toList = b := q
          rw [join_tl] at q2
          rw [List.map_cons, List.map_cons]
          show topOf z.cps.toList ++ (("/" : Str).cps.toList ++ TL.joinL ("/" : Str).cps.toList ((p :: r).map fun p => p.cps.toList)) = _
          rw [q2, sl_tl]
          exact h1.symm
        | [], _, two => exact absurd two (by decide)
      rw [e2] at e
      rw [e, List.length_cons]
      omega
    · refine .inl ⟨hb, ⟨(topOf z.cps.toList).toArray⟩, ⟨b.toArray⟩, ?_, rfl, rfl⟩
      have e := split_sl (ps := [(⟨(topOf z.cps.toList).toArray⟩ : Str), ⟨b.toArray⟩]) (List.cons_ne_nil _ _) fun p hp => by
        rcases List.mem_cons.mp hp with e | hp
        · rw [e]
          exact h2
        · rw [List.mem_singleton.mp hp]
          exact hb
      have e2 : Txt.join "/" [(⟨(topOf z.cps.toList).toArray⟩ : Str), ⟨b.toArray⟩] = z := by
        refine str_ext ?_
        rw [join_tl, sl_tl]
        exact h1.symm
      rw [e2] at e
      exact e
/-! ### numbers, written -/
theorem val_lt : ∀ {l : List Nat}, PySem.NumText.AllDigits l → PySem.NumText.digitsVal l < 10 ^ l.length := by
  have g : ∀ (l : List Nat) (a : Nat), PySem.NumText.AllDigits l → l.foldl (fun acc c => acc * 10 + (c - 48)) a < (a + 1) * 10 ^ l.length := by
    intro l
    induction l with
    | nil =>
      intro a _
      show a < (a + 1) * 10 ^ 0
      omega
    | cons c r ih =>
      intro a h
      rw [List.foldl_cons, List.length_cons]
      refine Nat.lt_of_lt_of_le (ih _ h.tail) ?_
      have hc := h.head
      have e : (a + 1) * 10 ^ (r.length + 1) = ((a + 1) * 10) * 10 ^ r.length := by rw [Nat.pow_succ, Nat.mul_assoc, Nat.mul_comm 10]
      rw [e]
      exact Nat.mul_le_mul_right _ (by omega)
  intro l h
  have z := g l 0 h
  rw [Nat.zero_add, Nat.one_mul] at z
  exact z
theorem numL_len_iff (n : Nat) : (TL.numL n).length ≤ 400 ↔ n < 10 ^ 400 := by
  constructor
  · intro h
    have z := val_lt (TL.numL_digits n)
    rw [TL.numL_val] at z
    exact Nat.lt_of_lt_of_le z (Nat.pow_le_pow_right (by decide) h)
  · exact TL.numL_len (by decide)
theorem numL_head : ∀ n : Nat, 0 < n → ∀ c, (TL.numL n).head? = some c → c ≠ 48 := by
  intro n
  induction n using Nat.strongRecOn with
  | _ n ih =>
    intro hn c hc
    by_cases h : n < 10
    · rw [TL.numL_lt h] at hc
      have e : 48 + n = c := Option.some.inj hc
      omega
    · rw [TL.numL_step (by omega)] at hc
      have hne := TL.numL_ne (n / 10)
      refine ih (n / 10) (by omega) (by omega) c ?_
      cases e : TL.numL (n / 10) with
      | nil => exact absurd e hne
      | cons a r =>
        rw [e] at hc
        exact hc
theorem read_num (n : Nat) : readD (TL.numL n) = if n < 10 ^ 400 then some n else none := by
  by_cases h : n < 10 ^ 400
  · rw [if_pos h, readD_some ⟨all_dig.mpr (TL.numL_digits n), TL.numL_ne n, (numL_len_iff n).mpr h, fun z => ?_⟩, TL.numL_val]
    by_cases h0 : n = 0
    · subst h0
      have e : (TL.numL 0).length = 1 := by rw [TL.numL_lt (by decide)]; rfl
      have := z.2
      omega
    · exact numL_head n (by omega) 48 z.1 rfl
  · rw [if_neg h, readD_none fun z => h ((numL_len_iff n).mp z.2.2.1)]
theorem val_snoc (l : List Nat) (c : Nat) : PySem.NumText.digitsVal (l ++ [c]) = PySem.NumText.digitsVal l * 10 + (c - 48) := by
  unfold PySem.NumText.digitsVal
  rw [List.foldl_append]
  rfl
theorem val_pos : ∀ {l : List Nat}, PySem.NumText.AllDigits l → l ≠ [] → l.head? ≠ some 48 → 0 < PySem.NumText.digitsVal l := by
  have g : ∀ (l : List Nat) (a : Nat), a ≤ l.foldl (fun acc c => acc * 10 + (c - 48)) a := by
    intro l
    induction l with
    | nil => intro a; exact Nat.le_refl _
    | cons c r ih =>
      intro a
      rw [List.foldl_cons]
      exact Nat.le_trans (by omega) (ih _)
  intro l h hn h0
  cases l with
  | nil => exact absurd rfl hn
  | cons c r =>
    have hc := h.head
    have hne : c ≠ 48 := fun e => h0 (by rw [e]; rfl)
    have z := g r (0 * 10 + (c - 48))
    show 0 < r.foldl _ (0 * 10 + (c - 48))
    omega
theorem num_back : ∀ (k : Nat) (l : List Nat), l.length = k → PySem.NumText.AllDigits l → l ≠ [] → ¬ (l.head? = some 48 ∧ 1 < l.length) → TL.numL (PySem.NumText.digitsVal l) = l := by
  intro k
  induction k with
  | zero =>
    intro l hk _ hn _
    exact absurd (List.eq_nil_of_length_eq_zero hk) hn
  | succ k ih =>
    intro l hk hd hn h0
    obtain ⟨r, c, rfl⟩ : ∃ r c, l = r ++ [c] := ⟨l.dropLast, l.getLast hn, (List.dropLast_concat_getLast hn).symm⟩
    have hc := hd c (List.mem_append_right _ (List.mem_singleton.mpr rfl))
    have hr : PySem.NumText.AllDigits r := fun d h => hd d (List.mem_append_left _ h)
    rw [List.length_append, List.length_singleton] at hk
    rw [val_snoc]
    cases hrn : r with
    | nil =>
      have e : PySem.NumText.digitsVal [] * 10 + (c - 48) = c - 48 := by
        show 0 * 10 + (c - 48) = _
        omega
      rw [e, TL.numL_lt (by omega), List.nil_append]
      have e2 : 48 + (c - 48) = c := by omega
      rw [e2]
    | cons a t =>
      have hne : r ≠ [] := by rw [hrn]; exact List.cons_ne_nil _ _
      have h48 : r.head? ≠ some 48 := fun z => h0 ⟨by rw [hrn] at z ⊢; exact z, by rw [List.length_append, hrn, List.length_cons, List.length_singleton]; omega⟩
      have pos := val_pos hr hne h48
      have e := ih r (by omega) hr hne fun z => h48 z.1
      rw [← hrn, TL.numL_step (by omega)]
      have e1 : (PySem.NumText.digitsVal r * 10 + (c - 48)) / 10 = PySem.NumText.digitsVal r := by omega
      have e2 : (PySem.NumText.digitsVal r * 10 + (c - 48)) % 10 = c - 48 := by omega
      have e3 : 48 + (c - 48) = c := by omega
      rw [e1, e2, e3, e]
theorem read_back {l : List Nat} {n : Nat} (h : readD l = some n) : TL.numL n = l := by
  by_cases hc : l.all dig = true ∧ l ≠ [] ∧ l.length ≤ 400 ∧ ¬ (l.head? = some 48 ∧ 1 < l.length)
  · rw [readD_some hc] at h
    cases h
    exact num_back _ l rfl (all_dig.mp hc.1) hc.2.1 hc.2.2.2
  · rw [readD_none hc] at h
    cases h
def writeL (p : Int) (q : Nat) : List Nat := (if p < 0 then 45 :: TL.numL p.natAbs else TL.numL p.natAbs) ++ (if q = 1 then [] else 47 :: TL.numL q)
/-- what is read, written again -/
theorem write_read {l : List Nat} {p : Int} {q : Nat} (h : readR l = some (p, q)) : writeL p q = l ∧ 1 ≤ q ∧ Nat.gcd p.natAbs q = 1 ∧ p.natAbs < 10 ^ 400 ∧ q < 10 ^ 400 := by
  have small : ∀ {l n}, readD l = some n → n < 10 ^ 400 := fun {l n} h => by
    have e := read_back h
    have r := read_num n
    rw [e, h] at r
    by_cases hs : n < 10 ^ 400
    · exact hs
    · rw [if_neg hs] at r
      cases r
  unfold readR at h
  cases h1 : readD (topOf (body l)) with
  | none => rw [h1] at h; cases h
  | some n =>
    rw [h1] at h
    dsimp only at h
    have b1 := read_back h1
    by_cases h2 : isNeg l = true ∧ n = 0
    · rw [if_pos h2] at h
      cases h
    rw [if_neg h2] at h
    have shape : ∀ m : Nat, rfin (isNeg l) n m = some (p, q) → q = m ∧ p.natAbs = n ∧ Nat.gcd n m = 1 ∧ (p < 0 ↔ isNeg l = true) := fun m hr => by
      unfold rfin at hr
      by_cases hg : Nat.gcd n m = 1
      · rw [if_pos hg] at hr
        have e := Option.some.inj hr
        have e1 := (Prod.mk.inj e).1
        have e2 := (Prod.mk.inj e).2
        refine ⟨e2.symm, ?_, hg, ?_⟩
        · rw [← e1]
          split <;> omega
        · rw [← e1]
          cases hn : isNeg l with
          | true =>
            have : n ≠ 0 := fun z => h2 ⟨hn, z⟩
            simp only [if_true]
            exact ⟨fun _ => trivial, fun _ => by omega⟩
          | false => simp
      · rw [if_neg hg] at hr
        cases hr
    have front : p.natAbs = n → (p < 0 ↔ isNeg l = true) → (if p < 0 then 45 :: TL.numL p.natAbs else TL.numL p.natAbs) ++ (body l).drop (topOf (body l)).length = l := fun e1 e2 => by
      rw [e1, b1]
      have hb : topOf (body l) ++ (body l).drop (topOf (body l)).length = body l := by
        cases hc : botOf (body l) with
        | none => rw [(cut_none hc).2, List.drop_length, List.append_nil]
        | some b =>
          have q := (cut_some hc).1
          have e : (body l).drop (topOf (body l)).length = 47 :: b := by
            conv => lhs; arg 2; rw [q]
            rw [List.drop_left]
          rw [e]
          exact q.symm
      by_cases hp : p < 0
      · have hn := e2.mp hp
        rw [if_pos hp, List.cons_append, hb]
        unfold body
        rw [if_pos hn]
        cases l with
        | nil => cases hn
        | cons c r =>
          have e : c = 45 := Option.some.inj (of_decide_eq_true hn)
          rw [e]
          rfl
      · have hn : ¬ isNeg l = true := fun z => hp (e2.mpr z)
        rw [if_neg hp, hb]
        unfold body
        rw [if_neg hn]
    cases h3 : botOf (body l) with
    | none =>
      rw [h3] at h
      dsimp only at h
      obtain ⟨e1, e2, e3, e4⟩ := shape 1 h
      have f := front e2 e4
      rw [(cut_none h3).2, List.drop_length, List.append_nil] at f
      refine ⟨?_, by omega, by rw [e2, e1]; exact e3, by rw [e2]; exact small h1, by rw [e1]; exact Nat.one_lt_pow (by decide) (by decide)⟩
      unfold writeL
      rw [if_pos e1, List.append_nil]
      exact f
    | some b =>
      rw [h3] at h
      dsimp only at h
      cases h4 : readD b with
      | none => rw [h4] at h; cases h
      | some m =>
        rw [h4] at h
        dsimp only at h
        by_cases h5 : m < 2
        · rw [if_pos h5] at h
          cases h
        rw [if_neg h5] at h
        obtain ⟨e1, e2, e3, e4⟩ := shape m h
        have f := front e2 e4
        have q0 := (cut_some h3).1
        have e : (body l).drop (topOf (body l)).length = 47 :: b := by
          conv => lhs; arg 2; rw [q0]
          rw [List.drop_left]
        rw [e] at f
        refine ⟨?_, by omega, by rw [e2, e1]; exact e3, by rw [e2]; exact small h1, by rw [e1]; exact small h4⟩
        unfold writeL
        rw [if_neg (show ¬ q = 1 by omega), e1, read_back h4]
        exact f
/-- what is written, read again -/
theorem read_write {p : Int} {q : Nat} (hq : 1 ≤ q) (hg : Nat.gcd p.natAbs q = 1) : readR (writeL p q) = if p.natAbs < 10 ^ 400 ∧ q < 10 ^ 400 then some (p, q) else none := by
  have f47 : ∀ n, 47 ∉ TL.numL n := fun n => TL.numL_free (.inl (by decide))
  have f45 : ∀ n, 45 ∉ TL.numL n := fun n => TL.numL_free (.inl (by decide))
  have hneg : isNeg (writeL p q) = decide (p < 0) := by
    unfold isNeg writeL
    by_cases hp : p < 0
    · rw [if_pos hp, decide_eq_true hp]
      exact decide_eq_true rfl
    · rw [if_neg hp, decide_eq_false hp]
      refine decide_eq_false fun z => ?_
      cases e : TL.numL p.natAbs with
      | nil => exact TL.numL_ne _ e
      | cons c r =>
        rw [e] at z
        have e2 : c = 45 := Option.some.inj z
        exact f45 p.natAbs (by rw [e, e2]; exact List.mem_cons_self ..)
  have hbody : body (writeL p q) = TL.numL p.natAbs ++ (if q = 1 then [] else 47 :: TL.numL q) := by
    unfold body
    rw [hneg]
    unfold writeL
    by_cases hp : p < 0
    · rw [decide_eq_true hp, if_pos rfl, if_pos hp]
      rfl
    · rw [decide_eq_false hp, if_neg Bool.false_ne_true, if_neg hp]
  have fin : ∀ m : Nat, Nat.gcd p.natAbs m = 1 → rfin (decide (p < 0)) p.natAbs m = some (p, m) := fun m hg => by
    unfold rfin
    rw [if_pos hg]
    by_cases hp : p < 0
    · rw [decide_eq_true hp, if_pos rfl]
      have e : -(p.natAbs : Int) = p := by omega
      rw [e]
    · rw [decide_eq_false hp, if_neg Bool.false_ne_true]
      have e : (p.natAbs : Int) = p := by omega
      rw [e]
  have n0 : ¬ (decide (p < 0) = true ∧ p.natAbs = 0) := fun z => by
    have := of_decide_eq_true z.1
    have := z.2
    omega
  unfold readR
  rw [hneg, hbody]
  by_cases h1 : q = 1
  · subst h1
    rw [if_pos rfl, List.append_nil, (top_free (f47 p.natAbs)).1, (top_free (f47 p.natAbs)).2, read_num]
    by_cases hs : p.natAbs < 10 ^ 400
    · rw [if_pos hs, if_pos ⟨hs, Nat.one_lt_pow (by decide) (by decide)⟩]
      dsimp only
      rw [if_neg n0]
      exact fin 1 hg
    · rw [if_neg hs, if_neg fun z => hs z.1]
  · rw [if_neg h1, (top_app (f47 p.natAbs)).1, (top_app (f47 p.natAbs)).2, read_num]
    by_cases hs : p.natAbs < 10 ^ 400
    · rw [if_pos hs]
      dsimp only
      rw [if_neg n0, read_num]
      by_cases hs2 : q < 10 ^ 400
      · rw [if_pos hs2, if_pos ⟨hs, hs2⟩]
        dsimp only
        rw [if_neg (by omega)]
        exact fin q hg
      · rw [if_neg hs2, if_neg fun z => hs2 z.2]
    · rw [if_neg hs, if_neg fun z => hs z.1]
end My
namespace My
open PySem PySem.Spec PyProof.Rows L2
theorem bt_ValueError : bootBuiltins "ValueError" = some (.type "ValueError") := by decide +kernel
theorem free_same {H H' : Hp} {p : Addr} (x : Same H H') (h : H' p = none) : H p = none := by
  cases e : H p with
  | none => rfl
  | some o =>
    rw [x _ _ e] at h
    cases h
/-! ### __init__ -/
def IniEnd (a C : Addr) (fs : List (Str × V)) (H : Hp) (Q : VK) : Prop := ∀ (dx : Addr) (H' : Hp), H dx = none → dx ≠ a → H' a = some (exo a C (some dx)) → H' dx = some (exd dx fs) → (∀ b o, b ≠ a → H b = some o → H' b = some o) → Q .non H'
def spIni1 (K : PySem.W.Frag) (C : Addr) (f : Str) : Sp := fun vs H Q _ => ∃ (a : Addr) (x : V), vs = [.ref a, x] ∧ OexC K C ∧ PySem.W.findIn K (.ref C) f = some none ∧ H a = some (exo a C none) ∧ IniEnd a C [(f, x)] H Q
section
variable {σ : L2.St} {H : Hp} {D : Ends} {K : PySem.W.Frag} {f : Str} {to te : TE}
theorem g_ost (h : te σ H fun y H1 => to σ H1 fun x H2 => ∃ a C : Addr, x = .ref a ∧ OexC K C ∧ PySem.W.findIn K (.ref C) f = some none ∧
  ((H2 a = some (exo a C none) ∧ ∀ dx, H2 dx = none → dx ≠ a → D.nx σ (upd (upd H2 dx (exd dx [(f, y)])) a (exo a C (some dx)))) ∨
    ∃ (dx : Addr) (fs : List (Str × V)), H2 a = some (exo a C (some dx)) ∧ H2 dx = some (exd dx fs) ∧ fs.length ≤ 900 ∧ D.nx σ (upd H2 dx (exd dx ((f, y) :: fs))))) : tOst K f to te D σ H := h
end
section
variable {K : PySem.W.Frag}
theorem raise1 {C : Addr} {f : Str} {x : V} {H : Hp} {Q : XK} (o : OexC K C) (n : PySem.W.findIn K (.ref C) f = some none) (q : ∀ d H', Same H H' → H' d = some (.xd [(f, x)]) → Q (.ref C) (some d) H') :
    [x].length ≤ 1000 ∧ ∀ a, H a = none → spIni1 K C f (.ref a :: ([x] ++ [])) (upd H a (exo a C none)) (fun v H2 => v = .non ∧ ∃ (d : Addr) (fs : List (Str × V)), H2 a = some (exo a C (some d)) ∧ H2 d = some (exd d fs) ∧ H d = none ∧ Q (.ref C) (some d) (upd (del H2 a) d (.xd fs))) (fun _ _ _ => False) := by
  refine ⟨by show 1 ≤ 1000; decide, fun a ha => ⟨a, x, rfl, o, n, upd_same, fun dx H' h1 h2 h3 h4 h5 => ⟨rfl, dx, _, h3, h4, ?_, q dx _ (fun b u hb => ?_) upd_same⟩⟩⟩
  · rw [upd_ne h2] at h1
    exact h1
  · rw [upd_ne h2] at h1
    rw [upd_ne (ne_of_none hb h1), del_ne (ne_of_none hb ha)]
    exact h5 b u (ne_of_none hb ha) (by rw [upd_ne (ne_of_none hb ha)]; exact hb)
theorem g_mkO {C : Addr} {sp : Sp} {dvs : List V} {ta : TA} {σ : L2.St} {H : Hp} {Q : XK} (h : ta σ H fun vs H1 => vs.length ≤ 1000 ∧ ∀ a, H1 a = none → sp (.ref a :: (vs ++ dvs)) (upd H1 a (exo a C none))
  (fun v H2 => v = .non ∧ ∃ (d : Addr) (fs : List (Str × V)), H2 a = some (exo a C (some d)) ∧ H2 d = some (exd d fs) ∧ H1 d = none ∧ Q (.ref C) (some d) (upd (del H2 a) d (.xd fs))) (fun _ _ _ => False)) : tMkO C sp dvs ta σ H Q := h
theorem g_callS {sp : Sp} {E : L2.St → XK} {t : TA} {σ : L2.St} {H : Hp} {Q : VK} (h : t σ H fun vs H1 => sp vs H1 Q (E σ)) : tCallS sp E t σ H Q := h
end
local macro_rules | `(tactic| walk_at "arith") => `(tactic| first
  | (with_reducible show _ ≠ _; omega)
  | (unfold CMul; omega)
  | (unfold CPow; omega)
  | (unfold CPow; decide)
  | exact wide_div (b := 100) (by decide) (by decide) (by decide) (by decide))
local macro_rules | `(tactic| walk_at "go") => `(tactic| repeat (first
  | with_reducible refine g_seq ?_
  | with_reducible refine g_asg ?_
  | with_reducible refine g_name ?_
  | with_reducible refine g_sub ?_
  | with_reducible refine g_ret ?_
  | with_reducible refine g_drop ?_
  | ((with_reducible refine g_next ?_); dsimp only)
  | with_reducible refine g_if ?_
  | with_reducible refine g_var rfl ?_
  | with_reducible refine g_c ?_
  | with_reducible refine g_op ?_
  | with_reducible refine g_un ?_
  | with_reducible refine g_I0 ?_
  | with_reducible refine g_U ?_
  | with_reducible refine g_eq rfl ?_
  | with_reducible refine g_test ?_
  | with_reducible refine g_bl ?_
  | with_reducible refine iteF ?_
  | with_reducible refine iteT ?_
  | ((with_reducible apply g_iteT); (case e => rfl))
  | ((with_reducible apply g_iteF); (case e => rfl))
  | with_reducible refine g_int1 ?_
  | with_reducible refine g_max2 ?_
  | with_reducible refine g_min2 ?_
  | with_reducible refine g_isN ?_
  | with_reducible refine g_notN ?_
  | ((with_reducible apply g_lenL); (case hs => assumption))
  | ((with_reducible apply g_ixL); (case hs => exact SqL.of (by assumption)); (case ha => rfl))
  | with_reducible refine g_pow9 ?_
  | with_reducible refine g_pow18 ?_
  | ((with_reducible apply g_I); (case c => walk_at "arith"))
  | ((with_reducible apply g_st); (case hs => assumption); (case hL => assumption); (case ne => assumption); (case x0 => assumption); (case hj => rfl); (case j0 => decide); intro _ _ _ _)
  | with_reducible refine g_and ?_
  | with_reducible refine g_or ?_
  | with_reducible refine g_not ?_
  | with_reducible refine g_nil ?_
  | with_reducible refine g_cons ?_
  | with_reducible refine g_callB ?_
  | with_reducible refine g_call ?_
  | with_reducible refine g_tup ?_
  | with_reducible refine g_lst ?_
  | with_reducible refine g_andV ?_
  | with_reducible refine g_orV ?_
  | with_reducible refine g_notV ?_
  | with_reducible refine g_tB ?_
  | with_reducible refine g_ne rfl ?_
  | with_reducible refine g_abs ?_
  | with_reducible refine g_isB ?_
  | with_reducible refine g_for ?_
  | with_reducible refine g_rng1 ?_
  | with_reducible refine g_rng2 ?_
  | with_reducible refine g_iList ?_
  | ((with_reducible refine g_break ?_); dsimp only)
  | ((with_reducible refine g_cont ?_); dsimp only)
  | with_reducible refine g_retN ?_
  | ((with_reducible apply isi_go (T := "int")); (case h => assumption); (case hb => exact k_int_ _))
  | ((with_reducible apply isi_go (T := "str")); (case h => assumption); (case hb => exact k_str_ _))
  | ((with_reducible apply isi_go (T := "bool")); (case h => assumption); (case hb => exact k_bool_ _))
  | ((with_reducible apply isi_go (T := "list")); (case h => assumption); (case hb => exact k_list_ _))
  | ((with_reducible apply isi_go (T := "tuple")); (case h => assumption); (case hb => exact k_tuple_ _))
  | ((with_reducible apply isi_go (T := "dict")); (case h => assumption); (case hb => exact k_dict_ _))
  | with_reducible refine g_intb ?_
  | with_reducible refine g_bm ?_
  | with_reducible refine g_tyS ?_
  | ((with_reducible apply g_tyL); (case hs => assumption))
  | with_reducible refine g_lc ?_
  | with_reducible refine g_sl ?_
  | with_reducible refine g_noP ?_
  | with_reducible refine g_part ?_
  | with_reducible refine g_pI ?_
  | with_reducible refine g_ifE ?_
  | with_reducible refine g_par ?_
  | with_reducible refine g_two ?_
  | with_reducible refine g_yes ?_
  | with_reducible refine g_gCons ?_
  | with_reducible refine g_gNil ?_))

abbrev s_WrongKind_init : Stmt := inClass (topS 2) 0
abbrev N_WrongKind_init : List Str := ["self", "argument"]
abbrev P_WrongKind_init : List Str := ["self", "argument"]
theorem sc_WrongKind_init : FnScope N_WrongKind_init P_WrongKind_init (defScope s_WrongKind_init) := ⟨rfl, rfl, rfl, by decide +kernel, rfl, by decide +kernel, by decide +kernel⟩

section
variable {P : Program} {w : World} {K : PySem.W.Frag} {mg : Str → Option Value} {base : Heap}
theorem ok_iWrongKind (T : Txt K mg) : FnOk P w K mg base CX0 1 T.iWrongKind.f T.iWrongKind.fd P_WrongKind_init (spIni1 K T.cWrongKind.C "argument") := by
  refine T.iWrongKind.F.ok sc_WrongKind_init (fun vs H Q E h => ?_) (fun cdv A outer s_ H vs Q E hr h => ?_)
  · obtain ⟨a, x, rfl, _⟩ := h
    rfl
  · obtain ⟨a, x, rfl, o, n, ea, k⟩ := h
    refine ⟨_, (pss_one (ps_ost (pv 0) (pv 1))), ?_⟩
    try dsimp only [cxOf, Cx.nox, Cx.wish]
    try dsimp only
    walk_at "go"
    try dsimp only
    refine g_ost ?_
    walk_at "go"
    refine ⟨a, _, rfl, o, n, .inl ⟨ea, fun dx n1 n2 => ?_⟩⟩
    walk_at "go"
    exact k dx _ n1 n2 upd_same (by rw [upd_ne n2, upd_same]) fun b u nb hb => by rw [upd_ne nb, upd_ne (ne_of_none hb n1)]; exact hb
end
end My
namespace My
open PySem PySem.Spec PyProof.Rows L2
local macro_rules | `(tactic| walk_at "arith") => `(tactic| first
  | (with_reducible show _ ≠ _; omega)
  | (unfold CMul; omega)
  | (unfold CPow; omega)
  | (unfold CPow; decide)
  | exact wide_div (b := 100) (by decide) (by decide) (by decide) (by decide))
local macro_rules | `(tactic| walk_at "go") => `(tactic| repeat (first
  | with_reducible refine g_seq ?_
  | with_reducible refine g_asg ?_
  | with_reducible refine g_name ?_
  | with_reducible refine g_sub ?_
  | with_reducible refine g_ret ?_
  | with_reducible refine g_drop ?_
  | ((with_reducible refine g_next ?_); dsimp only)
  | with_reducible refine g_if ?_
  | with_reducible refine g_var rfl ?_
  | with_reducible refine g_c ?_
  | with_reducible refine g_op ?_
  | with_reducible refine g_un ?_
  | with_reducible refine g_I0 ?_
  | with_reducible refine g_U ?_
  | with_reducible refine g_eq rfl ?_
  | with_reducible refine g_test ?_
  | with_reducible refine g_bl ?_
  | with_reducible refine iteF ?_
  | with_reducible refine iteT ?_
  | ((with_reducible apply g_iteT); (case e => rfl))
  | ((with_reducible apply g_iteF); (case e => rfl))
  | with_reducible refine g_int1 ?_
  | with_reducible refine g_max2 ?_
  | with_reducible refine g_min2 ?_
  | with_reducible refine g_isN ?_
  | with_reducible refine g_notN ?_
  | ((with_reducible apply g_lenL); (case hs => assumption))
  | ((with_reducible apply g_ixL); (case hs => exact SqL.of (by assumption)); (case ha => rfl))
  | with_reducible refine g_pow9 ?_
  | with_reducible refine g_pow18 ?_
  | ((with_reducible apply g_I); (case c => walk_at "arith"))
  | ((with_reducible apply g_st); (case hs => assumption); (case hL => assumption); (case ne => assumption); (case x0 => assumption); (case hj => rfl); (case j0 => decide); intro _ _ _ _)
  | with_reducible refine g_and ?_
  | with_reducible refine g_or ?_
  | with_reducible refine g_not ?_
  | with_reducible refine g_nil ?_
  | with_reducible refine g_cons ?_
  | with_reducible refine g_callB ?_
  | with_reducible refine g_call ?_
  | with_reducible refine g_tup ?_
  | with_reducible refine g_lst ?_
  | with_reducible refine g_andV ?_
  | with_reducible refine g_orV ?_
  | with_reducible refine g_notV ?_
  | with_reducible refine g_tB ?_
  | with_reducible refine g_ne rfl ?_
  | with_reducible refine g_abs ?_
  | with_reducible refine g_isB ?_
  | with_reducible refine g_for ?_
  | with_reducible refine g_rng1 ?_
  | with_reducible refine g_rng2 ?_
  | with_reducible refine g_iList ?_
  | ((with_reducible refine g_break ?_); dsimp only)
  | ((with_reducible refine g_cont ?_); dsimp only)
  | with_reducible refine g_retN ?_
  | ((with_reducible apply isi_go (T := "int")); (case h => assumption); (case hb => exact k_int_ _))
  | ((with_reducible apply isi_go (T := "str")); (case h => assumption); (case hb => exact k_str_ _))
  | ((with_reducible apply isi_go (T := "bool")); (case h => assumption); (case hb => exact k_bool_ _))
  | ((with_reducible apply isi_go (T := "list")); (case h => assumption); (case hb => exact k_list_ _))
  | ((with_reducible apply isi_go (T := "tuple")); (case h => assumption); (case hb => exact k_tuple_ _))
  | ((with_reducible apply isi_go (T := "dict")); (case h => assumption); (case hb => exact k_dict_ _))
  | with_reducible refine g_intb ?_
  | with_reducible refine g_bm ?_
  | with_reducible refine g_tyS ?_
  | ((with_reducible apply g_tyL); (case hs => assumption))
  | with_reducible refine g_lc ?_
  | with_reducible refine g_sl ?_
  | with_reducible refine g_noP ?_
  | with_reducible refine g_part ?_
  | with_reducible refine g_pI ?_
  | with_reducible refine g_ifE ?_
  | with_reducible refine g_par ?_
  | with_reducible refine g_two ?_
  | with_reducible refine g_yes ?_
  | with_reducible refine g_gCons ?_
  | with_reducible refine g_gNil ?_))

abbrev s_read_ratio : Stmt := topS 16
abbrev N_read_ratio : List Str := ["word", "top", "slash", "bottom", "negative", "numerator", "denominator", "found"]
abbrev P_read_ratio : List Str := ["word"]
theorem sc_read_ratio : FnScope N_read_ratio P_read_ratio (defScope s_read_ratio) := ⟨rfl, rfl, rfl, by decide +kernel, rfl, by decide +kernel, by decide +kernel⟩

def spReadR {K : PySem.W.Frag} {mg : Str → Option Value} (T : Txt K mg) : Sp := fun vs H Q E => ∃ (s : Addr) (dv : D) (v : V), vs = [v] ∧ Store K H s ∧ Da s H dv v ∧ (∀ x, dv = .str x → Asc x ∧ x.length ≤ 100000) ∧
  (isIn dv "str" = false → ∀ (d : Addr) (H' : Hp), Same H H' → H' d = some (.xd [("argument", .str "word")]) → E (.ref T.cWrongKind.C) (some d) H') ∧
  ∀ x, dv = .str x → ∀ (u : V) (H' : Hp), Same H H' → Da s H' (ratD (readR x.cps.toList)) u → Q u H'
theorem row_cases : ∀ d : D, isIn d "str" = false ∨ ∃ x, d = .str x
  | .str x => .inr ⟨x, rfl⟩
  | .non => .inl (by show isIn .non "str" = false; decide +kernel)
  | .bl _ => .inl (by show isIn (.bl true) "str" = false; decide +kernel)
  | .int _ => .inl (by show isIn (.int 0) "str" = false; decide +kernel)
  | .dct => .inl (by show isIn .dct "str" = false; decide +kernel)
  | .tup _ => .inl (by show isIn (.tup []) "str" = false; decide +kernel)
  | .lst _ => .inl (by show isIn (.lst []) "str" = false; decide +kernel)
theorem top_len : ∀ l : List Nat, (topOf l).length ≤ l.length
  | [] => Nat.le_refl _
  | c :: r => by
    show (if c = 47 then [] else c :: topOf r).length ≤ _
    split
    · exact Nat.zero_le _
    · exact Nat.succ_le_succ (top_len r)
theorem top_sub {c : Nat} : ∀ {l : List Nat}, c ∈ topOf l → c ∈ l
  | [], h => h
  | d :: r, h => by
    by_cases e : d = 47
    · rw [show topOf (d :: r) = [] from if_pos e] at h
      cases h
    · rw [show topOf (d :: r) = d :: topOf r from if_neg e] at h
      rcases List.mem_cons.mp h with h | h
      · exact h ▸ List.mem_cons_self ..
      · exact List.mem_cons_of_mem _ (top_sub h)
theorem tru_e {K : PySem.W.Frag} {H : Hp} : TruV K (.str (Str.ofString "")) H false := ⟨Nat.zero_le _, by show false = (((Str.ofString "").length : Int) != 0); decide +kernel⟩
theorem tru_s {K : PySem.W.Frag} {H : Hp} : TruV K (.str (Str.ofString "/")) H true := ⟨by show 1 ≤ sizeLine; decide, by show true = (((Str.ofString "/").length : Int) != 0); decide +kernel⟩
section
variable {P : Program} {w : World} {K : PySem.W.Frag} {mg : Str → Option Value} {base : Heap}
theorem ok_read_ratio (T : Txt K mg) : FnOk P w K mg base (L2N.CX P w) 4 T.dread_ratio.f T.dread_ratio.fd P_read_ratio (spReadR T) := by
  have I_WrongKind : FnOk P w K mg base CX0 1 T.iWrongKind.f T.iWrongKind.fd P_WrongKind_init (spIni1 K T.cWrongKind.C "argument") := ok_iWrongKind T
  have G_read_digits : FnOk P w K mg base CX0 1 T.dread_digits.f T.dread_digits.fd P_read_digits spRD := ok_read_digits T
  have G_is_ratio : FnOk P w K mg base CX0 2 T.dis_ratio.f T.dis_ratio.fd P_is_ratio spRatio := ok_ratio T
  refine T.dread_ratio.okN sc_read_ratio (fun vs H Q E h => ?_) (fun cdv A outer s_ H vs Q E hr h => ?_)
  · obtain ⟨s, dv, v, rfl, _⟩ := h
    rfl
  · obtain ⟨s, dv, v, rfl, st, da, hx, kE, kQ⟩ := h
    refine ⟨_, (pss_cons (ps_if (pt_not (pt_val (pe_callB call_isi (by rfl) T.m_isinstance bt_isinstance (pa_cons (pv 0) (pa_cons (pe_bltn (v := .ty "str") (by rfl) T.m_str bt_str rfl) pa_nil)))))
        (pss_one (L2N.ps_raise rfl (L2N.takes_of rfl rfl rfl rfl) (pmkN T.cWrongKind.o T.iWrongKind.i T.iWrongKind.t I_WrongKind (hr.mono (by omega)) T.iWrongKind.b .nil pass0 rfl T.cWrongKind.g (pa_cons pe_str pa_nil))))
        pss_nil)
      (pss_cons (ps_asg (pe_bm PySem.F.plainAttrs_str PySem.F.slot_str_partition PySem.F.type_str_partition mt_partition (pv 0) (pa_cons pe_str pa_nil)) (pg_tup rfl (pgs_cons (pg_name (i := 1) sc_read_ratio.nd rfl (by first | exact .inl rfl | exact .inr rfl)) (pgs_cons (pg_name (i := 2) sc_read_ratio.nd rfl (by first | exact .inl rfl | exact .inr rfl)) (pgs_cons (pg_name (i := 3) sc_read_ratio.nd rfl (by first | exact .inl rfl | exact .inr rfl)) pgs_nil)))))
      (pss_cons (ps_set (i := 4) sc_read_ratio.nd rfl (by first | exact .inl rfl | exact .inr rfl) (pe_bm PySem.F.plainAttrs_str PySem.F.slot_str_startswith PySem.F.type_str_startswith mt_startswith (pv 1) (pa_cons pe_str pa_nil)))
      (Evl.pss_cut (ps_set (i := 5) sc_read_ratio.nd rfl (by first | exact .inl rfl | exact .inr rfl) (pe_call G_read_digits (hr.mono (by omega)) rfl T.dread_digits.g T.dread_digits.F.kp T.dread_digits.b .nil pass0 (pa_cons (pe_ifExp (pt_val (pv 4)) (pe_slice sl_str (pv 1) (po_some pe_int) po_none) (pv 1)) pa_nil)))
      (Evl.pss_cut (ps_if (PW.pt (pw_or (pt_cmpR o_isN (pv 5) pe_non (nomark _)) (pw_or1 (PW.pt (pw_and (pt_val (pv 4)) (pw_and1 (pt_cmpR op_eq (pv 5) pe_int (nomark _))))))))
        (pss_one (ps_ret pe_non))
        pss_nil)
      (pss_cons (ps_set (i := 6) sc_read_ratio.nd rfl (by first | exact .inl rfl | exact .inr rfl) pe_int)
      (Evl.pss_cut (ps_if (pt_truth (pv 2) (by intro _; rfl))
        (pss_cons (ps_set (i := 6) sc_read_ratio.nd rfl (by first | exact .inl rfl | exact .inr rfl) (pe_call G_read_digits (hr.mono (by omega)) rfl T.dread_digits.g T.dread_digits.F.kp T.dread_digits.b .nil pass0 (pa_cons (pv 3) pa_nil)))
        (pss_one (ps_if (PW.pt (pw_or (pt_cmpR o_isN (pv 6) pe_non (nomark _)) (pw_or1 (pt_cmpR op_lt (pv 6) pe_int (nomark _)))))
          (pss_one (ps_ret pe_non))
          pss_nil)))
        pss_nil)
      (pss_cons (ps_set (i := 7) sc_read_ratio.nd rfl (by first | exact .inl rfl | exact .inr rfl) (pe_tup (pa_cons (pe_ifExp (pt_val (pv 4)) (pe_un un_neg (pv 5)) (pv 5)) (pa_cons (pv 6) pa_nil))))
      (pss_one (ps_ret (pe_ifExp (pt_val (pe_call G_is_ratio (hr.mono (by omega)) rfl T.dis_ratio.g T.dis_ratio.F.kp T.dis_ratio.b .nil pass0 (pa_cons (pv 7) pa_nil))) (pv 7) pe_non))))))))))), ?_⟩
    try dsimp only [cxOf, Cx.nox, Cx.wish]
    rcases row_cases dv with hb | ⟨x, rfl⟩
    · walk_at "go"
      refine g_iteT (by rw [hb]; rfl) ?_
      walk_at "go"
      try dsimp only
      refine g_mkO ?_
      walk_at "go"
      exact raise1 T.cWrongKind.o T.nWrongKind_argument fun d H' x hd => kE hb d H' x hd
    have e1 : v = _ := da
    subst e1
    obtain ⟨asc, hl⟩ := hx x rfl
    have kQ := kQ x rfl
    have hz : x.length ≤ sizeLine := by rw [sizeLine_eq]; omega
    walk_at "go"
    refine ⟨x, _, rfl, rfl, by decide +kernel, hz, fun p hp => ?_⟩
    obtain ⟨u, sl, v, hpart, hu, hsl⟩ : ∃ u sl v : Str, Txt.partition x "/" = (u, sl, v) ∧ u.cps.toList = topOf x.cps.toList ∧ ((botOf x.cps.toList = none ∧ sl = "") ∨ (botOf x.cps.toList = some v.cps.toList ∧ sl = "/")) := by
      cases hb : botOf x.cps.toList with
      | none => exact ⟨x, Str.empty, Str.empty, part_none hb, (cut_none hb).2.symm, .inl ⟨rfl, rfl⟩⟩
      | some b =>
        obtain ⟨u, v, h1, h2, h3⟩ := part_some hb
        exact ⟨u, _, v, h1, h2, .inr ⟨by rw [h3], rfl⟩⟩
    have hpart2 : Txt.partition x (Str.ofString "/") = (u, sl, v) := hpart
    rw [hpart2]
    have x1 : Same H (upd H p (.tup [.str u, .str sl, .str v])) := same_new hp
    have up := upd_same (H := H) (a := p) (o := .tup [.str u, .str sl, .str v])
    dsimp only
    generalize upd H p (.tup [.str u, .str sl, .str v]) = H1 at *
    obtain ⟨bt, bb⟩ := body_top x.cps.toList
    have ul : u.length ≤ 100000 := by
      rw [str_len, hu]
      refine Nat.le_trans ?_ hl
      rw [str_len]
      exact top_len _
    have uasc : Asc u := fun c hc => asc c (by rw [hu] at hc; exact top_sub hc)
    refine g_gTup (SqT.of up) rfl ?_
    walk_at "go"
    refine ⟨u, _, rfl, rfl, ?_⟩
    rw [show Txt.startswith u (Str.ofString "-") = isNeg u.cps.toList from starts_minus u, hu, neg_top]
    walk_at "go"
    refine g_cut (Mid := fun σ' H' => σ' = [some (.str x), some (.str u), some (.str sl), some (.str v), some (.bl (isNeg x.cps.toList)), some (optV (readD (topOf (body x.cps.toList)))), none, none] ∧ H' = H1) ?_ ?_
    · walk_at "go"
      refine g_ite (fun h => ?_) (fun h => ?_)
      · walk_at "go"
        refine ⟨u, rfl, by rw [sizeLine_eq]; omega, ?_⟩
        have e : (cutS u (some 1) none).cps.toList = topOf (body x.cps.toList) := by
          rw [cut_tail, hu, ← bt]
          unfold body
          rw [neg_top, if_pos h]
        have la := cutS_length u (some 1) none
        refine ⟨_, rfl, fun c hc => uasc c ?_, by omega, ?_⟩
        · rw [cut_tail] at hc
          exact List.mem_of_mem_tail hc
        rw [e]
        walk_at "go"
        exact ⟨rfl, rfl⟩
      · walk_at "go"
        have e : u.cps.toList = topOf (body x.cps.toList) := by
          rw [hu, ← bt]
          unfold body
          rw [neg_top, h]
          rfl
        refine ⟨_, rfl, uasc, by omega, ?_⟩
        rw [e]
        walk_at "go"
        exact ⟨rfl, rfl⟩
    rintro σ' H' ⟨rfl, rfl⟩
    walk_at "go"
    refine g_cut (Mid := fun σ' H2 => ∃ n : Nat, readD (topOf (body x.cps.toList)) = some n ∧ ¬ (isNeg x.cps.toList = true ∧ n = 0) ∧ σ' = [some (.str x), some (.str u), some (.str sl), some (.str v), some (.bl (isNeg x.cps.toList)), some (.int n), none, none] ∧ H2 = H') ?_ ?_
    · cases hD : readD (topOf (body x.cps.toList)) with
      | none =>
        walk_at "go"
        have e : readR x.cps.toList = none := by
          unfold readR
          rw [hD]
        have kk := kQ .non H' x1
        rw [e] at kk
        exact kk rfl
      | some n =>
        walk_at "go"
        refine g_ite (fun hn => ?_) (fun hn => ?_)
        · walk_at "go"
          refine g_ite (fun h0 => ?_) (fun h0 => ?_)
          · walk_at "go"
            have z : n = 0 := by
              have := dint_t h0
              omega
            have e : readR x.cps.toList = none := by
              unfold readR
              rw [hD]
              exact if_pos ⟨hn, z⟩
            have kk := kQ .non H' x1
            rw [e] at kk
            exact kk rfl
          · walk_at "go"
            exact ⟨n, rfl, fun z => dint_f h0 (by rw [z.2]; rfl), rfl, rfl⟩
        · walk_at "go"
          exact ⟨n, rfl, fun z => (by rw [z.1] at hn; cases hn), rfl, rfl⟩
    rintro σ' H2 ⟨n, hD, hn, rfl, rfl⟩
    walk_at "go"
    refine g_cut (Mid := fun σ' H3 => ∃ m : Nat, 1 ≤ m ∧ readR x.cps.toList = rfin (isNeg x.cps.toList) n m ∧ σ' = [some (.str x), some (.str u), some (.str sl), some (.str v), some (.bl (isNeg x.cps.toList)), some (.int n), some (.int m), none] ∧ H3 = H2) ?_ ?_
    · rcases hsl with ⟨hb, rfl⟩ | ⟨hb, rfl⟩
      · walk_at "go"
        refine ⟨false, tru_e, ?_⟩
        walk_at "go"
        refine ⟨1, Nat.le_refl 1, ?_, rfl, rfl⟩
        unfold readR
        rw [hD]
        dsimp only
        rw [if_neg hn, ← bb, hb]
      · have vl : v.length ≤ 100000 := by
          rw [str_len]
          refine Nat.le_trans ?_ hl
          rw [str_len, (cut_some hb).1, List.length_append, List.length_cons]
          omega
        have vasc : Asc v := fun c hc => asc c (by rw [(cut_some hb).1]; exact List.mem_append_right _ (List.mem_cons_of_mem _ hc))
        walk_at "go"
        refine ⟨true, tru_s, ?_⟩
        walk_at "go"
        refine ⟨v, rfl, vasc, by omega, ?_⟩
        have e0 : readR x.cps.toList = match readD v.cps.toList with
            | none => none
            | some m => if m < 2 then none else rfin (isNeg x.cps.toList) n m := by
          unfold readR
          rw [hD]
          dsimp only
          rw [if_neg hn, ← bb, hb]
          all_goals rfl
        cases hD2 : readD v.cps.toList with
        | none =>
          walk_at "go"
          rw [hD2] at e0
          have kk := kQ .non H2 x1
          rw [e0] at kk
          exact kk rfl
        | some m =>
          rw [hD2] at e0
          dsimp only at e0
          walk_at "go"
          try rw [show optV (some m) = V.int m from rfl]
          walk_at "go"
          refine g_ite (fun h2 => ?_) (fun h2 => ?_)
          · have h2 := of_decide_eq_true h2
            walk_at "go"
            rw [if_pos (by omega)] at e0
            have kk := kQ .non H2 x1
            rw [e0] at kk
            exact kk rfl
          · have h2 := of_decide_eq_false h2
            walk_at "go"
            rw [if_neg (by omega)] at e0
            exact ⟨m, by omega, e0, rfl, rfl⟩
    rintro σ' H3 ⟨m, hm, hR, rfl, rfl⟩
    have fin : ∀ i : Int, i = (if isNeg x.cps.toList = true then -(n : Int) else n) → ∀ p2, H3 p2 = none → Q (if isRat (.tup [.int i, .int m]) = true then .ref p2 else .non) (upd H3 p2 (.tup [.int i, .int m])) := fun i hi p2 g2 => by
      have eG : G2 i m = Nat.gcd n m := by
        unfold G2
        rw [hi]
        have e1 : (m : Int).natAbs = m := by omega
        rw [e1]
        split
        · have e2 : (-(n : Int)).natAbs = n := by omega
          rw [e2]
        · have e2 : (n : Int).natAbs = n := by omega
          rw [e2]
      have eR : isRat (.tup [.int i, .int m]) = decide (Nat.gcd n m = 1) := by
        show (decide (1 ≤ (m : Int)) && decide (G2 i m = 1)) = _
        rw [decide_eq_true (by omega), Bool.true_and, eG]
      rw [eR]
      have x2 : Same H (upd H3 p2 (.tup [.int i, .int m])) := x1.trans (same_new g2)
      by_cases hg : Nat.gcd n m = 1
      · rw [decide_eq_true hg, if_pos rfl]
        refine kQ _ _ x2 ?_
        rw [hR, show rfin (isNeg x.cps.toList) n m = some (if isNeg x.cps.toList = true then -(n : Int) else n, m) from if_pos hg, ← hi]
        exact Da.tupI (st.same x1) g2 (l := [.int i, .int m]) (.cons rfl (.cons rfl .nil))
      · rw [decide_eq_false hg, if_neg Bool.false_ne_true]
        refine kQ _ _ x2 ?_
        rw [hR, show rfin (isNeg x.cps.toList) n m = none from if_neg hg]
        rfl
    have fin2 : ∀ i : Int, i = (if isNeg x.cps.toList = true then -(n : Int) else n) → ∀ p2, H3 p2 = none → Da s (upd H3 p2 (.tup [.int i, .int m])) (.tup [.int i, .int m]) (.ref p2) := fun i hi p2 g2 => Da.tupI (st.same x1) g2 (.cons rfl (.cons rfl .nil))
    walk_at "go"
    refine g_ite (fun h => ?_) (fun h => ?_)
    · walk_at "go"
      refine ⟨by show 2 ≤ sizeLine; decide, fun p2 g2 => ?_⟩
      walk_at "go"
      refine ⟨s, _, _, rfl, fin2 _ (by rw [if_pos h]) p2 g2, ?_⟩
      walk_at "go"
      have f := fin (-(n : Int)) (by rw [if_pos h]) p2 g2
      refine g_ite (fun hr => ?_) (fun hr => ?_)
      · rw [if_pos hr] at f
        walk_at "go"
        exact f
      · rw [hr, if_neg Bool.false_ne_true] at f
        walk_at "go"
        exact f
    · walk_at "go"
      refine ⟨by show 2 ≤ sizeLine; decide, fun p2 g2 => ?_⟩
      walk_at "go"
      refine ⟨s, _, _, rfl, fin2 _ (by rw [h]; rfl) p2 g2, ?_⟩
      walk_at "go"
      have f := fin (n : Int) (by rw [h]; rfl) p2 g2
      refine g_ite (fun hr => ?_) (fun hr => ?_)
      · rw [if_pos hr] at f
        walk_at "go"
        exact f
      · rw [hr, if_neg Bool.false_ne_true] at f
        walk_at "go"
        exact f
end
end My
namespace My
open PySem PySem.Spec PyProof.Rows L2
theorem app_len (x y : Str) : (x ++ y).length = x.length + y.length := by rw [str_len, str_app, List.length_append, ← str_len, ← str_len]
theorem tl_int (p : Int) : (Str.ofString (toString p)).cps.toList = if p < 0 then 45 :: TL.numL p.natAbs else TL.numL p.natAbs := by
  cases p with
  | ofNat n =>
    exact (TL.tl_num n).trans (if_neg (show ¬ Int.ofNat n < 0 from Int.not_lt.mpr (Int.natCast_nonneg n))).symm
  | negSucc k =>
    rw [if_pos (Int.negSucc_lt_zero k), PyProof.Rows.signs_ofString]
    show ("-" ++ Nat.repr (k + 1)).toList.map Char.toNat = 45 :: (Nat.toDigits 10 (k + 1)).map Char.toNat
    rw [String.toList_append, List.map_append, Nat.toList_repr]
    rfl
theorem len_int {p : Int} (h : p.natAbs < 10 ^ 2000) : (Str.ofString (toString p)).length ≤ 2001 := by
  have z := TL.numL_len (by decide) h
  rw [str_len, tl_int]
  split
  · rw [List.length_cons]
    omega
  · omega
theorem big_2000 {n : Nat} (h : n < 10 ^ 2000) : n < 10 ^ 4300 := Nat.lt_of_lt_of_le h (Nat.pow_le_pow_right (by decide) (by decide))
theorem g_joined {ts : List TE} {σ : L2.St} {H : Hp} {te : TE} {acc : Str} {F : Str → Hp → Prop} (h : te σ H fun x H1 => ∃ y : Str, x = .str y ∧ (acc ++ y).length ≤ sizeLine ∧ tJs ts (acc ++ y) σ H1 F) : tJs (te :: ts) acc σ H F := h
theorem g_jnil {σ : L2.St} {H : Hp} {acc : Str} {F : Str → Hp → Prop} (h : F acc H) : tJs [] acc σ H F := h
local macro_rules | `(tactic| walk_at "arith") => `(tactic| first
  | (with_reducible show _ ≠ _; omega)
  | (unfold CMul; omega)
  | (unfold CPow; omega)
  | (unfold CPow; decide)
  | exact wide_div (b := 100) (by decide) (by decide) (by decide) (by decide))
local macro_rules | `(tactic| walk_at "go") => `(tactic| repeat (first
  | with_reducible refine g_seq ?_
  | with_reducible refine g_asg ?_
  | with_reducible refine g_name ?_
  | with_reducible refine g_sub ?_
  | with_reducible refine g_ret ?_
  | with_reducible refine g_drop ?_
  | ((with_reducible refine g_next ?_); dsimp only)
  | with_reducible refine g_if ?_
  | with_reducible refine g_var rfl ?_
  | with_reducible refine g_c ?_
  | with_reducible refine g_op ?_
  | with_reducible refine g_un ?_
  | with_reducible refine g_I0 ?_
  | with_reducible refine g_U ?_
  | with_reducible refine g_eq rfl ?_
  | with_reducible refine g_test ?_
  | with_reducible refine g_bl ?_
  | with_reducible refine iteF ?_
  | with_reducible refine iteT ?_
  | ((with_reducible apply g_iteT); (case e => rfl))
  | ((with_reducible apply g_iteF); (case e => rfl))
  | with_reducible refine g_int1 ?_
  | with_reducible refine g_max2 ?_
  | with_reducible refine g_min2 ?_
  | with_reducible refine g_isN ?_
  | with_reducible refine g_notN ?_
  | ((with_reducible apply g_lenL); (case hs => assumption))
  | ((with_reducible apply g_ixL); (case hs => exact SqL.of (by assumption)); (case ha => rfl))
  | with_reducible refine g_pow9 ?_
  | with_reducible refine g_pow18 ?_
  | ((with_reducible apply g_I); (case c => walk_at "arith"))
  | ((with_reducible apply g_st); (case hs => assumption); (case hL => assumption); (case ne => assumption); (case x0 => assumption); (case hj => rfl); (case j0 => decide); intro _ _ _ _)
  | with_reducible refine g_and ?_
  | with_reducible refine g_or ?_
  | with_reducible refine g_not ?_
  | with_reducible refine g_nil ?_
  | with_reducible refine g_cons ?_
  | with_reducible refine g_callB ?_
  | with_reducible refine g_call ?_
  | with_reducible refine g_tup ?_
  | with_reducible refine g_lst ?_
  | with_reducible refine g_andV ?_
  | with_reducible refine g_orV ?_
  | with_reducible refine g_notV ?_
  | with_reducible refine g_tB ?_
  | with_reducible refine g_ne rfl ?_
  | with_reducible refine g_abs ?_
  | with_reducible refine g_isB ?_
  | with_reducible refine g_for ?_
  | with_reducible refine g_rng1 ?_
  | with_reducible refine g_rng2 ?_
  | with_reducible refine g_iList ?_
  | ((with_reducible refine g_break ?_); dsimp only)
  | ((with_reducible refine g_cont ?_); dsimp only)
  | with_reducible refine g_retN ?_
  | ((with_reducible apply isi_go (T := "int")); (case h => assumption); (case hb => exact k_int_ _))
  | ((with_reducible apply isi_go (T := "str")); (case h => assumption); (case hb => exact k_str_ _))
  | ((with_reducible apply isi_go (T := "bool")); (case h => assumption); (case hb => exact k_bool_ _))
  | ((with_reducible apply isi_go (T := "list")); (case h => assumption); (case hb => exact k_list_ _))
  | ((with_reducible apply isi_go (T := "tuple")); (case h => assumption); (case hb => exact k_tuple_ _))
  | ((with_reducible apply isi_go (T := "dict")); (case h => assumption); (case hb => exact k_dict_ _))
  | with_reducible refine g_intb ?_
  | with_reducible refine g_bm ?_
  | with_reducible refine g_tyS ?_
  | ((with_reducible apply g_tyL); (case hs => assumption))
  | with_reducible refine g_lc ?_
  | with_reducible refine g_sl ?_
  | with_reducible refine g_noP ?_
  | with_reducible refine g_part ?_
  | with_reducible refine g_pI ?_
  | with_reducible refine g_ifE ?_
  | with_reducible refine g_par ?_
  | with_reducible refine g_two ?_
  | with_reducible refine g_yes ?_
  | with_reducible refine g_gCons ?_
  | with_reducible refine g_gNil ?_))

abbrev s_write_ratio : Stmt := topS 14
abbrev N_write_ratio : List Str := ["one", "numerator", "denominator"]
abbrev P_write_ratio : List Str := ["one"]
theorem sc_write_ratio : FnScope N_write_ratio P_write_ratio (defScope s_write_ratio) := ⟨rfl, rfl, rfl, by decide +kernel, rfl, by decide +kernel, by decide +kernel⟩

def spWriteR {K : PySem.W.Frag} {mg : Str → Option Value} (T : Txt K mg) : Sp := fun vs H Q E => ∃ (s : Addr) (dv : D) (v : V), vs = [v] ∧ Da s H dv v ∧
  (isRat dv = false → ∀ (d : Addr) (H' : Hp), Same H H' → H' d = some (.xd [("argument", .str "one")]) → E (.ref T.cWrongKind.C) (some d) H') ∧
  ∀ p q, dv = .tup [.int p, .int q] → isRat dv = true → p.natAbs < 10 ^ 2000 ∧ q.natAbs < 10 ^ 2000 ∧ ∀ x : Str, x.cps.toList = writeL p q.natAbs → Q (.str x) H
theorem rat_shape : ∀ {d : D}, isRat d = true → ∃ p q, d = .tup [.int p, .int q] ∧ 1 ≤ q ∧ G2 p q = 1
  | .tup [.int p, .int q], h => by
    have z : (decide (1 ≤ q) && decide (G2 p q = 1)) = true := h
    rw [Bool.and_eq_true, decide_eq_true_eq, decide_eq_true_eq] at z
    exact ⟨p, q, rfl, z.1, z.2⟩
section
variable {P : Program} {w : World} {K : PySem.W.Frag} {mg : Str → Option Value} {base : Heap}
theorem ok_write_ratio (T : Txt K mg) : FnOk P w K mg base (L2N.CX P w) 4 T.dwrite_ratio.f T.dwrite_ratio.fd P_write_ratio (spWriteR T) := by
  have I_WrongKind : FnOk P w K mg base CX0 1 T.iWrongKind.f T.iWrongKind.fd P_WrongKind_init (spIni1 K T.cWrongKind.C "argument") := ok_iWrongKind T
  have G_is_ratio : FnOk P w K mg base CX0 2 T.dis_ratio.f T.dis_ratio.fd P_is_ratio spRatio := ok_ratio T
  refine T.dwrite_ratio.okN sc_write_ratio (fun vs H Q E h => ?_) (fun cdv A outer s_ H vs Q E hr h => ?_)
  · obtain ⟨s, dv, v, rfl, _⟩ := h
    rfl
  · obtain ⟨s, dv, v, rfl, da, kE, kQ⟩ := h
    refine ⟨_, (pss_cons (ps_if (pt_not (pt_val (pe_call G_is_ratio (hr.mono (by omega)) rfl T.dis_ratio.g T.dis_ratio.F.kp T.dis_ratio.b .nil pass0 (pa_cons (pv 0) pa_nil))))
        (pss_one (L2N.ps_raise rfl (L2N.takes_of rfl rfl rfl rfl) (pmkN T.cWrongKind.o T.iWrongKind.i T.iWrongKind.t I_WrongKind (hr.mono (by omega)) T.iWrongKind.b .nil pass0 rfl T.cWrongKind.g (pa_cons pe_str pa_nil))))
        pss_nil)
      (pss_cons (ps_asg (pv 0) (pg_tup rfl (pgs_cons (pg_name (i := 1) sc_write_ratio.nd rfl (by first | exact .inl rfl | exact .inr rfl)) (pgs_cons (pg_name (i := 2) sc_write_ratio.nd rfl (by first | exact .inl rfl | exact .inr rfl)) pgs_nil))))
      (pss_one (ps_ret (pe_ifExp (pt_cmpR op_eq (pv 2) pe_int (nomark _)) (pe_joined1 (pe_fmtW rfl (pv 1))) (pe_joined (PJ.cons (pe_fmtW rfl (pv 1)) (PJ.cons pe_str (PJ.cons (pe_fmtW rfl (pv 2)) PJ.nil))))))))), ?_⟩
    try dsimp only [cxOf, Cx.nox, Cx.wish]
    walk_at "go"
    refine ⟨s, dv, v, rfl, da, ?_⟩
    walk_at "go"
    cases hR : isRat dv with
    | false =>
      refine g_iteT rfl ?_
      walk_at "go"
      try dsimp only
      refine g_mkO ?_
      walk_at "go"
      exact raise1 T.cWrongKind.o T.nWrongKind_argument fun d H' x hd => kE hR d H' x hd
    | true =>
      obtain ⟨p, q, rfl, hq, hg⟩ := rat_shape hR
      obtain ⟨b1, b2, kQ⟩ := kQ p q rfl hR
      have hR2 := hR
      obtain ⟨a, xs, rfl, na, ha, qa⟩ := da
      obtain ⟨v1, r1, rfl, c1, v2, r2, rfl, c2, e3⟩ := qa
      have e1 : v1 = _ := c1
      have e2 : v2 = _ := c2
      have e3 : r2 = [] := e3
      subst e1 e2 e3
      refine g_iteF rfl ?_
      walk_at "go"
      refine g_gTup (SqT.of ha) rfl ?_
      walk_at "go"
      have l1 := len_int b1
      have l2 := len_int b2
      refine g_ite (fun h => ?_) (fun h => ?_)
      · have h1 := dint_t h
        subst h1
        walk_at "go"
        refine g_fmtW ?_
        walk_at "go"
        first | refine ⟨p, rfl, big_2000 b1, T.dig, ?_⟩ | refine ⟨big_2000 b1, T.dig, ?_⟩
        refine kQ _ ?_
        rw [tl_int]
        unfold writeL
        rw [if_pos (show Int.natAbs 1 = 1 from rfl), List.append_nil]
      · have h1 := dint_f h
        walk_at "go"
        try dsimp only
        refine g_joined ?_
        refine g_fmtW ?_
        walk_at "go"
        first | refine ⟨p, rfl, big_2000 b1, T.dig, ?_⟩ | refine ⟨big_2000 b1, T.dig, ?_⟩
        have l0 : (Str.empty : Str).length = 0 := rfl
        refine ⟨_, rfl, by rw [app_len, l0, sizeLine_eq]; omega, ?_⟩
        refine g_joined ?_
        walk_at "go"
        have lsl : (Str.ofString "/").length = 1 := by decide +kernel
        refine ⟨_, rfl, by rw [app_len, app_len, l0, lsl, sizeLine_eq]; omega, ?_⟩
        refine g_joined ?_
        refine g_fmtW ?_
        walk_at "go"
        first | refine ⟨q, rfl, big_2000 b2, T.dig, ?_⟩ | refine ⟨big_2000 b2, T.dig, ?_⟩
        refine ⟨_, rfl, by rw [app_len, app_len, app_len, l0, lsl, sizeLine_eq]; omega, ?_⟩
        refine g_jnil ?_
        refine kQ _ ?_
        have e0 : (Str.empty : Str).cps.toList = [] := rfl
        rw [str_app, str_app, str_app, tl_int, tl_int, e0, List.nil_append, show (Str.ofString "/").cps.toList = [47] from sl_tl, if_neg (show ¬ q < 0 by omega)]
        unfold writeL
        rw [if_neg (show ¬ q.natAbs = 1 by omega), List.append_assoc]
        rfl
end
end My
namespace My
open PySem PySem.Spec PyProof.Rows L2
theorem eqv_pair (a b c d : Int) : PyData.eqv (.tuple [.int a, .int b]) (.tuple [.int c, .int d]) = (decide (a = c) && decide (b = d)) := by
  rw [PyData.eqv, PyData.eqvAll, PyData.eqvAll, PyData.eqvAll, PyData.eqv, PyData.eqv, Bool.and_true]
  first | rfl | (congr 1 <;> (rw [Bool.eq_iff_iff]; simp))
theorem pair_shaped (a b : Int) : SeqAt.shaped (.tuple [.int a, .int b]) = true := by
  first | rfl | decide +kernel | (unfold SeqAt.shaped; rfl)
theorem readD_slash {b : List Nat} (h : 47 ∈ b) : readD b = none := readD_none fun z => by
  have := all_dig.mp z.1 47 h
  omega
theorem readD_small {l : List Nat} {n : Nat} (h : readD l = some n) : n < 10 ^ 400 := by
  have e := read_back h
  have r := read_num n
  rw [e, h] at r
  by_cases hs : n < 10 ^ 400
  · exact hs
  · rw [if_neg hs] at r
    cases r
theorem low_bits {m : Nat} (h : m < 10 ^ 400) : ((m : Int)).natAbs.log2 < 9000 := by
  refine PySem.Flt.log2_lt_of (by decide) ?_
  have e : ((m : Int)).natAbs = m := by omega
  rw [e]
  exact Nat.lt_trans h (by decide +kernel)
theorem minus_eq (c : Nat) : decide (V.str ⟨#[c]⟩ = V.str (Str.ofString "-")) = decide (c = 45) := by
  have e : (Str.ofString "-") = ⟨#[45]⟩ := by decide +kernel
  rw [e]
  by_cases h : c = 45
  · rw [h, decide_eq_true rfl, decide_eq_true rfl]
  · rw [decide_eq_false h]
    refine decide_eq_false fun z => h ?_
    have z2 := V.str.inj z
    have z3 := congrArg (fun s : Str => s.cps.toList) z2
    have z4 : [c] = [45] := z3
    injection z4
theorem body_cut (x : Str) : (cutS x (some (if isNeg x.cps.toList = true then 1 else 0)) none).cps.toList = body x.cps.toList := by
  unfold body
  cases isNeg x.cps.toList with
  | true => exact cut_tail x
  | false => exact congrArg (fun s : Str => s.cps.toList) (cut_zero x)
theorem readR_go {l : List Nat} {n : Nat} (h : readD (topOf (body l)) = some n) : readR l = if isNeg l = true ∧ n = 0 then none else match botOf (body l) with
    | none => rfin (isNeg l) n 1
    | some b => match readD b with
      | none => none
      | some m => if m < 2 then none else rfin (isNeg l) n m := by
  unfold readR
  rw [h]
  all_goals rfl
theorem at_str {parts : List Str} {i : Nat} {u : Str} (h : parts[i]? = some u) : atI (parts.map V.str) (i : Int) = some (.str u) := atI_nat (by rw [List.getElem?_map, h]; rfl)
theorem readR_no {l : List Nat} (h : readD (topOf (body l)) = none) : readR l = none := by
  unfold readR
  rw [h]
theorem readR_cut {l b : List Nat} (hb : botOf (body l) = some b) (h : readD b = none) : readR l = none := by
  cases hn : readD (topOf (body l)) with
  | none => exact readR_no hn
  | some n =>
    rw [readR_go hn, hb]
    by_cases hz : isNeg l = true ∧ n = 0
    · exact if_pos hz
    · rw [if_neg hz]
      dsimp only
      rw [h]
local macro_rules | `(tactic| walk_at "arith") => `(tactic| first
  | (with_reducible show _ ≠ _; omega)
  | (unfold CMul; omega)
  | (unfold CPow; omega)
  | (unfold CPow; decide)
  | exact wide_div (b := 100) (by decide) (by decide) (by decide) (by decide))
local macro_rules | `(tactic| walk_at "go") => `(tactic| repeat (first
  | with_reducible refine g_seq ?_
  | with_reducible refine g_asg ?_
  | with_reducible refine g_name ?_
  | with_reducible refine g_sub ?_
  | with_reducible refine g_ret ?_
  | with_reducible refine g_drop ?_
  | ((with_reducible refine g_next ?_); dsimp only)
  | with_reducible refine g_if ?_
  | with_reducible refine g_var rfl ?_
  | with_reducible refine g_c ?_
  | with_reducible refine g_op ?_
  | with_reducible refine g_un ?_
  | with_reducible refine g_I0 ?_
  | with_reducible refine g_U ?_
  | with_reducible refine g_eq rfl ?_
  | with_reducible refine g_test ?_
  | with_reducible refine g_bl ?_
  | with_reducible refine iteF ?_
  | with_reducible refine iteT ?_
  | ((with_reducible apply g_iteT); (case e => rfl))
  | ((with_reducible apply g_iteF); (case e => rfl))
  | with_reducible refine g_int1 ?_
  | with_reducible refine g_max2 ?_
  | with_reducible refine g_min2 ?_
  | with_reducible refine g_isN ?_
  | with_reducible refine g_notN ?_
  | ((with_reducible apply g_lenL); (case hs => assumption))
  | ((with_reducible apply g_ixL); (case hs => exact SqL.of (by assumption)); (case ha => rfl))
  | with_reducible refine g_pow9 ?_
  | with_reducible refine g_pow18 ?_
  | ((with_reducible apply g_I); (case c => walk_at "arith"))
  | ((with_reducible apply g_st); (case hs => assumption); (case hL => assumption); (case ne => assumption); (case x0 => assumption); (case hj => rfl); (case j0 => decide); intro _ _ _ _)
  | with_reducible refine g_and ?_
  | with_reducible refine g_or ?_
  | with_reducible refine g_not ?_
  | with_reducible refine g_nil ?_
  | with_reducible refine g_cons ?_
  | with_reducible refine g_callB ?_
  | with_reducible refine g_call ?_
  | with_reducible refine g_tup ?_
  | with_reducible refine g_lst ?_
  | with_reducible refine g_andV ?_
  | with_reducible refine g_orV ?_
  | with_reducible refine g_notV ?_
  | with_reducible refine g_tB ?_
  | with_reducible refine g_ne rfl ?_
  | with_reducible refine g_abs ?_
  | with_reducible refine g_isB ?_
  | with_reducible refine g_for ?_
  | with_reducible refine g_rng1 ?_
  | with_reducible refine g_rng2 ?_
  | with_reducible refine g_iList ?_
  | ((with_reducible refine g_break ?_); dsimp only)
  | ((with_reducible refine g_cont ?_); dsimp only)
  | with_reducible refine g_retN ?_
  | ((with_reducible apply isi_go (T := "int")); (case h => assumption); (case hb => exact k_int_ _))
  | ((with_reducible apply isi_go (T := "str")); (case h => assumption); (case hb => exact k_str_ _))
  | ((with_reducible apply isi_go (T := "bool")); (case h => assumption); (case hb => exact k_bool_ _))
  | ((with_reducible apply isi_go (T := "list")); (case h => assumption); (case hb => exact k_list_ _))
  | ((with_reducible apply isi_go (T := "tuple")); (case h => assumption); (case hb => exact k_tuple_ _))
  | ((with_reducible apply isi_go (T := "dict")); (case h => assumption); (case hb => exact k_dict_ _))
  | with_reducible refine g_intb ?_
  | with_reducible refine g_bm ?_
  | with_reducible refine g_tyS ?_
  | ((with_reducible apply g_tyL); (case hs => assumption))
  | with_reducible refine g_lc ?_
  | with_reducible refine g_sl ?_
  | with_reducible refine g_noP ?_
  | with_reducible refine g_part ?_
  | with_reducible refine g_pI ?_
  | with_reducible refine g_ifE ?_
  | with_reducible refine g_par ?_
  | with_reducible refine g_two ?_
  | with_reducible refine g_yes ?_
  | with_reducible refine g_gCons ?_
  | with_reducible refine g_gNil ?_))

abbrev s_reading : Stmt := topS 26
abbrev N_reading : List Str := ["text", "minus", "parts", "up", "down", "got"]
abbrev P_reading : List Str := ["text"]
theorem sc_reading : FnScope N_reading P_reading (defScope s_reading) := ⟨rfl, rfl, rfl, by decide +kernel, rfl, by decide +kernel, by decide +kernel⟩

def spReading (K : PySem.W.Frag) : Sp := fun vs H Q _ => ∃ (s : Addr) (x : Str), vs = [.str x] ∧ Store K H s ∧ x.length ≤ 100000 ∧ ∀ (u : V) (H' : Hp), Same H H' → Da s H' (ratD (readR x.cps.toList)) u → Q u H'
section
variable {P : Program} {w : World} {K : PySem.W.Frag} {mg : Str → Option Value} {base : Heap}
theorem ok_reading (T : Txt K mg) : FnOk P w K mg base CX0 2 T.dreading.f T.dreading.fd P_reading (spReading K) := by
  have G_digits : FnOk P w K mg base CX0 1 T.ddigits.f T.ddigits.fd P_digits spLD := ok_law_digits T
  have G_low : FnOk P w K mg base CX0 1 T.dlow.f T.dlow.fd P_low spLow := ok_low T
  refine T.dreading.F.ok sc_reading (fun vs H Q E h => ?_) (fun cdv A outer s_ H vs Q E hr h => ?_)
  · obtain ⟨s, x, rfl, _⟩ := h
    rfl
  · obtain ⟨s, x, rfl, st, hl, k⟩ := h
    refine ⟨_, (Evl.pss_cut (ps_set (i := 1) sc_reading.nd rfl (by first | exact .inl rfl | exact .inr rfl) (pe_and (pe_cmpR op_gt (pe_callB c_lenS (by rfl) T.m_len bt_len (pa_cons (pv 0) pa_nil)) pe_int (nomark _)) (pe_one (pe_cmpR op_eq (pe_ix ix_str (pv 0) pe_int (fun _ _ => rfl)) pe_str (nomark _)))))
      (pss_cons (ps_set (i := 2) sc_reading.nd rfl (by first | exact .inl rfl | exact .inr rfl) (pe_bm PySem.F.plainAttrs_str PySem.F.slot_str_split PySem.F.type_str_split mt_split (pe_slice sl_str (pv 0) (po_some (pe_callTy c_int1 (by rfl) T.m_int bt_int (pa_cons (pv 1) pa_nil))) po_none) (pa_cons pe_str pa_nil)))
      (Evl.pss_cut (ps_if (pt_cmpR op_gt (pe_callB c_len (by rfl) T.m_len bt_len (pa_cons (pv 2) pa_nil)) pe_int (nomark _))
        (pss_one (ps_ret pe_non))
        pss_nil)
      (pss_cons (ps_set (i := 3) sc_reading.nd rfl (by first | exact .inl rfl | exact .inr rfl) (pe_call G_digits (hr.mono (by omega)) rfl T.ddigits.g T.ddigits.F.kp T.ddigits.b .nil pass0 (pa_cons (pe_ix ix_list (pv 2) pe_int (fun _ _ => rfl)) pa_nil)))
      (pss_cons (ps_set (i := 4) sc_reading.nd rfl (by first | exact .inl rfl | exact .inr rfl) pe_int)
      (Evl.pss_cut (ps_if (pt_cmpR op_eq (pe_callB c_len (by rfl) T.m_len bt_len (pa_cons (pv 2) pa_nil)) pe_int (nomark _))
        (pss_one (ps_set (i := 4) sc_reading.nd rfl (by first | exact .inl rfl | exact .inr rfl) (pe_call G_digits (hr.mono (by omega)) rfl T.ddigits.g T.ddigits.F.kp T.ddigits.b .nil pass0 (pa_cons (pe_ix ix_list (pv 2) pe_int (fun _ _ => rfl)) pa_nil))))
        pss_nil)
      (Evl.pss_cut (ps_if (PW.pt (pw_or (pt_cmpR o_isN (pv 3) pe_non (nomark _)) (pw_or (pt_cmpR o_isN (pv 4) pe_non (nomark _)) (pw_or (PW.pt (pw_and (pt_cmpR op_eq (pe_callB c_len (by rfl) T.m_len bt_len (pa_cons (pv 2) pa_nil)) pe_int (nomark _)) (pw_and1 (pt_cmpR op_lt (pv 4) pe_int (nomark _))))) (pw_or1 (PW.pt (pw_and (pt_val (pv 1)) (pw_and1 (pt_cmpR op_eq (pv 3) pe_int (nomark _))))))))))
        (pss_one (ps_ret pe_non))
        pss_nil)
      (pss_cons (ps_set (i := 5) sc_reading.nd rfl (by first | exact .inl rfl | exact .inr rfl) (pe_tup (pa_cons (pv 3) (pa_cons (pv 4) pa_nil))))
      (pss_cons (ps_if (pt_cmpR (op_neD hr.units) (pe_call G_low (hr.mono (by omega)) rfl T.dlow.g T.dlow.F.kp T.dlow.b .nil pass0 (pa_cons (pv 3) (pa_cons (pv 4) pa_nil))) (pv 5) (nomark _))
        (pss_one (ps_ret pe_non))
        pss_nil)
      (pss_one (ps_ret (pe_ix ix_list (pe_lst (pa_cons (pv 5) (pa_cons (pe_tup (pa_cons (pe_un un_neg (pv 3)) (pa_cons (pv 4) pa_nil))) pa_nil))) (pe_callTy c_int1 (by rfl) T.m_int bt_int (pa_cons (pv 1) pa_nil)) (fun _ _ => rfl))))))))))))), ?_⟩
    try dsimp only [cxOf, Cx.nox, Cx.wish]
    have hz : x.length ≤ sizeLine := by rw [sizeLine_eq]; omega
    have no : readR x.cps.toList = none → ∀ H', Same H H' → Q .non H' := fun e H' y => by
      have kk := k .non H' y
      rw [e] at kk
      exact kk rfl
    walk_at "go"
    refine g_cut (Mid := fun σ' H' => σ' = [some (.str x), some (.bl (isNeg x.cps.toList)), none, none, none, none] ∧ H' = H) ?_ ?_
    · walk_at "go"
      refine g_lenS hz ?_
      walk_at "go"
      cases el : x.cps.toList with
      | nil =>
        have e0 : x.length = 0 := by rw [str_len, el]; rfl
        refine g_iteF (decide_eq_false (by omega)) ?_
        walk_at "go"
        exact ⟨rfl, rfl⟩
      | cons c r =>
        have e0 : 0 < x.length := by rw [str_len, el]; exact Nat.succ_pos _
        refine g_iteT (decide_eq_true (by omega)) ?_
        walk_at "go"
        refine g_ixS hz (head_str (c := c) (by rw [el]; rfl)) ?_
        walk_at "go"
        rw [minus_eq]
        refine ⟨?_, rfl⟩
        have e : isNeg (c :: r) = decide (c = 45) := by
          unfold isNeg
          rw [List.head?_cons]
          by_cases h : c = 45
          · rw [decide_eq_true h, decide_eq_true (by rw [h])]
          · rw [decide_eq_false h, decide_eq_false (fun z => h (Option.some.inj z))]
        rw [e]
        rfl
    rintro σ' H0 ⟨rfl, rfl⟩
    walk_at "go"
    refine ⟨x, rfl, hz, ?_⟩
    have ez := body_cut x
    have lz := cutS_length x (some (if isNeg x.cps.toList = true then 1 else 0)) none
    generalize cutS x (some (if isNeg x.cps.toList = true then 1 else 0)) none = z at *
    walk_at "go"
    have sc := split_cases z
    have sle := split_le z "/"
    refine ⟨z, _, rfl, rfl, by decide +kernel, by rw [sizeLine_eq]; omega, fun p hp => ?_⟩
    rw [show Txt.split z (Str.ofString "/") = Txt.split z "/" from rfl]
    generalize Txt.split z "/" = parts at *
    rw [ez] at sc
    have x1 : Same H0 (upd H0 p (.lst (parts.map V.str))) := same_new hp
    have up := upd_same (H := H0) (a := p) (o := .lst (parts.map V.str))
    generalize upd H0 p (.lst (parts.map V.str)) = H1 at *
    walk_at "go"
    refine g_cut (Mid := fun σ' H' => σ' = [some (.str x), some (.bl (isNeg x.cps.toList)), some (.ref p), none, none, none] ∧ H' = H1 ∧ ∃ u, parts[0]? = some u ∧ u.cps.toList = topOf (body x.cps.toList) ∧
      ((parts.length = 1 ∧ botOf (body x.cps.toList) = none) ∨ (parts.length = 2 ∧ ∃ v, parts[1]? = some v ∧ botOf (body x.cps.toList) = some v.cps.toList))) ?_ ?_
    · walk_at "go"
      refine g_lenL (SqL.of up) ?_
      rw [List.length_map]
      walk_at "go"
      rcases sc with ⟨hb, rfl⟩ | ⟨b, hb, ⟨h47, u, v, rfl, hu, hv⟩ | ⟨h47, h2⟩⟩
      · refine g_iteF (by show decide (((1 : Nat) : Int) > 2) = false; decide) ?_
        walk_at "go"
        exact ⟨rfl, rfl, z, rfl, by rw [ez]; exact (cut_none hb).2.symm, .inl ⟨rfl, hb⟩⟩
      · refine g_iteF (by show decide (((2 : Nat) : Int) > 2) = false; decide) ?_
        walk_at "go"
        exact ⟨rfl, rfl, u, rfl, hu, .inr ⟨rfl, v, rfl, by rw [hv]; exact hb⟩⟩
      · refine g_iteT (decide_eq_true (by omega)) ?_
        walk_at "go"
        exact no (readR_cut hb (readD_slash h47)) H1 x1
    rintro σ' Hc ⟨rfl, rfl, u, hu0, hu, hc⟩
    have bl : (body x.cps.toList).length ≤ 100000 := by rw [← ez, ← str_len]; omega
    have ul : u.length ≤ 100000 := by
      rw [str_len, hu]
      exact Nat.le_trans (top_len _) bl
    walk_at "go"
    refine g_ixL (SqL.of up) (at_str (i := 0) hu0) ?_
    walk_at "go"
    refine ⟨u, rfl, by omega, fun H2 y2 => ?_⟩
    rw [hu]
    have x2 := x1.trans y2
    have up2 := y2 _ _ up
    walk_at "go"
    refine g_cut (Mid := fun σ' H' => ∃ od : Option Nat, σ' = [some (.str x), some (.bl (isNeg x.cps.toList)), some (.ref p), some (optV (readD (topOf (body x.cps.toList)))), some (optV od), none] ∧ Same H0 H' ∧ H' p = some (.lst (parts.map V.str)) ∧
      ((parts.length = 1 ∧ botOf (body x.cps.toList) = none ∧ od = some 1) ∨ (parts.length = 2 ∧ ∃ b, botOf (body x.cps.toList) = some b ∧ od = readD b))) ?_ ?_
    · walk_at "go"
      refine g_lenL (SqL.of up2) ?_
      rw [List.length_map]
      walk_at "go"
      rcases hc with ⟨h1, hb⟩ | ⟨h1, v, hv0, hb⟩
      · rw [h1]
        refine g_iteF (by show decide (V.int ((1 : Nat) : Int) = V.int 2) = false; decide) ?_
        walk_at "go"
        exact ⟨some 1, rfl, x2, up2, .inl ⟨rfl, hb, rfl⟩⟩
      · rw [h1]
        refine g_iteT (by show decide (V.int ((2 : Nat) : Int) = V.int 2) = true; decide) ?_
        walk_at "go"
        refine g_ixL (SqL.of up2) (at_str (i := 1) hv0) ?_
        walk_at "go"
        have vl : v.length ≤ 100000 := by
          rw [str_len]
          refine Nat.le_trans ?_ bl
          rw [(cut_some hb).1, List.length_append, List.length_cons]
          omega
        refine ⟨v, rfl, by omega, fun H3 y3 => ?_⟩
        walk_at "go"
        exact ⟨_, rfl, x2.trans y3, y3 _ _ up2, .inr ⟨rfl, _, hb, rfl⟩⟩
    rintro σ' H3 ⟨od, rfl, x3, up3, ho⟩
    walk_at "go"
    refine g_cut (Mid := fun σ' H' => ∃ n m : Nat, 1 ≤ m ∧ m < 10 ^ 400 ∧ readR x.cps.toList = rfin (isNeg x.cps.toList) n m ∧ σ' = [some (.str x), some (.bl (isNeg x.cps.toList)), some (.ref p), some (.int n), some (.int m), none] ∧ H' = H3) ?_ ?_
    · cases hD : readD (topOf (body x.cps.toList)) with
      | none =>
        walk_at "go"
        exact no (readR_no hD) H3 x3
      | some n =>
        have go := readR_go hD
        cases od with
        | none =>
          walk_at "go"
          rcases ho with ⟨_, _, e⟩ | ⟨_, b, hb, e⟩
          · cases e
          · exact no (readR_cut hb e.symm) H3 x3
        | some m =>
          have key : (parts.length = 2 → 2 ≤ m) → ¬ (isNeg x.cps.toList = true ∧ n = 0) → 1 ≤ m ∧ m < 10 ^ 400 ∧ readR x.cps.toList = rfin (isNeg x.cps.toList) n m := fun h2 h0 => by
            rw [if_neg h0] at go
            rcases ho with ⟨h1, hb, e⟩ | ⟨h1, b, hb, e⟩
            · cases e
              rw [hb] at go
              exact ⟨Nat.le_refl 1, Nat.one_lt_pow (by decide) (by decide), go⟩
            · rw [hb] at go
              dsimp only at go
              rw [← e] at go
              dsimp only at go
              have h3 := h2 h1
              rw [if_neg (by omega)] at go
              exact ⟨by omega, readD_small e.symm, go⟩
          have zero : isNeg x.cps.toList = true → n = 0 → readR x.cps.toList = none := fun h1 h2 => by
            rw [go]
            exact if_pos ⟨h1, h2⟩
          have low2 : parts.length = 2 → m < 2 → readR x.cps.toList = none := fun h1 h2 => by
            rw [go]
            by_cases h0 : isNeg x.cps.toList = true ∧ n = 0
            · exact if_pos h0
            rw [if_neg h0]
            rcases ho with ⟨h3, _, _⟩ | ⟨_, b, hb, e⟩
            · omega
            · rw [hb]
              dsimp only
              rw [← e]
              exact if_pos h2
          walk_at "go"
          refine g_lenL (SqL.of up3) ?_
          rw [List.length_map]
          walk_at "go"
          have tail : (parts.length = 2 → 2 ≤ m) → ∀ D : Ends, (D.rt .non H3 → True) → True := fun _ _ _ => trivial
          refine g_ite (fun h2 => ?_) (fun h2 => ?_)
          · have h2 : parts.length = 2 := by
              have := dint_t h2
              omega
            walk_at "go"
            try rw [show optV (some m) = V.int m from rfl]
            walk_at "go"
            refine g_ite (fun h3 => ?_) (fun h3 => ?_)
            · have h3 := of_decide_eq_true h3
              walk_at "go"
              exact no (low2 h2 (by omega)) H3 x3
            · have h3 := of_decide_eq_false h3
              walk_at "go"
              refine g_ite (fun hn => ?_) (fun hn => ?_)
              · walk_at "go"
                try rw [show optV (some n) = V.int n from rfl]
                walk_at "go"
                refine g_ite (fun h0 => ?_) (fun h0 => ?_)
                · walk_at "go"
                  exact no (zero hn (by have := dint_t h0; omega)) H3 x3
                · walk_at "go"
                  obtain ⟨k1, k2, k3⟩ := key (fun _ => by omega) fun z => dint_f h0 (by rw [z.2]; rfl)
                  exact ⟨n, m, k1, k2, k3, rfl, rfl⟩
              · walk_at "go"
                obtain ⟨k1, k2, k3⟩ := key (fun _ => by omega) fun z => (by rw [z.1] at hn; cases hn)
                exact ⟨n, m, k1, k2, k3, rfl, rfl⟩
          · have h2 : ¬ parts.length = 2 := fun e => dint_f h2 (by rw [e]; rfl)
            walk_at "go"
            refine g_ite (fun hn => ?_) (fun hn => ?_)
            · walk_at "go"
              try rw [show optV (some n) = V.int n from rfl]
              walk_at "go"
              refine g_ite (fun h0 => ?_) (fun h0 => ?_)
              · walk_at "go"
                exact no (zero hn (by have := dint_t h0; omega)) H3 x3
              · walk_at "go"
                obtain ⟨k1, k2, k3⟩ := key (fun e => absurd e h2) fun z => dint_f h0 (by rw [z.2]; rfl)
                exact ⟨n, m, k1, k2, k3, rfl, rfl⟩
            · walk_at "go"
              obtain ⟨k1, k2, k3⟩ := key (fun e => absurd e h2) fun z => (by rw [z.1] at hn; cases hn)
              exact ⟨n, m, k1, k2, k3, rfl, rfl⟩
    rintro σ' H4 ⟨n, m, hm, hm4, hR, rfl, rfl⟩
    have st3 := st.same x3
    have eG : G2 (n : Int) (m : Int) = Nat.gcd n m := by
      unfold G2
      have e1 : (n : Int).natAbs = n := by omega
      have e2 : (m : Int).natAbs = m := by omega
      rw [e1, e2]
    have gp : 0 < Nat.gcd n m := Nat.gcd_pos_of_pos_right _ hm
    walk_at "go"
    refine ⟨by show 2 ≤ sizeLine; decide, fun p2 g2 => ?_⟩
    have u2 := upd_same (H := H4) (a := p2) (o := .tup [.int n, .int m])
    have y4 : Same H4 (upd H4 p2 (.tup [.int n, .int m])) := same_new g2
    have d2 := Da.tupI st3 g2 (l := [.int n, .int m]) (.cons rfl (.cons rfl .nil))
    have st4 := st3.same y4
    have x4 := x3.trans y4
    generalize upd H4 p2 (.tup [.int n, .int m]) = H5 at *
    walk_at "go"
    refine ⟨n, m, rfl, by omega, low_bits hm4, fun p3 g3 => ?_⟩
    rw [eG]
    have u3 := upd_same (H := H5) (a := p3) (o := .tup [.int ((n : Int) / (Nat.gcd n m : Nat)), .int ((m : Int) / (Nat.gcd n m : Nat))])
    have y5 : Same H5 (upd H5 p3 (.tup [.int ((n : Int) / (Nat.gcd n m : Nat)), .int ((m : Int) / (Nat.gcd n m : Nat))])) := same_new g3
    have x5 := x4.trans y5
    have st5 := st4.same y5
    replace u2 := y5 _ _ u2
    replace d2 := Da.mono (Sx.of y5) _ _ d2
    generalize upd H5 p3 (.tup [.int ((n : Int) / (Nat.gcd n m : Nat)), .int ((m : Int) / (Nat.gcd n m : Nat))]) = H6 at *
    walk_at "go"
    refine ⟨_, _, .tup (SqT.of u3) (.cons (.int _) (.cons (.int _) .nil)), .tup (SqT.of u2) (.cons (.int _) (.cons (.int _) .nil)), pair_shaped _ _, pair_shaped _ _, ?_⟩
    rw [eqv_pair]
    walk_at "go"
    by_cases hg : Nat.gcd n m = 1
    · rw [hg]
      have e1 : (n : Int) / ((1 : Nat) : Int) = n := Int.ediv_one _
      have e2 : (m : Int) / ((1 : Nat) : Int) = m := Int.ediv_one _
      rw [e1, e2, decide_eq_true rfl, decide_eq_true rfl]
      refine g_iteF rfl ?_
      rw [show rfin (isNeg x.cps.toList) n m = some (if isNeg x.cps.toList = true then -(n : Int) else n, m) from if_pos hg] at hR
      walk_at "go"
      refine ⟨by show 2 ≤ sizeLine; decide, fun p4 g4 => ?_⟩
      have u4 := upd_same (H := H6) (a := p4) (o := .tup [.int (-(n : Int)), .int m])
      have y6 : Same H6 (upd H6 p4 (.tup [.int (-(n : Int)), .int m])) := same_new g4
      have d4 := Da.tupI st5 g4 (l := [.int (-(n : Int)), .int m]) (.cons rfl (.cons rfl .nil))
      have x6 := x5.trans y6
      replace d2 := Da.mono (Sx.of y6) _ _ d2
      generalize upd H6 p4 (.tup [.int (-(n : Int)), .int m]) = H7 at *
      walk_at "go"
      refine ⟨by show 2 ≤ sizeLine; decide, fun p5 g5 => ?_⟩
      have u5 := upd_same (H := H7) (a := p5) (o := .lst [.ref p2, .ref p4])
      have y7 : Same H7 (upd H7 p5 (.lst [.ref p2, .ref p4])) := same_new g5
      replace d2 := Da.mono (Sx.of y7) _ _ d2
      replace d4 := Da.mono (Sx.of y7) _ _ d4
      have x7 := x6.trans y7
      generalize upd H7 p5 (.lst [.ref p2, .ref p4]) = H8 at *
      walk_at "go"
      cases hn : isNeg x.cps.toList with
      | true =>
        rw [hn, if_pos rfl] at hR
        refine g_ixL (SqL.of u5) (v := .ref p4) rfl ?_
        walk_at "go"
        have kk := k (.ref p4) H8 x7
        rw [hR] at kk
        exact kk d4
      | false =>
        rw [hn, if_neg Bool.false_ne_true] at hR
        refine g_ixL (SqL.of u5) (v := .ref p2) rfl ?_
        walk_at "go"
        have kk := k (.ref p2) H8 x7
        rw [hR] at kk
        exact kk d2
    · have e : decide ((m : Int) / (Nat.gcd n m : Nat) = (m : Int)) = false := by
        refine decide_eq_false fun z => ?_
        have g1 : 1 < Nat.gcd n m := by omega
        have z2 : m / Nat.gcd n m = m := by exact_mod_cast z
        have z3 := Nat.div_lt_self (show 0 < m by omega) g1
        omega
      rw [e, Bool.and_false]
      refine g_iteT rfl ?_
      walk_at "go"
      refine no ?_ H6 x5
      rw [hR]
      exact if_neg hg
end
end My
namespace My
open PySem PySem.Spec PyProof.Rows L2
/-! ### plain signs -/
theorem asc_app {x y : Str} (h : Asc x) (g : Asc y) : Asc (x ++ y) := fun c hc => by
  rw [str_app] at hc
  exact (List.mem_append.mp hc).elim (h c) (g c)
theorem asc_cut {x : Str} (h : Asc x) (lo hi : Option Int) : Asc (cutS x lo hi) := fun c hc => h c (List.mem_of_mem_drop (List.mem_of_mem_take hc))
theorem asc_lit {x : Str} (h : x.cps.toList.all (· < 128) = true) : Asc x := fun c hc => of_decide_eq_true (List.all_eq_true.mp h c hc)
theorem asc_mul {x : Str} (h : Asc x) (n : Nat) : Asc (PySem.Txt.mul x n) := fun c hc => by
  rw [mul_list] at hc
  obtain ⟨l, h1, h2⟩ := List.mem_flatten.mp hc
  rw [(List.mem_replicate.mp h1).2] at h2
  exact h c h2
theorem mul_len (x : Str) (n : Nat) : (PySem.Txt.mul x n).length = n * x.length := by
  rw [str_len, mul_list, List.length_flatten, List.map_replicate, ← str_len]
  simp
theorem at_mem {xs : List V} {r : Int} (r0 : 0 ≤ r) (r1 : r < xs.length) : ∃ v ∈ xs, atI xs r = some v := by
  obtain ⟨j, rfl⟩ : ∃ j : Nat, r = j := ⟨r.toNat, by omega⟩
  have hj : j < xs.length := by omega
  exact ⟨xs[j], List.getElem_mem hj, atI_nat (List.getElem?_eq_getElem hj)⟩
theorem at_text {ys : List Str} {r : Int} (r0 : 0 ≤ r) (r1 : r < ys.length) : ∃ y ∈ ys, atI (ys.map V.str) r = some (.str y) := by
  obtain ⟨v, h1, h2⟩ := at_mem (xs := ys.map V.str) r0 (by rw [List.length_map]; exact r1)
  obtain ⟨y, h3, rfl⟩ := List.mem_map.mp h1
  exact ⟨y, h3, h2⟩
theorem all_cons {P : Str → Prop} {y : Str} {ys : List Str} (h : P y) (g : ∀ z ∈ ys, P z) : ∀ z ∈ y :: ys, P z := fun z hz => by
  rcases List.mem_cons.mp hz with e | hz
  · rw [e]
    exact h
  · exact g z hz
theorem all_nil {P : Str → Prop} : ∀ z ∈ ([] : List Str), P z := fun _ h => (nomatch h)
theorem g_slS {z : Str} {lo hi : Option Int} {H : Hp} {Q : VK} (hz : z.length ≤ sizeLine) (h : Q (.str (cutS z lo hi)) H) : rSlS (.str z) lo hi H Q := ⟨z, rfl, hz, h⟩
local macro_rules | `(tactic| walk_at "arith") => `(tactic| first
  | (with_reducible show _ ≠ _; omega)
  | (unfold CMul; omega)
  | (unfold CPow; omega)
  | (unfold CPow; decide)
  | exact wide_div (b := 100) (by decide) (by decide) (by decide) (by decide))
local macro_rules | `(tactic| walk_at "go") => `(tactic| repeat (first
  | with_reducible refine g_seq ?_
  | with_reducible refine g_asg ?_
  | with_reducible refine g_name ?_
  | with_reducible refine g_sub ?_
  | with_reducible refine g_ret ?_
  | with_reducible refine g_drop ?_
  | ((with_reducible refine g_next ?_); dsimp only)
  | with_reducible refine g_if ?_
  | with_reducible refine g_var rfl ?_
  | with_reducible refine g_c ?_
  | with_reducible refine g_op ?_
  | with_reducible refine g_un ?_
  | with_reducible refine g_I0 ?_
  | with_reducible refine g_U ?_
  | with_reducible refine g_eq rfl ?_
  | with_reducible refine g_test ?_
  | with_reducible refine g_bl ?_
  | with_reducible refine iteF ?_
  | with_reducible refine iteT ?_
  | ((with_reducible apply g_iteT); (case e => rfl))
  | ((with_reducible apply g_iteF); (case e => rfl))
  | with_reducible refine g_int1 ?_
  | with_reducible refine g_max2 ?_
  | with_reducible refine g_min2 ?_
  | with_reducible refine g_isN ?_
  | with_reducible refine g_notN ?_
  | ((with_reducible apply g_lenL); (case hs => assumption))
  | ((with_reducible apply g_ixL); (case hs => exact SqL.of (by assumption)); (case ha => rfl))
  | with_reducible refine g_pow9 ?_
  | with_reducible refine g_pow18 ?_
  | ((with_reducible apply g_I); (case c => walk_at "arith"))
  | ((with_reducible apply g_st); (case hs => assumption); (case hL => assumption); (case ne => assumption); (case x0 => assumption); (case hj => rfl); (case j0 => decide); intro _ _ _ _)
  | with_reducible refine g_and ?_
  | with_reducible refine g_or ?_
  | with_reducible refine g_not ?_
  | with_reducible refine g_nil ?_
  | with_reducible refine g_cons ?_
  | with_reducible refine g_callB ?_
  | with_reducible refine g_call ?_
  | with_reducible refine g_tup ?_
  | with_reducible refine g_lst ?_
  | with_reducible refine g_andV ?_
  | with_reducible refine g_orV ?_
  | with_reducible refine g_notV ?_
  | with_reducible refine g_tB ?_
  | with_reducible refine g_ne rfl ?_
  | with_reducible refine g_abs ?_
  | with_reducible refine g_isB ?_
  | with_reducible refine g_for ?_
  | with_reducible refine g_rng1 ?_
  | with_reducible refine g_rng2 ?_
  | with_reducible refine g_iList ?_
  | ((with_reducible refine g_break ?_); dsimp only)
  | ((with_reducible refine g_cont ?_); dsimp only)
  | with_reducible refine g_retN ?_
  | ((with_reducible apply isi_go (T := "int")); (case h => assumption); (case hb => exact k_int_ _))
  | ((with_reducible apply isi_go (T := "str")); (case h => assumption); (case hb => exact k_str_ _))
  | ((with_reducible apply isi_go (T := "bool")); (case h => assumption); (case hb => exact k_bool_ _))
  | ((with_reducible apply isi_go (T := "list")); (case h => assumption); (case hb => exact k_list_ _))
  | ((with_reducible apply isi_go (T := "tuple")); (case h => assumption); (case hb => exact k_tuple_ _))
  | ((with_reducible apply isi_go (T := "dict")); (case h => assumption); (case hb => exact k_dict_ _))
  | with_reducible refine g_intb ?_
  | with_reducible refine g_bm ?_
  | with_reducible refine g_tyS ?_
  | ((with_reducible apply g_tyL); (case hs => assumption))
  | with_reducible refine g_lc ?_
  | with_reducible refine g_sl ?_
  | with_reducible refine g_noP ?_
  | with_reducible refine g_part ?_
  | with_reducible refine g_pI ?_
  | with_reducible refine g_ifE ?_
  | with_reducible refine g_par ?_
  | with_reducible refine g_two ?_
  | with_reducible refine g_yes ?_
  | with_reducible refine g_gCons ?_
  | with_reducible refine g_gNil ?_
  | ((with_reducible apply g_addS); (case hl => (simp only [app_len, sizeLine_eq]; omega)))
  | ((with_reducible apply g_slS); (case hz => (simp only [app_len, sizeLine_eq]; omega)))))

def spText (K : PySem.W.Frag) (B : Nat) : Sp := fun vs H Q _ => ∃ (s : Addr), vs = [.ref s] ∧ Store K H s ∧ ∀ (x : Str) (H' : Hp), Asc x → x.length ≤ B → Sx s H H' → Store K H' s → Q (.str x) H'
def spBent (K : PySem.W.Frag) : Sp := fun vs H Q _ => ∃ (s : Addr) (x : Str), vs = [.ref s, .str x] ∧ Store K H s ∧ Asc x ∧ x.length ≤ 40000 ∧
  ∀ (y : Str) (H' : Hp), Asc y → y.length ≤ 2 * x.length + 10 → Sx s H H' → Store K H' s → Q (.str y) H'
def spPart (K : PySem.W.Frag) : Sp := fun vs H Q _ => ∃ (s : Addr), vs = [.ref s] ∧ Store K H s ∧ ∀ (r : Int) (H' : Hp), 0 ≤ r → r < 10 ^ 1001 → Sx s H H' → Store K H' s → Q (.int r) H'
abbrev s_part : Stmt := topS 23
abbrev N_part : List Str := ["store", "size", "low"]
abbrev P_part : List Str := ["store"]
theorem sc_part : FnScope N_part P_part (defScope s_part) := ⟨rfl, rfl, rfl, by decide +kernel, rfl, by decide +kernel, by decide +kernel⟩

abbrev s_short : Stmt := topS 28
abbrev N_short : List Str := ["store", "marks", "k"]
abbrev P_short : List Str := ["store"]
theorem sc_short : FnScope N_short P_short (defScope s_short) := ⟨rfl, rfl, rfl, by decide +kernel, rfl, by decide +kernel, by decide +kernel⟩

abbrev s_long : Stmt := topS 29
abbrev N_long : List Str := ["store", "size", "text"]
abbrev P_long : List Str := ["store"]
theorem sc_long : FnScope N_long P_long (defScope s_long) := ⟨rfl, rfl, rfl, by decide +kernel, rfl, by decide +kernel, by decide +kernel⟩

abbrev s_bent : Stmt := topS 27
abbrev N_bent : List Str := ["store", "text", "at", "marks", "mark", "ways"]
abbrev P_bent : List Str := ["store", "text"]
theorem sc_bent : FnScope N_bent P_bent (defScope s_bent) := ⟨rfl, rfl, rfl, by decide +kernel, rfl, by decide +kernel, by decide +kernel⟩

section
variable {P : Program} {w : World} {K : PySem.W.Frag} {mg : Str → Option Value} {base : Heap}
theorem ok_part (T : Txt K mg) : FnOk P w K mg base CX0 172 T.dpart.f T.dpart.fd P_part (spPart K) := by
  have G_take : FnOk P w K mg base CX0 171 T.dtake.f T.dtake.fd P_take (spTakeB K) := ok_takeB T
  have G_tens : FnOk P w K mg base CX0 1 T.dtens.f T.dtens.fd P_tens spTens := ok_tens T
  refine T.dpart.F.ok sc_part (fun vs H Q E h => ?_) (fun cdv A outer s_ H vs Q E hr h => ?_)
  · obtain ⟨s, rfl, _⟩ := h
    rfl
  · obtain ⟨s, rfl, st, k⟩ := h
    refine ⟨_, (pss_cons (ps_if (pt_cmpR op_eq (pe_call G_take (hr.mono (by omega)) rfl T.dtake.g T.dtake.F.kp T.dtake.b .nil pass0 (pa_cons (pv 0) (pa_cons pe_int pa_nil))) pe_int (nomark _))
        (pss_one (ps_ret (pe_call G_take (hr.mono (by omega)) rfl T.dtake.g T.dtake.F.kp T.dtake.b .nil pass0 (pa_cons (pv 0) (pa_cons pe_int pa_nil)))))
        pss_nil)
      (pss_cons (ps_set (i := 1) sc_part.nd rfl (by first | exact .inl rfl | exact .inr rfl) (pe_ix ix_list (pe_lst (pa_cons pe_int (pa_cons pe_int (pa_cons pe_int (pa_cons pe_int (pa_cons pe_int (pa_cons pe_int (pa_cons pe_int (pa_cons pe_int pa_nil))))))))) (pe_call G_take (hr.mono (by omega)) rfl T.dtake.g T.dtake.F.kp T.dtake.b .nil pass0 (pa_cons (pv 0) (pa_cons pe_int pa_nil))) (fun _ _ => rfl)))
      (pss_cons (ps_set (i := 2) sc_part.nd rfl (by first | exact .inl rfl | exact .inr rfl) (pe_call G_tens (hr.mono (by omega)) rfl T.dtens.g T.dtens.F.kp T.dtens.b .nil pass0 (pa_cons (pe_op op_sub (pv 1) pe_int) pa_nil)))
      (pss_one (ps_ret (pe_ix ix_list (pe_lst (pa_cons (pv 2) (pa_cons (pe_op op_sub (pe_op op_mulW pe_int (pv 2)) pe_int) (pa_cons (pe_op op_add (pv 2) (pe_call G_take (hr.mono (by omega)) rfl T.dtake.g T.dtake.F.kp T.dtake.b .nil pass0 (pa_cons (pv 0) (pa_cons (pe_op op_mulW pe_int (pv 2)) pa_nil)))) (pa_cons (pe_op op_mulW pe_int (pv 2)) pa_nil))))) (pe_call G_take (hr.mono (by omega)) rfl T.dtake.g T.dtake.F.kp T.dtake.b .nil pass0 (pa_cons (pv 0) (pa_cons pe_int pa_nil))) (fun _ _ => rfl))))))), ?_⟩
    try dsimp only [cxOf, Cx.nox, Cx.wish]
    walk_at "go"
    refine take_go st (big_of (by decide)) fun r H1 r0 r1 x1 st1 => ?_
    walk_at "go"
    refine g_ite (fun h => ?_) (fun h => ?_)
    · walk_at "go"
      refine take_go st1 (big_of (by decide)) fun r2 H2 r20 r21 x2 st2 => ?_
      exact k r2 H2 r20 (Int.lt_of_lt_of_le (show r2 < 13 by omega) (by decide +kernel)) (x1.trans x2) st2
    walk_at "go"
    refine ⟨by show 8 ≤ sizeLine; decide, fun p hp => ?_⟩
    have hp0 := st1.free x1 hp
    have u1 := upd_same (H := H1) (a := p) (o := .lst [.int 1, .int 2, .int 9, .int 30, .int 399, .int 400, .int 401, .int 1000])
    have st2 := st1.new (o := .lst [.int 1, .int 2, .int 9, .int 30, .int 399, .int 400, .int 401, .int 1000]) hp
    have x2 := x1.trans (Sx.new (o := .lst [.int 1, .int 2, .int 9, .int 30, .int 399, .int 400, .int 401, .int 1000]) hp)
    generalize upd H1 p (.lst [.int 1, .int 2, .int 9, .int 30, .int 399, .int 400, .int 401, .int 1000]) = H2 at *
    walk_at "go"
    refine take_go st2 (big_of (by decide)) fun r2 H3 r20 r21 x3 st3 => ?_
    have u3 := x3.kp _ _ (st.ne hp0) u1
    obtain ⟨v, hv, ha⟩ := at_mem (xs := [.int 1, .int 2, .int 9, .int 30, .int 399, .int 400, .int 401, .int 1000]) r20 (by show r2 < ((8 : Nat) : Int); omega)
    obtain ⟨n, hn1, hn2, rfl⟩ : ∃ n : Nat, 1 ≤ n ∧ n ≤ 1000 ∧ v = .int n := by
      simp only [List.mem_cons, List.not_mem_nil, or_false] at hv
      rcases hv with rfl | rfl | rfl | rfl | rfl | rfl | rfl | rfl
      · exact ⟨1, by decide, by decide, rfl⟩
      · exact ⟨2, by decide, by decide, rfl⟩
      · exact ⟨9, by decide, by decide, rfl⟩
      · exact ⟨30, by decide, by decide, rfl⟩
      · exact ⟨399, by decide, by decide, rfl⟩
      · exact ⟨400, by decide, by decide, rfl⟩
      · exact ⟨401, by decide, by decide, rfl⟩
      · exact ⟨1000, by decide, by decide, rfl⟩
    refine g_ixL (SqL.of u3) ha ?_
    walk_at "go"
    have en : (n : Int) - 1 = ((n - 1 : Nat) : Int) := by omega
    refine ⟨n - 1, by rw [← en]; rfl, by omega, ?_⟩
    have pl := ten_lt (show n - 1 < 1000 by omega)
    have pp := ten_pos (n - 1)
    have ec : (10 : Int) ^ 1001 = 10 * 10 ^ 1000 := by rw [Int.pow_succ, Int.mul_comm]
    have eb : (10 : Int) ^ (n - 1) < BIG := Int.lt_trans pl ten_big
    rw [ec] at k
    have e9 : 10 * (10 : Int) ^ 1000 < BIG := by decide +kernel
    generalize (10 : Int) ^ (n - 1) = lo at *
    have cw : ∀ i : Int, 0 ≤ i → i ≤ 10 → CMulW i lo := fun i h0 h1 => by
      unfold CMulW
      have b1 : i.natAbs.log2 ≤ 3 := by
        have : i.natAbs ≤ 10 := by omega
        exact Nat.le_trans (log2_mono this) (by decide)
      have b2 : lo.natAbs.log2 < 5000 := PySem.Flt.log2_lt_of (by decide) (by unfold BIG at eb; omega)
      omega
    walk_at "go"
    refine g_I (cw 10 (by decide) (by decide)) ?_
    walk_at "go"
    refine g_I (cw 9 (by decide) (by decide)) ?_
    walk_at "go"
    generalize (10 : Int) ^ 1000 = C at *
    refine take_go st3 (by omega) fun r4 H4 r40 r41 x4 st4 => ?_
    walk_at "go"
    refine g_I (cw 2 (by decide) (by decide)) ?_
    walk_at "go"
    refine ⟨by show 4 ≤ sizeLine; decide, fun p4 hp4 => ?_⟩
    have x14 := (x2.trans x3).trans x4
    have hp40 := st4.free x14 hp4
    have u5 := upd_same (H := H4) (a := p4) (o := .lst [.int lo, .int (10 * lo - 1), .int (lo + r4), .int (2 * lo)])
    have st5 := st4.new (o := .lst [.int lo, .int (10 * lo - 1), .int (lo + r4), .int (2 * lo)]) hp4
    have x5 := x14.trans (Sx.new (o := .lst [.int lo, .int (10 * lo - 1), .int (lo + r4), .int (2 * lo)]) hp4)
    generalize upd H4 p4 (.lst [.int lo, .int (10 * lo - 1), .int (lo + r4), .int (2 * lo)]) = H5 at *
    walk_at "go"
    refine take_go st5 (big_of (by decide)) fun r6 H6 r60 r61 x6 st6 => ?_
    have u6 := x6.kp _ _ (st.ne hp40) u5
    obtain ⟨v, hv, ha⟩ := at_mem (xs := [.int lo, .int (10 * lo - 1), .int (lo + r4), .int (2 * lo)]) r60 (by show r6 < ((4 : Nat) : Int); omega)
    refine g_ixL (SqL.of u6) ha ?_
    walk_at "go"
    obtain ⟨q, hq0, hq1, rfl⟩ : ∃ q : Int, 0 ≤ q ∧ q < 10 * C ∧ v = .int q := by
      simp only [List.mem_cons, List.not_mem_nil, or_false] at hv
      rcases hv with rfl | rfl | rfl | rfl
      · exact ⟨_, by omega, by omega, rfl⟩
      · exact ⟨_, by omega, by omega, rfl⟩
      · exact ⟨_, by omega, by omega, rfl⟩
      · exact ⟨_, by omega, by omega, rfl⟩
    exact k q H6 hq0 hq1 (x5.trans x6) st6
theorem ok_short (T : Txt K mg) : FnOk P w K mg base CX0 172 T.dshort.f T.dshort.fd P_short (spText K 10) := by
  have G_take : FnOk P w K mg base CX0 171 T.dtake.f T.dtake.fd P_take (spTakeB K) := ok_takeB T
  refine T.dshort.F.ok sc_short (fun vs H Q E h => ?_) (fun cdv A outer s_ H vs Q E hr h => ?_)
  · obtain ⟨s, rfl, _⟩ := h
    rfl
  · obtain ⟨s, rfl, st, k⟩ := h
    refine ⟨_, (pss_cons (ps_set (i := 1) sc_short.nd rfl (by first | exact .inl rfl | exact .inr rfl) pe_str)
      (pss_one (ps_ret (pe_bm PySem.F.plainAttrs_str PySem.F.slot_str_join PySem.F.type_str_join mt_join pe_str (pa_cons (pe_lc (own := [("k", 2)]) (g := gName 2) (tt := tYes) rfl sc_short.nd (pi_range1 rfl T.m_range (pa_cons (pe_call G_take (hr.mono (by omega)) rfl T.dtake.g T.dtake.F.kp T.dtake.b .nil pass0 (pa_cons (pv 0) (pa_cons pe_int pa_nil))) pa_nil)) (blkOk_by (own := [("k", 2)]) (N := N_short) (sc := defScope s_short) (by decide +kernel)) (fun _ _ _ _ _ => (pg_name (i := 2) sc_short.nd rfl (by first | exact .inl rfl | exact .inr rfl))) (fun _ _ _ _ _ => pts_nil) (fun _ _ _ _ _ => (pe_ix ix_str (pv 1) (pe_call G_take (hr.mono (by omega)) rfl T.dtake.g T.dtake.F.kp T.dtake.b .nil pass0 (pa_cons (pv 0) (pa_cons pe_int pa_nil))) (fun _ _ => rfl)))) pa_nil))))), ?_⟩
    try dsimp only [cxOf, Cx.nox, Cx.wish]
    walk_at "go"
    generalize hM : Str.ofString "0112346/-" = M
    have hf : M.cps.toList.all (· < 128) = true := by
      rw [← hM]
      decide +kernel
    have hl : M.length = 9 := by
      rw [← hM]
      decide +kernel
    refine take_go st (big_of (by decide)) fun n H0 n0 n1 x0 st0 => ?_
    walk_at "go"
    refine ⟨_, rfl, by omega, by omega, fun D0 hD => ?_⟩
    have hD0 := st0.free x0 hD
    refine lc_range (n := n.toNat) (fun i H' => ∃ ys : List Str, H' D0 = some (.lst (ys.map V.str)) ∧ ys.length = i ∧ (∀ y ∈ ys, ∃ c ∈ M.cps.toList, y = ⟨#[c]⟩) ∧ Sx s H H' ∧ Store K H' s)
      ⟨[], upd_same, rfl, fun _ h => (nomatch h), x0.mut hD0, st.mut x0 st0 hD0⟩ ?_ ?_
    · rintro i H1 hi ⟨ys, h1, h2, h3, x1, st1⟩
      walk_at "go"
      refine ⟨rfl, ?_⟩
      walk_at "go"
      refine take_go st1 (big_of (by decide)) fun r H2 r0 r1 x2 st2 => ?_
      obtain ⟨c, hc, ha⟩ := at_get (xs := M.cps.toList) (i := r) r0 (by rw [← str_len, hl]; rcases r1 with h | h; (rw [h]; decide); exact h)
      refine ⟨M, r, c, rfl, rfl, by rw [hl]; decide, ha, ?_⟩
      refine ⟨_, x2.kp _ _ (st.ne hD0) h1, by rw [List.length_map, sizeLine_eq]; omega, ys ++ [⟨#[c]⟩], ?_, ?_, ?_, (x1.trans x2).mut hD0, st.mut (x1.trans x2) st2 hD0⟩
      · rw [upd_same, List.map_append]
        rfl
      · rw [List.length_append, h2]
        rfl
      · intro y hy
        rcases List.mem_append.mp hy with h | h
        · exact h3 y h
        · exact ⟨c, hc, List.mem_singleton.mp h⟩
    · rintro H1 ⟨ys, h1, h2, h3, x1, st1⟩
      obtain ⟨e1, e2⟩ := ones_len h3
      walk_at "go"
      refine ⟨_, D0, ys, rfl, rfl, .inl (SqL.of h1), by rw [e2, h2, show (Str.ofString "").length = 0 from rfl]; omega, ?_⟩
      exact k _ H1 (fun c hc => asc_lit hf c (ones_mem h3 hc)) (by rw [show (Txt.join (Str.ofString "") ys).length = ys.length from e1]; omega) x1 st1
end
end My
namespace My
open PySem PySem.Spec PyProof.Rows L2
local macro_rules | `(tactic| walk_at "arith") => `(tactic| first
  | (with_reducible show _ ≠ _; omega)
  | (unfold CMul; omega)
  | (unfold CPow; omega)
  | (unfold CPow; decide)
  | exact wide_div (b := 100) (by decide) (by decide) (by decide) (by decide))
local macro_rules | `(tactic| walk_at "go") => `(tactic| repeat (first
  | with_reducible refine g_seq ?_
  | with_reducible refine g_asg ?_
  | with_reducible refine g_name ?_
  | with_reducible refine g_sub ?_
  | with_reducible refine g_ret ?_
  | with_reducible refine g_drop ?_
  | ((with_reducible refine g_next ?_); dsimp only)
  | with_reducible refine g_if ?_
  | with_reducible refine g_var rfl ?_
  | with_reducible refine g_c ?_
  | with_reducible refine g_op ?_
  | with_reducible refine g_un ?_
  | with_reducible refine g_I0 ?_
  | with_reducible refine g_U ?_
  | with_reducible refine g_eq rfl ?_
  | with_reducible refine g_test ?_
  | with_reducible refine g_bl ?_
  | with_reducible refine iteF ?_
  | with_reducible refine iteT ?_
  | ((with_reducible apply g_iteT); (case e => rfl))
  | ((with_reducible apply g_iteF); (case e => rfl))
  | with_reducible refine g_int1 ?_
  | with_reducible refine g_max2 ?_
  | with_reducible refine g_min2 ?_
  | with_reducible refine g_isN ?_
  | with_reducible refine g_notN ?_
  | ((with_reducible apply g_lenL); (case hs => assumption))
  | ((with_reducible apply g_ixL); (case hs => exact SqL.of (by assumption)); (case ha => rfl))
  | with_reducible refine g_pow9 ?_
  | with_reducible refine g_pow18 ?_
  | ((with_reducible apply g_I); (case c => walk_at "arith"))
  | ((with_reducible apply g_st); (case hs => assumption); (case hL => assumption); (case ne => assumption); (case x0 => assumption); (case hj => rfl); (case j0 => decide); intro _ _ _ _)
  | with_reducible refine g_and ?_
  | with_reducible refine g_or ?_
  | with_reducible refine g_not ?_
  | with_reducible refine g_nil ?_
  | with_reducible refine g_cons ?_
  | with_reducible refine g_callB ?_
  | with_reducible refine g_call ?_
  | with_reducible refine g_tup ?_
  | with_reducible refine g_lst ?_
  | with_reducible refine g_andV ?_
  | with_reducible refine g_orV ?_
  | with_reducible refine g_notV ?_
  | with_reducible refine g_tB ?_
  | with_reducible refine g_ne rfl ?_
  | with_reducible refine g_abs ?_
  | with_reducible refine g_isB ?_
  | with_reducible refine g_for ?_
  | with_reducible refine g_rng1 ?_
  | with_reducible refine g_rng2 ?_
  | with_reducible refine g_iList ?_
  | ((with_reducible refine g_break ?_); dsimp only)
  | ((with_reducible refine g_cont ?_); dsimp only)
  | with_reducible refine g_retN ?_
  | ((with_reducible apply isi_go (T := "int")); (case h => assumption); (case hb => exact k_int_ _))
  | ((with_reducible apply isi_go (T := "str")); (case h => assumption); (case hb => exact k_str_ _))
  | ((with_reducible apply isi_go (T := "bool")); (case h => assumption); (case hb => exact k_bool_ _))
  | ((with_reducible apply isi_go (T := "list")); (case h => assumption); (case hb => exact k_list_ _))
  | ((with_reducible apply isi_go (T := "tuple")); (case h => assumption); (case hb => exact k_tuple_ _))
  | ((with_reducible apply isi_go (T := "dict")); (case h => assumption); (case hb => exact k_dict_ _))
  | with_reducible refine g_intb ?_
  | with_reducible refine g_bm ?_
  | with_reducible refine g_tyS ?_
  | ((with_reducible apply g_tyL); (case hs => assumption))
  | with_reducible refine g_lc ?_
  | with_reducible refine g_sl ?_
  | with_reducible refine g_noP ?_
  | with_reducible refine g_part ?_
  | with_reducible refine g_pI ?_
  | with_reducible refine g_ifE ?_
  | with_reducible refine g_par ?_
  | with_reducible refine g_two ?_
  | with_reducible refine g_yes ?_
  | with_reducible refine g_gCons ?_
  | with_reducible refine g_gNil ?_
  | ((with_reducible apply g_addS); (case hl => (simp only [app_len, sizeLine_eq]; omega)))
  | ((with_reducible apply g_slS); (case hz => (simp only [app_len, sizeLine_eq]; omega)))))

section
variable {P : Program} {w : World} {K : PySem.W.Frag} {mg : Str → Option Value} {base : Heap}
theorem ok_long (T : Txt K mg) : FnOk P w K mg base CX0 172 T.dlong.f T.dlong.fd P_long (spText K 30000) := by
  have G_take : FnOk P w K mg base CX0 171 T.dtake.f T.dtake.fd P_take (spTakeB K) := ok_takeB T
  refine T.dlong.F.ok sc_long (fun vs H Q E h => ?_) (fun cdv A outer s_ H vs Q E hr h => ?_)
  · obtain ⟨s, rfl, _⟩ := h
    rfl
  · obtain ⟨s, rfl, st, k⟩ := h
    refine ⟨_, (pss_cons (ps_set (i := 1) sc_long.nd rfl (by first | exact .inl rfl | exact .inr rfl) (pe_ix ix_list (pe_lst (pa_cons pe_int (pa_cons pe_int (pa_cons pe_int (pa_cons pe_int (pa_cons pe_int (pa_cons pe_int (pa_cons pe_int pa_nil)))))))) (pe_call G_take (hr.mono (by omega)) rfl T.dtake.g T.dtake.F.kp T.dtake.b .nil pass0 (pa_cons (pv 0) (pa_cons pe_int pa_nil))) (fun _ _ => rfl)))
      (pss_cons (ps_set (i := 2) sc_long.nd rfl (by first | exact .inl rfl | exact .inr rfl) (pe_op o_mulS (pe_ix ix_list (pe_lst (pa_cons pe_str (pa_cons pe_str (pa_cons pe_str (pa_cons pe_str pa_nil))))) (pe_call G_take (hr.mono (by omega)) rfl T.dtake.g T.dtake.F.kp T.dtake.b .nil pass0 (pa_cons (pv 0) (pa_cons pe_int pa_nil))) (fun _ _ => rfl)) (pv 1)))
      (pss_cons (ps_set (i := 2) sc_long.nd rfl (by first | exact .inl rfl | exact .inr rfl) (pe_slice sl_str (pv 2) po_none (po_some (pv 1))))
      (pss_one (ps_ret (pe_ix ix_list (pe_lst (pa_cons (pv 2) (pa_cons (pe_op o_addS pe_str (pv 2)) (pa_cons (pe_op o_addS pe_str (pv 2)) (pa_cons (pe_op o_addS (pv 2) pe_str) (pa_cons (pe_op o_addS (pe_op o_addS (pv 2) pe_str) (pv 2)) pa_nil)))))) (pe_call G_take (hr.mono (by omega)) rfl T.dtake.g T.dtake.F.kp T.dtake.b .nil pass0 (pa_cons (pv 0) (pa_cons pe_int pa_nil))) (fun _ _ => rfl))))))), ?_⟩
    try dsimp only [cxOf, Cx.nox, Cx.wish]
    walk_at "go"
    refine ⟨by show 7 ≤ sizeLine; decide, fun p hp => ?_⟩
    have u1 := upd_same (H := H) (a := p) (o := .lst [.int 399, .int 400, .int 401, .int 1000, .int 4300, .int 4301, .int 5000])
    have st2 := st.new (o := .lst [.int 399, .int 400, .int 401, .int 1000, .int 4300, .int 4301, .int 5000]) hp
    have x2 : Sx s H _ := Sx.new (o := .lst [.int 399, .int 400, .int 401, .int 1000, .int 4300, .int 4301, .int 5000]) hp
    generalize upd H p (.lst [.int 399, .int 400, .int 401, .int 1000, .int 4300, .int 4301, .int 5000]) = H2 at *
    walk_at "go"
    refine take_go st2 (big_of (by decide)) fun r2 H3 r20 r21 x3 st3 => ?_
    have u3 := x3.kp _ _ (st.ne hp) u1
    obtain ⟨v, hv, ha⟩ := at_mem (xs := [.int 399, .int 400, .int 401, .int 1000, .int 4300, .int 4301, .int 5000]) r20 (by show r2 < ((7 : Nat) : Int); omega)
    obtain ⟨n, hn2, rfl⟩ : ∃ n : Nat, n ≤ 5000 ∧ v = .int n := by
      simp only [List.mem_cons, List.not_mem_nil, or_false] at hv
      rcases hv with rfl | rfl | rfl | rfl | rfl | rfl | rfl
      · exact ⟨399, by decide, rfl⟩
      · exact ⟨400, by decide, rfl⟩
      · exact ⟨401, by decide, rfl⟩
      · exact ⟨1000, by decide, rfl⟩
      · exact ⟨4300, by decide, rfl⟩
      · exact ⟨4301, by decide, rfl⟩
      · exact ⟨5000, by decide, rfl⟩
    refine g_ixL (SqL.of u3) ha ?_
    have x13 := x2.trans x3
    walk_at "go"
    refine ⟨by show 4 ≤ sizeLine; decide, fun p4 hp4 => ?_⟩
    have hp40 := st3.free x13 hp4
    have u5 := upd_same (H := H3) (a := p4) (o := .lst [.str "1", .str "7", .str "0", .str "12"])
    have st5 := st3.new (o := .lst [.str "1", .str "7", .str "0", .str "12"]) hp4
    have x5 := x13.trans (Sx.new (o := .lst [.str "1", .str "7", .str "0", .str "12"]) hp4)
    generalize upd H3 p4 (.lst [.str "1", .str "7", .str "0", .str "12"]) = H5 at *
    walk_at "go"
    refine take_go st5 (big_of (by decide)) fun r6 H6 r60 r61 x6 st6 => ?_
    have u6 := x6.kp _ _ (st.ne hp40) u5
    obtain ⟨y, hy, ha6⟩ := at_text (ys := [("1" : Str), "7", "0", "12"]) r60 (by show r6 < ((4 : Nat) : Int); omega)
    have ya : Asc y ∧ y.length ≤ 2 := all_cons (P := fun y => Asc y ∧ y.length ≤ 2) ⟨asc_lit (by decide +kernel), by decide +kernel⟩ (all_cons ⟨asc_lit (by decide +kernel), by decide +kernel⟩ (all_cons ⟨asc_lit (by decide +kernel), by decide +kernel⟩ (all_cons ⟨asc_lit (by decide +kernel), by decide +kernel⟩ all_nil))) y hy
    refine g_ixL (SqL.of u6) ha6 ?_
    walk_at "go"
    refine ⟨y, n, rfl, rfl, by omega, by omega, by omega, ?_⟩
    have lm := mul_len y n
    have am := asc_mul ya.1 n
    generalize PySem.Txt.mul y (n : Int) = z at *
    have lz : z.length ≤ 10000 := by
      rw [lm]
      exact Nat.le_trans (Nat.mul_le_mul hn2 ya.2) (by decide)
    walk_at "go"
    have lc := cutS_length z none (some (n : Int))
    have ac := asc_cut am none (some (n : Int))
    generalize cutS z none (some (n : Int)) = t at *
    have lt : t.length ≤ 10000 := by omega
    have l1 : (Str.ofString "-").length = 1 := by decide +kernel
    have l2 : (Str.ofString "1/").length = 2 := by decide +kernel
    have l3 : (Str.ofString "/3").length = 2 := by decide +kernel
    have l4 : (Str.ofString "/").length = 1 := by decide +kernel
    have a1 : Asc (Str.ofString "-") := asc_lit (by decide +kernel)
    have a2 : Asc (Str.ofString "1/") := asc_lit (by decide +kernel)
    have a3 : Asc (Str.ofString "/3") := asc_lit (by decide +kernel)
    have a4 : Asc (Str.ofString "/") := asc_lit (by decide +kernel)
    walk_at "go"
    refine ⟨by show 5 ≤ sizeLine; decide, fun p7 hp7 => ?_⟩
    have x16 := x5.trans x6
    have hp70 := st6.free x16 hp7
    have u8 := upd_same (H := H6) (a := p7) (o := .lst [.str t, .str (Str.ofString "-" ++ t), .str (Str.ofString "1/" ++ t), .str (t ++ Str.ofString "/3"), .str (t ++ Str.ofString "/" ++ t)])
    have st8 := st6.new (o := .lst [.str t, .str (Str.ofString "-" ++ t), .str (Str.ofString "1/" ++ t), .str (t ++ Str.ofString "/3"), .str (t ++ Str.ofString "/" ++ t)]) hp7
    have x8 := x16.trans (Sx.new (o := .lst [.str t, .str (Str.ofString "-" ++ t), .str (Str.ofString "1/" ++ t), .str (t ++ Str.ofString "/3"), .str (t ++ Str.ofString "/" ++ t)]) hp7)
    generalize upd H6 p7 (.lst [.str t, .str (Str.ofString "-" ++ t), .str (Str.ofString "1/" ++ t), .str (t ++ Str.ofString "/3"), .str (t ++ Str.ofString "/" ++ t)]) = H8 at *
    walk_at "go"
    refine take_go st8 (big_of (by decide)) fun r9 H9 r90 r91 x9 st9 => ?_
    have u9 := x9.kp _ _ (st.ne hp70) u8
    obtain ⟨q, hq, ha9⟩ := at_text (ys := [t, Str.ofString "-" ++ t, Str.ofString "1/" ++ t, t ++ Str.ofString "/3", t ++ Str.ofString "/" ++ t]) r90 (by show r9 < ((5 : Nat) : Int); omega)
    have qa : Asc q ∧ q.length ≤ 30000 := all_cons (P := fun y => Asc y ∧ y.length ≤ 30000) ⟨ac, by omega⟩ (all_cons ⟨asc_app a1 ac, by simp only [app_len]; omega⟩ (all_cons ⟨asc_app a2 ac, by simp only [app_len]; omega⟩ (all_cons ⟨asc_app ac a3, by simp only [app_len]; omega⟩ (all_cons ⟨asc_app (asc_app ac a4) ac, by simp only [app_len]; omega⟩ all_nil)))) q hq
    refine g_ixL (SqL.of u9) ha9 ?_
    walk_at "go"
    exact k q H9 qa.1 qa.2 (x8.trans x9) st9
theorem ok_bent (T : Txt K mg) : FnOk P w K mg base CX0 172 T.dbent.f T.dbent.fd P_bent (spBent K) := by
  have G_take : FnOk P w K mg base CX0 171 T.dtake.f T.dtake.fd P_take (spTakeB K) := ok_takeB T
  refine T.dbent.F.ok sc_bent (fun vs H Q E h => ?_) (fun cdv A outer s_ H vs Q E hr h => ?_)
  · obtain ⟨s, x, rfl, _⟩ := h
    rfl
  · obtain ⟨s, x, rfl, st, ax, hx, k⟩ := h
    refine ⟨_, (pss_cons (ps_set (i := 2) sc_bent.nd rfl (by first | exact .inl rfl | exact .inr rfl) (pe_call G_take (hr.mono (by omega)) rfl T.dtake.g T.dtake.F.kp T.dtake.b .nil pass0 (pa_cons (pv 0) (pa_cons (pe_op op_add (pe_callB c_lenS (by rfl) T.m_len bt_len (pa_cons (pv 1) pa_nil)) pe_int) pa_nil))))
      (pss_cons (ps_set (i := 3) sc_bent.nd rfl (by first | exact .inl rfl | exact .inr rfl) pe_str)
      (pss_cons (ps_set (i := 4) sc_bent.nd rfl (by first | exact .inl rfl | exact .inr rfl) (pe_ix ix_str (pv 3) (pe_call G_take (hr.mono (by omega)) rfl T.dtake.g T.dtake.F.kp T.dtake.b .nil pass0 (pa_cons (pv 0) (pa_cons (pe_callB c_lenS (by rfl) T.m_len bt_len (pa_cons (pv 3) pa_nil)) pa_nil))) (fun _ _ => rfl)))
      (pss_cons (ps_set (i := 5) sc_bent.nd rfl (by first | exact .inl rfl | exact .inr rfl) (pe_lst (pa_cons (pe_op o_addS (pe_op o_addS (pe_slice sl_str (pv 1) po_none (po_some (pv 2))) (pv 4)) (pe_slice sl_str (pv 1) (po_some (pv 2)) po_none)) (pa_cons (pe_op o_addS (pe_slice sl_str (pv 1) po_none (po_some (pv 2))) (pe_slice sl_str (pv 1) (po_some (pe_op op_add (pv 2) pe_int)) po_none)) (pa_cons (pe_op o_addS (pe_op o_addS (pe_slice sl_str (pv 1) po_none (po_some (pv 2))) (pv 4)) (pe_slice sl_str (pv 1) (po_some (pe_op op_add (pv 2) pe_int)) po_none)) (pa_cons (pe_op o_addS (pv 1) (pv 4)) pa_nil))))))
      (pss_cons (ps_set (i := 5) sc_bent.nd rfl (by first | exact .inl rfl | exact .inr rfl) (pe_op op_cat (pv 5) (pe_lst (pa_cons (pe_op o_addS (pv 4) (pv 1)) (pa_cons (pe_op o_addS pe_str (pv 1)) (pa_cons (pe_op o_addS (pv 1) pe_str) (pa_cons (pe_op o_addS (pe_op o_addS (pv 1) pe_str) (pv 1)) (pa_cons (pe_op o_addS pe_str (pv 1)) (pa_cons (pe_op o_addS (pv 1) pe_str) (pa_cons (pe_op o_addS pe_str (pv 1)) (pa_cons pe_str pa_nil)))))))))))
      (pss_cons (ps_set (i := 5) sc_bent.nd rfl (by first | exact .inl rfl | exact .inr rfl) (pe_op op_cat (pv 5) (pe_lst (pa_cons (pe_op o_addS (pv 1) pe_str) (pa_cons (pe_slice sl_str (pv 1) po_none (po_some (pv 2))) (pa_cons (pe_slice sl_str (pv 1) (po_some (pv 2)) po_none) (pa_cons pe_str (pa_cons pe_str (pa_cons pe_str (pa_cons pe_str (pa_cons pe_str (pa_cons pe_str (pa_cons pe_str (pa_cons pe_str (pa_cons pe_str (pa_cons pe_str pa_nil))))))))))))))))
      (pss_one (ps_ret (pe_ix ix_list (pv 5) (pe_call G_take (hr.mono (by omega)) rfl T.dtake.g T.dtake.F.kp T.dtake.b .nil pass0 (pa_cons (pv 0) (pa_cons (pe_callB c_len (by rfl) T.m_len bt_len (pa_cons (pv 5) pa_nil)) pa_nil))) (fun _ _ => rfl)))))))))), ?_⟩
    try dsimp only [cxOf, Cx.nox, Cx.wish]
    walk_at "go"
    refine g_lenS (by rw [sizeLine_eq]; omega) ?_
    walk_at "go"
    refine take_go st (big_of (by omega)) fun i H1 i0 i1 x1 st1 => ?_
    walk_at "go"
    generalize hM : Str.ofString "0123456789-+/. _eE,\n" = M
    have hf : M.cps.toList.all (· < 128) = true := by
      rw [← hM]
      decide +kernel
    have hl : M.length = 20 := by
      rw [← hM]
      decide +kernel
    refine g_lenS (by rw [hl]; decide) ?_
    rw [hl]
    walk_at "go"
    refine take_go st1 (big_of (by decide)) fun r H2 r0 r1 x2 st2 => ?_
    obtain ⟨c, hc, ha⟩ := at_get (xs := M.cps.toList) (i := r) r0 (by rw [← str_len, hl]; rcases r1 with h | h; (rw [h]; decide); exact h)
    refine g_ixS (by rw [hl]; decide) ha ?_
    have am : Asc (⟨#[c]⟩ : Str) := fun d hd => by
      have e : d = c := List.mem_singleton.mp hd
      rw [e]
      exact asc_lit hf c hc
    have lm : (⟨#[c]⟩ : Str).length = 1 := rfl
    generalize (⟨#[c]⟩ : Str) = mk at *
    have x12 := x1.trans x2
    have c1 := cutS_length x none (some i)
    have c2 := cutS_length x (some i) none
    have c3 := cutS_length x (some (i + 1)) none
    have d1 := asc_cut ax none (some i)
    have d2 := asc_cut ax (some i) none
    have d3 := asc_cut ax (some (i + 1)) none
    have l0 : (Str.ofString "0").length = 1 := by decide +kernel
    have l1 : (Str.ofString "/1").length = 2 := by decide +kernel
    have l2 : (Str.ofString "/").length = 1 := by decide +kernel
    have l3 : (Str.ofString "-").length = 1 := by decide +kernel
    have l4 : (Str.ofString "\n").length = 1 := by decide +kernel
    have l5 : (Str.ofString " ").length = 1 := by decide +kernel
    have a0 : Asc (Str.ofString "0") := asc_lit (by decide +kernel)
    have a1 : Asc (Str.ofString "/1") := asc_lit (by decide +kernel)
    have a2 : Asc (Str.ofString "/") := asc_lit (by decide +kernel)
    have a3 : Asc (Str.ofString "-") := asc_lit (by decide +kernel)
    have a4 : Asc (Str.ofString "\n") := asc_lit (by decide +kernel)
    have a5 : Asc (Str.ofString " ") := asc_lit (by decide +kernel)
    have g1 : ∀ y ∈ [cutS x none (some i) ++ mk ++ cutS x (some i) none, cutS x none (some i) ++ cutS x (some (i + 1)) none, cutS x none (some i) ++ mk ++ cutS x (some (i + 1)) none, x ++ mk], Asc y ∧ y.length ≤ 2 * x.length + 10 := (all_cons ⟨asc_app (asc_app d1 am) d2, by simp only [app_len]; omega⟩ (all_cons ⟨asc_app d1 d3, by simp only [app_len]; omega⟩ (all_cons ⟨asc_app (asc_app d1 am) d3, by simp only [app_len]; omega⟩ (all_cons ⟨asc_app ax am, by simp only [app_len]; omega⟩ all_nil))))
    have g2 : ∀ y ∈ [mk ++ x, Str.ofString "0" ++ x, x ++ Str.ofString "/1", x ++ Str.ofString "/" ++ x, Str.ofString "-" ++ x, x ++ Str.ofString "\n", Str.ofString " " ++ x, Str.ofString ""], Asc y ∧ y.length ≤ 2 * x.length + 10 := (all_cons ⟨asc_app am ax, by simp only [app_len]; omega⟩ (all_cons ⟨asc_app a0 ax, by simp only [app_len]; omega⟩ (all_cons ⟨asc_app ax a1, by simp only [app_len]; omega⟩ (all_cons ⟨asc_app (asc_app ax a2) ax, by simp only [app_len]; omega⟩ (all_cons ⟨asc_app a3 ax, by simp only [app_len]; omega⟩ (all_cons ⟨asc_app ax a4, by simp only [app_len]; omega⟩ (all_cons ⟨asc_app a5 ax, by simp only [app_len]; omega⟩ (all_cons ⟨asc_lit (by decide +kernel), Nat.le_trans (show _ ≤ 10 by decide +kernel) (by omega)⟩ all_nil))))))))
    have g3 : ∀ y ∈ [x ++ Str.ofString "0", cutS x none (some i), cutS x (some i) none, Str.ofString "-0", Str.ofString "0/1", Str.ofString "1/0", Str.ofString "0/7", Str.ofString "00", Str.ofString "2/4", Str.ofString "-3/6", Str.ofString "/2", Str.ofString "1/-2", Str.ofString "-"], Asc y ∧ y.length ≤ 2 * x.length + 10 := (all_cons ⟨asc_app ax a0, by simp only [app_len]; omega⟩ (all_cons ⟨d1, by omega⟩ (all_cons ⟨d2, by omega⟩ (all_cons ⟨asc_lit (by decide +kernel), Nat.le_trans (show _ ≤ 10 by decide +kernel) (by omega)⟩ (all_cons ⟨asc_lit (by decide +kernel), Nat.le_trans (show _ ≤ 10 by decide +kernel) (by omega)⟩ (all_cons ⟨asc_lit (by decide +kernel), Nat.le_trans (show _ ≤ 10 by decide +kernel) (by omega)⟩ (all_cons ⟨asc_lit (by decide +kernel), Nat.le_trans (show _ ≤ 10 by decide +kernel) (by omega)⟩ (all_cons ⟨asc_lit (by decide +kernel), Nat.le_trans (show _ ≤ 10 by decide +kernel) (by omega)⟩ (all_cons ⟨asc_lit (by decide +kernel), Nat.le_trans (show _ ≤ 10 by decide +kernel) (by omega)⟩ (all_cons ⟨asc_lit (by decide +kernel), Nat.le_trans (show _ ≤ 10 by decide +kernel) (by omega)⟩ (all_cons ⟨asc_lit (by decide +kernel), Nat.le_trans (show _ ≤ 10 by decide +kernel) (by omega)⟩ (all_cons ⟨asc_lit (by decide +kernel), Nat.le_trans (show _ ≤ 10 by decide +kernel) (by omega)⟩ (all_cons ⟨asc_lit (by decide +kernel), Nat.le_trans (show _ ≤ 10 by decide +kernel) (by omega)⟩ all_nil)))))))))))))
    walk_at "go"
    refine ⟨by show 4 ≤ sizeLine; decide, fun p1 hp1 => ?_⟩
    have u1 : upd H2 p1 (.lst [.str (cutS x none (some i) ++ mk ++ cutS x (some i) none), .str (cutS x none (some i) ++ cutS x (some (i + 1)) none), .str (cutS x none (some i) ++ mk ++ cutS x (some (i + 1)) none), .str (x ++ mk)]) p1 = some (.lst ([cutS x none (some i) ++ mk ++ cutS x (some i) none, cutS x none (some i) ++ cutS x (some (i + 1)) none, cutS x none (some i) ++ mk ++ cutS x (some (i + 1)) none, x ++ mk].map V.str)) := upd_same
    have hp10 := st2.free x12 hp1
    have st3 := st2.new (o := .lst [.str (cutS x none (some i) ++ mk ++ cutS x (some i) none), .str (cutS x none (some i) ++ cutS x (some (i + 1)) none), .str (cutS x none (some i) ++ mk ++ cutS x (some (i + 1)) none), .str (x ++ mk)]) hp1
    have x3 := x12.trans (Sx.new (o := .lst [.str (cutS x none (some i) ++ mk ++ cutS x (some i) none), .str (cutS x none (some i) ++ cutS x (some (i + 1)) none), .str (cutS x none (some i) ++ mk ++ cutS x (some (i + 1)) none), .str (x ++ mk)]) hp1)
    generalize upd H2 p1 (.lst [.str (cutS x none (some i) ++ mk ++ cutS x (some i) none), .str (cutS x none (some i) ++ cutS x (some (i + 1)) none), .str (cutS x none (some i) ++ mk ++ cutS x (some (i + 1)) none), .str (x ++ mk)]) = H3 at *
    have e1 : [cutS x none (some i) ++ mk ++ cutS x (some i) none, cutS x none (some i) ++ cutS x (some (i + 1)) none, cutS x none (some i) ++ mk ++ cutS x (some (i + 1)) none, x ++ mk].length = 4 := rfl
    generalize [cutS x none (some i) ++ mk ++ cutS x (some i) none, cutS x none (some i) ++ cutS x (some (i + 1)) none, cutS x none (some i) ++ mk ++ cutS x (some (i + 1)) none, x ++ mk] = ys1 at *
    walk_at "go"
    refine ⟨by show 8 ≤ sizeLine; decide, fun p2 hp2 => ?_⟩
    have u2 : upd H3 p2 (.lst [.str (mk ++ x), .str (Str.ofString "0" ++ x), .str (x ++ Str.ofString "/1"), .str (x ++ Str.ofString "/" ++ x), .str (Str.ofString "-" ++ x), .str (x ++ Str.ofString "\n"), .str (Str.ofString " " ++ x), .str (Str.ofString "")]) p2 = some (.lst ([mk ++ x, Str.ofString "0" ++ x, x ++ Str.ofString "/1", x ++ Str.ofString "/" ++ x, Str.ofString "-" ++ x, x ++ Str.ofString "\n", Str.ofString " " ++ x, Str.ofString ""].map V.str)) := upd_same
    have v1 : upd H3 p2 (.lst [.str (mk ++ x), .str (Str.ofString "0" ++ x), .str (x ++ Str.ofString "/1"), .str (x ++ Str.ofString "/" ++ x), .str (Str.ofString "-" ++ x), .str (x ++ Str.ofString "\n"), .str (Str.ofString " " ++ x), .str (Str.ofString "")]) p1 = some (.lst (ys1.map V.str)) := (upd_ne (ne_of_none u1 hp2)).trans u1
    have st4 := st3.new (o := .lst [.str (mk ++ x), .str (Str.ofString "0" ++ x), .str (x ++ Str.ofString "/1"), .str (x ++ Str.ofString "/" ++ x), .str (Str.ofString "-" ++ x), .str (x ++ Str.ofString "\n"), .str (Str.ofString " " ++ x), .str (Str.ofString "")]) hp2
    have x4 := x3.trans (Sx.new (o := .lst [.str (mk ++ x), .str (Str.ofString "0" ++ x), .str (x ++ Str.ofString "/1"), .str (x ++ Str.ofString "/" ++ x), .str (Str.ofString "-" ++ x), .str (x ++ Str.ofString "\n"), .str (Str.ofString " " ++ x), .str (Str.ofString "")]) hp2)
    generalize upd H3 p2 (.lst [.str (mk ++ x), .str (Str.ofString "0" ++ x), .str (x ++ Str.ofString "/1"), .str (x ++ Str.ofString "/" ++ x), .str (Str.ofString "-" ++ x), .str (x ++ Str.ofString "\n"), .str (Str.ofString " " ++ x), .str (Str.ofString "")]) = H4 at *
    have e2 : [mk ++ x, Str.ofString "0" ++ x, x ++ Str.ofString "/1", x ++ Str.ofString "/" ++ x, Str.ofString "-" ++ x, x ++ Str.ofString "\n", Str.ofString " " ++ x, Str.ofString ""].length = 8 := rfl
    generalize [mk ++ x, Str.ofString "0" ++ x, x ++ Str.ofString "/1", x ++ Str.ofString "/" ++ x, Str.ofString "-" ++ x, x ++ Str.ofString "\n", Str.ofString " " ++ x, Str.ofString ""] = ys2 at *
    clear u1
    walk_at "go"
    refine ⟨p1, p2, _, _, rfl, rfl, v1, u2, by rw [List.length_map, List.length_map, e1, e2]; decide, fun p3 hp3 => ?_⟩
    have u3 : upd H4 p3 (.lst (ys1.map V.str ++ ys2.map V.str)) p3 = some (.lst ((ys1 ++ ys2).map V.str)) := by rw [upd_same, List.map_append]
    have st5 := st4.new (o := .lst (ys1.map V.str ++ ys2.map V.str)) hp3
    have x5 := x4.trans (Sx.new (o := .lst (ys1.map V.str ++ ys2.map V.str)) hp3)
    generalize upd H4 p3 (.lst (ys1.map V.str ++ ys2.map V.str)) = H5 at *
    clear v1 u2
    walk_at "go"
    refine ⟨by show 13 ≤ sizeLine; decide, fun p4 hp4 => ?_⟩
    have u4 : upd H5 p4 (.lst [.str (x ++ Str.ofString "0"), .str (cutS x none (some i)), .str (cutS x (some i) none), .str (Str.ofString "-0"), .str (Str.ofString "0/1"), .str (Str.ofString "1/0"), .str (Str.ofString "0/7"), .str (Str.ofString "00"), .str (Str.ofString "2/4"), .str (Str.ofString "-3/6"), .str (Str.ofString "/2"), .str (Str.ofString "1/-2"), .str (Str.ofString "-")]) p4 = some (.lst ([x ++ Str.ofString "0", cutS x none (some i), cutS x (some i) none, Str.ofString "-0", Str.ofString "0/1", Str.ofString "1/0", Str.ofString "0/7", Str.ofString "00", Str.ofString "2/4", Str.ofString "-3/6", Str.ofString "/2", Str.ofString "1/-2", Str.ofString "-"].map V.str)) := upd_same
    have v3 : upd H5 p4 (.lst [.str (x ++ Str.ofString "0"), .str (cutS x none (some i)), .str (cutS x (some i) none), .str (Str.ofString "-0"), .str (Str.ofString "0/1"), .str (Str.ofString "1/0"), .str (Str.ofString "0/7"), .str (Str.ofString "00"), .str (Str.ofString "2/4"), .str (Str.ofString "-3/6"), .str (Str.ofString "/2"), .str (Str.ofString "1/-2"), .str (Str.ofString "-")]) p3 = some (.lst ((ys1 ++ ys2).map V.str)) := (upd_ne (ne_of_none u3 hp4)).trans u3
    have st6 := st5.new (o := .lst [.str (x ++ Str.ofString "0"), .str (cutS x none (some i)), .str (cutS x (some i) none), .str (Str.ofString "-0"), .str (Str.ofString "0/1"), .str (Str.ofString "1/0"), .str (Str.ofString "0/7"), .str (Str.ofString "00"), .str (Str.ofString "2/4"), .str (Str.ofString "-3/6"), .str (Str.ofString "/2"), .str (Str.ofString "1/-2"), .str (Str.ofString "-")]) hp4
    have x6 := x5.trans (Sx.new (o := .lst [.str (x ++ Str.ofString "0"), .str (cutS x none (some i)), .str (cutS x (some i) none), .str (Str.ofString "-0"), .str (Str.ofString "0/1"), .str (Str.ofString "1/0"), .str (Str.ofString "0/7"), .str (Str.ofString "00"), .str (Str.ofString "2/4"), .str (Str.ofString "-3/6"), .str (Str.ofString "/2"), .str (Str.ofString "1/-2"), .str (Str.ofString "-")]) hp4)
    generalize upd H5 p4 (.lst [.str (x ++ Str.ofString "0"), .str (cutS x none (some i)), .str (cutS x (some i) none), .str (Str.ofString "-0"), .str (Str.ofString "0/1"), .str (Str.ofString "1/0"), .str (Str.ofString "0/7"), .str (Str.ofString "00"), .str (Str.ofString "2/4"), .str (Str.ofString "-3/6"), .str (Str.ofString "/2"), .str (Str.ofString "1/-2"), .str (Str.ofString "-")]) = H6 at *
    have e3 : [x ++ Str.ofString "0", cutS x none (some i), cutS x (some i) none, Str.ofString "-0", Str.ofString "0/1", Str.ofString "1/0", Str.ofString "0/7", Str.ofString "00", Str.ofString "2/4", Str.ofString "-3/6", Str.ofString "/2", Str.ofString "1/-2", Str.ofString "-"].length = 13 := rfl
    generalize [x ++ Str.ofString "0", cutS x none (some i), cutS x (some i) none, Str.ofString "-0", Str.ofString "0/1", Str.ofString "1/0", Str.ofString "0/7", Str.ofString "00", Str.ofString "2/4", Str.ofString "-3/6", Str.ofString "/2", Str.ofString "1/-2", Str.ofString "-"] = ys3 at *
    clear u3
    walk_at "go"
    refine ⟨p3, p4, _, _, rfl, rfl, v3, u4, by rw [List.length_map, List.length_map, List.length_append, e1, e2, e3]; decide, fun p5 hp5 => ?_⟩
    have hp50 := st6.free x6 hp5
    have u5 : upd H6 p5 (.lst ((ys1 ++ ys2).map V.str ++ ys3.map V.str)) p5 = some (.lst (((ys1 ++ ys2) ++ ys3).map V.str)) := by rw [upd_same, List.map_append (l₂ := ys3)]
    have st7 := st6.new (o := .lst ((ys1 ++ ys2).map V.str ++ ys3.map V.str)) hp5
    have x7 := x6.trans (Sx.new (o := .lst ((ys1 ++ ys2).map V.str ++ ys3.map V.str)) hp5)
    generalize upd H6 p5 (.lst ((ys1 ++ ys2).map V.str ++ ys3.map V.str)) = H7 at *
    clear v3 u4
    walk_at "go"
    have e25 : ((ys1 ++ ys2) ++ ys3).length = 25 := by rw [List.length_append, List.length_append, e1, e2, e3]
    refine g_lenL (SqL.of u5) ?_
    rw [List.length_map, e25]
    walk_at "go"
    refine take_go st7 (big_of (by decide)) fun r8 H8 r80 r81 x8 st8 => ?_
    have u8 := x8.kp _ _ (st.ne hp50) u5
    obtain ⟨q, hq, hat⟩ := at_text (ys := (ys1 ++ ys2) ++ ys3) r80 (by rw [e25]; have z : r8 = 0 ∨ r8 < ((25 : Nat) : Int) := r81; omega)
    have qa : Asc q ∧ q.length ≤ 2 * x.length + 10 := by
      rcases List.mem_append.mp hq with h | h
      · rcases List.mem_append.mp h with h | h
        · exact g1 q h
        · exact g2 q h
      · exact g3 q h
    refine g_ixL (SqL.of u8) hat ?_
    walk_at "go"
    exact k q H8 qa.1 qa.2 (x7.trans x8) st8
end
end My
namespace My
open PySem PySem.Spec PyProof.Rows L2
local macro_rules | `(tactic| walk_at "arith") => `(tactic| first
  | (with_reducible show _ ≠ _; omega)
  | (unfold CMul; omega)
  | (unfold CPow; omega)
  | (unfold CPow; decide)
  | exact wide_div (b := 100) (by decide) (by decide) (by decide) (by decide))
local macro_rules | `(tactic| walk_at "go") => `(tactic| repeat (first
  | with_reducible refine g_seq ?_
  | with_reducible refine g_asg ?_
  | with_reducible refine g_name ?_
  | with_reducible refine g_sub ?_
  | with_reducible refine g_ret ?_
  | with_reducible refine g_drop ?_
  | ((with_reducible refine g_next ?_); dsimp only)
  | with_reducible refine g_if ?_
  | with_reducible refine g_var rfl ?_
  | with_reducible refine g_c ?_
  | with_reducible refine g_op ?_
  | with_reducible refine g_un ?_
  | with_reducible refine g_I0 ?_
  | with_reducible refine g_U ?_
  | with_reducible refine g_eq rfl ?_
  | with_reducible refine g_test ?_
  | with_reducible refine g_bl ?_
  | with_reducible refine iteF ?_
  | with_reducible refine iteT ?_
  | ((with_reducible apply g_iteT); (case e => rfl))
  | ((with_reducible apply g_iteF); (case e => rfl))
  | with_reducible refine g_int1 ?_
  | with_reducible refine g_max2 ?_
  | with_reducible refine g_min2 ?_
  | with_reducible refine g_isN ?_
  | with_reducible refine g_notN ?_
  | ((with_reducible apply g_lenL); (case hs => assumption))
  | ((with_reducible apply g_ixL); (case hs => exact SqL.of (by assumption)); (case ha => rfl))
  | with_reducible refine g_pow9 ?_
  | with_reducible refine g_pow18 ?_
  | ((with_reducible apply g_I); (case c => walk_at "arith"))
  | ((with_reducible apply g_st); (case hs => assumption); (case hL => assumption); (case ne => assumption); (case x0 => assumption); (case hj => rfl); (case j0 => decide); intro _ _ _ _)
  | with_reducible refine g_and ?_
  | with_reducible refine g_or ?_
  | with_reducible refine g_not ?_
  | with_reducible refine g_nil ?_
  | with_reducible refine g_cons ?_
  | with_reducible refine g_callB ?_
  | with_reducible refine g_call ?_
  | with_reducible refine g_tup ?_
  | with_reducible refine g_lst ?_
  | with_reducible refine g_andV ?_
  | with_reducible refine g_orV ?_
  | with_reducible refine g_notV ?_
  | with_reducible refine g_tB ?_
  | with_reducible refine g_ne rfl ?_
  | with_reducible refine g_abs ?_
  | with_reducible refine g_isB ?_
  | with_reducible refine g_for ?_
  | with_reducible refine g_rng1 ?_
  | with_reducible refine g_rng2 ?_
  | with_reducible refine g_iList ?_
  | ((with_reducible refine g_break ?_); dsimp only)
  | ((with_reducible refine g_cont ?_); dsimp only)
  | with_reducible refine g_retN ?_
  | ((with_reducible apply isi_go (T := "int")); (case h => assumption); (case hb => exact k_int_ _))
  | ((with_reducible apply isi_go (T := "str")); (case h => assumption); (case hb => exact k_str_ _))
  | ((with_reducible apply isi_go (T := "bool")); (case h => assumption); (case hb => exact k_bool_ _))
  | ((with_reducible apply isi_go (T := "list")); (case h => assumption); (case hb => exact k_list_ _))
  | ((with_reducible apply isi_go (T := "tuple")); (case h => assumption); (case hb => exact k_tuple_ _))
  | ((with_reducible apply isi_go (T := "dict")); (case h => assumption); (case hb => exact k_dict_ _))
  | with_reducible refine g_intb ?_
  | with_reducible refine g_bm ?_
  | with_reducible refine g_tyS ?_
  | ((with_reducible apply g_tyL); (case hs => assumption))
  | with_reducible refine g_lc ?_
  | with_reducible refine g_sl ?_
  | with_reducible refine g_noP ?_
  | with_reducible refine g_part ?_
  | with_reducible refine g_pI ?_
  | with_reducible refine g_ifE ?_
  | with_reducible refine g_par ?_
  | with_reducible refine g_two ?_
  | with_reducible refine g_yes ?_
  | with_reducible refine g_gCons ?_
  | with_reducible refine g_gNil ?_
  | ((with_reducible apply g_addS); (case hl => (simp only [app_len, sizeLine_eq]; omega)))
  | ((with_reducible apply g_slS); (case hz => (simp only [app_len, sizeLine_eq]; omega)))))

/-! ### a number, drawn -/
theorem low_facts (a b : Int) (hb : 1 ≤ b) : 1 ≤ b / (G2 a b : Int) ∧ G2 (a / (G2 a b : Int)) (b / (G2 a b : Int)) = 1 ∧ (a / (G2 a b : Int)).natAbs ≤ a.natAbs ∧ (b / (G2 a b : Int)).natAbs ≤ b.natAbs := by
  have hG : 0 < G2 a b := Nat.gcd_pos_of_pos_right _ (by omega)
  obtain ⟨c, hc⟩ : (G2 a b : Int) ∣ a := Int.ofNat_dvd_left.mpr (Nat.gcd_dvd_left _ _)
  obtain ⟨d, hd⟩ : (G2 a b : Int) ∣ b := Int.ofNat_dvd_left.mpr (Nat.gcd_dvd_right _ _)
  have ec : a / (G2 a b : Int) = c := by
    conv => lhs; arg 1; rw [hc]
    exact Int.mul_ediv_cancel_left _ (by omega)
  have ed : b / (G2 a b : Int) = d := by
    conv => lhs; arg 1; rw [hd]
    exact Int.mul_ediv_cancel_left _ (by omega)
  have nc : a.natAbs = G2 a b * c.natAbs := by
    conv => lhs; rw [hc]
    rw [Int.natAbs_mul, Int.natAbs_natCast]
  have nd : b.natAbs = G2 a b * d.natAbs := by
    conv => lhs; rw [hd]
    rw [Int.natAbs_mul, Int.natAbs_natCast]
  have hg : G2 c d = 1 := by
    have e : G2 a b = G2 a b * Nat.gcd c.natAbs d.natAbs := by
      rw [← Nat.gcd_mul_left, ← nc, ← nd]
      rfl
    have e2 : G2 a b * Nat.gcd c.natAbs d.natAbs = G2 a b * 1 := by rw [← e, Nat.mul_one]
    exact Nat.eq_of_mul_eq_mul_left hG e2
  have hd1 : 1 ≤ d := by
    refine Int.not_lt.mp fun z => ?_
    have h1 : d ≤ 0 := by omega
    have h2 : (G2 a b : Int) * d ≤ 0 := Int.mul_nonpos_of_nonneg_of_nonpos (by omega) h1
    rw [← hd] at h2
    omega
  rw [ec, ed]
  refine ⟨hd1, hg, ?_, ?_⟩
  · rw [nc]
    exact Nat.le_mul_of_pos_left _ hG
  · rw [nd]
    exact Nat.le_mul_of_pos_left _ hG
def spNumber (K : PySem.W.Frag) : Sp := fun vs H Q _ => ∃ (s : Addr), vs = [.ref s] ∧ Store K H s ∧
  ∀ (t : Addr) (p q : Int) (H' : Hp), H t = none → H' t = some (.tup [.int p, .int q]) → 1 ≤ q → G2 p q = 1 → p.natAbs < 10 ^ 1001 → q.natAbs < 10 ^ 1001 → Sx s H H' → Store K H' s → Q (.ref t) H'
abbrev s_number : Stmt := topS 24
abbrev N_number : List Str := ["store", "up"]
abbrev P_number : List Str := ["store"]
theorem sc_number : FnScope N_number P_number (defScope s_number) := ⟨rfl, rfl, rfl, by decide +kernel, rfl, by decide +kernel, by decide +kernel⟩

abbrev s_alike : Stmt := topS 22
abbrev N_alike : List Str := ["got", "due", "k"]
abbrev P_alike : List Str := ["got", "due"]
theorem sc_alike : FnScope N_alike P_alike (defScope s_alike) := ⟨rfl, rfl, rfl, by decide +kernel, rfl, by decide +kernel, by decide +kernel⟩

section
variable {P : Program} {w : World} {K : PySem.W.Frag} {mg : Str → Option Value} {base : Heap}
theorem pow_nat : (10 : Int) ^ 1001 = ((10 ^ 1001 : Nat) : Int) := by exact_mod_cast rfl
theorem ok_number (T : Txt K mg) : FnOk P w K mg base CX0 173 T.dnumber.f T.dnumber.fd P_number (spNumber K) := by
  have G_take : FnOk P w K mg base CX0 171 T.dtake.f T.dtake.fd P_take (spTakeB K) := ok_takeB T
  have G_part : FnOk P w K mg base CX0 172 T.dpart.f T.dpart.fd P_part (spPart K) := ok_part T
  have G_low : FnOk P w K mg base CX0 1 T.dlow.f T.dlow.fd P_low spLow := ok_low T
  refine T.dnumber.F.ok sc_number (fun vs H Q E h => ?_) (fun cdv A outer s_ H vs Q E hr h => ?_)
  · obtain ⟨s, rfl, _⟩ := h
    rfl
  · obtain ⟨s, rfl, st, k⟩ := h
    refine ⟨_, (pss_cons (ps_set (i := 1) sc_number.nd rfl (by first | exact .inl rfl | exact .inr rfl) (pe_op op_mulW (pe_call G_part (hr.mono (by omega)) rfl T.dpart.g T.dpart.F.kp T.dpart.b .nil pass0 (pa_cons (pv 0) pa_nil)) (pe_ix ix_list (pe_lst (pa_cons pe_int (pa_cons (pe_un un_neg pe_int) pa_nil))) (pe_call G_take (hr.mono (by omega)) rfl T.dtake.g T.dtake.F.kp T.dtake.b .nil pass0 (pa_cons (pv 0) (pa_cons pe_int pa_nil))) (fun _ _ => rfl))))
      (pss_one (ps_ret (pe_call G_low (hr.mono (by omega)) rfl T.dlow.g T.dlow.F.kp T.dlow.b .nil pass0 (pa_cons (pv 1) (pa_cons (pe_callB (c_max2 rfl) (by rfl) T.m_max bt_max (pa_cons pe_int (pa_cons (pe_call G_part (hr.mono (by omega)) rfl T.dpart.g T.dpart.F.kp T.dpart.b .nil pass0 (pa_cons (pv 0) pa_nil)) pa_nil))) pa_nil)))))), ?_⟩
    try dsimp only [cxOf, Cx.nox, Cx.wish]
    walk_at "go"
    refine ⟨s, rfl, st, fun a H1 a0 a1 x1 st1 => ?_⟩
    walk_at "go"
    refine ⟨by show 2 ≤ sizeLine; decide, fun p hp => ?_⟩
    have hp0 := st1.free x1 hp
    have u2 := upd_same (H := H1) (a := p) (o := .lst [.int 1, .int (-1)])
    have st2 := st1.new (o := .lst [.int 1, .int (-1)]) hp
    have x2 := x1.trans (Sx.new (o := .lst [.int 1, .int (-1)]) hp)
    generalize upd H1 p (.lst [.int 1, .int (-1)]) = H2 at *
    walk_at "go"
    refine take_go st2 (big_of (by decide)) fun r H3 r0 r1 x3 st3 => ?_
    have u3 := x3.kp _ _ (st.ne hp0) u2
    obtain ⟨v, hv, ha⟩ := at_mem (xs := [.int 1, .int (-1)]) r0 (by show r < ((2 : Nat) : Int); omega)
    obtain ⟨e, he, rfl⟩ : ∃ e : Int, (e = 1 ∨ e = -1) ∧ v = .int e := by
      simp only [List.mem_cons, List.not_mem_nil, or_false] at hv
      rcases hv with rfl | rfl
      · exact ⟨1, .inl rfl, rfl⟩
      · exact ⟨-1, .inr rfl, rfl⟩
    refine g_ixL (SqL.of u3) ha ?_
    rw [pow_nat] at a1
    have an : (a * e).natAbs < 10 ^ 1001 := by
      generalize (10 : Nat) ^ 1001 = C at *
      rcases he with rfl | rfl <;> omega
    have cw : CMulW a e := by
      unfold CMulW
      have b1 : a.natAbs.log2 < 9000 := by
        refine PySem.Flt.log2_lt_of (by decide) ?_
        have z : a.natAbs < 10 ^ 1001 := by
          generalize (10 : Nat) ^ 1001 = C at *
          omega
        exact Nat.lt_trans z (by decide +kernel)
      have b2 : e.natAbs.log2 = 0 := by
        rcases he with rfl | rfl <;> decide
      omega
    walk_at "go"
    refine g_I cw ?_
    generalize a * e = up at *
    walk_at "go"
    refine ⟨s, rfl, st3, fun b H4 b0 b1 x4 st4 => ?_⟩
    rw [pow_nat] at b1
    walk_at "go"
    generalize hd : (if b > 1 then b else 1) = dn
    have d1 : 1 ≤ dn := by
      subst hd
      split <;> omega
    have one : (1 : Nat) < 10 ^ 1001 := Nat.one_lt_pow (by decide) (by decide)
    have d2 : dn.natAbs < 10 ^ 1001 := by
      subst hd
      generalize (10 : Nat) ^ 1001 = C at *
      split <;> omega
    have d3 : dn.natAbs.log2 < 9000 := PySem.Flt.log2_lt_of (by decide) (Nat.lt_trans d2 (by decide +kernel))
    refine ⟨up, dn, rfl, d1, d3, fun t ht => ?_⟩
    obtain ⟨f1, f2, f3, f4⟩ := low_facts up dn d1
    have x24 := (x2.trans x3).trans x4
    exact k t _ _ _ (st4.free x24 ht) upd_same f1 f2 (Nat.lt_of_le_of_lt f3 an) (Nat.lt_of_le_of_lt f4 d2) (x24.trans (Sx.new ht)) (st4.new ht)
def spAlike : Nat → Sp
  | 0 => fun _ _ _ _ => False
  | n + 1 => fun vs H Q _ => ∃ (s : Addr) (d : D) (v w : V), vs = [v, w] ∧ Da s H d v ∧ Da s H d w ∧ Ok n d ∧ ∀ H', Same H H' → Q (.bl true) H'
theorem ok_alike (T : Txt K mg) (n : Nat) : FnOk P w K mg base CX0 n T.dalike.f T.dalike.fd P_alike (spAlike n) := by
  induction n with
  | zero => exact ⟨fun _ _ _ _ h => h.elim, fun _ _ _ _ _ _ _ _ _ _ _ _ _ h => h.elim⟩
  | succ n G_alike =>
    refine T.dalike.F.ok sc_alike (fun vs H Q E h => ?_) (fun cdv A outer s_ H vs Q E hr h => ?_)
    · obtain ⟨s, d, v, w, rfl, _⟩ := h
      rfl
    · obtain ⟨s, d, v, w, rfl, h1, h2, ok, k⟩ := h
      refine ⟨_, (pss_cons (ps_if (pt_val (pe_callB call_isiT (by rfl) T.m_isinstance bt_isinstance (pa_cons (pv 1) (pa_cons (pe_tup (pa_cons (pe_bltn (v := .ty "list") (by rfl) T.m_list bt_list rfl) (pa_cons (pe_bltn (v := .ty "tuple") (by rfl) T.m_tuple bt_tuple rfl) pa_nil))) pa_nil))))
        (pss_cons (ps_if (PW.pt (pw_or (pt_cmpR op_ne (pe_callB call_isi (by rfl) T.m_isinstance bt_isinstance (pa_cons (pv 0) (pa_cons (pe_bltn (v := .ty "list") (by rfl) T.m_list bt_list rfl) pa_nil))) (pe_callB call_isi (by rfl) T.m_isinstance bt_isinstance (pa_cons (pv 1) (pa_cons (pe_bltn (v := .ty "list") (by rfl) T.m_list bt_list rfl) pa_nil))) (nomark _)) (pw_or1 (pt_cmpR op_ne (pe_callB call_isi (by rfl) T.m_isinstance bt_isinstance (pa_cons (pv 0) (pa_cons (pe_bltn (v := .ty "tuple") (by rfl) T.m_tuple bt_tuple rfl) pa_nil))) (pe_callB call_isi (by rfl) T.m_isinstance bt_isinstance (pa_cons (pv 1) (pa_cons (pe_bltn (v := .ty "tuple") (by rfl) T.m_tuple bt_tuple rfl) pa_nil))) (nomark _)))))
          (pss_one (ps_ret pe_bl))
          pss_nil)
        (pss_one (ps_ret (pe_and (pe_cmpR op_eq (pe_callB c_len (by rfl) T.m_len bt_len (pa_cons (pv 0) pa_nil)) (pe_callB c_len (by rfl) T.m_len bt_len (pa_cons (pv 1) pa_nil)) (nomark _)) (pe_one (pe_cmpR op_eq (pe_callB c_len (by rfl) T.m_len bt_len (pa_cons (pe_lc (own := [("k", 2)]) (g := gName 2) rfl sc_alike.nd (pi_range1 rfl T.m_range (pa_cons (pe_callB c_len (by rfl) T.m_len bt_len (pa_cons (pv 1) pa_nil)) pa_nil)) (blkOk_by (own := [("k", 2)]) (N := N_alike) (sc := defScope s_alike) (by decide +kernel)) (fun _ _ _ _ _ => (pg_name (i := 2) sc_alike.nd rfl (by first | exact .inl rfl | exact .inr rfl))) (fun _ _ _ _ _ => (pts_one (pt_not (pt_val (pe_call G_alike (hr.mono (by omega)) rfl T.dalike.g T.dalike.F.kp T.dalike.b .nil pass0 (pa_cons (pe_ix (show IxR _ (rIx K) from ix_seq) (pv 0) (pv 2) (fun _ _ => rfl)) (pa_cons (pe_ix (show IxR _ (rIx K) from ix_seq) (pv 1) (pv 2) (fun _ _ => rfl)) pa_nil))))))) (fun _ _ _ _ _ => (pv 2))) pa_nil)) pe_int (nomark _)))))))
        pss_nil)
      (pss_cons (ps_if (PW.pt (pw_or (pt_cmpR op_ne (pe_callB call_isi (by rfl) T.m_isinstance bt_isinstance (pa_cons (pv 0) (pa_cons (pe_bltn (v := .ty "bool") (by rfl) T.m_bool bt_bool rfl) pa_nil))) (pe_callB call_isi (by rfl) T.m_isinstance bt_isinstance (pa_cons (pv 1) (pa_cons (pe_bltn (v := .ty "bool") (by rfl) T.m_bool bt_bool rfl) pa_nil))) (nomark _)) (pw_or1 (pt_cmpR op_ne (pe_callB call_isi (by rfl) T.m_isinstance bt_isinstance (pa_cons (pv 0) (pa_cons (pe_bltn (v := .ty "int") (by rfl) T.m_int bt_int rfl) pa_nil))) (pe_callB call_isi (by rfl) T.m_isinstance bt_isinstance (pa_cons (pv 1) (pa_cons (pe_bltn (v := .ty "int") (by rfl) T.m_int bt_int rfl) pa_nil))) (nomark _)))))
        (pss_one (ps_ret pe_bl))
        pss_nil)
      (pss_one (ps_ret (pe_and (pe_cmpR op_eq (pe_callB call_isi (by rfl) T.m_isinstance bt_isinstance (pa_cons (pv 0) (pa_cons (pe_bltn (v := .ty "str") (by rfl) T.m_str bt_str rfl) pa_nil))) (pe_callB call_isi (by rfl) T.m_isinstance bt_isinstance (pa_cons (pv 1) (pa_cons (pe_bltn (v := .ty "str") (by rfl) T.m_str bt_str rfl) pa_nil))) (nomark _)) (pe_and (pe_cmpR op_eq (pe_cmpR o_isN (pv 0) pe_non (nomark _)) (pe_cmpR o_isN (pv 1) pe_non (nomark _)) (nomark _)) (pe_one (pe_cmpR op_eq (pv 0) (pv 1) (nomark _))))))))), ?_⟩
      try dsimp only [cxOf, Cx.nox, Cx.wish]
      walk_at "go"
      refine ⟨by show 2 ≤ sizeLine; decide, fun p hp => ?_⟩
      have x1 : Same H (upd H p (.tup [.ty "list", .ty "tuple"])) := same_new hp
      have g1 := Da.mono (Sx.of x1) _ _ h1
      have g2 := Da.mono (Sx.of x1) _ _ h2
      walk_at "go"
      refine isi2_go g2 upd_same (k_list_ _) (k_tuple_ _) ?_
      generalize upd H p (.tup [.ty "list", .ty "tuple"]) = H1 at *
      cases d with
      | non =>
        have e1 : v = _ := h1
        have e2 : w = _ := h2
        subst e1 e2
        walk_at "go"
        exact k H1 x1
      | bl b =>
        have e1 : v = _ := h1
        have e2 : w = _ := h2
        subst e1 e2
        walk_at "go"
        rw [decide_eq_true rfl]
        exact k H1 x1
      | int i =>
        have e1 : v = _ := h1
        have e2 : w = _ := h2
        subst e1 e2
        walk_at "go"
        rw [decide_eq_true rfl]
        exact k H1 x1
      | str x =>
        have e1 : v = _ := h1
        have e2 : w = _ := h2
        subst e1 e2
        walk_at "go"
        rw [decide_eq_true rfl]
        exact k H1 x1
      | dct =>
        cases n <;> exact False.elim ok
      | tup l =>
        obtain ⟨m, rfl⟩ : ∃ m, n = m + 1 := by
          cases n with
          | zero => exact False.elim ok
          | succ m => exact ⟨m, rfl⟩
        clear h1 h2
        obtain ⟨a, xs, rfl, na, ha, qa⟩ := g1
        obtain ⟨b, ys, rfl, nb, hb, qb⟩ := g2
        have la := qa.len
        have lb := qb.len
        have sa := SqT.of (K := K) ha
        have sb := SqT.of (K := K) hb
        have da : Da s H1 (.tup l) (.ref a) := ⟨a, xs, rfl, na, ha, qa⟩
        have db : Da s H1 (.tup l) (.ref b) := ⟨b, ys, rfl, nb, hb, qb⟩
        walk_at "go"
        refine g_lenT sa ?_
        walk_at "go"
        refine g_lenT sb ?_
        walk_at "go"
        refine g_iteT (by rw [la, lb]; exact decide_eq_true rfl) ?_
        walk_at "go"
        refine g_lenT sb ?_
        walk_at "go"
        rw [lb]
        refine ⟨_, rfl, by omega, by have := ok.1; omega, fun D0 hD => ?_⟩
        refine lc_range (n := l.length) (fun i H' => H' D0 = some (.lst []) ∧ Same H1 H') ⟨upd_same, same_new hD⟩ ?_ ?_
        · rintro i H2 hi ⟨z, x2⟩
          obtain ⟨u1, e1, c1⟩ := qa.get (List.getElem?_eq_getElem hi)
          obtain ⟨u2, e2, c2⟩ := qb.get (List.getElem?_eq_getElem hi)
          walk_at "go"
          refine ⟨rfl, ?_⟩
          walk_at "go"
          refine g_or3 (.inr (x2.sqt sa)) (at_i e1) ?_
          walk_at "go"
          refine g_or3 (.inr (x2.sqt sb)) (at_i e2) ?_
          walk_at "go"
          refine ⟨s, _, u1, u2, rfl, Da.mono (Sx.of x2) _ _ c1, Da.mono (Sx.of x2) _ _ c2, ok.2 _ (List.getElem_mem hi), fun H3 x3 => ?_⟩
          walk_at "go"
          exact ⟨x3 _ _ z, x2.trans x3⟩
        · rintro H2 ⟨z, x2⟩
          walk_at "go"
          refine g_lenL (SqL.of z) ?_
          walk_at "go"
          exact k H2 (x1.trans x2)
      | lst l =>
        obtain ⟨m, rfl⟩ : ∃ m, n = m + 1 := by
          cases n with
          | zero => exact False.elim ok
          | succ m => exact ⟨m, rfl⟩
        clear h1 h2
        obtain ⟨a, xs, rfl, na, ha, qa⟩ := g1
        obtain ⟨b, ys, rfl, nb, hb, qb⟩ := g2
        have la := qa.len
        have lb := qb.len
        have sa := SqL.of (K := K) ha
        have sb := SqL.of (K := K) hb
        have da : Da s H1 (.lst l) (.ref a) := ⟨a, xs, rfl, na, ha, qa⟩
        have db : Da s H1 (.lst l) (.ref b) := ⟨b, ys, rfl, nb, hb, qb⟩
        walk_at "go"
        refine g_iteT (by rw [la, lb]; exact decide_eq_true rfl) ?_
        walk_at "go"
        rw [lb]
        refine ⟨_, rfl, by omega, by have := ok.1; omega, fun D0 hD => ?_⟩
        refine lc_range (n := l.length) (fun i H' => H' D0 = some (.lst []) ∧ Same H1 H') ⟨upd_same, same_new hD⟩ ?_ ?_
        · rintro i H2 hi ⟨z, x2⟩
          obtain ⟨u1, e1, c1⟩ := qa.get (List.getElem?_eq_getElem hi)
          obtain ⟨u2, e2, c2⟩ := qb.get (List.getElem?_eq_getElem hi)
          walk_at "go"
          refine ⟨rfl, ?_⟩
          walk_at "go"
          refine g_or3 (.inl (x2.seq sa)) (at_i e1) ?_
          walk_at "go"
          refine g_or3 (.inl (x2.seq sb)) (at_i e2) ?_
          walk_at "go"
          refine ⟨s, _, u1, u2, rfl, Da.mono (Sx.of x2) _ _ c1, Da.mono (Sx.of x2) _ _ c2, ok.2 _ (List.getElem_mem hi), fun H3 x3 => ?_⟩
          walk_at "go"
          exact ⟨x3 _ _ z, x2.trans x3⟩
        · rintro H2 ⟨z, x2⟩
          walk_at "go"
          refine g_lenL (SqL.of z) ?_
          walk_at "go"
          exact k H2 (x1.trans x2)
end
end My
namespace My
open PySem PySem.Spec PyProof.Rows L2
section
variable {K : PySem.W.Frag} {a : Addr} {cls : Value} {d : Option Addr} {H : Hp} {Q : VK} {σ : L2.St}
theorem g_isP {C dd : Addr} {fs : List (Str × V)} {c : V} {cv : Value} {b : Bool} (hc : cls = .ref C) (x : XC K C) (hd : d = some dd) (ea : H dd = some (.xd fs)) (k : ClsV c cv) (kb : PySem.W.kitOne K (.ref C) cv = some b) (h : Q (.bl b) H) : rIsP K a cls d [.ref a, c] H Q :=
  ⟨C, dd, fs, c, cv, b, rfl, hc, x, hd, ea, k, kb, h⟩
theorem g_xg {n : Str} {te : TE} (h : te σ H fun x H1 => x = .ref a ∧ ∃ (C dd : Addr) (fs : List (Str × V)) (v : V), cls = .ref C ∧ XC K C ∧ PySem.W.findIn K (.ref C) n = some none ∧ d = some dd ∧ H1 dd = some (.xd fs) ∧ fs.lookup n = some v ∧ Q v H1) : tXg K a cls d n te σ H Q := h
end
local macro_rules | `(tactic| walk_at "arith") => `(tactic| first
  | (with_reducible show _ ≠ _; omega)
  | (unfold CMul; omega)
  | (unfold CPow; omega)
  | (unfold CPow; decide)
  | exact wide_div (b := 100) (by decide) (by decide) (by decide) (by decide))
local macro_rules | `(tactic| walk_at "go") => `(tactic| repeat (first
  | with_reducible refine g_seq ?_
  | with_reducible refine g_asg ?_
  | with_reducible refine g_name ?_
  | with_reducible refine g_sub ?_
  | with_reducible refine g_ret ?_
  | with_reducible refine g_drop ?_
  | ((with_reducible refine g_next ?_); dsimp only)
  | with_reducible refine g_if ?_
  | with_reducible refine g_var rfl ?_
  | with_reducible refine g_c ?_
  | with_reducible refine g_op ?_
  | with_reducible refine g_un ?_
  | with_reducible refine g_I0 ?_
  | with_reducible refine g_U ?_
  | with_reducible refine g_eq rfl ?_
  | with_reducible refine g_test ?_
  | with_reducible refine g_bl ?_
  | with_reducible refine iteF ?_
  | with_reducible refine iteT ?_
  | ((with_reducible apply g_iteT); (case e => rfl))
  | ((with_reducible apply g_iteF); (case e => rfl))
  | with_reducible refine g_int1 ?_
  | with_reducible refine g_max2 ?_
  | with_reducible refine g_min2 ?_
  | with_reducible refine g_isN ?_
  | with_reducible refine g_notN ?_
  | ((with_reducible apply g_lenL); (case hs => assumption))
  | ((with_reducible apply g_ixL); (case hs => exact SqL.of (by assumption)); (case ha => rfl))
  | with_reducible refine g_pow9 ?_
  | with_reducible refine g_pow18 ?_
  | ((with_reducible apply g_I); (case c => walk_at "arith"))
  | ((with_reducible apply g_st); (case hs => assumption); (case hL => assumption); (case ne => assumption); (case x0 => assumption); (case hj => rfl); (case j0 => decide); intro _ _ _ _)
  | with_reducible refine g_and ?_
  | with_reducible refine g_or ?_
  | with_reducible refine g_not ?_
  | with_reducible refine g_nil ?_
  | with_reducible refine g_cons ?_
  | with_reducible refine g_callB ?_
  | with_reducible refine g_call ?_
  | with_reducible refine g_tup ?_
  | with_reducible refine g_lst ?_
  | with_reducible refine g_andV ?_
  | with_reducible refine g_orV ?_
  | with_reducible refine g_notV ?_
  | with_reducible refine g_tB ?_
  | with_reducible refine g_ne rfl ?_
  | with_reducible refine g_abs ?_
  | with_reducible refine g_isB ?_
  | with_reducible refine g_for ?_
  | with_reducible refine g_rng1 ?_
  | with_reducible refine g_rng2 ?_
  | with_reducible refine g_iList ?_
  | ((with_reducible refine g_break ?_); dsimp only)
  | ((with_reducible refine g_cont ?_); dsimp only)
  | with_reducible refine g_retN ?_
  | ((with_reducible apply isi_go (T := "int")); (case h => assumption); (case hb => exact k_int_ _))
  | ((with_reducible apply isi_go (T := "str")); (case h => assumption); (case hb => exact k_str_ _))
  | ((with_reducible apply isi_go (T := "bool")); (case h => assumption); (case hb => exact k_bool_ _))
  | ((with_reducible apply isi_go (T := "list")); (case h => assumption); (case hb => exact k_list_ _))
  | ((with_reducible apply isi_go (T := "tuple")); (case h => assumption); (case hb => exact k_tuple_ _))
  | ((with_reducible apply isi_go (T := "dict")); (case h => assumption); (case hb => exact k_dict_ _))
  | with_reducible refine g_intb ?_
  | with_reducible refine g_bm ?_
  | with_reducible refine g_tyS ?_
  | ((with_reducible apply g_tyL); (case hs => assumption))
  | with_reducible refine g_lc ?_
  | with_reducible refine g_sl ?_
  | with_reducible refine g_noP ?_
  | with_reducible refine g_part ?_
  | with_reducible refine g_pI ?_
  | with_reducible refine g_ifE ?_
  | with_reducible refine g_par ?_
  | with_reducible refine g_two ?_
  | with_reducible refine g_yes ?_
  | with_reducible refine g_gCons ?_
  | with_reducible refine g_gNil ?_
  | ((with_reducible apply g_addS); (case hl => (simp only [app_len, sizeLine_eq]; omega)))
  | ((with_reducible apply g_slS); (case hz => (simp only [app_len, sizeLine_eq]; omega)))))

def writeS (p q : Int) : Str := ⟨(writeL p q.natAbs).toArray⟩
def ansW (dv : D) : D := match dv with
  | .tup [.int p, .int q] => if isRat (.tup [.int p, .int q]) = true then .tup [.str "told", .str (writeS p q)] else .tup [.str "WrongKind", .str "one"]
  | _ => .tup [.str "WrongKind", .str "one"]
def ansR (dv : D) : D := match dv with
  | .str x => .tup [.str "told", ratD (readR x.cps.toList)]
  | _ => .tup [.str "WrongKind", .str "word"]
theorem ansW_no {dv : D} (h : isRat dv = false) : ansW dv = .tup [.str "WrongKind", .str "one"] := by
  unfold ansW
  split
  · rw [h, if_neg Bool.false_ne_true]
  · rfl
theorem ansW_yes {p q : Int} (h : isRat (.tup [.int p, .int q]) = true) : ansW (.tup [.int p, .int q]) = .tup [.str "told", .str (writeS p q)] := if_pos h
theorem ansR_no {dv : D} (h : isIn dv "str" = false) : ansR dv = .tup [.str "WrongKind", .str "word"] := by
  cases dv with
  | str x =>
    have e : isIn (.str x) "str" = true := by show isIn (.str "") "str" = true; decide +kernel
    rw [e] at h
    cases h
  | _ => rfl
def spTold {K : PySem.W.Frag} {mg : Str → Option Value} (T : Txt K mg) : Sp := fun vs H Q _ => ∃ (s : Addr) (way : Int) (v : V) (dv : D), vs = [.int way, v] ∧ Store K H s ∧ Da s H dv v ∧
  (way = 0 → ∀ p q, dv = .tup [.int p, .int q] → p.natAbs < 10 ^ 2000 ∧ q.natAbs < 10 ^ 2000) ∧ (¬ way = 0 → ∀ x, dv = .str x → Asc x ∧ x.length ≤ 100000) ∧
  ∀ (u : V) (H' : Hp), Same H H' → Da s H' (if way = 0 then ansW dv else ansR dv) u → Q u H'
abbrev s_told : Stmt := topS 30
abbrev N_told : List Str := ["way", "thing", "e", "flags"]
abbrev P_told : List Str := ["way", "thing"]
theorem sc_told : FnScope N_told P_told (defScope s_told) := ⟨rfl, rfl, rfl, by decide +kernel, rfl, by decide +kernel, by decide +kernel⟩

section
variable {P : Program} {w : World} {K : PySem.W.Frag} {mg : Str → Option Value} {base : Heap}
theorem ok_told (T : Txt K mg) : FnOk P w K mg base CX0 5 T.dtold.f T.dtold.fd P_told (spTold T) := by
  have G_write_ratio : FnOk P w K mg base (L2N.CX P w) 4 T.dwrite_ratio.f T.dwrite_ratio.fd P_write_ratio (spWriteR T) := ok_write_ratio T
  have G_read_ratio : FnOk P w K mg base (L2N.CX P w) 4 T.dread_ratio.f T.dread_ratio.fd P_read_ratio (spReadR T) := ok_read_ratio T
  refine T.dtold.F.ok sc_told (fun vs H Q E h => ?_) (fun cdv A outer s_ H vs Q E hr h => ?_)
  · obtain ⟨s, way, v, dv, rfl, _⟩ := h
    rfl
  · obtain ⟨s, way, v, dv, rfl, st, da, hb, hx, k⟩ := h
    refine ⟨_, (pss_one (L2N.ps_try_as (i := 2) rfl rfl sc_told.nd rfl rfl ⟨rfl, by decide, .inl T.cFrameError.g⟩ takesN0 (fun W pn xe tk _ => (pss_cons (ps_if (pt_cmpR op_eq (pv 0) pe_int (nomark _)) (pss_one (ps_ret (pe_tup (pa_cons pe_str (pa_cons (pe_callS G_write_ratio (hr.mono (by omega)) rfl T.dwrite_ratio.g T.dwrite_ratio.F.kp T.dwrite_ratio.b (fun σ => L2N.passAt tk σ) (pa_cons (pv 1) pa_nil)) pa_nil))))) pss_nil) (pss_one (ps_ret (pe_tup (pa_cons pe_str (pa_cons (pe_callS G_read_ratio (hr.mono (by omega)) rfl T.dread_ratio.g T.dread_ratio.F.kp T.dread_ratio.b (fun σ => L2N.passAt tk σ) (pa_cons (pv 1) pa_nil)) pa_nil))))))) (fun a oe cls d pn hz hf => (pss_cons (ps_set (i := 3) sc_told.nd rfl (by first | exact .inl rfl | exact .inr rfl) (pe_lst (pa_cons (pe_callB (show CallR _ (.builtin "isinstance") (rIsP K a cls d) from c_isP (List.mem_cons_self ..) ⟨hz.1, hz.2.1⟩ hf) (by rfl) T.m_isinstance bt_isinstance (pa_cons (pv 2) (pa_cons (pe_glob (v := .ref T.cOutOfBounds.C) rfl T.cOutOfBounds.g rfl) pa_nil))) (pa_cons (pe_callB (show CallR _ (.builtin "isinstance") (rIsP K a cls d) from c_isP (List.mem_cons_self ..) ⟨hz.1, hz.2.1⟩ hf) (by rfl) T.m_isinstance bt_isinstance (pa_cons (pv 2) (pa_cons (pe_glob (v := .ref T.cRepeatedName.C) rfl T.cRepeatedName.g rfl) pa_nil))) (pa_cons (pe_callB (show CallR _ (.builtin "isinstance") (rIsP K a cls d) from c_isP (List.mem_cons_self ..) ⟨hz.1, hz.2.1⟩ hf) (by rfl) T.m_isinstance bt_isinstance (pa_cons (pv 2) (pa_cons (pe_glob (v := .ref T.cUnknownName.C) rfl T.cUnknownName.g rfl) pa_nil))) pa_nil)))))
      (pss_cons (ps_set (i := 3) sc_told.nd rfl (by first | exact .inl rfl | exact .inr rfl) (pe_op op_cat (pv 3) (pe_lst (pa_cons (pe_callB (show CallR _ (.builtin "isinstance") (rIsP K a cls d) from c_isP (List.mem_cons_self ..) ⟨hz.1, hz.2.1⟩ hf) (by rfl) T.m_isinstance bt_isinstance (pa_cons (pv 2) (pa_cons (pe_glob (v := .ref T.cUnfitError.C) rfl T.cUnfitError.g rfl) pa_nil))) (pa_cons (pe_callB (show CallR _ (.builtin "isinstance") (rIsP K a cls d) from c_isP (List.mem_cons_self ..) ⟨hz.1, hz.2.1⟩ hf) (by rfl) T.m_isinstance bt_isinstance (pa_cons (pv 2) (pa_cons (pe_glob (v := .ref T.cBadText.C) rfl T.cBadText.g rfl) pa_nil))) pa_nil)))))
      (pss_cons (ps_if (PW.pt (pw_or (pt_not (pt_val (pe_callB (show CallR _ (.builtin "isinstance") (rIsP K a cls d) from c_isP (List.mem_cons_self ..) ⟨hz.1, hz.2.1⟩ hf) (by rfl) T.m_isinstance bt_isinstance (pa_cons (pv 2) (pa_cons (pe_glob (v := .ref T.cWrongKind.C) rfl T.cWrongKind.g rfl) pa_nil))))) (pw_or (pt_not (pt_val (pe_callB (show CallR _ (.builtin "isinstance") (rIsP K a cls d) from c_isP (List.mem_cons_self ..) ⟨hz.1, hz.2.1⟩ hf) (by rfl) T.m_isinstance bt_isinstance (pa_cons (pv 2) (pa_cons (pe_bltn (v := .ty "ValueError") (by rfl) T.m_ValueError bt_ValueError rfl) pa_nil))))) (pw_or1 (pt_cmpR (show OpR _ (compareOp .In) (rIn K false) from op_in_seq) pe_bl (pv 3) rfl)))))
        (pss_one (ps_ret (pe_tup (pa_cons pe_str (pa_cons pe_non pa_nil)))))
        pss_nil)
      (pss_one (ps_ret (pe_tup (pa_cons pe_str (pa_cons (show PE _ _ (tXg K a cls d "argument" (tVar 2)) from pe_xg (List.mem_cons_self ..) ⟨hz.1, hz.2.1⟩ hf (pv 2)) pa_nil))))))))))), ?_⟩
    try dsimp only [cxOf, Cx.nox, Cx.wish]
    walk_at "go"
    refine g_ite (fun h => ?_) (fun h => ?_)
    · have hw : way = 0 := dint_t h
      rw [if_pos hw] at k
      walk_at "go"
      refine g_callS ?_
      walk_at "go"
      refine ⟨s, dv, v, rfl, da, fun hR d H1 x1 ea => ?_, fun p q e hR => ⟨(hb hw p q e).1, (hb hw p q e).2, fun x ex => ?_⟩⟩
      · refine ⟨true, T.xWrongKind, fun _ a ha => ?_, fun z => by cases z⟩
        walk_at "go"
        refine g_isP rfl T.cWrongKind.x rfl ea (.own _) T.kWrongKind_OutOfBounds ?_
        walk_at "go"
        refine g_isP rfl T.cWrongKind.x rfl ea (.own _) T.kWrongKind_RepeatedName ?_
        walk_at "go"
        refine g_isP rfl T.cWrongKind.x rfl ea (.own _) T.kWrongKind_UnknownName ?_
        walk_at "go"
        refine ⟨by show 3 ≤ sizeLine; decide, fun p1 g1 => ?_⟩
        have y1 : Same H1 (upd H1 p1 (.lst [.bl false, .bl false, .bl false])) := same_new g1
        have u1 := upd_same (H := H1) (a := p1) (o := .lst [.bl false, .bl false, .bl false])
        replace ea := y1 _ _ ea
        have x2 := x1.trans y1
        clear y1
        generalize upd H1 p1 (.lst [.bl false, .bl false, .bl false]) = H2 at *
        walk_at "go"
        refine g_isP rfl T.cWrongKind.x rfl ea (.own _) T.kWrongKind_UnfitError ?_
        walk_at "go"
        refine g_isP rfl T.cWrongKind.x rfl ea (.own _) T.kWrongKind_BadText ?_
        walk_at "go"
        refine ⟨by show 2 ≤ sizeLine; decide, fun p2 g2 => ?_⟩
        have y2 : Same H2 (upd H2 p2 (.lst [.bl false, .bl false])) := same_new g2
        have u2 := upd_same (H := H2) (a := p2) (o := .lst [.bl false, .bl false])
        replace ea := y2 _ _ ea
        replace u1 := y2 _ _ u1
        have x3 := x2.trans y2
        clear y2
        generalize upd H2 p2 (.lst [.bl false, .bl false]) = H3 at *
        walk_at "go"
        refine ⟨p1, p2, _, _, rfl, rfl, u1, u2, by show 3 + 2 ≤ sizeLine; decide, fun p3 g3 => ?_⟩
        have y3 : Same H3 (upd H3 p3 (.lst ([.bl false, .bl false, .bl false] ++ [.bl false, .bl false]))) := same_new g3
        have u3 : upd H3 p3 (.lst ([.bl false, .bl false, .bl false] ++ [.bl false, .bl false])) p3 = some (.lst [.bl false, .bl false, .bl false, .bl false, .bl false]) := upd_same
        replace ea := y3 _ _ ea
        have x4 := x3.trans y3
        clear y3
        generalize upd H3 p3 (.lst ([.bl false, .bl false, .bl false] ++ [.bl false, .bl false])) = H4 at *
        walk_at "go"
        refine g_isP rfl T.cWrongKind.x rfl ea (.own _) T.kWrongKind_WrongKind ?_
        walk_at "go"
        refine g_isP rfl T.cWrongKind.x rfl ea (.ty _) T.kWrongKind_ValueError ?_
        walk_at "go"
        refine ⟨p3, _, rfl, .inl (SqL.of u3), rfl, rfl, ?_⟩
        walk_at "go"
        first | refine g_iteF (by decide +kernel) ?_ | skip
        walk_at "go"
        refine g_xg ?_
        walk_at "go"
        refine ⟨rfl, _, _, _, _, rfl, T.cWrongKind.x, T.nWrongKind_argument, rfl, ea, rfl, ?_⟩
        walk_at "go"
        refine ⟨by show 2 ≤ sizeLine; decide, fun p5 g5 => ?_⟩
        have dd := Da.tupI (st.same x4) g5 (l := [.str "WrongKind", .str "one"]) (.cons rfl (.cons rfl .nil))
        refine k _ _ (x4.trans (same_new g5)) ?_
        rw [ansW_no hR]
        exact dd
      · subst e
        walk_at "go"
        refine ⟨by show 2 ≤ sizeLine; decide, fun p5 g5 => ?_⟩
        refine k _ _ (same_new g5) ?_
        rw [ansW_yes hR]
        have e2 : x = writeS p q := str_ext ex
        exact Da.tupI st g5 (l := [.str "told", .str (writeS p q)]) (.cons rfl (.cons (by rw [e2]; rfl) .nil))
    · have hw : ¬ way = 0 := dint_f h
      rw [if_neg hw] at k
      walk_at "go"
      refine g_callS ?_
      walk_at "go"
      refine ⟨s, dv, v, rfl, st, da, hx hw, fun hR d H1 x1 ea => ?_, fun x ex u H1 x1 du => ?_⟩
      · refine ⟨true, T.xWrongKind, fun _ a ha => ?_, fun z => by cases z⟩
        walk_at "go"
        refine g_isP rfl T.cWrongKind.x rfl ea (.own _) T.kWrongKind_OutOfBounds ?_
        walk_at "go"
        refine g_isP rfl T.cWrongKind.x rfl ea (.own _) T.kWrongKind_RepeatedName ?_
        walk_at "go"
        refine g_isP rfl T.cWrongKind.x rfl ea (.own _) T.kWrongKind_UnknownName ?_
        walk_at "go"
        refine ⟨by show 3 ≤ sizeLine; decide, fun p1 g1 => ?_⟩
        have y1 : Same H1 (upd H1 p1 (.lst [.bl false, .bl false, .bl false])) := same_new g1
        have u1 := upd_same (H := H1) (a := p1) (o := .lst [.bl false, .bl false, .bl false])
        replace ea := y1 _ _ ea
        have x2 := x1.trans y1
        clear y1
        generalize upd H1 p1 (.lst [.bl false, .bl false, .bl false]) = H2 at *
        walk_at "go"
        refine g_isP rfl T.cWrongKind.x rfl ea (.own _) T.kWrongKind_UnfitError ?_
        walk_at "go"
        refine g_isP rfl T.cWrongKind.x rfl ea (.own _) T.kWrongKind_BadText ?_
        walk_at "go"
        refine ⟨by show 2 ≤ sizeLine; decide, fun p2 g2 => ?_⟩
        have y2 : Same H2 (upd H2 p2 (.lst [.bl false, .bl false])) := same_new g2
        have u2 := upd_same (H := H2) (a := p2) (o := .lst [.bl false, .bl false])
        replace ea := y2 _ _ ea
        replace u1 := y2 _ _ u1
        have x3 := x2.trans y2
        clear y2
        generalize upd H2 p2 (.lst [.bl false, .bl false]) = H3 at *
        walk_at "go"
        refine ⟨p1, p2, _, _, rfl, rfl, u1, u2, by show 3 + 2 ≤ sizeLine; decide, fun p3 g3 => ?_⟩
        have y3 : Same H3 (upd H3 p3 (.lst ([.bl false, .bl false, .bl false] ++ [.bl false, .bl false]))) := same_new g3
        have u3 : upd H3 p3 (.lst ([.bl false, .bl false, .bl false] ++ [.bl false, .bl false])) p3 = some (.lst [.bl false, .bl false, .bl false, .bl false, .bl false]) := upd_same
        replace ea := y3 _ _ ea
        have x4 := x3.trans y3
        clear y3
        generalize upd H3 p3 (.lst ([.bl false, .bl false, .bl false] ++ [.bl false, .bl false])) = H4 at *
        walk_at "go"
        refine g_isP rfl T.cWrongKind.x rfl ea (.own _) T.kWrongKind_WrongKind ?_
        walk_at "go"
        refine g_isP rfl T.cWrongKind.x rfl ea (.ty _) T.kWrongKind_ValueError ?_
        walk_at "go"
        refine ⟨p3, _, rfl, .inl (SqL.of u3), rfl, rfl, ?_⟩
        walk_at "go"
        first | refine g_iteF (by decide +kernel) ?_ | skip
        walk_at "go"
        refine g_xg ?_
        walk_at "go"
        refine ⟨rfl, _, _, _, _, rfl, T.cWrongKind.x, T.nWrongKind_argument, rfl, ea, rfl, ?_⟩
        walk_at "go"
        refine ⟨by show 2 ≤ sizeLine; decide, fun p5 g5 => ?_⟩
        have dd := Da.tupI (st.same x4) g5 (l := [.str "WrongKind", .str "word"]) (.cons rfl (.cons rfl .nil))
        refine k _ _ (x4.trans (same_new g5)) ?_
        rw [ansR_no hR]
        exact dd
      · subst ex
        walk_at "go"
        refine ⟨by show 2 ≤ sizeLine; decide, fun p5 g5 => ?_⟩
        refine k _ _ (x1.trans (same_new g5)) ?_
        exact Da.tupI (st.same x1) g5 (l := [.str "told", ratD (readR x.cps.toList)]) (.cons rfl (.cons du .nil))
end
end My
namespace My
open PySem PySem.Spec PyProof.Rows L2
theorem g_chain {r r' : R2} {ta tb tc : TE} {σ : L2.St} {H : Hp} {Q : VK} (h : ta σ H fun x H1 => tb σ H1 fun y H2 => r x y H2 fun z H3 => ∃ k, z = .bl k ∧ (if k = true then tc σ H3 fun w' H4 => r' y w' H4 Q else Q (.bl false) H3)) : tChain r r' ta tb tc σ H Q := h
local macro_rules | `(tactic| walk_at "arith") => `(tactic| first
  | (with_reducible show _ ≠ _; omega)
  | (unfold CMul; omega)
  | (unfold CPow; omega)
  | (unfold CPow; decide)
  | exact wide_div (b := 100) (by decide) (by decide) (by decide) (by decide))
local macro_rules | `(tactic| walk_at "go") => `(tactic| repeat (first
  | with_reducible refine g_seq ?_
  | with_reducible refine g_asg ?_
  | with_reducible refine g_name ?_
  | with_reducible refine g_sub ?_
  | with_reducible refine g_ret ?_
  | with_reducible refine g_drop ?_
  | ((with_reducible refine g_next ?_); dsimp only)
  | with_reducible refine g_if ?_
  | with_reducible refine g_var rfl ?_
  | with_reducible refine g_c ?_
  | with_reducible refine g_op ?_
  | with_reducible refine g_un ?_
  | with_reducible refine g_I0 ?_
  | with_reducible refine g_U ?_
  | with_reducible refine g_eq rfl ?_
  | with_reducible refine g_test ?_
  | with_reducible refine g_bl ?_
  | with_reducible refine iteF ?_
  | with_reducible refine iteT ?_
  | ((with_reducible apply g_iteT); (case e => rfl))
  | ((with_reducible apply g_iteF); (case e => rfl))
  | with_reducible refine g_int1 ?_
  | with_reducible refine g_max2 ?_
  | with_reducible refine g_min2 ?_
  | with_reducible refine g_isN ?_
  | with_reducible refine g_notN ?_
  | ((with_reducible apply g_lenL); (case hs => assumption))
  | ((with_reducible apply g_ixL); (case hs => exact SqL.of (by assumption)); (case ha => rfl))
  | with_reducible refine g_pow9 ?_
  | with_reducible refine g_pow18 ?_
  | ((with_reducible apply g_I); (case c => walk_at "arith"))
  | ((with_reducible apply g_st); (case hs => assumption); (case hL => assumption); (case ne => assumption); (case x0 => assumption); (case hj => rfl); (case j0 => decide); intro _ _ _ _)
  | with_reducible refine g_and ?_
  | with_reducible refine g_or ?_
  | with_reducible refine g_not ?_
  | with_reducible refine g_nil ?_
  | with_reducible refine g_cons ?_
  | with_reducible refine g_callB ?_
  | with_reducible refine g_call ?_
  | with_reducible refine g_tup ?_
  | with_reducible refine g_lst ?_
  | with_reducible refine g_andV ?_
  | with_reducible refine g_orV ?_
  | with_reducible refine g_notV ?_
  | with_reducible refine g_tB ?_
  | with_reducible refine g_ne rfl ?_
  | with_reducible refine g_abs ?_
  | with_reducible refine g_isB ?_
  | with_reducible refine g_for ?_
  | with_reducible refine g_rng1 ?_
  | with_reducible refine g_rng2 ?_
  | with_reducible refine g_iList ?_
  | ((with_reducible refine g_break ?_); dsimp only)
  | ((with_reducible refine g_cont ?_); dsimp only)
  | with_reducible refine g_retN ?_
  | ((with_reducible apply isi_go (T := "int")); (case h => assumption); (case hb => exact k_int_ _))
  | ((with_reducible apply isi_go (T := "str")); (case h => assumption); (case hb => exact k_str_ _))
  | ((with_reducible apply isi_go (T := "bool")); (case h => assumption); (case hb => exact k_bool_ _))
  | ((with_reducible apply isi_go (T := "list")); (case h => assumption); (case hb => exact k_list_ _))
  | ((with_reducible apply isi_go (T := "tuple")); (case h => assumption); (case hb => exact k_tuple_ _))
  | ((with_reducible apply isi_go (T := "dict")); (case h => assumption); (case hb => exact k_dict_ _))
  | with_reducible refine g_intb ?_
  | with_reducible refine g_bm ?_
  | with_reducible refine g_tyS ?_
  | ((with_reducible apply g_tyL); (case hs => assumption))
  | with_reducible refine g_lc ?_
  | with_reducible refine g_sl ?_
  | with_reducible refine g_noP ?_
  | with_reducible refine g_part ?_
  | with_reducible refine g_pI ?_
  | with_reducible refine g_ifE ?_
  | with_reducible refine g_par ?_
  | with_reducible refine g_two ?_
  | with_reducible refine g_yes ?_
  | with_reducible refine g_gCons ?_
  | with_reducible refine g_gNil ?_
  | ((with_reducible apply g_addS); (case hl => (simp only [app_len, sizeLine_eq]; omega)))
  | ((with_reducible apply g_slS); (case hz => (simp only [app_len, sizeLine_eq]; omega)))))

theorem lt_2000 {n : Nat} (h : n < 10 ^ 1001) : n < 10 ^ 2000 := Nat.lt_of_lt_of_le h (Nat.pow_le_pow_right (by decide) (by decide))
theorem lt_2000b {n : Nat} (h : n < 10 ^ 400) : n < 10 ^ 2000 := Nat.lt_of_lt_of_le h (Nat.pow_le_pow_right (by decide) (by decide))
theorem write_plain {x : Str} {p q : Int} (hx : x.cps.toList = writeL p q.natAbs) (bp : p.natAbs < 10 ^ 2000) (bq : q.natAbs < 10 ^ 2000) : Asc x ∧ x.length ≤ 4002 := by
  have l1 := TL.numL_len (by decide) bp
  have l2 := TL.numL_len (by decide) bq
  have a1 : ∀ n, ∀ c ∈ TL.numL n, c < 128 := fun n c hc => by
    have := TL.numL_digits n c hc
    omega
  constructor
  · intro c hc
    rw [hx] at hc
    unfold writeL at hc
    rcases List.mem_append.mp hc with h | h
    · split at h
      · rcases List.mem_cons.mp h with h | h
        · omega
        · exact a1 _ c h
      · exact a1 _ c h
    · split at h
      · cases h
      · rcases List.mem_cons.mp h with h | h
        · omega
        · exact a1 _ c h
  · rw [str_len, hx]
    unfold writeL
    rw [List.length_append]
    have e1 : (if p < 0 then 45 :: TL.numL p.natAbs else TL.numL p.natAbs).length ≤ 2001 := by
      split
      · rw [List.length_cons]
        omega
      · omega
    have e2 : (if q.natAbs = 1 then [] else 47 :: TL.numL q.natAbs).length ≤ 2001 := by
      split
      · exact Nat.zero_le _
      · rw [List.length_cons]
        omega
    omega
theorem asc_int {p : Int} (_ : p.natAbs < 10 ^ 2000) : Asc (Str.ofString (toString p)) := fun c hc => by
  have a1 : ∀ n, ∀ c ∈ TL.numL n, c < 128 := fun n c hc => by
    have := TL.numL_digits n c hc
    omega
  rw [tl_int] at hc
  split at hc
  · rcases List.mem_cons.mp hc with h | h
    · omega
    · exact a1 _ c h
  · exact a1 _ c hc
theorem small_2000 {n : Nat} (h : n < 100) : n < 10 ^ 2000 := Nat.lt_of_lt_of_le h (Nat.le_trans (show 100 ≤ 10 ^ 2 by decide) (Nat.pow_le_pow_right (by decide) (by decide)))
theorem ok_pair (a b : Str) : Ok 3 (.tup [.str a, .str b]) := by
  refine ⟨by show 2 ≤ 1000000; decide, fun d hd => ?_⟩
  rcases List.mem_cons.mp hd with e | hd
  · rw [e]
    exact trivial
  · rw [List.mem_singleton.mp hd]
    exact trivial
theorem ok_rat (o : Option (Int × Nat)) : Ok 3 (.tup [.str "told", ratD o]) := by
  refine ⟨by show 2 ≤ 1000000; decide, fun d hd => ?_⟩
  rcases List.mem_cons.mp hd with e | hd
  · rw [e]
    exact trivial
  · rw [List.mem_singleton.mp hd]
    cases o with
    | none => exact trivial
    | some pq =>
      obtain ⟨p, q⟩ := pq
      refine ⟨by show 2 ≤ 1000000; decide, fun d hd => ?_⟩
      rcases List.mem_cons.mp hd with e | hd
      · rw [e]
        exact trivial
      · rw [List.mem_singleton.mp hd]
        exact trivial
/-- no ratio, of small parts -/
def smallD : D → Bool
  | .tup [.int p, .int q] => decide (p.natAbs < 100) && decide (q.natAbs < 100)
  | _ => true
def badRat (d : D) : Bool := !isRat d && smallD d
theorem rat_bad {d : D} (h : badRat d = true) : isRat d = false := by
  unfold badRat at h
  rw [Bool.and_eq_true] at h
  simpa using h.1
theorem rat_small {d : D} {a b : Int} (h : badRat d = true) (e : d = .tup [.int a, .int b]) : a.natAbs < 10 ^ 2000 ∧ b.natAbs < 10 ^ 2000 := by
  unfold badRat at h
  rw [Bool.and_eq_true, e] at h
  have z : (decide (a.natAbs < 100) && decide (b.natAbs < 100)) = true := h.2
  rw [Bool.and_eq_true, decide_eq_true_eq, decide_eq_true_eq] at z
  exact ⟨small_2000 z.1, small_2000 z.2⟩
theorem txt_bad {d : D} (h : badTxt d = true) : isIn d "str" = false := by
  unfold badTxt at h
  simpa using h
theorem txt_str (y : Str) : ¬ badTxt (.str y) = true := by
  show ¬ badTxt (.str "") = true
  decide +kernel
theorem odd1_all {up : Int} (h : 2 ≤ up ∧ up ≤ 5) : (([.tup [.int (2 * up), .int 4], .tup [.int up, .int 0], .tup [.int 1, .int (-up)], .lst [.int up, .int 1], .tup [.int up], .tup [.bl true, .int 1], .tup [.int up, .bl true], .non, .int up, .str "1/2", .tup [.int up, .int 1, .int 1], .tup [.int 0, .int up]] : List D) ++ ([.tup [.tup [.int up, .int 1], .int 1], .dct, .bl false, .tup [.str "1", .int up], .tup [.int up, .non], .tup []] : List D)).all badRat = true := by
  have hu : up = 2 ∨ up = 3 ∨ up = 4 ∨ up = 5 := by omega
  rcases hu with rfl | rfl | rfl | rfl <;> decide +kernel
theorem odd2_all {up p q : Int} {x : Str} : ([.non, .int up, .bl true, .tup [.int p, .int q], .lst [.str x], .tup [.str x], .dct, .lst [], .int 0] : List D).all badTxt = true := by
  first | rfl | (simp only [List.all_cons, List.all_nil, Bool.and_true, Bool.and_eq_true]; exact ⟨rfl, rfl, rfl, rfl, rfl, rfl, rfl, rfl, rfl⟩)
/-- what is carried along -/
structure Cy (K : PySem.W.Frag) (s t : Addr) (p q : Int) (o : Option (Int × Nat)) (dv : V) (H : Hp) : Prop where
  st : Store K H s
  nt : t ≠ s
  at_ : H t = some (.tup [.int p, .int q])
  dk : (dv = .non ∧ o = none) ∨ (dv = .ref t ∧ o = some (p, q.natAbs))
  q0 : 1 ≤ q
theorem Cy.one {K : PySem.W.Frag} {s t : Addr} {p q : Int} {o : Option (Int × Nat)} {dv : V} {H : Hp} (c : Cy K s t p q o dv H) : Da s H (.tup [.int p, .int q]) (.ref t) := ⟨t, _, rfl, c.nt, c.at_, .cons rfl (.cons rfl .nil)⟩
theorem Cy.due {K : PySem.W.Frag} {s t : Addr} {p q : Int} {o : Option (Int × Nat)} {dv : V} {H : Hp} (c : Cy K s t p q o dv H) : Da s H (ratD o) dv := by
  rcases c.dk with ⟨h1, h2⟩ | ⟨h1, h2⟩
  · rw [h1, h2]
    rfl
  · rw [h1, h2]
    have e : ((q.natAbs : Nat) : Int) = q := by have := c.q0; omega
    show Da s H (.tup [.int p, .int (q.natAbs : Nat)]) (.ref t)
    rw [e]
    exact c.one
theorem Cy.step {K : PySem.W.Frag} {s t : Addr} {p q : Int} {o : Option (Int × Nat)} {dv : V} {H H' : Hp} (c : Cy K s t p q o dv H) (x : Sx s H H') (st : Store K H' s) : Cy K s t p q o dv H' := ⟨st, c.nt, x.kp _ _ c.nt c.at_, c.dk, c.q0⟩
def spLaw (K : PySem.W.Frag) : Sp := fun vs H Q _ => ∃ (a : Addr) (ns : List Int), vs = [.ref a] ∧ SqL K H a (ns.map V.int) ∧ ns.length ≤ 63 ∧ ∀ H', Q (.bl true) H'
abbrev s_law : Stmt := topS 31
abbrev N_law : List Str := ["script", "store", "one", "text", "most", "due", "up", "double", "words", "word", "found", "odd"]
abbrev P_law : List Str := ["script"]
theorem sc_law : FnScope N_law P_law (defScope s_law) := ⟨rfl, rfl, rfl, by decide +kernel, rfl, by decide +kernel, by decide +kernel⟩

section
variable {P : Program} {w : World} {K : PySem.W.Frag} {mg : Str → Option Value} {base : Heap}
theorem ok_law (T : Txt K mg) : FnOk P w K mg base CX0 176 T.dlaw.f T.dlaw.fd P_law (spLaw K) := by
  have G_store : FnOk P w K mg base CX0 1 T.dstore.f T.dstore.fd P_store (spStore K) := ok_store T
  have G_take : FnOk P w K mg base CX0 171 T.dtake.f T.dtake.fd P_take (spTakeB K) := ok_takeB T
  have G_tens : FnOk P w K mg base CX0 1 T.dtens.f T.dtens.fd P_tens spTens := ok_tens T
  have G_number : FnOk P w K mg base CX0 173 T.dnumber.f T.dnumber.fd P_number (spNumber K) := ok_number T
  have G_bent : FnOk P w K mg base CX0 172 T.dbent.f T.dbent.fd P_bent (spBent K) := ok_bent T
  have G_short : FnOk P w K mg base CX0 172 T.dshort.f T.dshort.fd P_short (spText K 10) := ok_short T
  have G_long : FnOk P w K mg base CX0 172 T.dlong.f T.dlong.fd P_long (spText K 30000) := ok_long T
  have G_reading : FnOk P w K mg base CX0 2 T.dreading.f T.dreading.fd P_reading (spReading K) := ok_reading T
  have G_told : FnOk P w K mg base CX0 5 T.dtold.f T.dtold.fd P_told (spTold T) := ok_told T
  have G_alike : FnOk P w K mg base CX0 4 T.dalike.f T.dalike.fd P_alike (spAlike 4) := ok_alike T 4
  refine T.dlaw.F.ok sc_law (fun vs H Q E h => ?_) (fun cdv A_ outer s_ H vs Q E hr h => ?_)
  · obtain ⟨a, ns, rfl, _⟩ := h
    rfl
  · obtain ⟨a0, ns, rfl, hS, hl, k⟩ := h
    refine ⟨_, (pss_cons (ps_set (i := 1) sc_law.nd rfl (by first | exact .inl rfl | exact .inr rfl) (pe_call G_store (hr.mono (by omega)) rfl T.dstore.g T.dstore.F.kp T.dstore.b .nil pass0 (pa_cons (pv 0) pa_nil)))
      (pss_cons (ps_set (i := 2) sc_law.nd rfl (by first | exact .inl rfl | exact .inr rfl) (pe_call G_number (hr.mono (by omega)) rfl T.dnumber.g T.dnumber.F.kp T.dnumber.b .nil pass0 (pa_cons (pv 1) pa_nil)))
      (pss_cons (ps_set (i := 3) sc_law.nd rfl (by first | exact .inl rfl | exact .inr rfl) (pe_callTy (c_strW rfl) (by rfl) T.m_str bt_str (pa_cons (pe_ix ix_tup (pv 2) pe_int (fun _ _ => rfl)) pa_nil)))
      (Evl.pss_cut (ps_if (pt_cmpR op_gt (pe_ix ix_tup (pv 2) pe_int (fun _ _ => rfl)) pe_int (nomark _))
        (pss_one (ps_set (i := 3) sc_law.nd rfl (by first | exact .inl rfl | exact .inr rfl) (pe_op o_addS (pe_op o_addS (pv 3) pe_str) (pe_callTy (c_strW rfl) (by rfl) T.m_str bt_str (pa_cons (pe_ix ix_tup (pv 2) pe_int (fun _ _ => rfl)) pa_nil)))))
        pss_nil)
      (pss_cons (ps_set (i := 4) sc_law.nd rfl (by first | exact .inl rfl | exact .inr rfl) (pe_call G_tens (hr.mono (by omega)) rfl T.dtens.g T.dtens.F.kp T.dtens.b .nil pass0 (pa_cons pe_int pa_nil)))
      (pss_cons (ps_set (i := 5) sc_law.nd rfl (by first | exact .inl rfl | exact .inr rfl) pe_non)
      (Evl.pss_cut (ps_if (PW.pt (pw_and (pt_chain op_lt op_lt (pe_un un_neg (pv 4)) (pe_ix ix_tup (pv 2) pe_int (fun _ _ => rfl)) (pv 4)) (pw_and1 (pt_cmpR op_lt (pe_ix ix_tup (pv 2) pe_int (fun _ _ => rfl)) (pv 4) (nomark _)))))
        (pss_one (ps_set (i := 5) sc_law.nd rfl (by first | exact .inl rfl | exact .inr rfl) (pv 2)))
        pss_nil)
      (pss_cons (ps_if (PW.pt (pw_or (pt_not (pt_val (pe_call G_alike (hr.mono (by omega)) rfl T.dalike.g T.dalike.F.kp T.dalike.b .nil pass0 (pa_cons (pe_call G_told (hr.mono (by omega)) rfl T.dtold.g T.dtold.F.kp T.dtold.b .nil pass0 (pa_cons pe_int (pa_cons (pv 2) pa_nil))) (pa_cons (pe_tup (pa_cons pe_str (pa_cons (pv 3) pa_nil))) pa_nil))))) (pw_or1 (pt_not (pt_val (pe_call G_alike (hr.mono (by omega)) rfl T.dalike.g T.dalike.F.kp T.dalike.b .nil pass0 (pa_cons (pe_call G_told (hr.mono (by omega)) rfl T.dtold.g T.dtold.F.kp T.dtold.b .nil pass0 (pa_cons pe_int (pa_cons (pv 3) pa_nil))) (pa_cons (pe_tup (pa_cons pe_str (pa_cons (pv 5) pa_nil))) pa_nil))))))))
        (pss_one (ps_ret pe_bl))
        pss_nil)
      (pss_cons (ps_set (i := 6) sc_law.nd rfl (by first | exact .inl rfl | exact .inr rfl) (pe_op op_add pe_int (pe_call G_take (hr.mono (by omega)) rfl T.dtake.g T.dtake.F.kp T.dtake.b .nil pass0 (pa_cons (pv 1) (pa_cons pe_int pa_nil)))))
      (pss_cons (ps_set (i := 7) sc_law.nd rfl (by first | exact .inl rfl | exact .inr rfl) (pe_op o_addS (pe_op o_addS (pe_callTy (c_strW rfl) (by rfl) T.m_str bt_str (pa_cons (pe_op op_mulW (pe_ix ix_tup (pv 2) pe_int (fun _ _ => rfl)) (pv 6)) pa_nil)) pe_str) (pe_callTy (c_strW rfl) (by rfl) T.m_str bt_str (pa_cons (pe_op op_mulW (pe_ix ix_tup (pv 2) pe_int (fun _ _ => rfl)) (pv 6)) pa_nil))))
      (pss_cons (ps_set (i := 8) sc_law.nd rfl (by first | exact .inl rfl | exact .inr rfl) (pe_lst (pa_cons (pe_call G_bent (hr.mono (by omega)) rfl T.dbent.g T.dbent.F.kp T.dbent.b .nil pass0 (pa_cons (pv 1) (pa_cons (pv 3) pa_nil))) (pa_cons (pe_call G_bent (hr.mono (by omega)) rfl T.dbent.g T.dbent.F.kp T.dbent.b .nil pass0 (pa_cons (pv 1) (pa_cons (pv 3) pa_nil))) (pa_cons (pe_call G_short (hr.mono (by omega)) rfl T.dshort.g T.dshort.F.kp T.dshort.b .nil pass0 (pa_cons (pv 1) pa_nil)) (pa_cons (pe_call G_short (hr.mono (by omega)) rfl T.dshort.g T.dshort.F.kp T.dshort.b .nil pass0 (pa_cons (pv 1) pa_nil)) (pa_cons (pv 7) pa_nil)))))))
      (pss_cons (ps_expr (pe_bm PySem.F.plainAttrs_list PySem.F.slot_list_append PySem.F.type_list_append mt_append (pv 8) (pa_cons (pe_call G_long (hr.mono (by omega)) rfl T.dlong.g T.dlong.F.kp T.dlong.b .nil pass0 (pa_cons (pv 1) pa_nil)) pa_nil)))
      (pss_cons (ps_expr (pe_bm PySem.F.plainAttrs_list PySem.F.slot_list_append PySem.F.type_list_append mt_append (pv 8) (pa_cons (pe_call G_bent (hr.mono (by omega)) rfl T.dbent.g T.dbent.F.kp T.dbent.b .nil pass0 (pa_cons (pv 1) (pa_cons (pe_call G_bent (hr.mono (by omega)) rfl T.dbent.g T.dbent.F.kp T.dbent.b .nil pass0 (pa_cons (pv 1) (pa_cons (pe_op o_addS (pe_op o_addS (pe_callTy (c_strW rfl) (by rfl) T.m_str bt_str (pa_cons (pe_call G_take (hr.mono (by omega)) rfl T.dtake.g T.dtake.F.kp T.dtake.b .nil pass0 (pa_cons (pv 1) (pa_cons pe_int pa_nil))) pa_nil)) pe_str) (pe_callTy (c_strW rfl) (by rfl) T.m_str bt_str (pa_cons (pe_call G_take (hr.mono (by omega)) rfl T.dtake.g T.dtake.F.kp T.dtake.b .nil pass0 (pa_cons (pv 1) (pa_cons pe_int pa_nil))) pa_nil))) pa_nil))) pa_nil))) pa_nil)))
      (pss_cons (ps_for PassesOwn.never rfl (pi_list (pv 8)) (pg_name (i := 9) sc_law.nd rfl (by first | exact .inl rfl | exact .inr rfl))
        (pss_cons (ps_set (i := 10) sc_law.nd rfl (by first | exact .inl rfl | exact .inr rfl) (pe_call G_reading (hr.mono (by omega)) rfl T.dreading.g T.dreading.F.kp T.dreading.b .nil pass0 (pa_cons (pv 9) pa_nil)))
        (pss_cons (ps_if (pt_not (pt_val (pe_call G_alike (hr.mono (by omega)) rfl T.dalike.g T.dalike.F.kp T.dalike.b .nil pass0 (pa_cons (pe_call G_told (hr.mono (by omega)) rfl T.dtold.g T.dtold.F.kp T.dtold.b .nil pass0 (pa_cons pe_int (pa_cons (pv 9) pa_nil))) (pa_cons (pe_tup (pa_cons pe_str (pa_cons (pv 10) pa_nil))) pa_nil)))))
          (pss_one (ps_ret pe_bl))
          pss_nil)
        (pss_one (ps_if (PW.pt (pw_and (pt_cmpR o_notN (pv 10) pe_non (nomark _)) (pw_and1 (pt_not (pt_val (pe_call G_alike (hr.mono (by omega)) rfl T.dalike.g T.dalike.F.kp T.dalike.b .nil pass0 (pa_cons (pe_call G_told (hr.mono (by omega)) rfl T.dtold.g T.dtold.F.kp T.dtold.b .nil pass0 (pa_cons pe_int (pa_cons (pv 10) pa_nil))) (pa_cons (pe_tup (pa_cons pe_str (pa_cons (pv 9) pa_nil))) pa_nil))))))))
          (pss_one (ps_ret pe_bl))
          pss_nil)))))
      (pss_cons (ps_set (i := 11) sc_law.nd rfl (by first | exact .inl rfl | exact .inr rfl) (pe_lst (pa_cons (pe_tup (pa_cons (pe_op op_mul pe_int (pv 6)) (pa_cons pe_int pa_nil))) (pa_cons (pe_tup (pa_cons (pv 6) (pa_cons pe_int pa_nil))) (pa_cons (pe_tup (pa_cons pe_int (pa_cons (pe_un un_neg (pv 6)) pa_nil))) (pa_cons (pe_lst (pa_cons (pv 6) (pa_cons pe_int pa_nil))) (pa_cons (pe_tup (pa_cons (pv 6) pa_nil)) (pa_cons (pe_tup (pa_cons pe_bl (pa_cons pe_int pa_nil))) (pa_cons (pe_tup (pa_cons (pv 6) (pa_cons pe_bl pa_nil))) (pa_cons pe_non (pa_cons (pv 6) (pa_cons pe_str (pa_cons (pe_tup (pa_cons (pv 6) (pa_cons pe_int (pa_cons pe_int pa_nil)))) (pa_cons (pe_tup (pa_cons pe_int (pa_cons (pv 6) pa_nil))) pa_nil))))))))))))))
      (pss_cons (ps_set (i := 11) sc_law.nd rfl (by first | exact .inl rfl | exact .inr rfl) (pe_op op_cat (pv 11) (pe_lst (pa_cons (pe_tup (pa_cons (pe_tup (pa_cons (pv 6) (pa_cons pe_int pa_nil))) (pa_cons pe_int pa_nil))) (pa_cons pe_dnewK (pa_cons pe_bl (pa_cons (pe_tup (pa_cons pe_str (pa_cons (pv 6) pa_nil))) (pa_cons (pe_tup (pa_cons (pv 6) (pa_cons pe_non pa_nil))) (pa_cons (pe_tup pa_nil) pa_nil)))))))))
      (pss_cons (ps_if (pt_not (pt_val (pe_call G_alike (hr.mono (by omega)) rfl T.dalike.g T.dalike.F.kp T.dalike.b .nil pass0 (pa_cons (pe_call G_told (hr.mono (by omega)) rfl T.dtold.g T.dtold.F.kp T.dtold.b .nil pass0 (pa_cons pe_int (pa_cons (pe_ix ix_list (pv 11) (pe_call G_take (hr.mono (by omega)) rfl T.dtake.g T.dtake.F.kp T.dtake.b .nil pass0 (pa_cons (pv 1) (pa_cons (pe_callB c_len (by rfl) T.m_len bt_len (pa_cons (pv 11) pa_nil)) pa_nil))) (fun _ _ => rfl)) pa_nil))) (pa_cons (pe_tup (pa_cons pe_str (pa_cons pe_str pa_nil))) pa_nil)))))
        (pss_one (ps_ret pe_bl))
        pss_nil)
      (pss_cons (ps_set (i := 11) sc_law.nd rfl (by first | exact .inl rfl | exact .inr rfl) (pe_lst (pa_cons pe_non (pa_cons (pv 6) (pa_cons pe_bl (pa_cons (pv 2) (pa_cons (pe_lst (pa_cons (pv 3) pa_nil)) (pa_cons (pe_tup (pa_cons (pv 3) pa_nil)) (pa_cons pe_dnewK (pa_cons (pe_lst pa_nil) (pa_cons pe_int pa_nil)))))))))))
      (pss_cons (ps_if (pt_not (pt_val (pe_call G_alike (hr.mono (by omega)) rfl T.dalike.g T.dalike.F.kp T.dalike.b .nil pass0 (pa_cons (pe_call G_told (hr.mono (by omega)) rfl T.dtold.g T.dtold.F.kp T.dtold.b .nil pass0 (pa_cons pe_int (pa_cons (pe_ix ix_list (pv 11) (pe_call G_take (hr.mono (by omega)) rfl T.dtake.g T.dtake.F.kp T.dtake.b .nil pass0 (pa_cons (pv 1) (pa_cons (pe_callB c_len (by rfl) T.m_len bt_len (pa_cons (pv 11) pa_nil)) pa_nil))) (fun _ _ => rfl)) pa_nil))) (pa_cons (pe_tup (pa_cons pe_str (pa_cons pe_str pa_nil))) pa_nil)))))
        (pss_one (ps_ret pe_bl))
        pss_nil)
      (pss_one (ps_ret (pe_and (pe_call G_alike (hr.mono (by omega)) rfl T.dalike.g T.dalike.F.kp T.dalike.b .nil pass0 (pa_cons (pe_call G_told (hr.mono (by omega)) rfl T.dtold.g T.dtold.F.kp T.dtold.b .nil pass0 (pa_cons pe_int (pa_cons (pv 3) pa_nil))) (pa_cons (pe_tup (pa_cons pe_str (pa_cons (pv 5) pa_nil))) pa_nil))) (pe_one (pe_call G_alike (hr.mono (by omega)) rfl T.dalike.g T.dalike.F.kp T.dalike.b .nil pass0 (pa_cons (pe_call G_told (hr.mono (by omega)) rfl T.dtold.g T.dtold.F.kp T.dtold.b .nil pass0 (pa_cons pe_int (pa_cons (pv 2) pa_nil))) (pa_cons (pe_tup (pa_cons pe_str (pa_cons (pv 3) pa_nil))) pa_nil)))))))))))))))))))))))))), ?_⟩
    try dsimp only [cxOf, Cx.nox, Cx.wish]
    walk_at "go"
    refine ⟨a0, ns, rfl, hS, hl, fun s H0 hs0 x00 st0 => ?_⟩
    walk_at "go"
    refine ⟨s, rfl, st0, fun t p q H1 ht0 ht hq hg bp bq x1 st1 => ?_⟩
    have nt : t ≠ s := st0.ne ht0
    have bp2 := lt_2000 bp
    have bq2 := lt_2000 bq
    walk_at "go"
    refine g_ixT (SqT.of ht) rfl ?_
    walk_at "go"
    refine g_strW (big_2000 bp2) T.dig ?_
    walk_at "go"
    refine g_cut (Mid := fun σ' H' => ∃ x : Str, σ' = [some (.ref a0), some (.ref s), some (.ref t), some (.str x), none, none, none, none, none, none, none, none] ∧ x.cps.toList = writeL p q.natAbs ∧ H' = H1) ?_ ?_
    · walk_at "go"
      refine g_ixT (SqT.of ht) rfl ?_
      walk_at "go"
      refine g_ite (fun h => ?_) (fun h => ?_)
      · have h1 := of_decide_eq_true h
        have lx := len_int bp2
        have lq := len_int bq2
        have lsl : (Str.ofString "/").length = 1 := by decide +kernel
        walk_at "go"
        refine g_ixT (SqT.of ht) rfl ?_
        walk_at "go"
        refine g_strW (big_2000 bq2) T.dig ?_
        walk_at "go"
        refine ⟨_, rfl, ?_, rfl⟩
        rw [str_app, str_app, tl_int, tl_int, show (Str.ofString "/").cps.toList = [47] from sl_tl, if_neg (show ¬ q < 0 by omega)]
        unfold writeL
        rw [if_neg (show ¬ q.natAbs = 1 by omega), List.append_assoc]
        rfl
      · have h1 := of_decide_eq_false h
        walk_at "go"
        refine ⟨_, rfl, ?_, rfl⟩
        rw [tl_int]
        unfold writeL
        rw [if_pos (show q.natAbs = 1 by omega), List.append_nil]
    rintro σ' H2 ⟨x, rfl, hx, rfl⟩
    have hxs : Da s H2 (.str (writeS p q)) (.str x) := by
      have e : x = writeS p q := str_ext hx
      rw [e]
      rfl
    have hxg : ∀ H, Da s H (.str (writeS p q)) (.str x) := fun _ => hxs
    clear hxs
    obtain ⟨xa, xl⟩ := write_plain hx bp2 bq2
    have hx1 : ∀ y, D.str x = .str y → Asc y ∧ y.length ≤ 100000 := fun y e => by
      injection e with e
      rw [← e]
      exact ⟨xa, by omega⟩
    have hrat : isRat (.tup [.int p, .int q]) = true := by
      show (decide (1 ≤ q) && decide (G2 p q = 1)) = true
      rw [decide_eq_true hq, decide_eq_true hg]
      rfl
    have hb0 : (0 : Int) = 0 → ∀ p2 q2, D.tup [.int p, .int q] = .tup [.int p2, .int q2] → p2.natAbs < 10 ^ 2000 ∧ q2.natAbs < 10 ^ 2000 := fun _ p2 q2 e => by
      injection e with e
      injection e with e1 e2
      injection e1 with e1
      injection e2 with e2 _
      injection e2 with e2
      rw [← e1, ← e2]
      exact ⟨bp2, bq2⟩
    have hrd := read_write (p := p) (q := q.natAbs) (by omega) (by exact hg)
    rw [← hx] at hrd
    have eqq : ((q.natAbs : Nat) : Int) = q := by omega
    walk_at "go"
    refine ⟨400, rfl, by decide, ?_⟩
    walk_at "go"
    refine g_cut (Mid := fun σ' H' => ∃ dv : V, σ' = [some (.ref a0), some (.ref s), some (.ref t), some (.str x), some (.int (10 ^ 400)), some dv, none, none, none, none, none, none] ∧ ((dv = .non ∧ readR x.cps.toList = none) ∨ (dv = .ref t ∧ readR x.cps.toList = some (p, q.natAbs))) ∧ H' = H2) ?_ ?_
    · have e4 : (10 : Int) ^ 400 = ((10 ^ 400 : Nat) : Int) := by exact_mod_cast rfl
      rw [e4]
      generalize (10 : Nat) ^ 400 = C at *
      walk_at "go"
      refine g_chain ?_
      walk_at "go"
      refine g_ixT (SqT.of ht) rfl ?_
      walk_at "go"
      refine g_ite (fun h1 => ?_) (fun h1 => ?_)
      · have h1 := of_decide_eq_true h1
        walk_at "go"
        refine g_ite (fun h2 => ?_) (fun h2 => ?_)
        · have h2 := of_decide_eq_true h2
          walk_at "go"
          refine g_ixT (SqT.of ht) rfl ?_
          walk_at "go"
          refine g_ite (fun h3 => ?_) (fun h3 => ?_)
          · have h3 := of_decide_eq_true h3
            walk_at "go"
            exact ⟨_, rfl, .inr ⟨rfl, by rw [hrd]; exact if_pos ⟨by omega, by omega⟩⟩, rfl⟩
          · have h3 := of_decide_eq_false h3
            walk_at "go"
            exact ⟨_, rfl, .inl ⟨rfl, by rw [hrd]; exact if_neg fun z => h3 (by have := z.2; omega)⟩, rfl⟩
        · have h2 := of_decide_eq_false h2
          walk_at "go"
          exact ⟨_, rfl, .inl ⟨rfl, by rw [hrd]; exact if_neg fun z => h2 (by have := z.1; omega)⟩, rfl⟩
      · have h1 := of_decide_eq_false h1
        walk_at "go"
        exact ⟨_, rfl, .inl ⟨rfl, by rw [hrd]; exact if_neg fun z => h1 (by have := z.1; omega)⟩, rfl⟩
    rintro σ' H3 ⟨dv, rfl, hdv, rfl⟩
    have cx : Cy K s t p q (readR x.cps.toList) dv H3 := ⟨st1, nt, ht, hdv, hq⟩
    clear hdv hrd st1 ht x1 x00 hs0
    walk_at "go"
    refine ⟨s, 0, .ref t, .tup [.int p, .int q], rfl, cx.st, cx.one, hb0, (fun z => absurd rfl z), fun u1 H2 y3 du4 => ?_⟩
    rw [if_pos rfl, ansW_yes hrat] at du4
    replace cx := cx.step (Sx.of y3) (cx.st.same y3)
    walk_at "go"
    refine ⟨by show 2 ≤ sizeLine; decide, fun p5 g6 => ?_⟩
    have dd := Da.tupI cx.st g6 (l := [.str "told", .str (writeS p q)]) (.cons rfl (.cons (hxg _) .nil))
    have yy : Sx s H2 (upd H2 p5 (.tup [.str "told", .str x])) := Sx.new g6
    replace du4 := Da.mono yy _ _ du4
    replace cx := cx.step yy (cx.st.new g6)
    clear yy
    generalize upd H2 p5 (.tup [.str "told", .str x]) = H7 at *
    walk_at "go"
    refine ⟨s, _, u1, _, rfl, du4, dd, (ok_pair _ _), fun H8 y9 => ?_⟩
    clear dd
    replace cx := cx.step (Sx.of y9) (cx.st.same y9)
    walk_at "go"
    refine ⟨s, 1, .str x, .str x, rfl, cx.st, rfl, (fun z => absurd z (by decide)), (fun _ y e => hx1 y e), fun u10 H11 y12 du13 => ?_⟩
    rw [if_neg (by decide : ¬ (1 : Int) = 0), show ansR (.str x) = .tup [.str "told", ratD (readR x.cps.toList)] from rfl] at du13
    replace cx := cx.step (Sx.of y12) (cx.st.same y12)
    walk_at "go"
    refine ⟨by show 2 ≤ sizeLine; decide, fun p14 g15 => ?_⟩
    have dd := Da.tupI cx.st g15 (l := [.str "told", ratD (readR x.cps.toList)]) (.cons rfl (.cons cx.due .nil))
    have yy : Sx s H11 (upd H11 p14 (.tup [.str "told", dv])) := Sx.new g15
    replace du13 := Da.mono yy _ _ du13
    replace cx := cx.step yy (cx.st.new g15)
    clear yy
    generalize upd H11 p14 (.tup [.str "told", dv]) = H16 at *
    walk_at "go"
    refine ⟨s, _, u10, _, rfl, du13, dd, (ok_rat _), fun H17 y18 => ?_⟩
    clear dd
    replace cx := cx.step (Sx.of y18) (cx.st.same y18)
    walk_at "go"
    refine take_go cx.st (big_of (by decide)) fun r HU r0 r1 xu su => ?_
    replace cx := cx.step xu su
    have up2 : 2 ≤ 2 + r ∧ 2 + r ≤ 5 := by omega
    walk_at "go"
    generalize 2 + r = up at *
    clear xu su r0 r1
    have cw : ∀ i : Int, i.natAbs < 10 ^ 1001 → CMulW i up := fun i hi => by
      unfold CMulW
      have b1 : i.natAbs.log2 < 9000 := PySem.Flt.log2_lt_of (by decide) (Nat.lt_trans hi (by decide +kernel))
      have b2 : up.natAbs.log2 ≤ 3 := Nat.le_trans (log2_mono (show up.natAbs ≤ 8 by omega)) (by decide)
      omega
    have bd : ∀ i : Int, i.natAbs < 10 ^ 1001 → (i * up).natAbs < 10 ^ 2000 := fun i hi => by
      have e : (i * up).natAbs = i.natAbs * up.natAbs := Int.natAbs_mul _ _
      rw [e]
      have h1 : i.natAbs * up.natAbs ≤ 10 ^ 1001 * 5 := Nat.mul_le_mul (Nat.le_of_lt hi) (by omega)
      exact Nat.lt_of_le_of_lt h1 (by decide +kernel)
    refine g_ixT (SqT.of cx.at_) rfl ?_
    walk_at "go"
    refine g_I (cw p bp) ?_
    walk_at "go"
    refine g_strW (big_2000 (bd p bp)) T.dig ?_
    have d1 := len_int (bd p bp)
    have d2 := len_int (bd q bq)
    have e1 := asc_int (bd p bp)
    have e2 := asc_int (bd q bq)
    have lsl : (Str.ofString "/").length = 1 := by decide +kernel
    have asl : Asc (Str.ofString "/") := asc_lit (by decide +kernel)
    generalize Str.ofString (toString (p * up)) = z1 at *
    walk_at "go"
    refine g_ixT (SqT.of cx.at_) rfl ?_
    walk_at "go"
    refine g_I (cw q bq) ?_
    walk_at "go"
    refine g_strW (big_2000 (bd q bq)) T.dig ?_
    generalize Str.ofString (toString (q * up)) = z2 at *
    walk_at "go"
    have e3 : Asc (z1 ++ Str.ofString "/" ++ z2) := asc_app (asc_app e1 asl) e2
    have d3 : (z1 ++ Str.ofString "/" ++ z2).length ≤ 4010 := by
      simp only [app_len]
      omega
    generalize z1 ++ Str.ofString "/" ++ z2 = dbl at *
    refine ⟨s, x, rfl, cx.st, xa, by omega, fun b1 HB1 ab1 lb1 xb1 sb1 => ?_⟩
    replace cx := cx.step xb1 sb1
    clear xb1 sb1
    walk_at "go"
    refine ⟨s, x, rfl, cx.st, xa, by omega, fun b2 HB2 ab2 lb2 xb2 sb2 => ?_⟩
    replace cx := cx.step xb2 sb2
    clear xb2 sb2
    walk_at "go"
    refine ⟨s, rfl, cx.st, fun b3 HB3 ab3 lb3 xb3 sb3 => ?_⟩
    replace cx := cx.step xb3 sb3
    clear xb3 sb3
    walk_at "go"
    refine ⟨s, rfl, cx.st, fun b4 HB4 ab4 lb4 xb4 sb4 => ?_⟩
    replace cx := cx.step xb4 sb4
    clear xb4 sb4
    walk_at "go"
    refine ⟨by show 5 ≤ sizeLine; decide, fun A gA => ?_⟩
    have uA : upd HB4 A (.lst [.str b1, .str b2, .str b3, .str b4, .str dbl]) A = some (.lst ([b1, b2, b3, b4, dbl].map V.str)) := upd_same
    have cB := cx.st
    have xB : Sx s HB4 (upd HB4 A (.lst [.str b1, .str b2, .str b3, .str b4, .str dbl])) := Sx.new gA
    have nA := cx.st.ne gA
    have gw : ∀ z ∈ [b1, b2, b3, b4, dbl], Asc z ∧ z.length ≤ 100000 := all_cons (P := fun y => Asc y ∧ y.length ≤ 100000) ⟨ab1, by omega⟩ (all_cons ⟨ab2, by omega⟩ (all_cons ⟨ab3, by omega⟩ (all_cons ⟨ab4, by omega⟩ (all_cons ⟨e3, by omega⟩ all_nil))))
    replace cx := cx.step xB (cx.st.new gA)
    have ew : [b1, b2, b3, b4, dbl].length = 5 := rfl
    generalize upd HB4 A (.lst [.str b1, .str b2, .str b3, .str b4, .str dbl]) = HW at *
    generalize [b1, b2, b3, b4, dbl] = ws at *
    walk_at "go"
    refine ⟨s, rfl, cx.st, fun b5 HL ab5 lb5 xb5 sb5 => ?_⟩
    replace uA := xb5.kp _ _ nA uA
    replace xB := xB.trans xb5
    replace cx := cx.step xb5 sb5
    clear xb5 sb5
    walk_at "go"
    refine g_app uA (by rw [List.length_map, ew]; decide) ?_
    have ntA : t ≠ A := fun z => by
      have h1 := cx.at_
      rw [z, uA] at h1
      cases h1
    have uA2 : upd HL A (.lst (ws.map V.str ++ [.str b5])) A = some (.lst ((ws ++ [b5]).map V.str)) := by rw [upd_same, List.map_append]; rfl
    have cx2 : Cy K s t p q (readR x.cps.toList) dv (upd HL A (.lst (ws.map V.str ++ [.str b5]))) := ⟨cB.mut xB cx.st gA, cx.nt, (upd_ne ntA).trans cx.at_, cx.dk, cx.q0⟩
    have xB2 := xB.mut (o := .lst (ws.map V.str ++ [.str b5])) gA
    clear cx uA xB
    generalize upd HL A (.lst (ws.map V.str ++ [.str b5])) = HM at *
    have gw2 : ∀ z ∈ ws ++ [b5], Asc z ∧ z.length ≤ 100000 := fun z hz => (List.mem_append.mp hz).elim (gw z) fun h => by
      rw [List.mem_singleton.mp h]
      exact ⟨ab5, by omega⟩
    have ew2 : (ws ++ [b5]).length = 6 := by rw [List.length_append, ew]; rfl
    clear gw ew
    generalize ws ++ [b5] = ws2 at *
    walk_at "go"
    refine take_go cx2.st (big_of (by decide)) fun m1 HN m10 m11 xn sn => ?_
    replace uA2 := xn.kp _ _ nA uA2
    replace xB2 := xB2.trans xn
    replace cx2 := cx2.step xn sn
    clear xn sn
    walk_at "go"
    have n1 : m1.natAbs < 10 ^ 2000 := small_2000 (show m1.natAbs < 100 by omega)
    refine g_strW (big_2000 n1) T.dig ?_
    have f1 := len_int n1
    have f2 := asc_int n1
    generalize Str.ofString (toString m1) = y1 at *
    walk_at "go"
    refine take_go cx2.st (big_of (by decide)) fun m2 HO m20 m21 xn sn => ?_
    replace uA2 := xn.kp _ _ nA uA2
    replace xB2 := xB2.trans xn
    replace cx2 := cx2.step xn sn
    clear xn sn
    walk_at "go"
    have n2 : m2.natAbs < 10 ^ 2000 := small_2000 (show m2.natAbs < 100 by omega)
    refine g_strW (big_2000 n2) T.dig ?_
    have f3 := len_int n2
    have f4 := asc_int n2
    generalize Str.ofString (toString m2) = y2 at *
    walk_at "go"
    have f5 : Asc (y1 ++ Str.ofString "/" ++ y2) := asc_app (asc_app f2 asl) f4
    have f6 : (y1 ++ Str.ofString "/" ++ y2).length ≤ 4010 := by
      simp only [app_len]
      omega
    generalize y1 ++ Str.ofString "/" ++ y2 = y3 at *
    refine ⟨s, y3, rfl, cx2.st, f5, by omega, fun b6 HP ab6 lb6 xn sn => ?_⟩
    replace uA2 := xn.kp _ _ nA uA2
    replace xB2 := xB2.trans xn
    replace cx2 := cx2.step xn sn
    clear xn sn
    walk_at "go"
    refine ⟨s, b6, rfl, cx2.st, ab6, by omega, fun b7 HR ab7 lb7 xn sn => ?_⟩
    replace uA2 := xn.kp _ _ nA uA2
    replace xB2 := xB2.trans xn
    replace cx2 := cx2.step xn sn
    clear xn sn
    walk_at "go"
    refine g_app uA2 (by rw [List.length_map, ew2]; decide) ?_
    have uA3 : upd HR A (.lst (ws2.map V.str ++ [.str b7])) A = some (.lst ((ws2 ++ [b7]).map V.str)) := by rw [upd_same, List.map_append]; rfl
    have cx : Cy K s t p q (readR x.cps.toList) dv (upd HR A (.lst (ws2.map V.str ++ [.str b7]))) := ⟨cB.mut xB2 cx2.st gA, cx2.nt, (upd_ne ntA).trans cx2.at_, cx2.dk, cx2.q0⟩
    clear xB2 cx2 uA2
    generalize upd HR A (.lst (ws2.map V.str ++ [.str b7])) = HS at *
    have gw : ∀ z ∈ ws2 ++ [b7], Asc z ∧ z.length ≤ 100000 := fun z hz => (List.mem_append.mp hz).elim (gw2 z) fun h => by
      rw [List.mem_singleton.mp h]
      exact ⟨ab7, by omega⟩
    clear gw2
    generalize ws2 ++ [b7] = ws at *
    walk_at "go"
    refine ⟨A, rfl, ⟨_, SqL.of uA3⟩, ?_⟩
    refine for_list (xs := ws.map V.str) (fun i σ' H' => ∃ z1 z2 : Option V, σ' = [some (.ref a0), some (.ref s), some (.ref t), some (.str x), some (.int (10 ^ 400)), some dv, some (.int up), some (.str dbl), some (.ref A), z1, z2, none] ∧ H' A = some (.lst (ws.map V.str)) ∧ Cy K s t p q (readR x.cps.toList) dv H') ⟨none, none, rfl, uA3, cx⟩ (fun i σ' H' _ h => ?_) ?_ ?_
    · obtain ⟨_, _, _, h, _⟩ := h
      exact SqL.of h
    · rintro i v σ' N0 hv ⟨z1, z2, rfl, uA3, cx⟩
      obtain ⟨wd, hwd, rfl⟩ : ∃ wd ∈ ws, v = .str wd := by
        obtain ⟨y, h1, h2⟩ := List.mem_map.mp (List.mem_of_getElem? hv)
        exact ⟨y, h1, h2.symm⟩
      obtain ⟨aw, lw⟩ := gw wd hwd
      have hx2 : ∀ y, D.str wd = .str y → Asc y ∧ y.length ≤ 100000 := fun y e => by
        injection e with e
        rw [← e]
        exact ⟨aw, lw⟩
      walk_at "go"
      refine ⟨s, wd, rfl, cx.st, lw, fun fv N1 y du => ?_⟩
      replace cx := cx.step (Sx.of y) (cx.st.same y)
      replace uA3 := Sx.kp (Sx.of y) _ _ nA uA3
      clear y
      walk_at "go"
      refine ⟨s, 1, .str wd, .str wd, rfl, cx.st, rfl, (fun z => absurd z (by decide)), (fun _ y e => hx2 y e), fun u19 H20 y21 du22 => ?_⟩
      rw [if_neg (by decide : ¬ (1 : Int) = 0), show ansR (.str wd) = .tup [.str "told", ratD (readR wd.cps.toList)] from rfl] at du22
      replace cx := cx.step (Sx.of y21) (cx.st.same y21)
      replace du := Da.mono (Sx.of y21) _ _ du
      replace uA3 := Sx.kp (Sx.of y21) _ _ nA uA3
      walk_at "go"
      refine ⟨by show 2 ≤ sizeLine; decide, fun p23 g24 => ?_⟩
      have dd := Da.tupI cx.st g24 (l := [.str "told", ratD (readR wd.cps.toList)]) (.cons rfl (.cons du .nil))
      have yy : Sx s H20 (upd H20 p23 (.tup [.str "told", fv])) := Sx.new g24
      replace du22 := Da.mono yy _ _ du22
      replace cx := cx.step yy (cx.st.new g24)
      replace du := Da.mono yy _ _ du
      replace uA3 := Sx.kp yy _ _ nA uA3
      clear yy
      generalize upd H20 p23 (.tup [.str "told", fv]) = H25 at *
      walk_at "go"
      refine ⟨s, _, u19, _, rfl, du22, dd, (ok_rat _), fun H26 y27 => ?_⟩
      clear dd
      replace cx := cx.step (Sx.of y27) (cx.st.same y27)
      replace du := Da.mono (Sx.of y27) _ _ du
      replace uA3 := Sx.kp (Sx.of y27) _ _ nA uA3
      walk_at "go"
      cases hR : readR wd.cps.toList with
      | none =>
        rw [hR] at du
        have ef : fv = .non := du
        subst ef
        walk_at "go"
        exact ⟨_, _, rfl, uA3, cx⟩
      | some pq =>
        obtain ⟨p', q'⟩ := pq
        rw [hR] at du
        replace du : Da s _ (.tup [.int p', .int (q' : Nat)]) fv := du
        obtain ⟨e1, k1, k2, k3, k4⟩ := write_read hR
        have hw2 : Da s HS (.str (writeS p' (q' : Nat))) (.str wd) := by
          have e : wd = writeS p' (q' : Nat) := str_ext e1.symm
          rw [← e]
          rfl
        have hwg : ∀ H, Da s H (.str (writeS p' (q' : Nat))) (.str wd) := fun _ => hw2
        have hr2 : isRat (.tup [.int p', .int (q' : Nat)]) = true := by
          show (decide (1 ≤ ((q' : Nat) : Int)) && decide (G2 p' (q' : Nat) = 1)) = true
          rw [decide_eq_true (by omega), decide_eq_true (show G2 p' (q' : Nat) = 1 from k2)]
          rfl
        have hb2 : (0 : Int) = 0 → ∀ a b, D.tup [.int p', .int (q' : Nat)] = .tup [.int a, .int b] → a.natAbs < 10 ^ 2000 ∧ b.natAbs < 10 ^ 2000 := fun _ a b e => by
          injection e with e
          injection e with e1 e2
          injection e1 with e1
          injection e2 with e2 _
          injection e2 with e2
          rw [← e1, ← e2]
          exact ⟨lt_2000b k3, lt_2000b (show ((q' : Nat) : Int).natAbs < 10 ^ 400 from k4)⟩
        have du0 := du
        obtain ⟨fa, fxs, rfl, _⟩ := du0
        walk_at "go"
        refine ⟨s, 0, .ref fa, .tup [.int p', .int (q' : Nat)], rfl, cx.st, du, hb2, (fun z => absurd rfl z), fun u28 H29 y30 du31 => ?_⟩
        rw [if_pos rfl, ansW_yes hr2] at du31
        replace cx := cx.step (Sx.of y30) (cx.st.same y30)
        replace du := Da.mono (Sx.of y30) _ _ du
        replace uA3 := Sx.kp (Sx.of y30) _ _ nA uA3
        walk_at "go"
        refine ⟨by show 2 ≤ sizeLine; decide, fun p32 g33 => ?_⟩
        have dd := Da.tupI cx.st g33 (l := [.str "told", .str (writeS p' (q' : Nat))]) (.cons rfl (.cons (hwg _) .nil))
        have yy : Sx s H29 (upd H29 p32 (.tup [.str "told", .str wd])) := Sx.new g33
        replace du31 := Da.mono yy _ _ du31
        replace cx := cx.step yy (cx.st.new g33)
        replace du := Da.mono yy _ _ du
        replace uA3 := Sx.kp yy _ _ nA uA3
        clear yy
        generalize upd H29 p32 (.tup [.str "told", .str wd]) = H34 at *
        walk_at "go"
        refine ⟨s, _, u28, _, rfl, du31, dd, (ok_pair _ _), fun H35 y36 => ?_⟩
        clear dd
        replace cx := cx.step (Sx.of y36) (cx.st.same y36)
        replace du := Da.mono (Sx.of y36) _ _ du
        replace uA3 := Sx.kp (Sx.of y36) _ _ nA uA3
        walk_at "go"
        exact ⟨_, _, rfl, uA3, cx⟩
    · rintro σ' N0 ⟨z1, z2, rfl, uA3, cx⟩
      clear uA3
      walk_at "go"
      -- odd
      refine ⟨by show 2 ≤ sizeLine; decide, fun p37 g38 => ?_⟩
      have dd39 := Da.tupI cx.st g38 (l := [.int (2 * up), .int 4]) (.cons rfl (.cons rfl .nil))
      have yy : Sx s N0 (upd N0 p37 (.tup [.int (2 * up), .int 4])) := Sx.new g38
      replace cx := cx.step yy (cx.st.new g38)
      clear yy
      generalize upd N0 p37 (.tup [.int (2 * up), .int 4]) = H40 at *
      walk_at "go"
      refine ⟨by show 2 ≤ sizeLine; decide, fun p41 g42 => ?_⟩
      have dd43 := Da.tupI cx.st g42 (l := [.int up, .int 0]) (.cons rfl (.cons rfl .nil))
      have yy : Sx s H40 (upd H40 p41 (.tup [.int up, .int 0])) := Sx.new g42
      replace cx := cx.step yy (cx.st.new g42)
      replace dd39 := Da.mono yy _ _ dd39
      clear yy
      generalize upd H40 p41 (.tup [.int up, .int 0]) = H44 at *
      walk_at "go"
      refine ⟨by show 2 ≤ sizeLine; decide, fun p45 g46 => ?_⟩
      have dd47 := Da.tupI cx.st g46 (l := [.int 1, .int (-up)]) (.cons rfl (.cons rfl .nil))
      have yy : Sx s H44 (upd H44 p45 (.tup [.int 1, .int (-up)])) := Sx.new g46
      replace cx := cx.step yy (cx.st.new g46)
      replace dd39 := Da.mono yy _ _ dd39
      replace dd43 := Da.mono yy _ _ dd43
      clear yy
      generalize upd H44 p45 (.tup [.int 1, .int (-up)]) = H48 at *
      walk_at "go"
      refine ⟨by show 2 ≤ sizeLine; decide, fun p49 g50 => ?_⟩
      have dd51 := Da.lstI cx.st g50 (l := [.int up, .int 1]) (.cons rfl (.cons rfl .nil))
      have yy : Sx s H48 (upd H48 p49 (.lst [.int up, .int 1])) := Sx.new g50
      replace cx := cx.step yy (cx.st.new g50)
      replace dd39 := Da.mono yy _ _ dd39
      replace dd43 := Da.mono yy _ _ dd43
      replace dd47 := Da.mono yy _ _ dd47
      clear yy
      generalize upd H48 p49 (.lst [.int up, .int 1]) = H52 at *
      walk_at "go"
      refine ⟨by show 1 ≤ sizeLine; decide, fun p53 g54 => ?_⟩
      have dd55 := Da.tupI cx.st g54 (l := [.int up]) (.cons rfl .nil)
      have yy : Sx s H52 (upd H52 p53 (.tup [.int up])) := Sx.new g54
      replace cx := cx.step yy (cx.st.new g54)
      replace dd39 := Da.mono yy _ _ dd39
      replace dd43 := Da.mono yy _ _ dd43
      replace dd47 := Da.mono yy _ _ dd47
      replace dd51 := Da.mono yy _ _ dd51
      clear yy
      generalize upd H52 p53 (.tup [.int up]) = H56 at *
      walk_at "go"
      refine ⟨by show 2 ≤ sizeLine; decide, fun p57 g58 => ?_⟩
      have dd59 := Da.tupI cx.st g58 (l := [.bl true, .int 1]) (.cons rfl (.cons rfl .nil))
      have yy : Sx s H56 (upd H56 p57 (.tup [.bl true, .int 1])) := Sx.new g58
      replace cx := cx.step yy (cx.st.new g58)
      replace dd39 := Da.mono yy _ _ dd39
      replace dd43 := Da.mono yy _ _ dd43
      replace dd47 := Da.mono yy _ _ dd47
      replace dd51 := Da.mono yy _ _ dd51
      replace dd55 := Da.mono yy _ _ dd55
      clear yy
      generalize upd H56 p57 (.tup [.bl true, .int 1]) = H60 at *
      walk_at "go"
      refine ⟨by show 2 ≤ sizeLine; decide, fun p61 g62 => ?_⟩
      have dd63 := Da.tupI cx.st g62 (l := [.int up, .bl true]) (.cons rfl (.cons rfl .nil))
      have yy : Sx s H60 (upd H60 p61 (.tup [.int up, .bl true])) := Sx.new g62
      replace cx := cx.step yy (cx.st.new g62)
      replace dd39 := Da.mono yy _ _ dd39
      replace dd43 := Da.mono yy _ _ dd43
      replace dd47 := Da.mono yy _ _ dd47
      replace dd51 := Da.mono yy _ _ dd51
      replace dd55 := Da.mono yy _ _ dd55
      replace dd59 := Da.mono yy _ _ dd59
      clear yy
      generalize upd H60 p61 (.tup [.int up, .bl true]) = H64 at *
      walk_at "go"
      refine ⟨by show 3 ≤ sizeLine; decide, fun p65 g66 => ?_⟩
      have dd67 := Da.tupI cx.st g66 (l := [.int up, .int 1, .int 1]) (.cons rfl (.cons rfl (.cons rfl .nil)))
      have yy : Sx s H64 (upd H64 p65 (.tup [.int up, .int 1, .int 1])) := Sx.new g66
      replace cx := cx.step yy (cx.st.new g66)
      replace dd39 := Da.mono yy _ _ dd39
      replace dd43 := Da.mono yy _ _ dd43
      replace dd47 := Da.mono yy _ _ dd47
      replace dd51 := Da.mono yy _ _ dd51
      replace dd55 := Da.mono yy _ _ dd55
      replace dd59 := Da.mono yy _ _ dd59
      replace dd63 := Da.mono yy _ _ dd63
      clear yy
      generalize upd H64 p65 (.tup [.int up, .int 1, .int 1]) = H68 at *
      walk_at "go"
      refine ⟨by show 2 ≤ sizeLine; decide, fun p69 g70 => ?_⟩
      have dd71 := Da.tupI cx.st g70 (l := [.int 0, .int up]) (.cons rfl (.cons rfl .nil))
      have yy : Sx s H68 (upd H68 p69 (.tup [.int 0, .int up])) := Sx.new g70
      replace cx := cx.step yy (cx.st.new g70)
      replace dd39 := Da.mono yy _ _ dd39
      replace dd43 := Da.mono yy _ _ dd43
      replace dd47 := Da.mono yy _ _ dd47
      replace dd51 := Da.mono yy _ _ dd51
      replace dd55 := Da.mono yy _ _ dd55
      replace dd59 := Da.mono yy _ _ dd59
      replace dd63 := Da.mono yy _ _ dd63
      replace dd67 := Da.mono yy _ _ dd67
      clear yy
      generalize upd H68 p69 (.tup [.int 0, .int up]) = H72 at *
      walk_at "go"
      refine ⟨by show 12 ≤ sizeLine; decide, fun p73 g74 => ?_⟩
      have dl1 : DaL s H72 [.tup [.int (2 * up), .int 4], .tup [.int up, .int 0], .tup [.int 1, .int (-up)], .lst [.int up, .int 1], .tup [.int up], .tup [.bl true, .int 1], .tup [.int up, .bl true], .non, .int up, .str "1/2", .tup [.int up, .int 1, .int 1], .tup [.int 0, .int up]] [.ref p37, .ref p41, .ref p45, .ref p49, .ref p53, .ref p57, .ref p61, .non, .int up, .str "1/2", .ref p65, .ref p69] := (.cons dd39 (.cons dd43 (.cons dd47 (.cons dd51 (.cons dd55 (.cons dd59 (.cons dd63 (.cons rfl (.cons rfl (.cons rfl (.cons dd67 (.cons dd71 .nil))))))))))))
      have u76 := upd_same (H := H72) (a := p73) (o := .lst [.ref p37, .ref p41, .ref p45, .ref p49, .ref p53, .ref p57, .ref p61, .non, .int up, .str "1/2", .ref p65, .ref p69])
      have yy : Sx s H72 (upd H72 p73 (.lst [.ref p37, .ref p41, .ref p45, .ref p49, .ref p53, .ref p57, .ref p61, .non, .int up, .str "1/2", .ref p65, .ref p69])) := Sx.new g74
      have np73 := cx.st.ne g74
      replace cx := cx.step yy (cx.st.new g74)
      replace dl1 := DaL.mono yy _ _ dl1
      clear yy
      clear dd39
      clear dd43
      clear dd63
      clear dd51
      clear dd71
      clear dd55
      clear dd47
      clear dd67
      clear dd59
      generalize upd H72 p73 (.lst [.ref p37, .ref p41, .ref p45, .ref p49, .ref p53, .ref p57, .ref p61, .non, .int up, .str "1/2", .ref p65, .ref p69]) = H75 at *
      walk_at "go"
      refine ⟨by show 2 ≤ sizeLine; decide, fun p77 g78 => ?_⟩
      have dd79 := Da.tupI cx.st g78 (l := [.int up, .int 1]) (.cons rfl (.cons rfl .nil))
      have yy : Sx s H75 (upd H75 p77 (.tup [.int up, .int 1])) := Sx.new g78
      replace cx := cx.step yy (cx.st.new g78)
      replace dl1 := DaL.mono yy _ _ dl1
      replace u76 := Sx.kp yy _ _ np73 u76
      clear yy
      generalize upd H75 p77 (.tup [.int up, .int 1]) = H80 at *
      walk_at "go"
      refine ⟨by show 2 ≤ sizeLine; decide, fun p81 g82 => ?_⟩
      have dd83 := Da.tupI cx.st g82 (l := [.tup [.int up, .int 1], .int 1]) (.cons dd79 (.cons rfl .nil))
      have yy : Sx s H80 (upd H80 p81 (.tup [.ref p77, .int 1])) := Sx.new g82
      replace cx := cx.step yy (cx.st.new g82)
      replace dd79 := Da.mono yy _ _ dd79
      replace dl1 := DaL.mono yy _ _ dl1
      replace u76 := Sx.kp yy _ _ np73 u76
      clear yy
      generalize upd H80 p81 (.tup [.ref p77, .int 1]) = H84 at *
      walk_at "go"
      refine fun p85 g86 => ?_
      have dd87 := Da.dctI cx.st g86
      have yy : Sx s H84 (upd H84 p85 (.dK [])) := Sx.new g86
      replace cx := cx.step yy (cx.st.new g86)
      replace dd79 := Da.mono yy _ _ dd79
      replace dd83 := Da.mono yy _ _ dd83
      replace dl1 := DaL.mono yy _ _ dl1
      replace u76 := Sx.kp yy _ _ np73 u76
      clear yy
      generalize upd H84 p85 (.dK []) = H88 at *
      walk_at "go"
      refine ⟨by show 2 ≤ sizeLine; decide, fun p89 g90 => ?_⟩
      have dd91 := Da.tupI cx.st g90 (l := [.str "1", .int up]) (.cons rfl (.cons rfl .nil))
      have yy : Sx s H88 (upd H88 p89 (.tup [.str "1", .int up])) := Sx.new g90
      replace cx := cx.step yy (cx.st.new g90)
      replace dd79 := Da.mono yy _ _ dd79
      replace dd83 := Da.mono yy _ _ dd83
      replace dd87 := Da.mono yy _ _ dd87
      replace dl1 := DaL.mono yy _ _ dl1
      replace u76 := Sx.kp yy _ _ np73 u76
      clear yy
      generalize upd H88 p89 (.tup [.str "1", .int up]) = H92 at *
      walk_at "go"
      refine ⟨by show 2 ≤ sizeLine; decide, fun p93 g94 => ?_⟩
      have dd95 := Da.tupI cx.st g94 (l := [.int up, .non]) (.cons rfl (.cons rfl .nil))
      have yy : Sx s H92 (upd H92 p93 (.tup [.int up, .non])) := Sx.new g94
      replace cx := cx.step yy (cx.st.new g94)
      replace dd79 := Da.mono yy _ _ dd79
      replace dd83 := Da.mono yy _ _ dd83
      replace dd87 := Da.mono yy _ _ dd87
      replace dd91 := Da.mono yy _ _ dd91
      replace dl1 := DaL.mono yy _ _ dl1
      replace u76 := Sx.kp yy _ _ np73 u76
      clear yy
      generalize upd H92 p93 (.tup [.int up, .non]) = H96 at *
      walk_at "go"
      refine ⟨by show 0 ≤ sizeLine; decide, fun p97 g98 => ?_⟩
      have dd99 := Da.tupI cx.st g98 (l := []) .nil
      have yy : Sx s H96 (upd H96 p97 (.tup [])) := Sx.new g98
      replace cx := cx.step yy (cx.st.new g98)
      replace dd79 := Da.mono yy _ _ dd79
      replace dd83 := Da.mono yy _ _ dd83
      replace dd87 := Da.mono yy _ _ dd87
      replace dd91 := Da.mono yy _ _ dd91
      replace dd95 := Da.mono yy _ _ dd95
      replace dl1 := DaL.mono yy _ _ dl1
      replace u76 := Sx.kp yy _ _ np73 u76
      clear yy
      generalize upd H96 p97 (.tup []) = H100 at *
      walk_at "go"
      refine ⟨by show 6 ≤ sizeLine; decide, fun p101 g102 => ?_⟩
      have dl2 : DaL s H100 [.tup [.tup [.int up, .int 1], .int 1], .dct, .bl false, .tup [.str "1", .int up], .tup [.int up, .non], .tup []] [.ref p81, .ref p85, .bl false, .ref p89, .ref p93, .ref p97] := (.cons dd83 (.cons dd87 (.cons rfl (.cons dd91 (.cons dd95 (.cons dd99 .nil))))))
      have u104 := upd_same (H := H100) (a := p101) (o := .lst [.ref p81, .ref p85, .bl false, .ref p89, .ref p93, .ref p97])
      have yy : Sx s H100 (upd H100 p101 (.lst [.ref p81, .ref p85, .bl false, .ref p89, .ref p93, .ref p97])) := Sx.new g102
      have np101 := cx.st.ne g102
      replace cx := cx.step yy (cx.st.new g102)
      replace dl2 := DaL.mono yy _ _ dl2
      replace dl1 := DaL.mono yy _ _ dl1
      replace u76 := Sx.kp yy _ _ np73 u76
      clear yy
      clear dd95
      clear dd87
      clear dd91
      clear dd83
      clear dd99
      generalize upd H100 p101 (.lst [.ref p81, .ref p85, .bl false, .ref p89, .ref p93, .ref p97]) = H103 at *
      walk_at "go"
      refine ⟨p73, p101, _, _, rfl, rfl, u76, u104, by show 12 + 6 ≤ sizeLine; decide, fun p105 g106 => ?_⟩
      have dl := DaL.app dl1 dl2
      have u3 : upd H103 p105 (.lst (([.ref p37, .ref p41, .ref p45, .ref p49, .ref p53, .ref p57, .ref p61, .non, .int up, .str "1/2", .ref p65, .ref p69] : List V) ++ ([.ref p81, .ref p85, .bl false, .ref p89, .ref p93, .ref p97] : List V))) p105 = some (.lst (([.ref p37, .ref p41, .ref p45, .ref p49, .ref p53, .ref p57, .ref p61, .non, .int up, .str "1/2", .ref p65, .ref p69] : List V) ++ ([.ref p81, .ref p85, .bl false, .ref p89, .ref p93, .ref p97] : List V))) := upd_same
      have yy : Sx s H103 (upd H103 p105 (.lst (([.ref p37, .ref p41, .ref p45, .ref p49, .ref p53, .ref p57, .ref p61, .non, .int up, .str "1/2", .ref p65, .ref p69] : List V) ++ ([.ref p81, .ref p85, .bl false, .ref p89, .ref p93, .ref p97] : List V)))) := Sx.new g106
      have np := cx.st.ne g106
      replace cx := cx.step yy (cx.st.new g106)
      replace dl := DaL.mono yy _ _ dl
      clear yy dl1 dl2 u76 u104
      generalize upd H103 p105 (.lst (([.ref p37, .ref p41, .ref p45, .ref p49, .ref p53, .ref p57, .ref p61, .non, .int up, .str "1/2", .ref p65, .ref p69] : List V) ++ ([.ref p81, .ref p85, .bl false, .ref p89, .ref p93, .ref p97] : List V))) = H107 at *
      have hall := odd1_all up2
      have hlen : (([.tup [.int (2 * up), .int 4], .tup [.int up, .int 0], .tup [.int 1, .int (-up)], .lst [.int up, .int 1], .tup [.int up], .tup [.bl true, .int 1], .tup [.int up, .bl true], .non, .int up, .str "1/2", .tup [.int up, .int 1, .int 1], .tup [.int 0, .int up]] : List D) ++ ([.tup [.tup [.int up, .int 1], .int 1], .dct, .bl false, .tup [.str "1", .int up], .tup [.int up, .non], .tup []] : List D)).length = 18 := rfl
      have hlen2 := dl.len
      generalize (([.tup [.int (2 * up), .int 4], .tup [.int up, .int 0], .tup [.int 1, .int (-up)], .lst [.int up, .int 1], .tup [.int up], .tup [.bl true, .int 1], .tup [.int up, .bl true], .non, .int up, .str "1/2", .tup [.int up, .int 1, .int 1], .tup [.int 0, .int up]] : List D) ++ ([.tup [.tup [.int up, .int 1], .int 1], .dct, .bl false, .tup [.str "1", .int up], .tup [.int up, .non], .tup []] : List D)) = ld at *
      generalize (([.ref p37, .ref p41, .ref p45, .ref p49, .ref p53, .ref p57, .ref p61, .non, .int up, .str "1/2", .ref p65, .ref p69] : List V) ++ ([.ref p81, .ref p85, .bl false, .ref p89, .ref p93, .ref p97] : List V)) = lv at *
      walk_at "go"
      refine g_lenL (SqL.of u3) ?_
      rw [hlen2, hlen]
      walk_at "go"
      refine take_go cx.st (big_of (by decide)) fun r108 H109 r108a r108b x110 st111 => ?_
      replace cx := cx.step x110 st111
      replace u3 := x110.kp _ _ np u3
      replace dl := DaL.mono x110 _ _ dl
      clear x110 st111
      obtain ⟨d, v, he, hd, hf⟩ := at_da (f := badRat) dl r108a (by rw [hlen]; have z : r108 = 0 ∨ r108 < ((18 : Nat) : Int) := r108b; omega) hall
      refine g_ixL (SqL.of u3) he ?_
      walk_at "go"
      refine ⟨s, 0, v, d, rfl, cx.st, hd, (fun _ a b e => rat_small hf e), (fun z => absurd rfl z), fun u112 H113 y114 du115 => ?_⟩
      rw [if_pos rfl, ansW_no (rat_bad hf)] at du115
      replace cx := cx.step (Sx.of y114) (cx.st.same y114)
      walk_at "go"
      refine ⟨by show 2 ≤ sizeLine; decide, fun p116 g117 => ?_⟩
      have dd := Da.tupI cx.st g117 (l := [.str "WrongKind", .str "one"]) (.cons rfl (.cons rfl .nil))
      have yy : Sx s H113 (upd H113 p116 (.tup [.str "WrongKind", .str "one"])) := Sx.new g117
      replace du115 := Da.mono yy _ _ du115
      replace cx := cx.step yy (cx.st.new g117)
      clear yy
      generalize upd H113 p116 (.tup [.str "WrongKind", .str "one"]) = H118 at *
      walk_at "go"
      refine ⟨s, _, u112, _, rfl, du115, dd, (ok_pair _ _), fun H119 y120 => ?_⟩
      clear dd
      replace cx := cx.step (Sx.of y120) (cx.st.same y120)
      walk_at "go"
      clear hd hf u3 dl hall
      refine ⟨by show 1 ≤ sizeLine; decide, fun p121 g122 => ?_⟩
      have dd123 := Da.lstI cx.st g122 (l := [.str x]) (.cons rfl .nil)
      have yy : Sx s H119 (upd H119 p121 (.lst [.str x])) := Sx.new g122
      replace cx := cx.step yy (cx.st.new g122)
      clear yy
      generalize upd H119 p121 (.lst [.str x]) = H124 at *
      walk_at "go"
      refine ⟨by show 1 ≤ sizeLine; decide, fun p125 g126 => ?_⟩
      have dd127 := Da.tupI cx.st g126 (l := [.str x]) (.cons rfl .nil)
      have yy : Sx s H124 (upd H124 p125 (.tup [.str x])) := Sx.new g126
      replace cx := cx.step yy (cx.st.new g126)
      replace dd123 := Da.mono yy _ _ dd123
      clear yy
      generalize upd H124 p125 (.tup [.str x]) = H128 at *
      walk_at "go"
      refine fun p129 g130 => ?_
      have dd131 := Da.dctI cx.st g130
      have yy : Sx s H128 (upd H128 p129 (.dK [])) := Sx.new g130
      replace cx := cx.step yy (cx.st.new g130)
      replace dd123 := Da.mono yy _ _ dd123
      replace dd127 := Da.mono yy _ _ dd127
      clear yy
      generalize upd H128 p129 (.dK []) = H132 at *
      walk_at "go"
      refine ⟨by show 0 ≤ sizeLine; decide, fun p133 g134 => ?_⟩
      have dd135 := Da.lstI cx.st g134 (l := []) .nil
      have yy : Sx s H132 (upd H132 p133 (.lst [])) := Sx.new g134
      replace cx := cx.step yy (cx.st.new g134)
      replace dd123 := Da.mono yy _ _ dd123
      replace dd127 := Da.mono yy _ _ dd127
      replace dd131 := Da.mono yy _ _ dd131
      clear yy
      generalize upd H132 p133 (.lst []) = H136 at *
      walk_at "go"
      refine ⟨by show 9 ≤ sizeLine; decide, fun p137 g138 => ?_⟩
      have dl : DaL s H136 [.non, .int up, .bl true, .tup [.int p, .int q], .lst [.str x], .tup [.str x], .dct, .lst [], .int 0] [.non, .int up, .bl true, .ref t, .ref p121, .ref p125, .ref p129, .ref p133, .int 0] := (.cons rfl (.cons rfl (.cons rfl (.cons cx.one (.cons dd123 (.cons dd127 (.cons dd131 (.cons dd135 (.cons rfl .nil)))))))))
      have u140 := upd_same (H := H136) (a := p137) (o := .lst [.non, .int up, .bl true, .ref t, .ref p121, .ref p125, .ref p129, .ref p133, .int 0])
      have yy : Sx s H136 (upd H136 p137 (.lst [.non, .int up, .bl true, .ref t, .ref p121, .ref p125, .ref p129, .ref p133, .int 0])) := Sx.new g138
      have np137 := cx.st.ne g138
      replace cx := cx.step yy (cx.st.new g138)
      replace dl := DaL.mono yy _ _ dl
      clear yy
      clear dd131
      clear dd135
      clear dd123
      clear dd127
      generalize upd H136 p137 (.lst [.non, .int up, .bl true, .ref t, .ref p121, .ref p125, .ref p129, .ref p133, .int 0]) = H139 at *
      have hall : ([.non, .int up, .bl true, .tup [.int p, .int q], .lst [.str x], .tup [.str x], .dct, .lst [], .int 0] : List D).all badTxt = true := odd2_all
      have hlen : ([.non, .int up, .bl true, .tup [.int p, .int q], .lst [.str x], .tup [.str x], .dct, .lst [], .int 0] : List D).length = 9 := rfl
      have hlen2 := dl.len
      have np := np137
      generalize ([.non, .int up, .bl true, .tup [.int p, .int q], .lst [.str x], .tup [.str x], .dct, .lst [], .int 0] : List D) = ld at *
      generalize ([.non, .int up, .bl true, .ref t, .ref p121, .ref p125, .ref p129, .ref p133, .int 0] : List V) = lv at *
      walk_at "go"
      refine g_lenL (SqL.of u140) ?_
      rw [hlen2, hlen]
      walk_at "go"
      refine take_go cx.st (big_of (by decide)) fun r141 H142 r141a r141b x143 st144 => ?_
      replace cx := cx.step x143 st144
      replace u140 := x143.kp _ _ np u140
      replace dl := DaL.mono x143 _ _ dl
      clear x143 st144
      obtain ⟨d, v, he, hd, hf⟩ := at_da (f := badTxt) dl r141a (by rw [hlen]; have z : r141 = 0 ∨ r141 < ((9 : Nat) : Int) := r141b; omega) hall
      refine g_ixL (SqL.of u140) he ?_
      walk_at "go"
      refine ⟨s, 1, v, d, rfl, cx.st, hd, (fun z => absurd z (by decide)), (fun _ y e => absurd hf (by rw [e]; exact txt_str y)), fun u145 H146 y147 du148 => ?_⟩
      rw [if_neg (by decide : ¬ (1 : Int) = 0), ansR_no (txt_bad hf)] at du148
      replace cx := cx.step (Sx.of y147) (cx.st.same y147)
      walk_at "go"
      refine ⟨by show 2 ≤ sizeLine; decide, fun p149 g150 => ?_⟩
      have dd := Da.tupI cx.st g150 (l := [.str "WrongKind", .str "word"]) (.cons rfl (.cons rfl .nil))
      have yy : Sx s H146 (upd H146 p149 (.tup [.str "WrongKind", .str "word"])) := Sx.new g150
      replace du148 := Da.mono yy _ _ du148
      replace cx := cx.step yy (cx.st.new g150)
      clear yy
      generalize upd H146 p149 (.tup [.str "WrongKind", .str "word"]) = H151 at *
      walk_at "go"
      refine ⟨s, _, u145, _, rfl, du148, dd, (ok_pair _ _), fun H152 y153 => ?_⟩
      clear dd
      replace cx := cx.step (Sx.of y153) (cx.st.same y153)
      walk_at "go"
      clear hd hf u140 dl hall
      refine ⟨s, 1, .str x, .str x, rfl, cx.st, rfl, (fun z => absurd z (by decide)), (fun _ y e => hx1 y e), fun u154 H155 y156 du157 => ?_⟩
      rw [if_neg (by decide : ¬ (1 : Int) = 0), show ansR (.str x) = .tup [.str "told", ratD (readR x.cps.toList)] from rfl] at du157
      replace cx := cx.step (Sx.of y156) (cx.st.same y156)
      walk_at "go"
      refine ⟨by show 2 ≤ sizeLine; decide, fun p158 g159 => ?_⟩
      have dd := Da.tupI cx.st g159 (l := [.str "told", ratD (readR x.cps.toList)]) (.cons rfl (.cons cx.due .nil))
      have yy : Sx s H155 (upd H155 p158 (.tup [.str "told", dv])) := Sx.new g159
      replace du157 := Da.mono yy _ _ du157
      replace cx := cx.step yy (cx.st.new g159)
      clear yy
      generalize upd H155 p158 (.tup [.str "told", dv]) = H160 at *
      walk_at "go"
      refine ⟨s, _, u154, _, rfl, du157, dd, (ok_rat _), fun H161 y162 => ?_⟩
      clear dd
      replace cx := cx.step (Sx.of y162) (cx.st.same y162)
      walk_at "go"
      refine ⟨s, 0, .ref t, .tup [.int p, .int q], rfl, cx.st, cx.one, hb0, (fun z => absurd rfl z), fun u163 H164 y165 du166 => ?_⟩
      rw [if_pos rfl, ansW_yes hrat] at du166
      replace cx := cx.step (Sx.of y165) (cx.st.same y165)
      walk_at "go"
      refine ⟨by show 2 ≤ sizeLine; decide, fun p167 g168 => ?_⟩
      have dd := Da.tupI cx.st g168 (l := [.str "told", .str (writeS p q)]) (.cons rfl (.cons (hxg _) .nil))
      have yy : Sx s H164 (upd H164 p167 (.tup [.str "told", .str x])) := Sx.new g168
      replace du166 := Da.mono yy _ _ du166
      replace cx := cx.step yy (cx.st.new g168)
      clear yy
      generalize upd H164 p167 (.tup [.str "told", .str x]) = H169 at *
      walk_at "go"
      refine ⟨s, _, u163, _, rfl, du166, dd, (ok_pair _ _), fun H170 y171 => ?_⟩
      clear dd
      replace cx := cx.step (Sx.of y171) (cx.st.same y171)
      walk_at "go"
      exact k _
end
end My
namespace My
open PySem PySem.Spec PyProof.Rows L2
theorem cl_of {K : PySem.W.Frag} {C N : Addr} {nm q : Str} {bs bm : List Value} {sn : List Str} {sub : List Value} {ab : Bool} {col : Option Bool} {dd : Option Addr} {m0 m1 m2 m3 m5 : Option Value}
    (h : K.lookup C = some (excClassObj nm q C N bs bm true sn sub ab col dd m0 m1 m2 m3 m5 "ValueError.__new__")) : (PySem.W.clsIn K C).isSome = true := by
  unfold PySem.W.clsIn
  rw [h]
  rfl
theorem all_mk {l : PySem.W.OpenLaw} {w : World} {K : PySem.W.Frag} {h : Heap} {mg : Str → Option Value} {fa : Addr} (X : K.In h) (G : h.Ns mainGlobals mg) (hfa : mg "law" = some (.ref fa))
    {CFrameError CWrongKind COutOfBounds CRepeatedName CUnknownName CUnfitError CBadText : Addr}
    {f_is_whole : Addr} {od_is_whole an_is_whole : Option Addr} {sl_is_whole : Array (Option Value)} {oc_is_whole kV_is_whole dc_is_whole pm_is_whole cd_is_whole ct_is_whole : Value}
    {f_divisor : Addr} {od_divisor an_divisor : Option Addr} {sl_divisor : Array (Option Value)} {oc_divisor kV_divisor dc_divisor pm_divisor cd_divisor ct_divisor : Value}
    {f_is_ratio : Addr} {od_is_ratio an_is_ratio : Option Addr} {sl_is_ratio : Array (Option Value)} {oc_is_ratio kV_is_ratio dc_is_ratio pm_is_ratio cd_is_ratio ct_is_ratio : Value}
    {f_write_ratio : Addr} {od_write_ratio an_write_ratio : Option Addr} {sl_write_ratio : Array (Option Value)} {oc_write_ratio kV_write_ratio dc_write_ratio pm_write_ratio cd_write_ratio ct_write_ratio : Value}
    {f_read_digits : Addr} {od_read_digits an_read_digits : Option Addr} {sl_read_digits : Array (Option Value)} {oc_read_digits kV_read_digits dc_read_digits pm_read_digits cd_read_digits ct_read_digits : Value}
    {f_read_ratio : Addr} {od_read_ratio an_read_ratio : Option Addr} {sl_read_ratio : Array (Option Value)} {oc_read_ratio kV_read_ratio dc_read_ratio pm_read_ratio cd_read_ratio ct_read_ratio : Value}
    {f_store : Addr} {od_store an_store : Option Addr} {sl_store : Array (Option Value)} {oc_store kV_store dc_store pm_store cd_store ct_store : Value}
    {f_take : Addr} {od_take an_take : Option Addr} {sl_take : Array (Option Value)} {oc_take kV_take dc_take pm_take cd_take ct_take : Value}
    {f_tens : Addr} {od_tens an_tens : Option Addr} {sl_tens : Array (Option Value)} {oc_tens kV_tens dc_tens pm_tens cd_tens ct_tens : Value}
    {f_low : Addr} {od_low an_low : Option Addr} {sl_low : Array (Option Value)} {oc_low kV_low dc_low pm_low cd_low ct_low : Value}
    {f_alike : Addr} {od_alike an_alike : Option Addr} {sl_alike : Array (Option Value)} {oc_alike kV_alike dc_alike pm_alike cd_alike ct_alike : Value}
    {f_part : Addr} {od_part an_part : Option Addr} {sl_part : Array (Option Value)} {oc_part kV_part dc_part pm_part cd_part ct_part : Value}
    {f_number : Addr} {od_number an_number : Option Addr} {sl_number : Array (Option Value)} {oc_number kV_number dc_number pm_number cd_number ct_number : Value}
    {f_digits : Addr} {od_digits an_digits : Option Addr} {sl_digits : Array (Option Value)} {oc_digits kV_digits dc_digits pm_digits cd_digits ct_digits : Value}
    {f_reading : Addr} {od_reading an_reading : Option Addr} {sl_reading : Array (Option Value)} {oc_reading kV_reading dc_reading pm_reading cd_reading ct_reading : Value}
    {f_bent : Addr} {od_bent an_bent : Option Addr} {sl_bent : Array (Option Value)} {oc_bent kV_bent dc_bent pm_bent cd_bent ct_bent : Value}
    {f_short : Addr} {od_short an_short : Option Addr} {sl_short : Array (Option Value)} {oc_short kV_short dc_short pm_short cd_short ct_short : Value}
    {f_long : Addr} {od_long an_long : Option Addr} {sl_long : Array (Option Value)} {oc_long kV_long dc_long pm_long cd_long ct_long : Value}
    {f_told : Addr} {od_told an_told : Option Addr} {sl_told : Array (Option Value)} {oc_told kV_told dc_told pm_told cd_told ct_told : Value}
    {f_law : Addr} {od_law an_law : Option Addr} {sl_law : Array (Option Value)} {oc_law kV_law dc_law pm_law cd_law ct_law : Value}
    {nmWrongKind qnWrongKind : Str} {NWrongKind : Addr} {bsWrongKind bmWrongKind : List Value} {snWrongKind : List Str} {subWrongKind : List Value} {abWrongKind : Bool} {colWrongKind : Option Bool} {ddWrongKind : Option Addr} {m0WrongKind m1WrongKind m2WrongKind m3WrongKind m5WrongKind : Option Value}
    {fiWrongKind : Addr} {odiWrongKind aniWrongKind : Option Addr} {sliWrongKind : Array (Option Value)} {ociWrongKind kViWrongKind dciWrongKind pmiWrongKind cdiWrongKind ctiWrongKind : Value}
    {tkMOST_DIGITS : Tok}
    (aFrameError : PySem.W.nsIn K mainGlobals "FrameError" = some (some (.ref CFrameError)))
    (aWrongKind : PySem.W.nsIn K mainGlobals "WrongKind" = some (some (.ref CWrongKind)))
    (aOutOfBounds : PySem.W.nsIn K mainGlobals "OutOfBounds" = some (some (.ref COutOfBounds)))
    (aRepeatedName : PySem.W.nsIn K mainGlobals "RepeatedName" = some (some (.ref CRepeatedName)))
    (aUnknownName : PySem.W.nsIn K mainGlobals "UnknownName" = some (some (.ref CUnknownName)))
    (aUnfitError : PySem.W.nsIn K mainGlobals "UnfitError" = some (some (.ref CUnfitError)))
    (aBadText : PySem.W.nsIn K mainGlobals "BadText" = some (some (.ref CBadText)))
    (a_is_whole : PySem.W.nsIn K mainGlobals "is_whole" = some (some (.ref f_is_whole)))
    (l_is_whole : K.lookup f_is_whole = some ⟨oc_is_whole, od_is_whole, .func (PySem.W.fnOf "is_whole" "is_whole" (defArgs (topS 9)) (defBody (topS 9)) (defScope (topS 9)) .none kV_is_whole dc_is_whole pm_is_whole an_is_whole cd_is_whole ct_is_whole), sl_is_whole⟩)
    (c_is_whole : PySem.W.codeIn K cd_is_whole "is_whole" = true)
    (k_is_whole : PySem.W.keepIn K (.ref f_is_whole) = true)
    (a_divisor : PySem.W.nsIn K mainGlobals "divisor" = some (some (.ref f_divisor)))
    (l_divisor : K.lookup f_divisor = some ⟨oc_divisor, od_divisor, .func (PySem.W.fnOf "divisor" "divisor" (defArgs (topS 10)) (defBody (topS 10)) (defScope (topS 10)) .none kV_divisor dc_divisor pm_divisor an_divisor cd_divisor ct_divisor), sl_divisor⟩)
    (c_divisor : PySem.W.codeIn K cd_divisor "divisor" = true)
    (k_divisor : PySem.W.keepIn K (.ref f_divisor) = true)
    (a_is_ratio : PySem.W.nsIn K mainGlobals "is_ratio" = some (some (.ref f_is_ratio)))
    (l_is_ratio : K.lookup f_is_ratio = some ⟨oc_is_ratio, od_is_ratio, .func (PySem.W.fnOf "is_ratio" "is_ratio" (defArgs (topS 11)) (defBody (topS 11)) (defScope (topS 11)) .none kV_is_ratio dc_is_ratio pm_is_ratio an_is_ratio cd_is_ratio ct_is_ratio), sl_is_ratio⟩)
    (c_is_ratio : PySem.W.codeIn K cd_is_ratio "is_ratio" = true)
    (k_is_ratio : PySem.W.keepIn K (.ref f_is_ratio) = true)
    (a_write_ratio : PySem.W.nsIn K mainGlobals "write_ratio" = some (some (.ref f_write_ratio)))
    (l_write_ratio : K.lookup f_write_ratio = some ⟨oc_write_ratio, od_write_ratio, .func (PySem.W.fnOf "write_ratio" "write_ratio" (defArgs (topS 14)) (defBody (topS 14)) (defScope (topS 14)) .none kV_write_ratio dc_write_ratio pm_write_ratio an_write_ratio cd_write_ratio ct_write_ratio), sl_write_ratio⟩)
    (c_write_ratio : PySem.W.codeIn K cd_write_ratio "write_ratio" = true)
    (k_write_ratio : PySem.W.keepIn K (.ref f_write_ratio) = true)
    (a_read_digits : PySem.W.nsIn K mainGlobals "read_digits" = some (some (.ref f_read_digits)))
    (l_read_digits : K.lookup f_read_digits = some ⟨oc_read_digits, od_read_digits, .func (PySem.W.fnOf "read_digits" "read_digits" (defArgs (topS 15)) (defBody (topS 15)) (defScope (topS 15)) .none kV_read_digits dc_read_digits pm_read_digits an_read_digits cd_read_digits ct_read_digits), sl_read_digits⟩)
    (c_read_digits : PySem.W.codeIn K cd_read_digits "read_digits" = true)
    (k_read_digits : PySem.W.keepIn K (.ref f_read_digits) = true)
    (a_read_ratio : PySem.W.nsIn K mainGlobals "read_ratio" = some (some (.ref f_read_ratio)))
    (l_read_ratio : K.lookup f_read_ratio = some ⟨oc_read_ratio, od_read_ratio, .func (PySem.W.fnOf "read_ratio" "read_ratio" (defArgs (topS 16)) (defBody (topS 16)) (defScope (topS 16)) .none kV_read_ratio dc_read_ratio pm_read_ratio an_read_ratio cd_read_ratio ct_read_ratio), sl_read_ratio⟩)
    (c_read_ratio : PySem.W.codeIn K cd_read_ratio "read_ratio" = true)
    (k_read_ratio : PySem.W.keepIn K (.ref f_read_ratio) = true)
    (a_store : PySem.W.nsIn K mainGlobals "_law_store" = some (some (.ref f_store)))
    (l_store : K.lookup f_store = some ⟨oc_store, od_store, .func (PySem.W.fnOf "_law_store" "_law_store" (defArgs (topS 18)) (defBody (topS 18)) (defScope (topS 18)) .none kV_store dc_store pm_store an_store cd_store ct_store), sl_store⟩)
    (c_store : PySem.W.codeIn K cd_store "_law_store" = true)
    (k_store : PySem.W.keepIn K (.ref f_store) = true)
    (a_take : PySem.W.nsIn K mainGlobals "_law_take" = some (some (.ref f_take)))
    (l_take : K.lookup f_take = some ⟨oc_take, od_take, .func (PySem.W.fnOf "_law_take" "_law_take" (defArgs (topS 19)) (defBody (topS 19)) (defScope (topS 19)) .none kV_take dc_take pm_take an_take cd_take ct_take), sl_take⟩)
    (c_take : PySem.W.codeIn K cd_take "_law_take" = true)
    (k_take : PySem.W.keepIn K (.ref f_take) = true)
    (a_tens : PySem.W.nsIn K mainGlobals "_law_tens" = some (some (.ref f_tens)))
    (l_tens : K.lookup f_tens = some ⟨oc_tens, od_tens, .func (PySem.W.fnOf "_law_tens" "_law_tens" (defArgs (topS 20)) (defBody (topS 20)) (defScope (topS 20)) .none kV_tens dc_tens pm_tens an_tens cd_tens ct_tens), sl_tens⟩)
    (c_tens : PySem.W.codeIn K cd_tens "_law_tens" = true)
    (k_tens : PySem.W.keepIn K (.ref f_tens) = true)
    (a_low : PySem.W.nsIn K mainGlobals "_law_low" = some (some (.ref f_low)))
    (l_low : K.lookup f_low = some ⟨oc_low, od_low, .func (PySem.W.fnOf "_law_low" "_law_low" (defArgs (topS 21)) (defBody (topS 21)) (defScope (topS 21)) .none kV_low dc_low pm_low an_low cd_low ct_low), sl_low⟩)
    (c_low : PySem.W.codeIn K cd_low "_law_low" = true)
    (k_low : PySem.W.keepIn K (.ref f_low) = true)
    (a_alike : PySem.W.nsIn K mainGlobals "_law_alike" = some (some (.ref f_alike)))
    (l_alike : K.lookup f_alike = some ⟨oc_alike, od_alike, .func (PySem.W.fnOf "_law_alike" "_law_alike" (defArgs (topS 22)) (defBody (topS 22)) (defScope (topS 22)) .none kV_alike dc_alike pm_alike an_alike cd_alike ct_alike), sl_alike⟩)
    (c_alike : PySem.W.codeIn K cd_alike "_law_alike" = true)
    (k_alike : PySem.W.keepIn K (.ref f_alike) = true)
    (a_part : PySem.W.nsIn K mainGlobals "_law_part" = some (some (.ref f_part)))
    (l_part : K.lookup f_part = some ⟨oc_part, od_part, .func (PySem.W.fnOf "_law_part" "_law_part" (defArgs (topS 23)) (defBody (topS 23)) (defScope (topS 23)) .none kV_part dc_part pm_part an_part cd_part ct_part), sl_part⟩)
    (c_part : PySem.W.codeIn K cd_part "_law_part" = true)
    (k_part : PySem.W.keepIn K (.ref f_part) = true)
    (a_number : PySem.W.nsIn K mainGlobals "_law_number" = some (some (.ref f_number)))
    (l_number : K.lookup f_number = some ⟨oc_number, od_number, .func (PySem.W.fnOf "_law_number" "_law_number" (defArgs (topS 24)) (defBody (topS 24)) (defScope (topS 24)) .none kV_number dc_number pm_number an_number cd_number ct_number), sl_number⟩)
    (c_number : PySem.W.codeIn K cd_number "_law_number" = true)
    (k_number : PySem.W.keepIn K (.ref f_number) = true)
    (a_digits : PySem.W.nsIn K mainGlobals "_law_digits" = some (some (.ref f_digits)))
    (l_digits : K.lookup f_digits = some ⟨oc_digits, od_digits, .func (PySem.W.fnOf "_law_digits" "_law_digits" (defArgs (topS 25)) (defBody (topS 25)) (defScope (topS 25)) .none kV_digits dc_digits pm_digits an_digits cd_digits ct_digits), sl_digits⟩)
    (c_digits : PySem.W.codeIn K cd_digits "_law_digits" = true)
    (k_digits : PySem.W.keepIn K (.ref f_digits) = true)
    (a_reading : PySem.W.nsIn K mainGlobals "_law_reading" = some (some (.ref f_reading)))
    (l_reading : K.lookup f_reading = some ⟨oc_reading, od_reading, .func (PySem.W.fnOf "_law_reading" "_law_reading" (defArgs (topS 26)) (defBody (topS 26)) (defScope (topS 26)) .none kV_reading dc_reading pm_reading an_reading cd_reading ct_reading), sl_reading⟩)
    (c_reading : PySem.W.codeIn K cd_reading "_law_reading" = true)
    (k_reading : PySem.W.keepIn K (.ref f_reading) = true)
    (a_bent : PySem.W.nsIn K mainGlobals "_law_bent" = some (some (.ref f_bent)))
    (l_bent : K.lookup f_bent = some ⟨oc_bent, od_bent, .func (PySem.W.fnOf "_law_bent" "_law_bent" (defArgs (topS 27)) (defBody (topS 27)) (defScope (topS 27)) .none kV_bent dc_bent pm_bent an_bent cd_bent ct_bent), sl_bent⟩)
    (c_bent : PySem.W.codeIn K cd_bent "_law_bent" = true)
    (k_bent : PySem.W.keepIn K (.ref f_bent) = true)
    (a_short : PySem.W.nsIn K mainGlobals "_law_short" = some (some (.ref f_short)))
    (l_short : K.lookup f_short = some ⟨oc_short, od_short, .func (PySem.W.fnOf "_law_short" "_law_short" (defArgs (topS 28)) (defBody (topS 28)) (defScope (topS 28)) .none kV_short dc_short pm_short an_short cd_short ct_short), sl_short⟩)
    (c_short : PySem.W.codeIn K cd_short "_law_short" = true)
    (k_short : PySem.W.keepIn K (.ref f_short) = true)
    (a_long : PySem.W.nsIn K mainGlobals "_law_long" = some (some (.ref f_long)))
    (l_long : K.lookup f_long = some ⟨oc_long, od_long, .func (PySem.W.fnOf "_law_long" "_law_long" (defArgs (topS 29)) (defBody (topS 29)) (defScope (topS 29)) .none kV_long dc_long pm_long an_long cd_long ct_long), sl_long⟩)
    (c_long : PySem.W.codeIn K cd_long "_law_long" = true)
    (k_long : PySem.W.keepIn K (.ref f_long) = true)
    (a_told : PySem.W.nsIn K mainGlobals "_law_told" = some (some (.ref f_told)))
    (l_told : K.lookup f_told = some ⟨oc_told, od_told, .func (PySem.W.fnOf "_law_told" "_law_told" (defArgs (topS 30)) (defBody (topS 30)) (defScope (topS 30)) .none kV_told dc_told pm_told an_told cd_told ct_told), sl_told⟩)
    (c_told : PySem.W.codeIn K cd_told "_law_told" = true)
    (k_told : PySem.W.keepIn K (.ref f_told) = true)
    (a_law : PySem.W.nsIn K mainGlobals "law" = some (some (.ref f_law)))
    (l_law : K.lookup f_law = some ⟨oc_law, od_law, .func (PySem.W.fnOf "law" "law" (defArgs (topS 31)) (defBody (topS 31)) (defScope (topS 31)) .none kV_law dc_law pm_law an_law cd_law ct_law), sl_law⟩)
    (c_law : PySem.W.codeIn K cd_law "law" = true)
    (k_law : PySem.W.keepIn K (.ref f_law) = true)
    (xLWrongKind : K.lookup CWrongKind = some (excClassObj nmWrongKind qnWrongKind CWrongKind NWrongKind bsWrongKind bmWrongKind true snWrongKind subWrongKind abWrongKind colWrongKind ddWrongKind m0WrongKind m1WrongKind m2WrongKind m3WrongKind m5WrongKind "ValueError.__new__"))
    (rvWrongKind : PySem.HandSPX.refsVE bmWrongKind = true)
    (saWrongKind : PySem.W.findIn K (.ref CWrongKind) "__setattr__" = some (some (.builtin "object.__setattr__")))
    (exWrongKind : PySem.W.subIn K (.ref CWrongKind) (.type "BaseException") = some true)
    (tyWrongKind : PySem.W.typeIn K (.ref CWrongKind) = some (.type "type"))
    (kcWrongKind : PySem.W.keepIn K (.ref CWrongKind) = true)
    (hgWrongKind : PySem.W.findIn K (.ref CWrongKind) "__getattribute__" = some (some (.builtin "BaseException.__getattribute__")))
    (hkWrongKind : PySem.W.findIn K (.ref CWrongKind) "__getattr__" = some none)
    (hdWrongKind : PySem.W.hasDictIn K CWrongKind = true)
    (haWrongKind : PySem.W.findIn K (.ref CWrongKind) "__class__" = some (some (.builtin "object.__class__")))
    (hmWrongKind : PySem.W.mroIn K CWrongKind (.type "object") = some true)
    (aiWrongKind : PySem.W.findIn K (.ref CWrongKind) "__init__" = some (some (.ref fiWrongKind)))
    (liWrongKind : K.lookup fiWrongKind = some ⟨ociWrongKind, odiWrongKind, .func (PySem.W.fnOf "__init__" "WrongKind.__init__" (defArgs (inClass (topS 2) 0)) (defBody (inClass (topS 2) 0)) (defScope (inClass (topS 2) 0)) .none kViWrongKind dciWrongKind pmiWrongKind aniWrongKind cdiWrongKind ctiWrongKind), sliWrongKind⟩)
    (ciWrongKind : PySem.W.codeIn K cdiWrongKind "WrongKind.__init__" = true)
    (kiWrongKind : PySem.W.keepIn K (.ref fiWrongKind) = true)
    (tiWrongKind : PySem.W.typeIn K (.ref fiWrongKind) = some (.type "function"))
    (nWrongKind_argument : PySem.W.findIn K (.ref CWrongKind) "argument" = some none)
    (kWrongKind_OutOfBounds : PySem.W.kitOne K (.ref CWrongKind) (.ref COutOfBounds) = some false)
    (kWrongKind_RepeatedName : PySem.W.kitOne K (.ref CWrongKind) (.ref CRepeatedName) = some false)
    (kWrongKind_UnknownName : PySem.W.kitOne K (.ref CWrongKind) (.ref CUnknownName) = some false)
    (kWrongKind_UnfitError : PySem.W.kitOne K (.ref CWrongKind) (.ref CUnfitError) = some false)
    (kWrongKind_BadText : PySem.W.kitOne K (.ref CWrongKind) (.ref CBadText) = some false)
    (kWrongKind_WrongKind : PySem.W.kitOne K (.ref CWrongKind) (.ref CWrongKind) = some true)
    (kWrongKind_ValueError : PySem.W.kitOne K (.ref CWrongKind) (.type "ValueError") = some true)
    (xWrongKind : PySem.W.exmOne K (.ref CWrongKind) (.ref CFrameError) = some true)
    (qMOST_DIGITS : PySem.W.nsIn K mainGlobals "MOST_DIGITS" = some (some (.int 400 tkMOST_DIGITS)))
    (hn : PySem.W.specialIn K (.builtin "object.__class__") "__get__" = some (some (.builtin "getset_descriptor.__get__")))
    (ht : PySem.W.takesIn K (.builtin "object.__class__") = some true)
    (z_len : PySem.W.nsIn K mainGlobals "len" = some none)
    (z_max : PySem.W.nsIn K mainGlobals "max" = some none)
    (z_min : PySem.W.nsIn K mainGlobals "min" = some none)
    (z_abs : PySem.W.nsIn K mainGlobals "abs" = some none)
    (z_int : PySem.W.nsIn K mainGlobals "int" = some none)
    (z_str : PySem.W.nsIn K mainGlobals "str" = some none)
    (z_bool : PySem.W.nsIn K mainGlobals "bool" = some none)
    (z_list : PySem.W.nsIn K mainGlobals "list" = some none)
    (z_tuple : PySem.W.nsIn K mainGlobals "tuple" = some none)
    (z_dict : PySem.W.nsIn K mainGlobals "dict" = some none)
    (z_isinstance : PySem.W.nsIn K mainGlobals "isinstance" = some none)
    (z_range : PySem.W.nsIn K mainGlobals "range" = some none)
    (z_ValueError : PySem.W.nsIn K mainGlobals "ValueError" = some none)
    (dig : PySem.W.nsIn K cStatics "sys.int_max_str_digits" = some none) :
    ∃ fd : FuncData, (∀ (s : Shared) (v : Value), BindsTo s fd ⟨[v], []⟩ [("script", v)]) ∧ ∀ base : Heap, K.In base → base.Ns mainGlobals mg → FnOk l.prog w K mg base CX0 176 fa fd ["script"] (spLaw K) := by
  have e := hfa.symm.trans (PySem.W.mg_of X G a_law)
  cases e
  have F_is_whole := fun_mk (st := topS 9) l_is_whole c_is_whole k_is_whole
  have b_is_whole := F_is_whole.binds (ps := ["value"]) fun _ _ _ _ _ _ us hl => match us, hl with | [_], _ => rfl
  have F_divisor := fun_mk (st := topS 10) l_divisor c_divisor k_divisor
  have b_divisor := F_divisor.binds (ps := ["one", "other"]) fun _ _ _ _ _ _ us hl => match us, hl with | [_, _], _ => rfl
  have F_is_ratio := fun_mk (st := topS 11) l_is_ratio c_is_ratio k_is_ratio
  have b_is_ratio := F_is_ratio.binds (ps := ["value"]) fun _ _ _ _ _ _ us hl => match us, hl with | [_], _ => rfl
  have F_write_ratio := fun_mk (st := topS 14) l_write_ratio c_write_ratio k_write_ratio
  have b_write_ratio := F_write_ratio.binds (ps := ["one"]) fun _ _ _ _ _ _ us hl => match us, hl with | [_], _ => rfl
  have F_read_digits := fun_mk (st := topS 15) l_read_digits c_read_digits k_read_digits
  have b_read_digits := F_read_digits.binds (ps := ["word"]) fun _ _ _ _ _ _ us hl => match us, hl with | [_], _ => rfl
  have F_read_ratio := fun_mk (st := topS 16) l_read_ratio c_read_ratio k_read_ratio
  have b_read_ratio := F_read_ratio.binds (ps := ["word"]) fun _ _ _ _ _ _ us hl => match us, hl with | [_], _ => rfl
  have F_store := fun_mk (st := topS 18) l_store c_store k_store
  have b_store := F_store.binds (ps := ["script"]) fun _ _ _ _ _ _ us hl => match us, hl with | [_], _ => rfl
  have F_take := fun_mk (st := topS 19) l_take c_take k_take
  have b_take := F_take.binds (ps := ["store", "many"]) fun _ _ _ _ _ _ us hl => match us, hl with | [_, _], _ => rfl
  have F_tens := fun_mk (st := topS 20) l_tens c_tens k_tens
  have b_tens := F_tens.binds (ps := ["figures"]) fun _ _ _ _ _ _ us hl => match us, hl with | [_], _ => rfl
  have F_low := fun_mk (st := topS 21) l_low c_low k_low
  have b_low := F_low.binds (ps := ["up", "down"]) fun _ _ _ _ _ _ us hl => match us, hl with | [_, _], _ => rfl
  have F_alike := fun_mk (st := topS 22) l_alike c_alike k_alike
  have b_alike := F_alike.binds (ps := ["got", "due"]) fun _ _ _ _ _ _ us hl => match us, hl with | [_, _], _ => rfl
  have F_part := fun_mk (st := topS 23) l_part c_part k_part
  have b_part := F_part.binds (ps := ["store"]) fun _ _ _ _ _ _ us hl => match us, hl with | [_], _ => rfl
  have F_number := fun_mk (st := topS 24) l_number c_number k_number
  have b_number := F_number.binds (ps := ["store"]) fun _ _ _ _ _ _ us hl => match us, hl with | [_], _ => rfl
  have F_digits := fun_mk (st := topS 25) l_digits c_digits k_digits
  have b_digits := F_digits.binds (ps := ["text"]) fun _ _ _ _ _ _ us hl => match us, hl with | [_], _ => rfl
  have F_reading := fun_mk (st := topS 26) l_reading c_reading k_reading
  have b_reading := F_reading.binds (ps := ["text"]) fun _ _ _ _ _ _ us hl => match us, hl with | [_], _ => rfl
  have F_bent := fun_mk (st := topS 27) l_bent c_bent k_bent
  have b_bent := F_bent.binds (ps := ["store", "text"]) fun _ _ _ _ _ _ us hl => match us, hl with | [_, _], _ => rfl
  have F_short := fun_mk (st := topS 28) l_short c_short k_short
  have b_short := F_short.binds (ps := ["store"]) fun _ _ _ _ _ _ us hl => match us, hl with | [_], _ => rfl
  have F_long := fun_mk (st := topS 29) l_long c_long k_long
  have b_long := F_long.binds (ps := ["store"]) fun _ _ _ _ _ _ us hl => match us, hl with | [_], _ => rfl
  have F_told := fun_mk (st := topS 30) l_told c_told k_told
  have b_told := F_told.binds (ps := ["way", "thing"]) fun _ _ _ _ _ _ us hl => match us, hl with | [_, _], _ => rfl
  have F_law := fun_mk (st := topS 31) l_law c_law k_law
  have b_law := F_law.binds (ps := ["script"]) fun _ _ _ _ _ _ us hl => match us, hl with | [_], _ => rfl
  have FiWrongKind := fun_mk (st := inClass (topS 2) 0) liWrongKind ciWrongKind kiWrongKind
  have biWrongKind := FiWrongKind.binds (ps := ["self", "argument"]) fun _ _ _ _ _ _ us hl => match us, hl with | [_, _], _ => rfl
  let T : Txt K mg := {
    dis_whole := ⟨f_is_whole, _, F_is_whole, b_is_whole, PySem.W.mg_of X G a_is_whole⟩
    ddivisor := ⟨f_divisor, _, F_divisor, b_divisor, PySem.W.mg_of X G a_divisor⟩
    dis_ratio := ⟨f_is_ratio, _, F_is_ratio, b_is_ratio, PySem.W.mg_of X G a_is_ratio⟩
    dwrite_ratio := ⟨f_write_ratio, _, F_write_ratio, b_write_ratio, PySem.W.mg_of X G a_write_ratio⟩
    dread_digits := ⟨f_read_digits, _, F_read_digits, b_read_digits, PySem.W.mg_of X G a_read_digits⟩
    dread_ratio := ⟨f_read_ratio, _, F_read_ratio, b_read_ratio, PySem.W.mg_of X G a_read_ratio⟩
    dstore := ⟨f_store, _, F_store, b_store, PySem.W.mg_of X G a_store⟩
    dtake := ⟨f_take, _, F_take, b_take, PySem.W.mg_of X G a_take⟩
    dtens := ⟨f_tens, _, F_tens, b_tens, PySem.W.mg_of X G a_tens⟩
    dlow := ⟨f_low, _, F_low, b_low, PySem.W.mg_of X G a_low⟩
    dalike := ⟨f_alike, _, F_alike, b_alike, PySem.W.mg_of X G a_alike⟩
    dpart := ⟨f_part, _, F_part, b_part, PySem.W.mg_of X G a_part⟩
    dnumber := ⟨f_number, _, F_number, b_number, PySem.W.mg_of X G a_number⟩
    ddigits := ⟨f_digits, _, F_digits, b_digits, PySem.W.mg_of X G a_digits⟩
    dreading := ⟨f_reading, _, F_reading, b_reading, PySem.W.mg_of X G a_reading⟩
    dbent := ⟨f_bent, _, F_bent, b_bent, PySem.W.mg_of X G a_bent⟩
    dshort := ⟨f_short, _, F_short, b_short, PySem.W.mg_of X G a_short⟩
    dlong := ⟨f_long, _, F_long, b_long, PySem.W.mg_of X G a_long⟩
    dtold := ⟨f_told, _, F_told, b_told, PySem.W.mg_of X G a_told⟩
    dlaw := ⟨fa, _, F_law, b_law, PySem.W.mg_of X G a_law⟩
    m_len := PySem.W.mg_none_of X G z_len
    m_max := PySem.W.mg_none_of X G z_max
    m_min := PySem.W.mg_none_of X G z_min
    m_abs := PySem.W.mg_none_of X G z_abs
    m_int := PySem.W.mg_none_of X G z_int
    m_str := PySem.W.mg_none_of X G z_str
    m_bool := PySem.W.mg_none_of X G z_bool
    m_list := PySem.W.mg_none_of X G z_list
    m_tuple := PySem.W.mg_none_of X G z_tuple
    m_dict := PySem.W.mg_none_of X G z_dict
    m_isinstance := PySem.W.mg_none_of X G z_isinstance
    m_range := PySem.W.mg_none_of X G z_range
    m_ValueError := PySem.W.mg_none_of X G z_ValueError
    dig := dig
    uMOST_DIGITS := .int 400 tkMOST_DIGITS
    kMOST_DIGITS := PySem.W.mg_of X G qMOST_DIGITS
    vMOST_DIGITS := ⟨tkMOST_DIGITS, rfl⟩
    cFrameError := ⟨CFrameError, PySem.W.mg_of X G aFrameError⟩
    cWrongKind := ⟨CWrongKind, PySem.W.mg_of X G aWrongKind, ⟨⟨nmWrongKind, qnWrongKind, NWrongKind, bsWrongKind, bmWrongKind, snWrongKind, subWrongKind, abWrongKind, colWrongKind, ddWrongKind, m0WrongKind, m1WrongKind, m2WrongKind, m3WrongKind, m5WrongKind, xLWrongKind, rvWrongKind⟩, saWrongKind, exWrongKind, tyWrongKind, kcWrongKind⟩, ⟨⟨hgWrongKind, hkWrongKind, exWrongKind, hdWrongKind, haWrongKind, hn, ht, hmWrongKind⟩, cl_of xLWrongKind⟩⟩
    cOutOfBounds := ⟨COutOfBounds, PySem.W.mg_of X G aOutOfBounds⟩
    cRepeatedName := ⟨CRepeatedName, PySem.W.mg_of X G aRepeatedName⟩
    cUnknownName := ⟨CUnknownName, PySem.W.mg_of X G aUnknownName⟩
    cUnfitError := ⟨CUnfitError, PySem.W.mg_of X G aUnfitError⟩
    cBadText := ⟨CBadText, PySem.W.mg_of X G aBadText⟩
    iWrongKind := ⟨fiWrongKind, _, FiWrongKind, biWrongKind, aiWrongKind, tiWrongKind⟩
    nWrongKind_argument := nWrongKind_argument
    kWrongKind_OutOfBounds := kWrongKind_OutOfBounds
    kWrongKind_RepeatedName := kWrongKind_RepeatedName
    kWrongKind_UnknownName := kWrongKind_UnknownName
    kWrongKind_UnfitError := kWrongKind_UnfitError
    kWrongKind_BadText := kWrongKind_BadText
    kWrongKind_WrongKind := kWrongKind_WrongKind
    kWrongKind_ValueError := kWrongKind_ValueError
    xWrongKind := xWrongKind
  }
  exact ⟨PySem.W.fnOf "law" "law" (defArgs (topS 31)) (defBody (topS 31)) (defScope (topS 31)) .none kV_law dc_law pm_law an_law cd_law ct_law, fun s v => .of_eq rfl, fun base _ _ => ok_law T⟩
theorem walk {l : PySem.W.OpenLaw} {q : Program} {loose : List Str} {XP : (Str → Option Value) → Heap → Prop} {YP : World → Heap → Prop} {d : DefRec} {K : Params → PySem.W.Frag} (hn : l.most = some 63) (hdf : d.params.defaults = [])
    (hY : ∀ (w : World) (h : Heap), YP w h → (K w.params).In h)
    (F : ∀ (w : World) (mg : Str → Option Value) (fa : Addr) (h : Heap), (K w.params).In h → h.Ns mainGlobals mg → mg d.name = some (.ref fa) →
      ∃ fd : FuncData, (∀ (s : Shared) (u : Value), BindsTo s fd ⟨[u], []⟩ [("script", u)]) ∧ ∀ base : Heap, (K w.params).In base → base.Ns mainGlobals mg → FnOk l.prog w (K w.params) mg base CX0 176 fa fd ["script"] (spLaw (K w.params))) :
    PySem.W.WalkO q loose XP YP l.row.toRowW d [] (fun f vs => PySem.call f vs) :=
  L2.walk_of (n := 63) (k := 176) (x := "script") (CX := fun _ => CX0) (sp := fun w => spLaw (K w.params)) hn (by decide) hdf ⟨rfl, by decide, by decide⟩ hY F (fun _ _ a ns hl _ hS => ⟨a, ns, rfl, hS, hl, fun _ => rfl⟩) fun _ _ _ _ _ z => z
end My
open PySem PySem.W PyProof.Rows in
set_option maxRecDepth 100000 in
set_option maxHeartbeats 0 in
theorem PySem.Challenge.cw_standframes_k62_numbers_written_and_read_holds : PySem.Challenge.rw_standframes_k62_numbers_written_and_read.Holds := by
  w_on; o_law; k_head; (case hw => w_witness2)
  k_fill
  refine My.walk (l := PySem.Challenge.rw_standframes_k62_numbers_written_and_read) rfl rfl (fun w h Y => PySem.W.kIn_of Y) ?F
  case F =>
    intro w mg fa h KX G hmg
    refine' My.all_mk KX G hmg ?aFrameError ?aWrongKind ?aOutOfBounds ?aRepeatedName ?aUnknownName ?aUnfitError ?aBadText ?a_is_whole ?l_is_whole ?c_is_whole ?k_is_whole ?a_divisor ?l_divisor ?c_divisor ?k_divisor ?a_is_ratio ?l_is_ratio ?c_is_ratio ?k_is_ratio ?a_write_ratio ?l_write_ratio ?c_write_ratio ?k_write_ratio ?a_read_digits ?l_read_digits ?c_read_digits ?k_read_digits ?a_read_ratio ?l_read_ratio ?c_read_ratio ?k_read_ratio ?a_store ?l_store ?c_store ?k_store ?a_take ?l_take ?c_take ?k_take ?a_tens ?l_tens ?c_tens ?k_tens ?a_low ?l_low ?c_low ?k_low ?a_alike ?l_alike ?c_alike ?k_alike ?a_part ?l_part ?c_part ?k_part ?a_number ?l_number ?c_number ?k_number ?a_digits ?l_digits ?c_digits ?k_digits ?a_reading ?l_reading ?c_reading ?k_reading ?a_bent ?l_bent ?c_bent ?k_bent ?a_short ?l_short ?c_short ?k_short ?a_long ?l_long ?c_long ?k_long ?a_told ?l_told ?c_told ?k_told ?a_law ?l_law ?c_law ?k_law ?xLWrongKind ?rvWrongKind ?saWrongKind ?exWrongKind ?tyWrongKind ?kcWrongKind ?hgWrongKind ?hkWrongKind ?hdWrongKind ?haWrongKind ?hmWrongKind ?aiWrongKind ?liWrongKind ?ciWrongKind ?kiWrongKind ?tiWrongKind ?nWrongKind_argument ?kWrongKind_OutOfBounds ?kWrongKind_RepeatedName ?kWrongKind_UnknownName ?kWrongKind_UnfitError ?kWrongKind_BadText ?kWrongKind_WrongKind ?kWrongKind_ValueError ?xWrongKind ?qMOST_DIGITS ?hn ?ht ?z_len ?z_max ?z_min ?z_abs ?z_int ?z_str ?z_bool ?z_list ?z_tuple ?z_dict ?z_isinstance ?z_range ?z_ValueError ?dig
    (case aFrameError => k_is)
    (case aWrongKind => k_is)
    (case aOutOfBounds => k_is)
    (case aRepeatedName => k_is)
    (case aUnknownName => k_is)
    (case aUnfitError => k_is)
    (case aBadText => k_is)
    (case a_is_whole => k_is)
    (case l_is_whole => k_is)
    (case c_is_whole => k_is)
    (case k_is_whole => k_is)
    (case a_divisor => k_is)
    (case l_divisor => k_is)
    (case c_divisor => k_is)
    (case k_divisor => k_is)
    (case a_is_ratio => k_is)
    (case l_is_ratio => k_is)
    (case c_is_ratio => k_is)
    (case k_is_ratio => k_is)
    (case a_write_ratio => k_is)
    (case l_write_ratio => k_is)
    (case c_write_ratio => k_is)
    (case k_write_ratio => k_is)
    (case a_read_digits => k_is)
    (case l_read_digits => k_is)
    (case c_read_digits => k_is)
    (case k_read_digits => k_is)
    (case a_read_ratio => k_is)
    (case l_read_ratio => k_is)
    (case c_read_ratio => k_is)
    (case k_read_ratio => k_is)
    (case a_store => k_is)
    (case l_store => k_is)
    (case c_store => k_is)
    (case k_store => k_is)
    (case a_take => k_is)
    (case l_take => k_is)
    (case c_take => k_is)
    (case k_take => k_is)
    (case a_tens => k_is)
    (case l_tens => k_is)
    (case c_tens => k_is)
    (case k_tens => k_is)
    (case a_low => k_is)
    (case l_low => k_is)
    (case c_low => k_is)
    (case k_low => k_is)
    (case a_alike => k_is)
    (case l_alike => k_is)
    (case c_alike => k_is)
    (case k_alike => k_is)
    (case a_part => k_is)
    (case l_part => k_is)
    (case c_part => k_is)
    (case k_part => k_is)
    (case a_number => k_is)
    (case l_number => k_is)
    (case c_number => k_is)
    (case k_number => k_is)
    (case a_digits => k_is)
    (case l_digits => k_is)
    (case c_digits => k_is)
    (case k_digits => k_is)
    (case a_reading => k_is)
    (case l_reading => k_is)
    (case c_reading => k_is)
    (case k_reading => k_is)
    (case a_bent => k_is)
    (case l_bent => k_is)
    (case c_bent => k_is)
    (case k_bent => k_is)
    (case a_short => k_is)
    (case l_short => k_is)
    (case c_short => k_is)
    (case k_short => k_is)
    (case a_long => k_is)
    (case l_long => k_is)
    (case c_long => k_is)
    (case k_long => k_is)
    (case a_told => k_is)
    (case l_told => k_is)
    (case c_told => k_is)
    (case k_told => k_is)
    (case a_law => k_is)
    (case l_law => k_is)
    (case c_law => k_is)
    (case k_law => k_is)
    (case xLWrongKind => k_is)
    (case rvWrongKind => first | rfl | decide +kernel | kernel_rfl)
    (case saWrongKind => k_is)
    (case exWrongKind => k_is)
    (case tyWrongKind => k_is)
    (case kcWrongKind => k_is)
    (case hgWrongKind => k_is)
    (case hkWrongKind => k_is)
    (case hdWrongKind => k_is)
    (case haWrongKind => k_is)
    (case hmWrongKind => k_is)
    (case aiWrongKind => k_is)
    (case liWrongKind => k_is)
    (case ciWrongKind => k_is)
    (case kiWrongKind => k_is)
    (case tiWrongKind => k_is)
    (case nWrongKind_argument => k_is)
    (case kWrongKind_OutOfBounds => kernel_rfl)
    (case kWrongKind_RepeatedName => kernel_rfl)
    (case kWrongKind_UnknownName => kernel_rfl)
    (case kWrongKind_UnfitError => kernel_rfl)
    (case kWrongKind_BadText => kernel_rfl)
    (case kWrongKind_WrongKind => kernel_rfl)
    (case kWrongKind_ValueError => kernel_rfl)
    (case xWrongKind => kernel_rfl)
    (case qMOST_DIGITS => k_is)
    (case hn => k_is)
    (case ht => k_is)
    (case z_len => k_is)
    (case z_max => k_is)
    (case z_min => k_is)
    (case z_abs => k_is)
    (case z_int => k_is)
    (case z_str => k_is)
    (case z_bool => k_is)
    (case z_list => k_is)
    (case z_tuple => k_is)
    (case z_dict => k_is)
    (case z_isinstance => k_is)
    (case z_range => k_is)
    (case z_ValueError => k_is)
    (case dig => k_is)
