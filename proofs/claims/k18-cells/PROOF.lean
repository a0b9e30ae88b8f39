import PyProof.Rows.All
import Wide.All
import OpenK.AllK
import Wide.FinOn
import HandS.ForMost
import HandS.Evl
import HandS.Wide
import HandS.IsInst
import HandS.Conv
import KE.SortData
import PySem.Challenge.RW_kindvow_k18_cells_of_step_arrays
set_option Elab.async false
set_option linter.all false
set_option maxRecDepth 100000
set_option maxHeartbeats 4000000
/-! The steps: short readings for the hand layer, one lemma a construct, all with the heap told. -/
namespace KV
open PySem PySem.Spec L2

/-! ### frames: what stands but for the places in M -/
structure Kp (M : List Addr) (H H' : Hp) : Prop where
  keep : ∀ a o, H a = some o → a ∉ M → H' a = some o
  free : ∀ a, H' a = none → H a = none
theorem Kp.refl (M : List Addr) (H : Hp) : Kp M H H := ⟨fun _ _ h _ => h, fun _ h => h⟩
theorem Kp.trans {M : List Addr} {H H1 H2 : Hp} (a : Kp M H H1) (b : Kp M H1 H2) : Kp M H H2 := ⟨fun x o h n => b.keep x o (a.keep x o h n) n, fun x h => a.free x (b.free x h)⟩
theorem Kp.new {M : List Addr} {H : Hp} {p : Addr} {o : HO} (h : H p = none) : Kp M H (upd H p o) := ⟨fun a u e _ => by
  rw [upd_ne (ne_of_none e h)]
  exact e, fun a e => by
  by_cases q : a = p
  · rw [q]; exact h
  · rw [upd_ne q] at e; exact e⟩
theorem Kp.mono {M N : List Addr} {H H' : Hp} (k : Kp M H H') (h : ∀ a, a ∈ M → a ∈ N) : Kp N H H' := ⟨fun a o e n => k.keep a o e fun z => n (h a z), k.free⟩
theorem Kp.of0 {M : List Addr} {H H' : Hp} (k : Kp [] H H') : Kp M H H' := k.mono fun _ z => nomatch z
/-- an object in M is changed -/
theorem Kp.mut {M : List Addr} {H H' : Hp} {p : Addr} {o : HO} (k : Kp M H H') (h : p ∈ M) : Kp M H (upd H' p o) := ⟨fun a u e n => by
  rw [upd_ne (fun z => n (by rw [z]; exact h))]
  exact k.keep a u e n, fun a e => by
  by_cases q : a = p
  · rw [q, upd_same] at e; cases e
  · rw [upd_ne q] at e; exact k.free a e⟩
/-- an object that is new since H is changed -/
theorem Kp.own {M : List Addr} {H H' : Hp} {p : Addr} {o : HO} (k : Kp M H H') (h : H p = none) : Kp M H (upd H' p o) := ⟨fun a u e n => by
  rw [upd_ne (ne_of_none e h)]
  exact k.keep a u e n, fun a e => by
  by_cases q : a = p
  · rw [q]; exact h
  · rw [upd_ne q] at e; exact k.free a e⟩
/-- what was changed was new -/
theorem Kp.less {M : List Addr} {H H' : Hp} (k : Kp M H H') (h : ∀ a ∈ M, H a = none) : Kp [] H H' := ⟨fun a o e _ => k.keep a o e (fun z => by rw [h a z] at e; exact nomatch e), k.free⟩
theorem Kp.rd {M : List Addr} {H H' : Hp} {a : Addr} {u : HO} (k : Kp M H H') (h : Rd H a u) (n : a ∉ M) : Rd H' a u := by
  rcases h with h | ⟨o, h⟩
  · exact .inl (k.keep a _ h n)
  · exact .inr ⟨o, k.keep a _ h n⟩
theorem Kp.l {K : PySem.W.Frag} {M : List Addr} {H H' : Hp} {a : Addr} {xs : List V} (k : Kp M H H') (h : SqL K H a xs) (n : a ∉ M) : SqL K H' a xs := by
  rcases h with h | h
  · exact .inl (k.rd h n)
  · exact .inr h
theorem Kp.t {K : PySem.W.Frag} {M : List Addr} {H H' : Hp} {a : Addr} {xs : List V} (k : Kp M H H') (h : SqT K H a xs) (n : a ∉ M) : SqT K H' a xs := by
  rcases h with h | h
  · exact .inl (k.rd h n)
  · exact .inr h
theorem Kp.l0 {K : PySem.W.Frag} {H H' : Hp} {a : Addr} {xs : List V} (k : Kp [] H H') (h : SqL K H a xs) : SqL K H' a xs := k.l h (by simp)
theorem Kp.t0 {K : PySem.W.Frag} {H H' : Hp} {a : Addr} {xs : List V} (k : Kp [] H H') (h : SqT K H a xs) : SqT K H' a xs := k.t h (by simp)
theorem Kp.at0 {H H' : Hp} {a : Addr} {o : HO} (k : Kp [] H H') (h : H a = some o) : H' a = some o := k.keep a o h (by simp)
theorem nin1 {a b : Addr} (h : a ≠ b) : a ∉ [b] := by simpa using h
theorem free_ne {H : Hp} {p q : Addr} {o : HO} (h : upd H p o q = none) : q ≠ p := fun e => by rw [e, upd_same] at h; cases h
theorem free_of {H : Hp} {p q : Addr} {o : HO} (h : upd H p o q = none) : H q = none := by rw [upd_ne (free_ne h)] at h; exact h

/-! ### named rules -/
section
variable {X : Cx}
theorem OpR.or {f : Value → Value → Sem Value} {r r' : R2} (h : OpR X f r) (h' : OpR X f r') : OpR X f (fun x y H Q => r x y H Q ∨ r' x y H Q) := by
  intro pins s σ H x y v u Q I rx ry q
  rcases q with q | q
  · exact h pins s σ H x y v u Q I rx ry q
  · exact h' pins s σ H x y v u Q I rx ry q
theorem CallR.or {f : Value} {r r' : List V → Hp → VK → Prop} (h : CallR X f r) (h' : CallR X f r') : CallR X f (fun xs H Q => r xs H Q ∨ r' xs H Q) := by
  intro pins s σ H xs us Q I rx q
  rcases q with q | q
  · exact h pins s σ H xs us Q I rx q
  · exact h' pins s σ H xs us Q I rx q
def rAdd : R2 := rI0 fun i j => .int (i + j)
def rSub : R2 := rI0 fun i j => .int (i - j)
def rLt : R2 := rI0 fun i j => .bl (decide (i < j))
def rLe : R2 := rI0 fun i j => .bl (decide (i ≤ j))
def rGt : R2 := rI0 fun i j => .bl (decide (j < i))
def rGe : R2 := rI0 fun i j => .bl (decide (j ≤ i))
def rMul : R2 := fun x y H Q => rI CMul (fun i j => .int (i * j)) x y H Q ∨ rI CMulW (fun i j => .int (i * j)) x y H Q
def rMod : R2 := rI (fun _ j => 0 < j) fun i j => .int (i % j)
def rDiv : R2 := rI CDivW fun i j => .int (i / j)
def rPow : R2 := rI CPow fun i j => .int (i ^ j.toNat)
theorem o_add : OpR X (binaryOp .Add) rAdd := op_add
theorem o_sub : OpR X (binaryOp .Sub) rSub := op_sub
theorem o_lt : OpR X (compareOp .Lt) rLt := op_lt
theorem o_le : OpR X (compareOp .LtE) rLe := op_le
theorem o_gt : OpR X (compareOp .Gt) rGt := op_gt
theorem o_ge : OpR X (compareOp .GtE) rGe := op_ge
theorem o_mul : OpR X (binaryOp .Mult) rMul := OpR.or op_mul op_mulW
theorem o_mod : OpR X (binaryOp .Mod) rMod := op_mod
theorem o_div : OpR X (binaryOp .FloorDiv) rDiv := op_fdivW
theorem o_pow : OpR X (binaryOp .Pow) rPow := op_pow
def rNeg : V → Hp → VK → Prop := rU fun i => .int (-i)
theorem u_neg : UnR X (unaryOp .USub) rNeg := un_neg
def rInt1 : List V → Hp → VK → Prop := fun xs H Q => (∃ i, xs = [.int i] ∧ Q (.int i) H) ∨ ∃ k, xs = [.bl k] ∧ Q (.int (if k then 1 else 0)) H
theorem c_int : CallR X (.type "int") rInt1 := call_int1
def rLenU (K : PySem.W.Frag) : List V → Hp → VK → Prop := fun xs H Q => ∃ x n, xs = [x] ∧ LenV K x H n ∧ Q (.int n) H
theorem c_len : CallR X (.builtin "len") (rLenU X.K) := call_len
def rMax2 : List V → Hp → VK → Prop := fun xs H Q => ∃ i j, xs = [.int i, .int j] ∧ Q (.int (if j > i then j else i)) H
theorem c_max2 (hc : X.calm = true) : CallR X (.builtin "max") rMax2 := call_max2 hc
def rMin2 : List V → Hp → VK → Prop := fun xs H Q => ∃ i j, xs = [.int i, .int j] ∧ Q (.int (if j < i then j else i)) H
theorem c_min2 (hc : X.calm = true) : CallR X (.builtin "min") rMin2 := call_min2 hc
def rAbs : List V → Hp → VK → Prop := fun xs H Q => ∃ i, xs = [.int i] ∧ Q (.int (if i < 0 then -i else i)) H
theorem c_abs : CallR X (.builtin "abs") rAbs := call_abs
def rListOf (K : PySem.W.Frag) : List V → Hp → VK → Prop := fun xs H Q => ∃ p ys, xs = [.ref p] ∧ (SqL K H p ys ∨ SqT K H p ys) ∧ ∀ l, H l = none → Q (.ref l) (upd H l (.lst ys))
theorem c_list : CallR X (.type "list") (rListOf X.K) := call_list_of
def rTupleOf (K : PySem.W.Frag) : List V → Hp → VK → Prop := fun xs H Q => ∃ p ys, xs = [.ref p] ∧ ((SqL K H p ys ∧ ∀ l, H l = none → Q (.ref l) (upd H l (.tup ys))) ∨ (SqT K H p ys ∧ Q (.ref p) H))
theorem c_tuple : CallR X (.type "tuple") (rTupleOf X.K) := call_tuple_of
def rIsI (K : PySem.W.Frag) : List V → Hp → VK → Prop := rIsi K
theorem c_isi : CallR X (.builtin "isinstance") (rIsI X.K) := call_isi
def rEqU (K : PySem.W.Frag) : R2 := fun x y H Q => rEq x y H Q ∨ rEqD K x y H Q
def rNeU (K : PySem.W.Frag) : R2 := fun x y H Q => rNe x y H Q ∨ rNeD K x y H Q
theorem o_eq (hu : X.A.units + 64 < cLine) : OpR X (compareOp .Eq) (rEqU X.K) := OpR.or op_eq (op_eqD hu)
theorem o_ne (hu : X.A.units + 64 < cLine) : OpR X (compareOp .NotEq) (rNeU X.K) := OpR.or op_ne (op_neD hu)
end

/-! ### one step a construct -/
section
variable {K : PySem.W.Frag} {σ σ' : St} {H : Hp} {Q : VK} {D : Ends} {t u ts : TS} {te ta tb : TE} {tt tu : TT} {g : TG} {gs : TGs} {i j : Int} {n m k : Nat} {v x y : V} {vs : List V} {tas : TA} {R : St → Hp → Prop} {B : Bool → Hp → Prop} {a p : Addr} {xs ys : List V}
theorem r_seq (h : t { D with nx := u D } σ H) : tSeq t u D σ H := h
theorem r_next (h : D.nx σ H) : tNext D σ H := h
theorem r_asg (h : te σ H fun x H1 => g x σ H1 D.nx) : tAsg te g D σ H := h
theorem r_drop (h : te σ H fun _ H1 => D.nx σ H1) : tDrop te D σ H := h
theorem r_ret (h : te σ H D.rt) : tRet te D σ H := h
theorem r_retN (h : D.rt .non H) : tRetN D σ H := h
theorem r_brk (h : D.bk σ H) : tBreak D σ H := h
theorem r_cont (h : D.ct σ H) : tCont D σ H := h
theorem r_ifS (h : tt σ H fun b H1 => if b = true then t D σ H1 else u D σ H1) : tIfS tt t u D σ H := h
theorem r_name (h : R (σ.set n (some v)) H) : gName n v σ H R := h
theorem r_gtup (hx : SqT K H a xs) (hn : xs.length = n) (h : gs xs σ H R) : gTup K n gs (.ref a) σ H R := ⟨a, xs, rfl, hx, hn, h⟩
theorem r_gcons (h : g v σ H fun σ' H' => gs vs σ' H' R) : gCons g gs (v :: vs) σ H R := ⟨v, vs, rfl, h⟩
theorem r_gnil (h : R σ H) : gNil [] σ H R := ⟨rfl, h⟩
theorem r_var (e : σ[n]? = some (some v)) (h : Q v H) : tVar n σ H Q := ⟨v, e, h⟩
theorem r_c (h : Q v H) : tC v σ H Q := h
theorem r_op {r : R2} (h : ta σ H fun x H1 => tb σ H1 fun y H2 => r x y H2 Q) : tOp r ta tb σ H Q := h
theorem r_un {r : V → Hp → VK → Prop} (h : ta σ H fun x H1 => r x H1 Q) : tUn r ta σ H Q := h
theorem r_tup (h : tas σ H fun xs H1 => xs.length ≤ sizeLine ∧ ∀ p, H1 p = none → Q (.ref p) (upd H1 p (.tup xs))) : tTup tas σ H Q := h
theorem r_lst (h : tas σ H fun xs H1 => xs.length ≤ sizeLine ∧ ∀ p, H1 p = none → Q (.ref p) (upd H1 p (.lst xs))) : tLst tas σ H Q := h
theorem r_nil {Q : List V → Hp → Prop} (h : Q [] H) : tNil σ H Q := h
theorem r_cons {Q : List V → Hp → Prop} (h : ta σ H fun x H1 => tas σ H1 fun xs H2 => Q (x :: xs) H2) : tCons ta tas σ H Q := h
theorem r_cb {r : List V → Hp → VK → Prop} (h : tas σ H fun vs H1 => r vs H1 Q) : tCB r tas σ H Q := h
theorem r_call {sp : Sp} {E : XK} (h : tas σ H fun vs H1 => sp vs H1 Q E) : tCall sp [] E tas σ H Q := by
  show tas σ H fun vs H1 => sp (vs ++ []) H1 Q E
  have e : (fun (vs : List V) (H1 : Hp) => sp (vs ++ []) H1 Q E) = fun vs H1 => sp vs H1 Q E := by funext vs H1; rw [List.append_nil]
  rw [e]
  exact h
theorem r_ifE (h : tt σ H fun b H1 => if b = true then ta σ H1 Q else tb σ H1 Q) : tIf tt ta tb σ H Q := h
theorem r_test (h : te σ H fun x H' => ∃ k, x = .bl k ∧ B k H') : tTest te σ H B := h
theorem r_tB (h : te σ H fun x H' => ∃ k, x = .bl k ∧ B k H') : tB te σ H B := h
theorem r_and (h : tt σ H fun c H1 => if c = true then tu σ H1 B else B false H1) : tAnd tt tu σ H B := h
theorem r_or (h : tt σ H fun c H1 => if c = true then B true H1 else tu σ H1 B) : tOr tt tu σ H B := h
theorem r_not (h : tt σ H fun c H1 => B (!c) H1) : tNot tt σ H B := h
theorem r_andV (h : ta σ H fun x H1 => ∃ c, x = .bl c ∧ if c = true then tb σ H1 Q else Q (.bl false) H1) : tAndV ta tb σ H Q := h
theorem r_orV (h : ta σ H fun x H1 => ∃ c, x = .bl c ∧ if c = true then Q (.bl true) H1 else tb σ H1 Q) : tOrV ta tb σ H Q := h
theorem r_notV (h : ta σ H fun x H1 => ∃ c, x = .bl c ∧ Q (.bl (!c)) H1) : tNotV ta σ H Q := h
theorem r_exB {P : Bool → Prop} {b : Bool} (h : P b) : ∃ k, V.bl b = V.bl k ∧ P k := ⟨b, rfl, h⟩
/-- a test by a value's truth -/
def tTru (K : PySem.W.Frag) (ta : TE) : TT := fun σ H Q => ta σ H fun x H' => ∃ k, TruV K x H' k ∧ Q k H'
theorem r_tru (h : ta σ H fun x H' => ∃ k, TruV K x H' k ∧ B k H') : tTru K ta σ H B := h
theorem r_truB {P : Bool → Prop} {b : Bool} (h : P b) : ∃ k, TruV K (.bl b) H k ∧ P k := ⟨b, rfl, h⟩
theorem r_truI {P : Bool → Prop} (h : P (i != 0)) : ∃ k, TruV K (.int i) H k ∧ P k := ⟨_, rfl, h⟩
theorem r_truL {P : Bool → Prop} (hS : SqL K H a xs) (h : P (!xs.isEmpty)) : ∃ k, TruV K (.ref a) H k ∧ P k := ⟨_, .inl ⟨xs, hS, rfl⟩, h⟩
theorem r_truT {P : Bool → Prop} (hS : SqT K H a xs) (h : P (!xs.isEmpty)) : ∃ k, TruV K (.ref a) H k ∧ P k := ⟨_, .inr (.inl ⟨xs, hS, rfl⟩), h⟩
-- values
theorem v_add (h : Q (.int (i + j)) H) : rAdd (.int i) (.int j) H Q := ⟨i, j, rfl, rfl, h⟩
theorem v_sub (h : Q (.int (i - j)) H) : rSub (.int i) (.int j) H Q := ⟨i, j, rfl, rfl, h⟩
theorem v_lt (h : Q (.bl (decide (i < j))) H) : rLt (.int i) (.int j) H Q := ⟨i, j, rfl, rfl, h⟩
theorem v_le (h : Q (.bl (decide (i ≤ j))) H) : rLe (.int i) (.int j) H Q := ⟨i, j, rfl, rfl, h⟩
theorem v_gt (h : Q (.bl (decide (j < i))) H) : rGt (.int i) (.int j) H Q := ⟨i, j, rfl, rfl, h⟩
theorem v_ge (h : Q (.bl (decide (j ≤ i))) H) : rGe (.int i) (.int j) H Q := ⟨i, j, rfl, rfl, h⟩
theorem v_mulL (h1 : -(2 ^ 64) < i ∧ i < 2 ^ 64) (h : Q (.int (i * j)) H) : rMul (.int i) (.int j) H Q := .inl ⟨i, j, rfl, rfl, .inl h1, h⟩
theorem v_mulR (h1 : -(2 ^ 64) < j ∧ j < 2 ^ 64) (h : Q (.int (i * j)) H) : rMul (.int i) (.int j) H Q := .inl ⟨i, j, rfl, rfl, .inr h1, h⟩
theorem v_mulW (h1 : CMulW i j) (h : Q (.int (i * j)) H) : rMul (.int i) (.int j) H Q := .inr ⟨i, j, rfl, rfl, h1, h⟩
theorem v_mod (h1 : 0 < j) (h : Q (.int (i % j)) H) : rMod (.int i) (.int j) H Q := ⟨i, j, rfl, rfl, h1, h⟩
theorem v_div (h0 : 0 < j) (h1 : j < 2 ^ 200) (h : Q (.int (i / j)) H) : rDiv (.int i) (.int j) H Q := ⟨i, j, rfl, rfl, wide_div (b := 200) h0 (by omega) (by decide) (by decide), h⟩
theorem v_pow (h1 : 0 ≤ j ∧ j ≤ 1000000 ∧ i.natAbs < 2 ^ 64) (h : Q (.int (i ^ j.toNat)) H) : rPow (.int i) (.int j) H Q := ⟨i, j, rfl, rfl, h1, h⟩
theorem v_neg (h : Q (.int (-i)) H) : rNeg (.int i) H Q := ⟨i, rfl, h⟩
theorem v_int (h : Q (.int i) H) : rInt1 [.int i] H Q := .inl ⟨i, rfl, h⟩
theorem v_lenL (hS : SqL K H a xs) (h : Q (.int xs.length) H) : rLenU K [.ref a] H Q := ⟨.ref a, xs.length, rfl, .inl ⟨xs, hS, rfl⟩, h⟩
theorem v_lenT (hS : SqT K H a xs) (h : Q (.int xs.length) H) : rLenU K [.ref a] H Q := ⟨.ref a, xs.length, rfl, .inr ⟨xs, hS, rfl⟩, h⟩
theorem v_max (h : Q (.int (if j > i then j else i)) H) : rMax2 [.int i, .int j] H Q := ⟨i, j, rfl, h⟩
theorem v_min (h : Q (.int (if j < i then j else i)) H) : rMin2 [.int i, .int j] H Q := ⟨i, j, rfl, h⟩
theorem v_abs (h : Q (.int (if i < 0 then -i else i)) H) : rAbs [.int i] H Q := ⟨i, rfl, h⟩
theorem v_listL (hS : SqL K H a xs) (h : ∀ l, H l = none → Q (.ref l) (upd H l (.lst xs))) : rListOf K [.ref a] H Q := ⟨a, xs, rfl, .inl hS, h⟩
theorem v_listT (hS : SqT K H a xs) (h : ∀ l, H l = none → Q (.ref l) (upd H l (.lst xs))) : rListOf K [.ref a] H Q := ⟨a, xs, rfl, .inr hS, h⟩
theorem v_tupleL (hS : SqL K H a xs) (h : ∀ l, H l = none → Q (.ref l) (upd H l (.tup xs))) : rTupleOf K [.ref a] H Q := ⟨a, xs, rfl, .inl ⟨hS, h⟩⟩
theorem v_eq (hs : scal x y = true) (h : Q (.bl (decide (x = y))) H) : rEqU K x y H Q := .inl ⟨hs, h⟩
theorem v_ne (hs : scal x y = true) (h : Q (.bl (!decide (x = y))) H) : rNeU K x y H Q := .inl ⟨hs, h⟩
theorem v_eqI (h : Q (.bl (decide (i = j))) H) : rEqU K (.int i) (.int j) H Q := .inl ⟨rfl, by
  have e : decide (V.int i = V.int j) = decide (i = j) := by simp
  rw [e]
  exact h⟩
theorem v_neI (h : Q (.bl (!decide (i = j))) H) : rNeU K (.int i) (.int j) H Q := .inl ⟨rfl, by
  have e : decide (V.int i = V.int j) = decide (i = j) := by simp
  rw [e]
  exact h⟩
theorem v_eqB {b c : Bool} (h : Q (.bl (decide (b = c))) H) : rEqU K (.bl b) (.bl c) H Q := .inl ⟨rfl, by
  have e : decide (V.bl b = V.bl c) = decide (b = c) := by simp
  rw [e]
  exact h⟩
theorem v_eqD {d e : PyData} (hx : Dp K H x d) (hy : Dp K H y e) (s1 : SeqAt.shaped d = true) (s2 : SeqAt.shaped e = true) (h : Q (.bl (PyData.eqv d e)) H) : rEqU K x y H Q := .inr ⟨d, e, hx, hy, s1, s2, h⟩
theorem v_neD {d e : PyData} (hx : Dp K H x d) (hy : Dp K H y e) (s1 : SeqAt.shaped d = true) (s2 : SeqAt.shaped e = true) (h : Q (.bl (!PyData.eqv d e)) H) : rNeU K x y H Q := .inr ⟨d, e, hx, hy, s1, s2, h⟩
theorem v_ixL (hS : SqL K H a xs) (e : atI xs i = some v) (h : Q v H) : rIxL K (.ref a) (.int i) H Q := ⟨a, xs, i, v, rfl, rfl, hS, e, h⟩
theorem v_ixT (hS : SqT K H a xs) (e : atI xs i = some v) (h : Q v H) : rIxT K (.ref a) (.int i) H Q := ⟨a, xs, i, v, rfl, rfl, hS, e, h⟩
theorem v_setL (hp : H a = some (.lst xs)) (hj : ixN xs.length i = some n) {Q : Hp → Prop} (h : Q (upd H a (.lst (xs.set n v)))) : rSetL (.ref a) (.int i) v H Q := ⟨a, xs, i, n, rfl, rfl, hp, hj, h⟩
theorem r_gsub {to ti : TE} {ts : TSet} (h : to σ H fun o H1 => ti σ H1 fun i H2 => ts o i v H2 fun H3 => R σ H3) : gSub to ti ts v σ H R := h
theorem r_bm {T : String} {r : V → List V → Hp → VK → Prop} (h : te σ H fun x H1 => tyV K T x H1 ∧ tas σ H1 fun xs H2 => r x xs H2 Q) : tBM K T r te tas σ H Q := h
theorem v_append (hp : H a = some (.lst xs)) (hz : xs.length < sizeLine) (h : Q .non (upd H a (.lst (xs ++ [v])))) : rAppend (.ref a) [v] H Q := ⟨a, xs, v, rfl, rfl, hp, hz, h⟩
theorem ty_list (hp : SqL K H a xs) : tyV K "list" (.ref a) H := .inl ⟨rfl, xs, hp⟩
-- ways
theorem ifd {p : Prop} [Decidable p] {A B : Prop} (h1 : p → A) (h2 : ¬ p → B) : if decide p = true then A else B := by
  by_cases h : p
  · rw [if_pos (decide_eq_true h)]; exact h1 h
  · rw [if_neg (by simpa using h)]; exact h2 h
theorem ifn {p : Prop} [Decidable p] {A B : Prop} (h1 : ¬ p → A) (h2 : p → B) : if (!decide p) = true then A else B := by
  by_cases h : p
  · rw [if_neg (by simpa using h)]; exact h2 h
  · rw [if_pos (by simpa using h)]; exact h1 h
theorem ifb {b : Bool} {A B : Prop} (h1 : b = true → A) (h2 : b = false → B) : if b = true then A else B := by
  cases b with
  | true => exact h1 rfl
  | false => exact h2 rfl
end
end KV

namespace KV
open PySem PySem.Spec L2
/-! ### the built-ins' names -/
theorem bt_len : bootBuiltins "len" = some (.builtin "len") := by decide +kernel
theorem bt_max : bootBuiltins "max" = some (.builtin "max") := by decide +kernel
theorem bt_min : bootBuiltins "min" = some (.builtin "min") := by decide +kernel
theorem bt_abs : bootBuiltins "abs" = some (.builtin "abs") := by decide +kernel
theorem bt_isinstance : bootBuiltins "isinstance" = some (.builtin "isinstance") := by decide +kernel
theorem bt_sum : bootBuiltins "sum" = some (.builtin "sum") := by decide +kernel
theorem bt_all : bootBuiltins "all" = some (.builtin "all") := by decide +kernel
theorem bt_any : bootBuiltins "any" = some (.builtin "any") := by decide +kernel
theorem bt_sorted : bootBuiltins "sorted" = some (.builtin "sorted") := by decide +kernel
theorem bt_zip : bootBuiltins "zip" = some (.type "zip") := by decide +kernel
theorem bt_enumerate : bootBuiltins "enumerate" = some (.type "enumerate") := by decide +kernel
theorem bt_reversed : bootBuiltins "reversed" = some (.type "reversed") := by decide +kernel
theorem bt_ord : bootBuiltins "ord" = some (.builtin "ord") := by decide +kernel
theorem bt_chr : bootBuiltins "chr" = some (.builtin "chr") := by decide +kernel
theorem bt_int : bootBuiltins "int" = some (.type "int") := by decide +kernel
theorem bt_bool : bootBuiltins "bool" = some (.type "bool") := by decide +kernel
theorem bt_str : bootBuiltins "str" = some (.type "str") := by decide +kernel
theorem bt_list : bootBuiltins "list" = some (.type "list") := by decide +kernel
theorem bt_tuple : bootBuiltins "tuple" = some (.type "tuple") := by decide +kernel
theorem bt_dict : bootBuiltins "dict" = some (.type "dict") := by decide +kernel
theorem bt_set : bootBuiltins "set" = some (.type "set") := by decide +kernel
theorem bt_range : bootBuiltins "range" = some (.type "range") := by decide +kernel
theorem bt_float : bootBuiltins "float" = some (.type "float") := by decide +kernel
/-! ### a def that keeps a promise, called by its name -/
structure DefAt (K : PySem.W.Frag) (mg : Str → Option Value) (nm : Str) (st : Stmt) (ps : List Str) : Prop where
  ex : ∃ f fd, Fun K nm nm st f fd ∧ Binds K fd ps [] ∧ mg nm = some (.ref f)
structure Cal (P : Program) (w : World) (K : PySem.W.Frag) (mg : Str → Option Value) (base : Heap) (k : Nat) (nm : Str) (ps : List Str) (sp : Sp) : Prop where
  ex : ∃ f fd, FnOk P w K mg base CX0 k f fd ps sp ∧ Binds K fd ps [] ∧ mg nm = some (.ref f) ∧ PySem.W.keepIn K (.ref f) = true
section
variable {P : Program} {w : World} {K : PySem.W.Frag} {mg : Str → Option Value} {base : Heap}
theorem DefAt.mk' {nm : Str} {st : Stmt} {ps N : List Str} {k : Nat} {sp : Sp} (D : DefAt K mg nm st ps) (S : FnScope N ps (defScope st)) (len : ∀ vs H Q E, sp vs H Q E → vs.length = ps.length)
    (hbody : ∀ (f : Addr) (cdv : Value) (A : Around) (outer : List Env) (s : Shared) (H : Hp) (vs : List V) (Q : VK) (E : XK), Room k (A.deeper (PyProof.Rows.envOfC nm (defScope st) s.heap.objs.size f cdv)) → sp vs H Q E →
      ∃ t, PSs (cxOf CX0 P w K mg base N nm (defScope st) f cdv A outer s H E).nox (defBody st) t ∧ t { nx := fun _ H' => Q .non H', rt := Q } (start N vs) H) : Cal P w K mg base (k + 1) nm ps sp := by
  obtain ⟨f, fd, F, b, e⟩ := D.ex
  exact ⟨f, fd, F.ok S len (fun cdv A outer s H vs Q E hr h => hbody f cdv A outer s H vs Q E hr h), b, e, F.kp⟩
theorem p_cal {X : Cx} {k k' : Nat} {x : Str} {ps : List Str} {sp : Sp} {p pos : Pos} {e : Expr} {es : List Expr} {t : TA} (C : Cal X.prog X.w X.K X.mg X.base k x ps sp) (hr : Room k' X.A) (ha : PA X (e :: es) t) (hk : k ≤ k' := by decide) (hg : Gl X x := by rfl) (hx : Passes CX0 X E0 := by exact pass0)
    (hdb : (x == ("__debug__" : Str)) = false := by decide) (he : starEach (e :: es) X.env = (false, eval e X.env) :: starEach es X.env := by rfl) (hpl : (backTo pos (starEach es X.env)).any (·.1) = false := by rfl) : PE X (.Call (.Name x p) (e :: es) [] pos) (tCall sp [] E0 t) := by
  obtain ⟨f, fd, F, b, m, kp⟩ := C.ex
  exact pe_call F (hr.mono hk) hg m kp b .nil hx ha hdb he hpl
theorem p_tru {X : Cx} {a : Expr} {ta : TE} (ha : PE X a ta) (he : ∀ whole, isTrue a X.env whole = (do let v ← whole; standAt a.pos; holding [v] (truthy v))) : PT X a (tTru X.K ta) := pt_truth ha he
end

theorem v_powE {H : Hp} {Q : VK} {i j r : Int} (h1 : 0 ≤ j ∧ j ≤ 1000000 ∧ i.natAbs < 2 ^ 64) (e : i ^ j.toNat = r) (h : Q (.int r) H) : rPow (.int i) (.int j) H Q := ⟨i, j, rfl, rfl, h1, by
  show Q (.int (i ^ j.toNat)) H
  rw [e]
  exact h⟩
theorem ixn {n j : Nat} (h : j < n) : ixN n ((j : Nat) : Int) = some j := by
  unfold ixN
  rw [if_pos (by omega), if_pos (by omega)]
  simp
theorem iteNF {A B : Prop} (h : A) : if (!false) = true then A else B := h
theorem iteNT {A B : Prop} (h : B) : if (!true) = true then A else B := by
  rw [if_neg (by decide)]
  exact h
theorem szOk {n : Nat} (h : n ≤ 1000000) : n ≤ sizeLine := Nat.le_trans h (by decide)
theorem szLt {n : Nat} (h : n < 1000000) : n < sizeLine := Nat.lt_of_lt_of_le h (by decide)

/-! ### the same with the written part told (within a comprehension's block) -/
section
variable {X : Cx} {K : PySem.W.Frag}
theorem ixT_K (e : X.K = K) : IxR X (rIxT K) := e ▸ ix_tup
theorem ixL_K (e : X.K = K) : IxR X (rIxL K) := e ▸ ix_list
theorem len_K (e : X.K = K) : CallR X (.builtin "len") (rLenU K) := e ▸ c_len
theorem list_K (e : X.K = K) : CallR X (.type "list") (rListOf K) := e ▸ c_list
theorem tuple_K (e : X.K = K) : CallR X (.type "tuple") (rTupleOf K) := e ▸ c_tuple
theorem eq_K (e : X.K = K) (hu : X.A.units + 64 < cLine) : OpR X (compareOp .Eq) (rEqU K) := e ▸ o_eq hu
theorem ne_K (e : X.K = K) (hu : X.A.units + 64 < cLine) : OpR X (compareOp .NotEq) (rNeU K) := e ▸ o_ne hu
theorem isi_K (e : X.K = K) : CallR X (.builtin "isinstance") (rIsI K) := e ▸ c_isi
theorem tru_K {a : Expr} {ta : TE} (e : X.K = K) (ha : PE X a ta) (he : ∀ whole, isTrue a X.env whole = (do let v ← whole; standAt a.pos; holding [v] (truthy v))) : PT X a (tTru K ta) := e ▸ p_tru ha he
theorem gtup_K {es : List Expr} {k : Nat} {t : TGs} {n : Nat} {pos : Pos} (e : X.K = K) (hc : X.calm = true) (h : PGs X es t)
    (hn : (assignEach es X.env).length = n := by rfl) (hst : (assignEach es X.env).findIdx? (·.1) = none := by rfl) : PG X (.Tuple es k pos) (gTup K n t) := e ▸ pg_tup hc h hn hst
theorem inS_K (e : X.K = K) : OpR X (compareOp .In) (rIn K false) := e ▸ op_in_seq
theorem notInS_K (e : X.K = K) : OpR X (compareOp .NotIn) (rIn K true) := e ▸ op_notIn_seq
end

/-! ### loops -/
section
variable {K : PySem.W.Frag} {σ : L2.St} {H : Hp} {Q : VK} {D : Ends} {ts : TS} {te tl : TE} {tt : TT} {g : TG} {tas : TA} {a : Addr} {xs : List V} {x : V} {n : Int} {vs : List Nat}
def LpL (K : PySem.W.Frag) (g : TG) (ts : TS) (D : Ends) (σ : L2.St) : VK := fun x H1 => ∃ a, x = .ref a ∧ (∃ xs, SqL K H1 a xs) ∧ ∃ W : Nat → Nat → L2.St → Hp → Prop, (∃ m, W 0 m σ H1) ∧ ∀ i m σ H, W i m σ H →
  ((Itl K a).stop i H ∧ D.nx σ H) ∨ ((Itl K a).go i H ∧ ∃ N : L2.St → Hp → Prop, (∀ σ' H', N σ' H' → ∃ m', m' < m ∧ W (i + 1) m' σ' H') ∧ ∀ x H', (Itl K a).yld i H x H' → g x σ H' fun σ2 H2 => ts { D with nx := N, ct := N, bk := D.nx } σ2 H2)
theorem r_forL (h : tl σ H fun x H1 => LpL K g ts D σ x H1) : tFor (iList K tl) g ts D σ H := h
theorem lpL (hS : SqL K H a xs) (Pv : Nat → L2.St → Hp → Prop) (h0 : Pv 0 σ H) (hl : ∀ i σ H, i ≤ xs.length → Pv i σ H → SqL K H a xs)
    (hs : ∀ i x σ H, xs[i]? = some x → Pv i σ H → g x σ H fun σ2 H2 => ts { D with nx := Pv (i + 1), ct := Pv (i + 1), bk := D.nx } σ2 H2) (hd : ∀ σ H, Pv xs.length σ H → D.nx σ H) : LpL K g ts D σ (.ref a) H :=
  ⟨a, rfl, ⟨xs, hS⟩, for_list Pv h0 hl hs hd⟩
def LpT (K : PySem.W.Frag) (g : TG) (ts : TS) (D : Ends) (σ : L2.St) : VK := fun x H1 => ∃ a, x = .ref a ∧ (∃ xs, SqT K H1 a xs) ∧ ∃ W : Nat → Nat → L2.St → Hp → Prop, (∃ m, W 0 m σ H1) ∧ ∀ i m σ H, W i m σ H →
  ((Itt K a).stop i H ∧ D.nx σ H) ∨ ((Itt K a).go i H ∧ ∃ N : L2.St → Hp → Prop, (∀ σ' H', N σ' H' → ∃ m', m' < m ∧ W (i + 1) m' σ' H') ∧ ∀ x H', (Itt K a).yld i H x H' → g x σ H' fun σ2 H2 => ts { D with nx := N, ct := N, bk := D.nx } σ2 H2)
theorem r_forT (h : tl σ H fun x H1 => LpT K g ts D σ x H1) : tFor (iTup K tl) g ts D σ H := h
theorem lpT (hS : SqT K H a xs) (Pv : Nat → L2.St → Hp → Prop) (h0 : Pv 0 σ H) (hl : ∀ i σ H, i ≤ xs.length → Pv i σ H → SqT K H a xs)
    (hs : ∀ i x σ H, xs[i]? = some x → Pv i σ H → g x σ H fun σ2 H2 => ts { D with nx := Pv (i + 1), ct := Pv (i + 1), bk := D.nx } σ2 H2) (hd : ∀ σ H, Pv xs.length σ H → D.nx σ H) : LpT K g ts D σ (.ref a) H :=
  ⟨a, rfl, ⟨xs, hS⟩, for_tup Pv h0 hl hs hd⟩
def LpR (g : TG) (ts : TS) (D : Ends) (σ : L2.St) : List V → Hp → Prop := fun vs H1 => ∃ j : Int, vs = [.int j] ∧ -(2 ^ 62) ≤ j ∧ j < 2 ^ 62 ∧ ∃ W : Nat → Nat → L2.St → Hp → Prop, (∃ m, W 0 m σ H1) ∧ ∀ i m σ H, W i m σ H →
  ((Itr 0 j.toNat).stop i H ∧ D.nx σ H) ∨ ((Itr 0 j.toNat).go i H ∧ ∃ N : L2.St → Hp → Prop, (∀ σ' H', N σ' H' → ∃ m', m' < m ∧ W (i + 1) m' σ' H') ∧ ∀ x H', (Itr 0 j.toNat).yld i H x H' → g x σ H' fun σ2 H2 => ts { D with nx := N, ct := N, bk := D.nx } σ2 H2)
theorem r_forR (h : tas σ H fun vs H1 => LpR g ts D σ vs H1) : tFor (iRng1 tas) g ts D σ H := h
theorem lpR (h1 : n < 2 ^ 62) (h2 : -(2 ^ 62) ≤ n) (Pv : Nat → L2.St → Hp → Prop) (h0 : Pv 0 σ H)
    (hs : ∀ (i : Nat) σ H, (i : Int) < n → Pv i σ H → g (.int i) σ H fun σ2 H2 => ts { D with nx := Pv (i + 1), ct := Pv (i + 1), bk := D.nx } σ2 H2) (hd : ∀ σ H, Pv n.toNat σ H → D.nx σ H) : LpR g ts D σ [.int n] H :=
  ⟨n, rfl, h2, h1, for_range Pv h0 (fun i σ H hi p => by
    have e : (0 : Int) + (i : Int) = i := Int.zero_add _
    rw [e]
    exact hs i σ H (by omega) p) hd⟩

/-! ### comprehensions -/
def LcOut (J : It) (g : TG) (tt : TT) (te : TE) (vs : List Nat) (σ : L2.St) (H1 : Hp) (Q : VK) : Prop := ∀ D, H1 D = none → ∃ W : Nat → Nat → Hp → Prop, (∃ m, W 0 m (upd H1 D (.lst []))) ∧ ∀ i m H, W i m H →
  (J.stop i H ∧ Q (.ref D) H) ∨ (J.go i H ∧ ∃ Nx : Hp → Prop, (∀ H', Nx H' → ∃ m', m' < m ∧ W (i + 1) m' H') ∧ ∀ x H', J.yld i H x H' → g x (wipe σ vs) H' fun σ2 H2 => wipe σ2 vs = wipe σ vs ∧ tt σ2 H2 fun b H3 =>
    if b = true then te σ2 H3 fun y H4 => ∃ acc, H4 D = some (.lst acc) ∧ acc.length < sizeLine ∧ Nx (upd H4 D (.lst (acc ++ [y]))) else Nx H3)
def LcL (K : PySem.W.Frag) (g : TG) (tt : TT) (te : TE) (vs : List Nat) (σ : L2.St) (Q : VK) : VK := fun x H1 => ∃ a, x = .ref a ∧ (∃ xs, SqL K H1 a xs) ∧ LcOut (Itl K a) g tt te vs σ H1 Q
theorem r_lcL (h : tl σ H fun x H1 => LcL K g tt te vs σ Q x H1) : tLc (iList K tl) g tt te vs σ H Q := h
theorem lcL (hS : SqL K H a xs) (Pv : Addr → Nat → Hp → Prop) (h0 : ∀ D, H D = none → Pv D 0 (upd H D (.lst []))) (hl : ∀ D i H, i ≤ xs.length → Pv D i H → SqL K H a xs)
    (hs : ∀ D i x H, xs[i]? = some x → Pv D i H → g x (wipe σ vs) H fun σ2 H2 => wipe σ2 vs = wipe σ vs ∧ tt σ2 H2 fun b H3 =>
      if b = true then te σ2 H3 fun y H4 => ∃ acc, H4 D = some (.lst acc) ∧ acc.length < sizeLine ∧ Pv D (i + 1) (upd H4 D (.lst (acc ++ [y]))) else Pv D (i + 1) H3) (hd : ∀ D H, Pv D xs.length H → Q (.ref D) H) : LcL K g tt te vs σ Q (.ref a) H :=
  ⟨a, rfl, ⟨xs, hS⟩, fun D hD => lc_list (Pv D) (h0 D hD) (hl D) (hs D) (hd D)⟩
def LcT (K : PySem.W.Frag) (g : TG) (tt : TT) (te : TE) (vs : List Nat) (σ : L2.St) (Q : VK) : VK := fun x H1 => ∃ a, x = .ref a ∧ (∃ xs, SqT K H1 a xs) ∧ LcOut (Itt K a) g tt te vs σ H1 Q
theorem r_lcT (h : tl σ H fun x H1 => LcT K g tt te vs σ Q x H1) : tLc (iTup K tl) g tt te vs σ H Q := h
theorem lcT (hS : SqT K H a xs) (Pv : Addr → Nat → Hp → Prop) (h0 : ∀ D, H D = none → Pv D 0 (upd H D (.lst []))) (hl : ∀ D i H, i ≤ xs.length → Pv D i H → SqT K H a xs)
    (hs : ∀ D i x H, xs[i]? = some x → Pv D i H → g x (wipe σ vs) H fun σ2 H2 => wipe σ2 vs = wipe σ vs ∧ tt σ2 H2 fun b H3 =>
      if b = true then te σ2 H3 fun y H4 => ∃ acc, H4 D = some (.lst acc) ∧ acc.length < sizeLine ∧ Pv D (i + 1) (upd H4 D (.lst (acc ++ [y]))) else Pv D (i + 1) H3) (hd : ∀ D H, Pv D xs.length H → Q (.ref D) H) : LcT K g tt te vs σ Q (.ref a) H :=
  ⟨a, rfl, ⟨xs, hS⟩, fun D hD => lc_tup (Pv D) (h0 D hD) (hl D) (hs D) (hd D)⟩
def LcR (g : TG) (tt : TT) (te : TE) (vs : List Nat) (σ : L2.St) (Q : VK) : List V → Hp → Prop := fun us H1 => ∃ j : Int, us = [.int j] ∧ -(2 ^ 62) ≤ j ∧ j < 2 ^ 62 ∧ LcOut (Itr 0 j.toNat) g tt te vs σ H1 Q
theorem r_lcR (h : tas σ H fun us H1 => LcR g tt te vs σ Q us H1) : tLc (iRng1 tas) g tt te vs σ H Q := h
theorem lcR (h1 : n < 2 ^ 62) (h2 : -(2 ^ 62) ≤ n) (Pv : Addr → Nat → Hp → Prop) (h0 : ∀ D, H D = none → Pv D 0 (upd H D (.lst [])))
    (hs : ∀ D (i : Nat) H, (i : Int) < n → Pv D i H → g (.int i) (wipe σ vs) H fun σ2 H2 => wipe σ2 vs = wipe σ vs ∧ tt σ2 H2 fun b H3 =>
      if b = true then te σ2 H3 fun y H4 => ∃ acc, H4 D = some (.lst acc) ∧ acc.length < sizeLine ∧ Pv D (i + 1) (upd H4 D (.lst (acc ++ [y]))) else Pv D (i + 1) H3) (hd : ∀ D H, Pv D n.toNat H → Q (.ref D) H) : LcR g tt te vs σ Q [.int n] H :=
  ⟨n, rfl, h2, h1, fun D hD => lc_range (lo := 0) (Pv D) (h0 D hD) (fun i H hi p => by
    have e : (0 : Int) + (i : Int) = i := Int.zero_add _
    rw [e]
    exact hs D i H (by omega) p) (hd D)⟩
theorem r_cut {t u : TS} (Mid : L2.St → Hp → Prop) (h1 : t { D with nx := Mid } σ H) (h2 : ∀ σ' H', Mid σ' H' → u D σ' H') : Evl.tCut t u D σ H := ⟨Mid, h1, h2⟩
theorem r_bmL {xs : List V} {B : Prop} (e : H a = some (.lst xs)) (h : B) : tyV K "list" (.ref a) H ∧ B := ⟨ty_list (SqL.of e), h⟩
theorem r_slice {r : V → Option Int → Option Int → Hp → VK → Prop} {tl th : TO} (h : te σ H fun x H1 => tl σ H1 fun l H2 => th σ H2 fun u H3 => r x l u H3 Q) : tSl r te tl th σ H Q := h
theorem r_noP {Q : Option Int → Hp → Prop} (h : Q none H) : tNoPart σ H Q := h
theorem r_part {Q : Option Int → Hp → Prop} (h : te σ H fun x H1 => ∃ i, x = .int i ∧ Q (some i) H1) : tPart te σ H Q := h
theorem r_exI {P : Int → Prop} {i : Int} (h : P i) : ∃ k, V.int i = V.int k ∧ P k := ⟨i, rfl, h⟩
theorem v_slL {lo hi : Option Int} (hS : SqL K H a xs) (h : ∀ p, H p = none → Q (.ref p) (upd H p (.lst (cutV xs lo hi)))) : rSlL K (.ref a) lo hi H Q := ⟨a, xs, rfl, hS, h⟩
theorem r_lstRg {te : L2.St → Hp → (Int → Int → Hp → Prop) → Prop} (h : te σ H fun a b H1 => RgOk a b ∧ ∀ q, H1 q = none → Q (.ref q) (upd H1 q (.lst (rgV a b)))) : tLstRg te σ H Q := h
theorem r_rg1 {B : Int → Int → Hp → Prop} (h : te σ H fun x H1 => ∃ n, x = .int n ∧ B 0 n H1) : tRg1 te σ H B := h
theorem v_notIn {b : Bool} (hS : SqL K H a xs) (hx : flatV x = true) (hf : xs.all flatV = true) (h : Q (.bl (!inV x xs)) H) : rIn K true x (.ref a) H Q := ⟨a, xs, rfl, .inl hS, hx, hf, h⟩
theorem v_in {b : Bool} (hS : SqL K H a xs) (hx : flatV x = true) (hf : xs.all flatV = true) (h : Q (.bl (inV x xs)) H) : rIn K false x (.ref a) H Q := ⟨a, xs, rfl, .inl hS, hx, hf, h⟩
theorem rgV_ints (n : Int) : rgV 0 n = ((List.range n.toNat).map fun (i : Nat) => ((i : Nat) : Int)).map V.int := by
  unfold rgV
  rw [List.map_map, Int.sub_zero]
  refine List.map_congr_left fun i _ => ?_
  show V.int (0 + (i : Int)) = V.int i
  rw [Int.zero_add]
theorem r_yes {B : Bool → Hp → Prop} (h : B true H) : tYes σ H B := h
end

/-! ### shapes of data -/
theorem layAll {ds : List PyData} (h : ∀ d ∈ ds, d.canLay0 = true) : PyData.canLayAll0 ds = true := by
  induction ds with
  | nil => simp [PyData.canLayAll0]
  | cons d r ih => rw [PyData.canLayAll0, h d (by simp), ih fun e he => h e (by simp [he])]; rfl
theorem depthAll_le {ds : List PyData} {n : Nat} (h : ∀ d ∈ ds, d.depth ≤ n) : PyData.depthAll ds ≤ n := by
  induction ds with
  | nil => simp [PyData.depthAll]
  | cons d r ih =>
    rw [PyData.depthAll]
    exact Nat.max_le.mpr ⟨h d (by simp), ih fun e he => h e (by simp [he])⟩
theorem shapedL {ds : List PyData} {n : Nat} (h : ∀ d ∈ ds, d.canLay0 = true ∧ d.depth ≤ n) (hn : n < 64) : SeqAt.shaped (.list ds) = true := by
  unfold SeqAt.shaped
  rw [PyData.canLay0, layAll fun d hd => (h d hd).1, PyData.depth]
  have := depthAll_le (n := n) fun d hd => (h d hd).2
  simp
  omega
theorem shapedT {ds : List PyData} {n : Nat} (h : ∀ d ∈ ds, d.canLay0 = true ∧ d.depth ≤ n) (hn : n < 64) : SeqAt.shaped (.tuple ds) = true := by
  unfold SeqAt.shaped
  rw [PyData.canLay0, layAll fun d hd => (h d hd).1, PyData.depth]
  have := depthAll_le (n := n) fun d hd => (h d hd).2
  simp
  omega
theorem eqv_nil (ds : List PyData) : PyData.eqv (.list ds) (.list []) = ds.isEmpty := by cases ds <;> simp [PyData.eqv, PyData.eqvAll]
theorem eqv_nilT (ds : List PyData) : PyData.eqv (.tuple ds) (.tuple []) = ds.isEmpty := by cases ds <;> simp [PyData.eqv, PyData.eqvAll]
theorem dpAll_map {α : Type} {K : PySem.W.Frag} {H : Hp} (f : α → V) (g : α → PyData) : ∀ {xs : List α}, (∀ x ∈ xs, Dp K H (f x) (g x)) → DpAll K H (xs.map f) (xs.map g)
  | [], _ => .nil
  | x :: r, h => .cons (h x (by simp)) (dpAll_map f g fun y hy => h y (by simp [hy]))

/-! ### sorting of data -/
section
variable {X : Cx}
def rSortD (K : PySem.W.Frag) : List V → Hp → VK → Prop := fun xs H Q => ∃ (β : Type) (bs : List β) (val : β → V) (enc : β → PyData) (a : Addr), xs = [.ref a] ∧ SqL K H a (bs.map val) ∧ (∀ b ∈ bs, Dp K H (val b) (enc b)) ∧
  PySem.W.AllAlike (bs.map enc) ∧ PySem.W.Sortable (bs.map enc) ∧ (∀ b ∈ bs, (enc b).depth ≤ 50) ∧ ∀ p, H p = none → Q (.ref p) (upd H p (.lst ((bs.mergeSort (PySem.W.dataLe false enc)).map val)))
theorem vals_each {β : Type} {val : β → V} : ∀ {us : List Value} {bs : List β}, PySem.W.EachIs (fun v b => RelV (val b) v) us bs → Vals (bs.map val) us
  | _, _, .nil => .nil
  | _, _, .cons h t => .cons h (vals_each t)
theorem each_vals {β : Type} {val : β → V} : ∀ {us : List Value} {bs : List β}, Vals (bs.map val) us → PySem.W.EachIs (fun v b => RelV (val b) v) us bs
  | [], [], _ => .nil
  | _ :: _, [], h => by cases h
  | [], _ :: _, h => by cases h
  | u :: us, b :: bs, h => by
    cases h with
    | cons h1 h2 => exact .cons h1 (each_vals h2)
theorem each_reads {β : Type} {val : β → V} {enc : β → PyData} {h : Heap} : ∀ {us : List Value} {bs : List β}, Vals (bs.map val) us → (∀ b ∈ bs, ∀ u, RelV (val b) u → ∃ as, Reads h u (enc b) as) → PySem.W.EachIs (fun v b => ∃ as, Reads h v (enc b) as) us bs
  | [], [], _, _ => .nil
  | _ :: _, [], h, _ => by cases h
  | [], _ :: _, h, _ => by cases h
  | u :: us, b :: bs, h, f => by
    cases h with
    | cons h1 h2 => exact .cons (f b (by simp) u h1) (each_reads h2 fun c hc => f c (by simp [hc]))
theorem c_sortD (hu : X.A.units + 100 < cLine) : CallR X (.builtin "sorted") (rSortD X.K) := by
  intro pins s σ H xs us Q I r h
  obtain ⟨β, bs, val, enc, a, rfl, hS, hD, hal, hk, hd, q⟩ := h
  obtain ⟨its, rv, hl, hz⟩ := I.list hS
  rw [Vals.ref1 r]
  have hlen : bs.length ≤ sizeLine := by rw [List.length_map] at hz; exact hz
  refine PySem.W.sorted_data (β := β) (enc := enc) (R := fun v b => RelV (val b) v) hl.isList (each_vals rv) (each_reads rv fun b hb u ru => Dp.reads I _ _ _ (hD b hb) ru) hal hk hlen (fun b hb => by have := hd b hb; omega) fun out ho eo => ?_
  obtain ⟨ep, he'⟩ := PyProof.Rows.sortedAll_at s.heap its (List.toArray out)
  have hlen2 : ((bs.mergeSort (PySem.W.dataLe false enc)).map val).length ≤ sizeLine := by rw [List.length_map, List.length_mergeSort]; exact hlen
  exact ⟨.ref _, upd H (s.heap.objs.size + 1) (.lst ((bs.mergeSort (PySem.W.dataLe false enc)).map val)), I.laid (t' := s.toks) (fun _ _ => PyProof.Rows.sortedAll_old) (Nat.le_succ _) ⟨hlen2, out, ep, vals_each eo, he'⟩, rfl, q _ (I.hok.fresh (Nat.le_succ _))⟩
end
theorem c_sortR {X : Cx} {k : Nat} (hr : Room k X.A) : CallR X (.builtin "sorted") (rSortD X.K) := c_sortD (by have := hr.un; omega)
theorem sort_K {X : Cx} {K : PySem.W.Frag} {k : Nat} (e : X.K = K) (hr : Room k X.A) : CallR X (.builtin "sorted") (rSortD K) := e ▸ c_sortR hr
section
variable {K : PySem.W.Frag} {H : Hp} {Q : VK} {a b : Addr} {xs ys : List V} {v : V} {i : Int} {p : Addr}
theorem v_cat (h1 : H a = some (.lst xs)) (h2 : H b = some (.lst ys)) (hz : xs.length + ys.length ≤ sizeLine) (h : ∀ p, H p = none → Q (.ref p) (upd H p (.lst (xs ++ ys)))) : rCat (.ref a) (.ref b) H Q := ⟨a, b, xs, ys, rfl, rfl, h1, h2, hz, h⟩
theorem v_sort {β : Type} (bs : List β) (val : β → V) (enc : β → PyData) (hS : SqL K H a (bs.map val)) (hD : ∀ b ∈ bs, Dp K H (val b) (enc b)) (hal : PySem.W.AllAlike (bs.map enc)) (hk : PySem.W.Sortable (bs.map enc)) (hd : ∀ b ∈ bs, (enc b).depth ≤ 50)
    (h : ∀ p, H p = none → Q (.ref p) (upd H p (.lst ((bs.mergeSort (PySem.W.dataLe false enc)).map val)))) : rSortD K [.ref a] H Q := ⟨β, bs, val, enc, a, rfl, hS, hD, hal, hk, hd, h⟩
/-- isinstance with a built-in class -/
theorem v_isi {t : Value} {n : String} {r : Bool} (ty : TyX K H v t) (e : PySem.W.kitOne K t (.type n) = some r) (h : Q (.bl r) H) : rIsI K [v, .ty n] H Q := ⟨v, .ty n, t, .type n, r, rfl, .ty n, ty, e, h⟩
end
end KV

namespace K18
/-! ### the mathematics: cells by places -/
abbrev Ce := Nat × Int × Int
def lastLe (cs : List Ce) (w : Int) (q : Int) : Int := cs.foldl (fun w p => if p.2.1 ≤ q then p.2.2 else w) w
def vAt : List Ce → Int → Int → Int
  | [], _, w => w
  | p :: r, q, w => if q < p.2.1 then w else vAt r q p.2.2
def due (len : Int) (cs : List Ce) (q : Int) : Int := if q < 0 ∨ len ≤ q then 0 else lastLe cs 0 q
def cellV (len : Int) (cs : List Ce) (q : Int) : Int := if q < 0 ∨ len ≤ q then 0 else vAt cs q 0
def Asc (cs : List Ce) : Prop := cs.Pairwise fun p r => p.2.1 < r.2.1
def AscW (cs : List Ce) : Prop := cs.Pairwise fun p r => p.2.1 ≤ r.2.1
theorem Asc.w {cs : List Ce} (h : Asc cs) : AscW cs := List.Pairwise.imp (fun h => Int.le_of_lt h) h
theorem lastLe_none {q : Int} : ∀ (cs : List Ce) (w : Int), (∀ p ∈ cs, q < p.2.1) → lastLe cs w q = w
  | [], _, _ => rfl
  | p :: r, w, h => by
    have h1 := h p (by simp)
    show lastLe r (if p.2.1 ≤ q then p.2.2 else w) q = w
    rw [if_neg (by omega)]
    exact lastLe_none r w fun e he => h e (by simp [he])
theorem vAt_eq {q : Int} : ∀ (cs : List Ce) (w : Int), AscW cs → vAt cs q w = lastLe cs w q
  | [], _, _ => rfl
  | p :: r, w, h => by
    have hr := List.pairwise_cons.mp h
    show (if q < p.2.1 then w else vAt r q p.2.2) = lastLe r (if p.2.1 ≤ q then p.2.2 else w) q
    by_cases hq : q < p.2.1
    · rw [if_pos hq, if_neg (by omega)]
      exact (lastLe_none r w fun e he => Int.lt_of_lt_of_le hq (hr.1 e he)).symm
    · rw [if_neg hq, if_pos (by omega)]
      exact vAt_eq r _ hr.2
theorem lastLe_max {q : Int} : ∀ (cs : List Ce) (w : Int), AscW cs → ((∀ p ∈ cs, q < p.2.1) ∧ lastLe cs w q = w) ∨ ∃ p ∈ cs, lastLe cs w q = p.2.2 ∧ p.2.1 ≤ q ∧ ∀ e ∈ cs, e.2.1 ≤ q → e.2.1 ≤ p.2.1
  | [], w, _ => .inl ⟨fun _ h => (nomatch h), rfl⟩
  | p :: r, w, h => by
    have hr := List.pairwise_cons.mp h
    by_cases hq : p.2.1 ≤ q
    · have e : lastLe (p :: r) w q = lastLe r p.2.2 q := by
        show lastLe r (if p.2.1 ≤ q then p.2.2 else w) q = _
        rw [if_pos hq]
      rw [e]
      rcases lastLe_max r p.2.2 hr.2 with ⟨h1, h2⟩ | ⟨x, hx, h2, h3, h4⟩
      · refine .inr ⟨p, by simp, h2, hq, fun y hy hyq => ?_⟩
        rcases List.mem_cons.mp hy with rfl | hy
        · exact Int.le_refl _
        · exact absurd hyq (by have := h1 y hy; omega)
      · refine .inr ⟨x, by simp [hx], h2, h3, fun y hy hyq => ?_⟩
        rcases List.mem_cons.mp hy with rfl | hy
        · exact hr.1 x hx
        · exact h4 y hy hyq
    · refine .inl ?_
      have a : ∀ e ∈ p :: r, q < e.2.1 := fun e he => by
        rcases List.mem_cons.mp he with rfl | he
        · omega
        · have := hr.1 e he; omega
      exact ⟨a, lastLe_none _ _ a⟩
theorem lastLe_congr {q q' : Int} : ∀ (cs : List Ce) (w : Int), (∀ e ∈ cs, (e.2.1 ≤ q ↔ e.2.1 ≤ q')) → lastLe cs w q = lastLe cs w q'
  | [], _, _ => rfl
  | p :: r, w, h => by
    have h1 := h p (by simp)
    show lastLe r (if p.2.1 ≤ q then p.2.2 else w) q = lastLe r (if p.2.1 ≤ q' then p.2.2 else w) q'
    have e : (if p.2.1 ≤ q then p.2.2 else w) = if p.2.1 ≤ q' then p.2.2 else w := by
      by_cases hq : p.2.1 ≤ q
      · rw [if_pos hq, if_pos (h1.mp hq)]
      · rw [if_neg hq, if_neg fun z => hq (h1.mpr z)]
    rw [e]
    exact lastLe_congr r _ fun e he => h e (by simp [he])
theorem asc_one {cs : List Ce} (h : Asc cs) : ∀ {p r : Ce}, p ∈ cs → r ∈ cs → p.2.1 = r.2.1 → p = r := by
  induction cs with
  | nil => intro p r hp; cases hp
  | cons x l ih =>
    have hr := List.pairwise_cons.mp h
    intro p r hp hr' e
    rcases List.mem_cons.mp hp with h1 | h1 <;> rcases List.mem_cons.mp hr' with h2 | h2
    · rw [h1, h2]
    · rw [h1] at e; have := hr.1 r h2; omega
    · rw [h2] at e; have := hr.1 p h1; omega
    · exact ih hr.2 h1 h2 e
theorem lastLe_own {cs : List Ce} (h : Asc cs) {p : Ce} (hp : p ∈ cs) : lastLe cs 0 p.2.1 = p.2.2 := by
  rcases lastLe_max cs 0 h.w (q := p.2.1) with ⟨h1, _⟩ | ⟨x, hx, h2, h3, h4⟩
  · have := h1 p hp; omega
  · have h5 := h4 p hp (Int.le_refl _)
    have e := asc_one h hx hp (by omega)
    rw [h2, e]
/-- further cells that keep the value -/
theorem more_ok {cs ds : List Ce} {len q : Int} (hc : Asc cs) (hd : AscW ds) (hin : ∀ p ∈ cs, ∃ r ∈ ds, r.2 = p.2) (hv : ∀ r ∈ ds, r.2.2 = lastLe cs 0 r.2.1) : lastLe ds 0 q = lastLe cs 0 q := by
  rcases lastLe_max ds 0 hd (q := q) with ⟨h1, h2⟩ | ⟨x, hx, h2, h3, h4⟩
  · rw [h2]
    refine (lastLe_none cs 0 fun p hp => ?_).symm
    obtain ⟨r, hr, e⟩ := hin p hp
    have := h1 r hr
    rw [e] at this
    exact this
  · rw [h2, hv x hx]
    refine lastLe_congr cs 0 fun e he => ⟨fun z => by omega, fun z => ?_⟩
    obtain ⟨r, hr, e'⟩ := hin e he
    have := h4 r hr (by rw [e']; exact z)
    rw [e'] at this
    exact this
theorem lastLe_snoc (cs : List Ce) (p : Ce) (w q : Int) : lastLe (cs ++ [p]) w q = if p.2.1 ≤ q then p.2.2 else lastLe cs w q := by
  unfold lastLe
  rw [List.foldl_append]
  rfl
/-- one step of leaving out -/
def lessS (acc : List Ce) (p : Ce) : List Ce := if acc = [] ∨ (acc.getLast?.map (·.2.2)) ≠ some p.2.2 then acc ++ [p] else acc
theorem lessS_ok {acc cs : List Ce} {p : Ce} (h1 : ∀ q, lastLe acc 0 q = lastLe cs 0 q) (hs : ∀ e ∈ acc, e ∈ cs) (ha : AscW (cs ++ [p])) (hw : AscW acc) :
    (∀ q, lastLe (lessS acc p) 0 q = lastLe (cs ++ [p]) 0 q) ∧ (∀ e ∈ lessS acc p, e ∈ cs ++ [p]) ∧ AscW (lessS acc p) := by
  have hp : ∀ e ∈ acc, e.2.1 ≤ p.2.1 := fun e he => (List.pairwise_append.mp ha).2.2 e (hs e he) p (by simp)
  unfold lessS
  split
  · refine ⟨fun q => by rw [lastLe_snoc, lastLe_snoc, h1], fun e he => ?_, ?_⟩
    · rcases List.mem_append.mp he with h | h
      · exact List.mem_append_left _ (hs e h)
      · exact List.mem_append_right _ h
    · refine List.pairwise_append.mpr ⟨hw, List.pairwise_singleton _ _, fun e he r hr => ?_⟩
      rw [List.mem_singleton.mp hr]
      exact hp e he
  · rename_i h
    have hne : acc ≠ [] := fun z => h (.inl z)
    have hl : (acc.getLast?.map (·.2.2)) = some p.2.2 := Classical.byContradiction fun z => h (.inr z)
    refine ⟨fun q => ?_, fun e he => List.mem_append_left _ (hs e he), hw⟩
    rw [lastLe_snoc, ← h1]
    by_cases hq : p.2.1 ≤ q
    · rw [if_pos hq]
      obtain ⟨ys, y, rfl⟩ : ∃ ys y, acc = ys ++ [y] := ⟨acc.dropLast, acc.getLast hne, (List.dropLast_concat_getLast hne).symm⟩
      rw [List.getLast?_concat] at hl
      have hy : y.2.2 = p.2.2 := Option.some.inj hl
      rw [lastLe_snoc, if_pos (Int.le_trans (hp y (by simp)) hq), hy]
    · rw [if_neg hq]
end K18

namespace K18
open PySem PySem.Spec L2 KV
local macro_rules | `(tactic| walk_at "side") => `(tactic| first | assumption | omega | decide)
local macro_rules | `(tactic| walk_at "at") => `(tactic| first | assumption | exact upd_same | (rw [upd_ne (by assumption)]; assumption))
local macro_rules | `(tactic| walk_at "st") => `(tactic| first
  | with_reducible refine r_seq ?_ | with_reducible refine r_asg ?_ | with_reducible refine r_ret ?_ | with_reducible refine r_ifS ?_ | with_reducible refine r_drop ?_
  | ((with_reducible refine r_var (v := ?v) ?e ?_); (case e => exact rfl))
  | with_reducible refine r_c ?_ | with_reducible refine r_op ?_ | with_reducible refine r_un ?_ | with_reducible refine r_name ?_ | with_reducible refine r_next ?_ | with_reducible refine r_brk ?_ | with_reducible refine r_cont ?_
  | with_reducible refine r_cb ?_ | with_reducible refine r_cons ?_ | with_reducible refine r_nil ?_ | with_reducible refine r_call ?_ | with_reducible refine r_test ?_ | with_reducible refine r_tru ?_ | with_reducible refine r_tB ?_
  | with_reducible refine r_exB ?_ | with_reducible refine r_truB ?_ | with_reducible refine r_truI ?_ | with_reducible refine r_and ?_ | with_reducible refine r_or ?_ | with_reducible refine r_not ?_ | with_reducible refine r_ifE ?_
  | with_reducible refine r_andV ?_ | with_reducible refine r_orV ?_ | with_reducible refine r_notV ?_ | with_reducible refine r_gsub ?_ | with_reducible refine r_tup ?_ | with_reducible refine r_lst ?_
  | with_reducible refine r_forL ?_ | with_reducible refine r_forT ?_ | with_reducible refine r_forR ?_ | with_reducible refine r_lcL ?_ | with_reducible refine r_lcT ?_ | with_reducible refine r_lcR ?_ | with_reducible refine r_yes ?_
  | with_reducible refine v_add ?_ | with_reducible refine v_sub ?_ | with_reducible refine v_lt ?_ | with_reducible refine v_le ?_ | with_reducible refine v_gt ?_ | with_reducible refine v_ge ?_ | with_reducible refine v_neg ?_
  | with_reducible refine v_eqI ?_ | with_reducible refine v_neI ?_ | with_reducible refine v_eqB ?_ | with_reducible refine v_int ?_ | with_reducible refine v_max ?_ | with_reducible refine v_min ?_ | with_reducible refine v_abs ?_
  | ((with_reducible refine v_mulL ?s ?_); (case s => walk_at "side"))
  | ((with_reducible refine v_mulR ?s ?_); (case s => walk_at "side"))
  | ((with_reducible refine v_mod ?s ?_); (case s => walk_at "side"))
  | ((with_reducible refine v_div ?s ?t ?_); (case s => walk_at "side"); (case t => walk_at "side"))
  | ((with_reducible refine v_powE (r := ?r) ?s ?e ?_); (case s => exact (by decide)); (case e => (conv => lhs; simp only [Int.reduceToNat, Int.reducePow])))
  | ((with_reducible refine v_ixL (xs := ?xs) (v := ?v) (SqL.of ?s) ?t ?_); (case s => walk_at "at"); (case t => exact rfl))
  | ((with_reducible refine v_ixT (xs := ?xs) (v := ?v) (SqT.of ?s) ?t ?_); (case s => walk_at "at"); (case t => exact rfl))
  | with_reducible refine r_gcons ?_ | with_reducible refine r_gnil ?_ | with_reducible refine r_slice ?_ | with_reducible refine r_noP ?_ | with_reducible refine r_part ?_ | with_reducible refine r_exI ?_ | with_reducible refine r_lstRg ?_ | with_reducible refine r_rg1 ?_ | with_reducible refine iteT ?_ | with_reducible refine iteF ?_ | with_reducible refine iteNF ?_ | with_reducible refine iteNT ?_
  | with_reducible refine r_bm ?_ | ((with_reducible refine r_bmL (xs := ?xs) ?s ?_); (case s => walk_at "at"))
  | ((with_reducible refine v_lenL (xs := ?xs) (SqL.of ?s) ?_); (case s => walk_at "at"))
  | ((with_reducible refine v_setL (xs := ?xs) (n := ?n) ?s ?t ?_); (case s => walk_at "at"); (case t => exact rfl)))
local macro_rules | `(tactic| walk_at "go") => `(tactic| repeat walk_at "st")

def topS (i : Nat) : Stmt := PySem.Challenge.pw_kindvow_k18_cells_of_step_arrays.main.body.getD i (.Pass ⟨0, 0, 0, 0⟩)
abbrev s_value_at : Stmt := topS 1
theorem sc_value_at : FnScope ["cells", "position", "found", "place", "value"] ["cells", "position"] (defScope s_value_at) := ⟨rfl, rfl, rfl, by decide +kernel, rfl, by decide +kernel, by decide +kernel⟩
abbrev s_cell : Stmt := topS 3
theorem sc_cell : FnScope ["array", "position"] ["array", "position"] (defScope s_cell) := ⟨rfl, rfl, rfl, by decide +kernel, rfl, by decide +kernel, by decide +kernel⟩
abbrev s_box : Stmt := topS 5
theorem sc_box : FnScope ["script", "number"] ["script"] (defScope s_box) := ⟨rfl, rfl, rfl, by decide +kernel, rfl, by decide +kernel, by decide +kernel⟩
abbrev s_take : Stmt := topS 6
theorem sc_take : FnScope ["box", "size", "number", "digit", "mixed"] ["box", "size"] (defScope s_take) := ⟨rfl, rfl, rfl, by decide +kernel, rfl, by decide +kernel, by decide +kernel⟩
abbrev s_number : Stmt := topS 7
theorem sc_number : FnScope ["box", "worth"] ["box"] (defScope s_number) := ⟨rfl, rfl, rfl, by decide +kernel, rfl, by decide +kernel, by decide +kernel⟩
abbrev s_gap : Stmt := topS 8
theorem sc_gap : FnScope ["box"] ["box"] (defScope s_gap) := ⟨rfl, rfl, rfl, by decide +kernel, rfl, by decide +kernel, by decide +kernel⟩
abbrev s_cells : Stmt := topS 9
theorem sc_cells : FnScope ["box", "many", "cells", "place", "turn", "worth"] ["box", "many"] (defScope s_cells) := ⟨rfl, rfl, rfl, by decide +kernel, rfl, by decide +kernel, by decide +kernel⟩
abbrev s_array : Stmt := topS 10
theorem sc_array : FnScope ["box", "full", "many", "cells", "length"] ["box", "full"] (defScope s_array) := ⟨rfl, rfl, rfl, by decide +kernel, rfl, by decide +kernel, by decide +kernel⟩
abbrev s_due : Stmt := topS 11
theorem sc_due : FnScope ["array", "place", "worth", "pair"] ["array", "place"] (defScope s_due) := ⟨rfl, rfl, rfl, by decide +kernel, rfl, by decide +kernel, by decide +kernel⟩
abbrev s_more : Stmt := topS 12
theorem sc_more : FnScope ["box", "array", "cells", "turn", "place", "pair"] ["box", "array"] (defScope s_more) := ⟨rfl, rfl, rfl, by decide +kernel, rfl, by decide +kernel, by decide +kernel⟩
abbrev s_less : Stmt := topS 13
theorem sc_less : FnScope ["array", "cells", "pair"] ["array"] (defScope s_less) := ⟨rfl, rfl, rfl, by decide +kernel, rfl, by decide +kernel, by decide +kernel⟩
abbrev s_places : Stmt := topS 14
theorem sc_places : FnScope ["box", "array", "length", "places", "pair", "turn"] ["box", "array"] (defScope s_places) := ⟨rfl, rfl, rfl, by decide +kernel, rfl, by decide +kernel, by decide +kernel⟩
abbrev s_ways : Stmt := topS 15
theorem sc_ways : FnScope ["box", "array", "ways", "cells"] ["box", "array"] (defScope s_ways) := ⟨rfl, rfl, rfl, by decide +kernel, rfl, by decide +kernel, by decide +kernel⟩
abbrev s_right : Stmt := topS 16
theorem sc_right : FnScope ["told", "due"] ["told", "due"] (defScope s_right) := ⟨rfl, rfl, rfl, by decide +kernel, rfl, by decide +kernel, by decide +kernel⟩
abbrev s_law : Stmt := topS 17
theorem sc_law : FnScope ["script", "box", "first", "second", "first_ways", "second_ways", "places", "place", "way"] ["script"] (defScope s_law) := ⟨rfl, rfl, rfl, by decide +kernel, rfl, by decide +kernel, by decide +kernel⟩
structure Bt (mg : Str → Option Value) : Prop where
  m_len : mg "len" = none
  m_int : mg "int" = none
  m_range : mg "range" = none
  m_list : mg "list" = none
  m_tuple : mg "tuple" = none
  m_max : mg "max" = none
  m_min : mg "min" = none
  m_sorted : mg "sorted" = none
  m_isinstance : mg "isinstance" = none
  m_bool : mg "bool" = none
/-- the box of draws at b -/
def BoxAt (H : Hp) (b l : Addr) : Prop := ∃ (ns : List Int) (i d s t : Int), H b = some (.lst [.ref l, .int i, .int d, .int s, .int t]) ∧ H l = some (.lst (ns.map V.int)) ∧ l ≠ b ∧ 0 ≤ i ∧ 0 ≤ d ∧ 0 ≤ s ∧ s < 2147483647
def spTake : Sp := fun vs H Q _ => ∃ (b l : Addr) (n : Int), vs = [.ref b, .int n] ∧ BoxAt H b l ∧ 0 < n ∧ n < 2 ^ 200 ∧ ∀ (r : Int) (H' : Hp), 0 ≤ r → r < n → BoxAt H' b l → Kp [b] H H' → Q (.int r) H'
section
variable {P : Program} {w : World} {K : PySem.W.Frag} {mg : Str → Option Value} {base : Heap}
theorem ok_take (D : DefAt K mg "_law_take" s_take ["box", "size"]) (T : Bt mg) : Cal P w K mg base 1 "_law_take" ["box", "size"] spTake := by
  refine D.mk' sc_take (fun vs H Q E h => ?_) (fun f cdv A outer s H vs Q E hr h => ?_)
  · obtain ⟨b, l, n, rfl, _⟩ := h
    rfl
  · obtain ⟨b, l, n, rfl, ⟨ns, i, d, z, t, hB, hL, nl, i0, d0, z0, z1⟩, n0, n1, q⟩ := h
    refine ⟨_, (Evl.pss_cut (ps_if (PW.pt (pw_and (pt_cmpR (o_eq hr.units) (pe_ix ix_list (pv 0) pe_int (fun _ _ => rfl)) pe_int (nomark _)) (pw_and1 (pt_cmpR o_lt (pe_ix ix_list (pv 0) pe_int (fun _ _ => rfl)) (pe_callB c_len (by rfl) T.m_len bt_len (pa_cons (pe_ix ix_list (pv 0) pe_int (fun _ _ => rfl)) pa_nil)) (nomark _))))) (pss_cons (ps_set (i := 2) sc_take.nd rfl (Or.inl rfl) (pe_ix ix_list (pe_ix ix_list (pv 0) pe_int (fun _ _ => rfl)) (pe_ix ix_list (pv 0) pe_int (fun _ _ => rfl)) (fun _ _ => rfl)))
      (pss_cons (ps_asg (pe_op o_add (pe_ix ix_list (pv 0) pe_int (fun _ _ => rfl)) pe_int) (pg_sub (pv 0) pe_int set_list))
      (Evl.pss_cut (ps_if (pt_cmpR o_ge (pv 2) (pe_op o_pow pe_int pe_int) (nomark _)) (pss_one (ps_asg (pe_op o_mod (pe_callTy c_int (by rfl) T.m_int bt_int (pa_cons (pv 2) pa_nil)) (pe_op o_mul (pe_op o_mul (pe_op o_mul (pe_op o_pow pe_int pe_int) (pe_op o_pow pe_int pe_int)) (pe_op o_pow pe_int pe_int)) (pe_op o_pow pe_int pe_int))) (pg_sub (pv 0) pe_int set_list))) pss_nil)
      (pss_one (ps_asg (pe_op o_mod (pe_op o_add (pe_op o_add (pe_op o_mul (pe_callTy c_int (by rfl) T.m_int bt_int (pa_cons (pe_ix ix_list (pv 0) pe_int (fun _ _ => rfl)) pa_nil)) pe_int) (pe_op o_mod (pe_callTy c_int (by rfl) T.m_int bt_int (pa_cons (pv 2) pa_nil)) pe_int)) pe_int) pe_int) (pg_sub (pv 0) pe_int set_list)))))) pss_nil)
      (pss_cons (ps_asg (pe_op o_add (pe_ix ix_list (pv 0) pe_int (fun _ _ => rfl)) pe_int) (pg_sub (pv 0) pe_int set_list))
      (pss_cons (ps_if (pt_cmpR o_gt (pe_ix ix_list (pv 0) pe_int (fun _ _ => rfl)) pe_int (nomark _)) (pss_cons (ps_set (i := 3) sc_take.nd rfl (Or.inl rfl) (pe_op o_mod (pe_callTy c_int (by rfl) T.m_int bt_int (pa_cons (pe_ix ix_list (pv 0) pe_int (fun _ _ => rfl)) pa_nil)) (pv 1)))
      (pss_cons (ps_asg (pe_op o_div (pe_ix ix_list (pv 0) pe_int (fun _ _ => rfl)) (pv 1)) (pg_sub (pv 0) pe_int set_list))
      (pss_one (ps_ret (pv 3))))) pss_nil)
      (pss_cons (ps_asg (pe_op o_mod (pe_op o_add (pe_op o_add (pe_op o_mul (pe_callTy c_int (by rfl) T.m_int bt_int (pa_cons (pe_ix ix_list (pv 0) pe_int (fun _ _ => rfl)) pa_nil)) pe_int) (pe_op o_mul pe_int (pe_ix ix_list (pv 0) pe_int (fun _ _ => rfl)))) pe_int) pe_int) (pg_sub (pv 0) pe_int set_list))
      (pss_cons (ps_set (i := 4) sc_take.nd rfl (Or.inl rfl) (pe_op o_add (pe_op o_mul (pe_op o_add (pe_op o_mod (pe_callTy c_int (by rfl) T.m_int bt_int (pa_cons (pe_ix ix_list (pv 0) pe_int (fun _ _ => rfl)) pa_nil)) pe_int) pe_int) (pe_op o_add (pe_op o_div (pe_ix ix_list (pv 0) pe_int (fun _ _ => rfl)) pe_int) pe_int)) (pe_op o_mul pe_int (pe_ix ix_list (pv 0) pe_int (fun _ _ => rfl)))))
      (pss_one (ps_ret (pe_op o_mod (pe_op o_div (pe_callTy c_int (by rfl) T.m_int bt_int (pa_cons (pv 4) pa_nil)) pe_int) (pv 1))))))))), ?_⟩
    refine r_cut (fun σ' H' => ∃ (i d z : Int) (o : Option V), σ' = [some (.ref b), some (.int n), o, none, none] ∧ H' b = some (.lst [.ref l, .int i, .int d, .int z, .int t]) ∧ H' l = some (.lst (ns.map V.int)) ∧ 0 ≤ i ∧ 0 ≤ d ∧ 0 ≤ z ∧ z < 2147483647 ∧ Kp [b] H H') ?_ ?_
    · walk_at "go"
      refine ifd (fun e1 => ?_) (fun e1 => ?_)
      · walk_at "go"
        refine ifd (fun e2 => ?_) (fun e2 => ?_)
        · rw [List.length_map] at e2
          obtain ⟨j, rfl⟩ : ∃ j : Nat, i = j := ⟨i.toNat, by omega⟩
          have g1 : (ns.map V.int)[j]? = some (.int ns[j]) := by rw [List.getElem?_map, List.getElem?_eq_getElem (by omega)]; rfl
          generalize ns[j] = x at g1
          walk_at "go"
          refine v_ixL (SqL.of hL) (atI_nat g1) ?_
          walk_at "go"
          refine r_cut (fun σ' H' => ∃ (d : Int), σ' = [some (.ref b), some (.int n), some (.int x), none, none] ∧ H' b = some (.lst [.ref l, .int (j + 1), .int d, .int z, .int t]) ∧ H' l = some (.lst (ns.map V.int)) ∧ 0 ≤ d ∧ Kp [b] H H') ?_ ?_
          · walk_at "go"
            refine ifd (fun e3 => ?_) (fun e3 => ?_)
            · walk_at "go"
              refine v_mulW (by unfold CMulW; decide +kernel) ?_
              walk_at "go"
              refine v_mulW (by unfold CMulW; decide +kernel) ?_
              walk_at "go"
              refine v_mulW (by unfold CMulW; decide +kernel) ?_
              walk_at "go"
              exact ⟨_, rfl, upd_same, by rw [upd_ne nl, upd_ne nl]; exact hL, Int.emod_nonneg _ (by decide), ((Kp.refl _ _).mut (by simp)).mut (by simp)⟩
            · walk_at "go"
              exact ⟨d, rfl, upd_same, by rw [upd_ne nl]; exact hL, d0, (Kp.refl _ _).mut (by simp)⟩
          · rintro σ' H' ⟨d, rfl, hB, hL, d0, k⟩
            walk_at "go"
            refine ⟨j + 1, d, _, _, rfl, upd_same, by rw [upd_ne nl]; exact hL, by omega, d0, Int.emod_nonneg _ (by decide), Int.emod_lt_of_pos _ (by decide), k.mut (by simp)⟩
        · exact ⟨i, d, z, none, rfl, hB, hL, i0, d0, z0, z1, Kp.refl _ _⟩
      · exact ⟨i, d, z, none, rfl, hB, hL, i0, d0, z0, z1, Kp.refl _ _⟩
    · rintro σ' H' ⟨i, d, z, o, rfl, hB, hL, i0, d0, z0, z1, k⟩
      walk_at "go"
      refine ifd (fun e1 => ?_) (fun e1 => ?_)
      · walk_at "go"
        refine q _ _ (Int.emod_nonneg _ (by omega)) (Int.emod_lt_of_pos _ n0) ⟨ns, i, _, z, _, upd_same, by rw [upd_ne nl, upd_ne nl]; exact hL, nl, i0, Int.ediv_nonneg d0 (by omega), z0, z1⟩ ((k.mut (by simp)).mut (by simp))
      · walk_at "go"
        refine q _ _ (Int.emod_nonneg _ (by omega)) (Int.emod_lt_of_pos _ n0) ⟨ns, i, d, _, _, upd_same, by rw [upd_ne nl, upd_ne nl]; exact hL, nl, i0, d0, Int.emod_nonneg _ (by decide), Int.emod_lt_of_pos _ (by decide)⟩ ((k.mut (by simp)).mut (by simp))

theorem BoxAt.kp0 {H H' : Hp} {b l : Addr} (h : BoxAt H b l) (k : Kp [] H H') : BoxAt H' b l := by
  obtain ⟨ns, i, d, z, t, hB, hL, r⟩ := h
  exact ⟨ns, i, d, z, t, k.at0 hB, k.at0 hL, r⟩
theorem BoxAt.ne {H : Hp} {a b l : Addr} (h : BoxAt H b l) (n : H a = none) : a ≠ b ∧ a ≠ l := by
  obtain ⟨ns, i, d, z, t, hB, hL, _⟩ := h
  exact ⟨(ne_of_none hB n).symm, (ne_of_none hL n).symm⟩
/-- an object that is not the box's is changed -/
theorem BoxAt.put {H : Hp} {a b l : Addr} {o : HO} (h : BoxAt H b l) (n : a ≠ b ∧ a ≠ l) : BoxAt (upd H a o) b l := by
  obtain ⟨ns, i, d, z, t, hB, hL, r⟩ := h
  exact ⟨ns, i, d, z, t, by rw [upd_ne n.1.symm]; exact hB, by rw [upd_ne n.2.symm]; exact hL, r⟩
def refs (cs : List Ce) : List V := cs.map fun p => V.ref p.1
def TupsIn (H : Hp) (cs : List Ce) : Prop := ∀ p ∈ cs, H p.1 = some (.tup [.int p.2.1, .int p.2.2])
def spNumber : Sp := fun vs H Q _ => ∃ (b l : Addr), vs = [.ref b] ∧ BoxAt H b l ∧ ∀ (r : Int) (H' : Hp), BoxAt H' b l → Kp [b] H H' → Q (.int r) H'
theorem ok_number (D : DefAt K mg "_law_number" s_number ["box"]) (C_take : Cal P w K mg base 1 "_law_take" ["box", "size"] spTake) : Cal P w K mg base 2 "_law_number" ["box"] spNumber := by
  refine D.mk' sc_number (fun vs H Q E h => ?_) (fun f cdv A outer s H vs Q E hr h => ?_)
  · obtain ⟨b, l, rfl, _⟩ := h
    rfl
  · obtain ⟨b, l, rfl, hB, q⟩ := h
    refine ⟨_, (pss_cons (ps_if (pt_cmpR (o_eq hr.units) (p_cal C_take hr (pa_cons (pv 0) (pa_cons pe_int pa_nil))) pe_int (nomark _)) (pss_cons (ps_set (i := 1) sc_number.nd rfl (Or.inl rfl) (pe_op o_add (pe_op o_mul (p_cal C_take hr (pa_cons (pv 0) (pa_cons (pe_op o_pow pe_int pe_int) pa_nil))) (pe_op o_pow pe_int pe_int)) (p_cal C_take hr (pa_cons (pv 0) (pa_cons (pe_op o_pow pe_int pe_int) pa_nil)))))
      (pss_one (ps_ret (pe_ifExp (pt_cmpR (o_eq hr.units) (p_cal C_take hr (pa_cons (pv 0) (pa_cons pe_int pa_nil))) pe_int (nomark _)) (pv 1) (pe_op o_sub pe_int (pv 1)))))) pss_nil)
      (pss_one (ps_ret (pe_op o_sub (p_cal C_take hr (pa_cons (pv 0) (pa_cons pe_int pa_nil))) pe_int)))), ?_⟩
    walk_at "go"
    refine ⟨b, l, 9, rfl, hB, by decide, by decide, fun r H1 r0 r1 hB k1 => ?_⟩
    walk_at "go"
    refine ifd (fun e1 => ?_) (fun e1 => ?_)
    · walk_at "go"
      refine ⟨b, l, _, rfl, hB, by decide, by decide, fun r H2 r0 r1 hB k2 => ?_⟩
      walk_at "go"
      refine ⟨b, l, _, rfl, hB, by decide, by decide, fun r' H3 r0 r1 hB k3 => ?_⟩
      walk_at "go"
      refine ⟨b, l, _, rfl, hB, by decide, by decide, fun r' H4 r0 r1 hB k4 => ?_⟩
      walk_at "go"
      have k := ((k1.trans k2).trans k3).trans k4
      refine ifd (fun e1 => ?_) (fun e1 => ?_)
      · walk_at "go"
        exact q _ _ hB k
      · walk_at "go"
        exact q _ _ hB k
    · walk_at "go"
      refine ⟨b, l, _, rfl, hB, by decide, by decide, fun r H2 r0 r1 hB k2 => ?_⟩
      walk_at "go"
      exact q _ _ hB (k1.trans k2)
def spGap : Sp := fun vs H Q _ => ∃ (b l : Addr), vs = [.ref b] ∧ BoxAt H b l ∧ ∀ (r : Int) (H' : Hp), 1 ≤ r → r ≤ 10000000000000 → BoxAt H' b l → Kp [b] H H' → Q (.int r) H'
theorem ok_gap (D : DefAt K mg "_law_gap" s_gap ["box"]) (C_take : Cal P w K mg base 1 "_law_take" ["box", "size"] spTake) : Cal P w K mg base 2 "_law_gap" ["box"] spGap := by
  refine D.mk' sc_gap (fun vs H Q E h => ?_) (fun f cdv A outer s H vs Q E hr h => ?_)
  · obtain ⟨b, l, rfl, _⟩ := h
    rfl
  · obtain ⟨b, l, rfl, hB, q⟩ := h
    refine ⟨_, (pss_cons (ps_if (pt_cmpR (o_eq hr.units) (p_cal C_take hr (pa_cons (pv 0) (pa_cons pe_int pa_nil))) pe_int (nomark _)) (pss_one (ps_ret (pe_op o_add pe_int (pe_op o_mul (p_cal C_take hr (pa_cons (pv 0) (pa_cons (pe_op o_pow pe_int pe_int) pa_nil))) (p_cal C_take hr (pa_cons (pv 0) (pa_cons (pe_op o_pow pe_int pe_int) pa_nil))))))) pss_nil)
      (pss_one (ps_ret (pe_ix ix_list (pe_lst (pa_cons pe_int (pa_cons pe_int (pa_cons pe_int (pa_cons pe_int pa_nil))))) (p_cal C_take hr (pa_cons (pv 0) (pa_cons pe_int pa_nil))) (fun _ _ => rfl))))), ?_⟩
    walk_at "go"
    refine ⟨b, l, 9, rfl, hB, by decide, by decide, fun r H1 r0 r1 hB k1 => ?_⟩
    walk_at "go"
    refine ifd (fun e1 => ?_) (fun e1 => ?_)
    · walk_at "go"
      refine ⟨b, l, _, rfl, hB, by decide, by decide, fun r H2 r0 r1 hB k2 => ?_⟩
      walk_at "go"
      refine ⟨b, l, _, rfl, hB, by decide, by decide, fun r' H3 r0' r1' hB k3 => ?_⟩
      walk_at "go"
      have m0 : 0 ≤ r * r' := Int.mul_nonneg r0 r0'
      have m1 : r * r' ≤ 1000000 * 1000000 := Int.mul_le_mul (by omega) (by omega) r0' (by decide)
      exact q _ _ (by omega) (by omega) hB ((k1.trans k2).trans k3)
    · walk_at "go"
      refine ⟨szOk (by decide), fun p np => ?_⟩
      have hn := hB.ne np
      have hB1 : BoxAt (upd H1 p (.lst [.int 1, .int 1, .int 2, .int 3])) b l := hB.kp0 (Kp.new np)
      walk_at "go"
      refine ⟨b, l, _, rfl, hB1, by decide, by decide, fun r H2 r0 r1 hB k2 => ?_⟩
      have hp : H2 p = some (.lst [.int 1, .int 1, .int 2, .int 3]) := k2.keep _ _ upd_same (nin1 hn.1)
      have k := (k1.trans (Kp.new np)).trans k2
      obtain ⟨v, e, v0, v1⟩ : ∃ v : Int, atI [V.int 1, V.int 1, V.int 2, V.int 3] r = some (.int v) ∧ 1 ≤ v ∧ v ≤ 3 := by
        have : r = 0 ∨ r = 1 ∨ r = 2 ∨ r = 3 := by omega
        rcases this with rfl | rfl | rfl | rfl
        · exact ⟨1, rfl, by decide, by decide⟩
        · exact ⟨1, rfl, by decide, by decide⟩
        · exact ⟨2, rfl, by decide, by decide⟩
        · exact ⟨3, rfl, by decide, by decide⟩
      refine v_ixL (SqL.of hp) e ?_
      exact q _ _ v0 (by omega) hB k
end
end K18

namespace K18
open PySem PySem.Spec L2 KV
local macro_rules | `(tactic| walk_at "side") => `(tactic| first | assumption | omega | decide)
local macro_rules | `(tactic| walk_at "at") => `(tactic| first | assumption | exact upd_same | (rw [upd_ne (by assumption)]; assumption))
local macro_rules | `(tactic| walk_at "st") => `(tactic| first
  | with_reducible refine r_seq ?_ | with_reducible refine r_asg ?_ | with_reducible refine r_ret ?_ | with_reducible refine r_ifS ?_ | with_reducible refine r_drop ?_
  | ((with_reducible refine r_var (v := ?v) ?e ?_); (case e => exact rfl))
  | with_reducible refine r_c ?_ | with_reducible refine r_op ?_ | with_reducible refine r_un ?_ | with_reducible refine r_name ?_ | with_reducible refine r_next ?_ | with_reducible refine r_brk ?_ | with_reducible refine r_cont ?_
  | with_reducible refine r_cb ?_ | with_reducible refine r_cons ?_ | with_reducible refine r_nil ?_ | with_reducible refine r_call ?_ | with_reducible refine r_test ?_ | with_reducible refine r_tru ?_ | with_reducible refine r_tB ?_
  | with_reducible refine r_exB ?_ | with_reducible refine r_truB ?_ | with_reducible refine r_truI ?_ | with_reducible refine r_and ?_ | with_reducible refine r_or ?_ | with_reducible refine r_not ?_ | with_reducible refine r_ifE ?_
  | with_reducible refine r_andV ?_ | with_reducible refine r_orV ?_ | with_reducible refine r_notV ?_ | with_reducible refine r_gsub ?_ | with_reducible refine r_tup ?_ | with_reducible refine r_lst ?_
  | with_reducible refine r_forL ?_ | with_reducible refine r_forT ?_ | with_reducible refine r_forR ?_ | with_reducible refine r_lcL ?_ | with_reducible refine r_lcT ?_ | with_reducible refine r_lcR ?_ | with_reducible refine r_yes ?_
  | with_reducible refine v_add ?_ | with_reducible refine v_sub ?_ | with_reducible refine v_lt ?_ | with_reducible refine v_le ?_ | with_reducible refine v_gt ?_ | with_reducible refine v_ge ?_ | with_reducible refine v_neg ?_
  | with_reducible refine v_eqI ?_ | with_reducible refine v_neI ?_ | with_reducible refine v_eqB ?_ | with_reducible refine v_int ?_ | with_reducible refine v_max ?_ | with_reducible refine v_min ?_ | with_reducible refine v_abs ?_
  | ((with_reducible refine v_mulL ?s ?_); (case s => walk_at "side"))
  | ((with_reducible refine v_mulR ?s ?_); (case s => walk_at "side"))
  | ((with_reducible refine v_mod ?s ?_); (case s => walk_at "side"))
  | ((with_reducible refine v_div ?s ?t ?_); (case s => walk_at "side"); (case t => walk_at "side"))
  | ((with_reducible refine v_powE (r := ?r) ?s ?e ?_); (case s => exact (by decide)); (case e => (conv => lhs; simp only [Int.reduceToNat, Int.reducePow])))
  | ((with_reducible refine v_ixL (xs := ?xs) (v := ?v) (SqL.of ?s) ?t ?_); (case s => walk_at "at"); (case t => exact rfl))
  | ((with_reducible refine v_ixT (xs := ?xs) (v := ?v) (SqT.of ?s) ?t ?_); (case s => walk_at "at"); (case t => exact rfl))
  | with_reducible refine r_gcons ?_ | with_reducible refine r_gnil ?_ | with_reducible refine r_slice ?_ | with_reducible refine r_noP ?_ | with_reducible refine r_part ?_ | with_reducible refine r_exI ?_ | with_reducible refine r_lstRg ?_ | with_reducible refine r_rg1 ?_ | with_reducible refine iteT ?_ | with_reducible refine iteF ?_ | with_reducible refine iteNF ?_ | with_reducible refine iteNT ?_
  | with_reducible refine r_bm ?_ | ((with_reducible refine r_bmL (xs := ?xs) ?s ?_); (case s => walk_at "at"))
  | ((with_reducible refine v_lenL (xs := ?xs) (SqL.of ?s) ?_); (case s => walk_at "at"))
  | ((with_reducible refine v_setL (xs := ?xs) (n := ?n) ?s ?t ?_); (case s => walk_at "at"); (case t => exact rfl)))
local macro_rules | `(tactic| walk_at "go") => `(tactic| repeat walk_at "st")

section
variable {P : Program} {w : World} {K : PySem.W.Frag} {mg : Str → Option Value} {base : Heap}
theorem TupsIn.kp {M : List Addr} {H H' : Hp} {cs : List Ce} (h : TupsIn H cs) (k : Kp M H H') (hm : ∀ m ∈ M, ∀ xs, H m ≠ some (.tup xs)) : TupsIn H' cs := fun p hp => k.keep _ _ (h p hp) fun z => hm _ z _ (h p hp)
theorem TupsIn.kp0 {H H' : Hp} {cs : List Ce} (h : TupsIn H cs) (k : Kp [] H H') : TupsIn H' cs := h.kp k fun _ z => nomatch z
theorem BoxAt.nt {H : Hp} {b l : Addr} (h : BoxAt H b l) : ∀ m ∈ [b], ∀ xs, H m ≠ some (.tup xs) := fun m hm xs e => by
  obtain ⟨ns, i, d, z, t, hB, _⟩ := h
  rw [List.mem_singleton.mp hm, hB] at e
  cases e
theorem TupsIn.kpB {H H' : Hp} {cs : List Ce} {b l : Addr} (h : TupsIn H cs) (k : Kp [b] H H') (hB : BoxAt H b l) : TupsIn H' cs := h.kp k hB.nt
theorem TupsIn.put {H : Hp} {cs : List Ce} {c : Addr} {xs : List V} {o : HO} (h : TupsIn H cs) (e : H c = some (.lst xs)) : TupsIn (upd H c o) cs := fun p hp => by
  rw [upd_ne (ne_of (h p hp) e (by intro z; cases z))]
  exact h p hp
theorem TupsIn.snoc {H : Hp} {cs : List Ce} {p : Addr} {a v : Int} (h : TupsIn H cs) (n : H p = none) : TupsIn (upd H p (.tup [.int a, .int v])) (cs ++ [(p, a, v)]) := fun q hq => by
  rcases List.mem_append.mp hq with hq | hq
  · exact (h.kp0 (Kp.new n)) q hq
  · rw [List.mem_singleton.mp hq]
    exact upd_same
theorem refs_snoc (cs : List Ce) (p : Ce) : refs (cs ++ [p]) = refs cs ++ [.ref p.1] := by unfold refs; rw [List.map_append]; rfl
theorem refs_len (cs : List Ce) : (refs cs).length = cs.length := by unfold refs; rw [List.length_map]
theorem refs_last (cs : List Ce) (p : Ce) : atI (refs (cs ++ [p])) (-1) = some (.ref p.1) := by rw [refs_snoc]; exact atI_last _ _
theorem refs_empty (cs : List Ce) : (refs cs).isEmpty = cs.isEmpty := by cases cs <;> rfl
theorem cut_last {cs : List Ce} (h : (!(refs cs).isEmpty) = true) : ∃ ys y, cs = ys ++ [y] := by
  have hne : cs ≠ [] := fun z => by subst z; exact absurd h (by decide)
  exact ⟨cs.dropLast, cs.getLast hne, (List.dropLast_concat_getLast hne).symm⟩
def spCells : Sp := fun vs H Q _ => ∃ (b l : Addr) (many : Int), vs = [.ref b, .int many] ∧ BoxAt H b l ∧ 0 ≤ many ∧ many ≤ 50 ∧ ∀ (c : Addr) (cs : List Ce) (H' : Hp), BoxAt H' b l → Kp [b] H H' → H c = none → H' c = some (.lst (refs cs)) → TupsIn H' cs →
  Asc cs → (∀ p ∈ cs, 0 ≤ p.2.1 ∧ p.2.1 ≤ 50 * 10000000000000) → cs.length ≤ 50 → Q (.ref c) H'
theorem ok_cells (D : DefAt K mg "_law_cells" s_cells ["box", "many"]) (T : Bt mg) (C_take : Cal P w K mg base 1 "_law_take" ["box", "size"] spTake) (C_number : Cal P w K mg base 2 "_law_number" ["box"] spNumber) (C_gap : Cal P w K mg base 2 "_law_gap" ["box"] spGap) :
    Cal P w K mg base 3 "_law_cells" ["box", "many"] spCells := by
  refine D.mk' sc_cells (fun vs H Q E h => ?_) (fun f cdv A outer s H vs Q E hr h => ?_)
  · obtain ⟨b, l, many, rfl, _⟩ := h
    rfl
  · obtain ⟨b, l, many, rfl, hB, m0, m1, q⟩ := h
    refine ⟨_, (pss_cons (ps_set (i := 2) sc_cells.nd rfl (Or.inl rfl) (pe_lst pa_nil))
      (pss_cons (ps_set (i := 3) sc_cells.nd rfl (Or.inl rfl) pe_int)
      (pss_cons (ps_for PassesOwn.never rfl (pi_range1 (by rfl) T.m_range (pa_cons (pv 1) pa_nil)) (pg_name (i := 4) sc_cells.nd rfl (Or.inl rfl)) (pss_cons (ps_set (i := 5) sc_cells.nd rfl (Or.inl rfl) (p_cal C_number hr (pa_cons (pv 0) pa_nil)))
      (Evl.pss_cut (ps_if (PW.pt (pw_and (p_tru (pv 2) (by intro _; rfl)) (pw_and1 (pt_cmpR (o_eq hr.units) (p_cal C_take hr (pa_cons (pv 0) (pa_cons pe_int pa_nil))) pe_int (nomark _))))) (pss_one (ps_set (i := 5) sc_cells.nd rfl (Or.inl rfl) (pe_ix ix_tup (pe_ix ix_list (pv 2) (pe_un u_neg pe_int) (fun _ _ => rfl)) pe_int (fun _ _ => rfl)))) pss_nil)
      (pss_cons (ps_expr (pe_bm PySem.F.plainAttrs_list PySem.F.slot_list_append PySem.F.type_list_append mt_append (pv 2) (pa_cons (pe_tup (pa_cons (pv 3) (pa_cons (pv 5) pa_nil))) pa_nil)))
      (pss_one (ps_set (i := 3) sc_cells.nd rfl (Or.inl rfl) (pe_op o_add (pv 3) (p_cal C_gap hr (pa_cons (pv 0) pa_nil)))))))))
      (pss_one (ps_ret (pv 2)))))), ?_⟩
    walk_at "go"
    refine ⟨szOk (by decide), fun c nc => ?_⟩
    have nb := hB.ne nc
    walk_at "go"
    refine lpR (by omega) (by omega) (fun i σ H' => ∃ (cs : List Ce) (place : Int) (v4 v5 : Option V), σ = [some (.ref b), some (.int many), some (.ref c), some (.int place), v4, v5] ∧ BoxAt H' b l ∧ Kp [b] H H' ∧ H' c = some (.lst (refs cs)) ∧ TupsIn H' cs ∧ Asc cs ∧
      (∀ p ∈ cs, 0 ≤ p.2.1 ∧ p.2.1 < place) ∧ cs.length = i ∧ 0 ≤ place ∧ place ≤ i * 10000000000000) ?_ ?_ ?_
    · exact ⟨[], 0, none, none, rfl, hB.kp0 (Kp.new nc), Kp.new nc, upd_same, fun p hp => (nomatch hp), List.Pairwise.nil, fun p hp => (nomatch hp), rfl, Int.le_refl _, by omega⟩
    · rintro i σ H1 hi ⟨cs, place, v4, v5, rfl, hB1, k1, hc, hT, ha, hb, hl, p0, p1⟩
      walk_at "go"
      refine ⟨b, l, rfl, hB1, fun r H2 hB2 k2 => ?_⟩
      have hc2 := k2.keep _ _ hc (nin1 nb.1)
      have hT2 := hT.kpB k2 hB1
      walk_at "go"
      refine r_cut (fun σ' H' => ∃ r : Int, σ' = [some (.ref b), some (.int many), some (.ref c), some (.int place), some (.int i), some (.int r)] ∧ BoxAt H' b l ∧ Kp [b] H H' ∧ H' c = some (.lst (refs cs)) ∧ TupsIn H' cs) ?_ ?_
      · walk_at "go"
        refine r_truL (SqL.of hc2) ?_
        refine ifb (fun e1 => ?_) (fun e1 => ?_)
        · walk_at "go"
          refine ⟨b, l, 4, rfl, hB2, by decide, by decide, fun u H3 u0 u1 hB3 k3 => ?_⟩
          have hc3 := k3.keep _ _ hc2 (nin1 nb.1)
          have hT3 := hT2.kpB k3 hB2
          walk_at "go"
          refine ifd (fun e2 => ?_) (fun e2 => ?_)
          · obtain ⟨ys, y, rfl⟩ := cut_last e1
            walk_at "go"
            refine v_ixL (SqL.of hc3) (refs_last _ _) ?_
            walk_at "go"
            refine v_ixT (SqT.of (hT3 y (by simp))) (v := .int y.2.2) rfl ?_
            walk_at "go"
            exact ⟨_, rfl, hB3, (k1.trans k2).trans k3, hc3, hT3⟩
          · walk_at "go"
            exact ⟨_, rfl, hB3, (k1.trans k2).trans k3, hc3, hT3⟩
        · walk_at "go"
          exact ⟨_, rfl, hB2, k1.trans k2, hc2, hT2⟩
      · rintro σ' H3 ⟨r, rfl, hB3, k3, hc3, hT3⟩
        walk_at "go"
        refine ⟨szOk (by simp), fun p np => ?_⟩
        walk_at "go"
        have hcp := (Kp.new (M := []) (o := .tup [.int place, .int r]) np).at0 hc3
        refine v_append hcp (by rw [refs_len]; exact szLt (by omega)) ?_
        walk_at "go"
        have k4 : Kp [b] H (upd (upd H3 p (.tup [.int place, .int r])) c (.lst (refs cs ++ [.ref p]))) := (k3.trans (Kp.new np)).own nc
        have hB4 := (hB3.kp0 (Kp.new (o := .tup [.int place, .int r]) np)).put (o := .lst (refs cs ++ [.ref p])) nb
        refine ⟨b, l, rfl, hB4, fun g H5 g0 g1 hB5 k5 => ?_⟩
        walk_at "go"
        refine ⟨cs ++ [(p, place, r)], place + g, _, _, rfl, hB5, k4.trans k5, ?_, ((hT3.snoc np).put hcp).kpB k5 hB4, ?_, ?_, ?_, by omega, ?_⟩
        · rw [refs_snoc]
          exact k5.keep _ _ upd_same (nin1 nb.1)
        · refine List.pairwise_append.mpr ⟨ha, List.pairwise_singleton _ _, fun e he u hu => ?_⟩
          rw [List.mem_singleton.mp hu]
          exact (hb e he).2
        · intro e he
          rcases List.mem_append.mp he with he | he
          · have := hb e he
            exact ⟨this.1, by omega⟩
          · rw [List.mem_singleton.mp he]
            exact ⟨p0, by show place < place + g; omega⟩
        · rw [List.length_append, hl]; rfl
        · push_cast
          omega
    · rintro σ H1 ⟨cs, place, v4, v5, rfl, hB1, k1, hc, hT, ha, hb, hl, p0, p1⟩
      walk_at "go"
      exact q c cs H1 hB1 k1 nc hc hT ha (fun p hp => ⟨(hb p hp).1, by have := (hb p hp).2; omega⟩) (by omega)
end
end K18

namespace K18
open PySem PySem.Spec L2 KV
local macro_rules | `(tactic| walk_at "side") => `(tactic| first | assumption | omega | decide)
local macro_rules | `(tactic| walk_at "at") => `(tactic| first | assumption | exact upd_same | (rw [upd_ne (by assumption)]; assumption))
local macro_rules | `(tactic| walk_at "st") => `(tactic| first
  | with_reducible refine r_seq ?_ | with_reducible refine r_asg ?_ | with_reducible refine r_ret ?_ | with_reducible refine r_ifS ?_ | with_reducible refine r_drop ?_
  | ((with_reducible refine r_var (v := ?v) ?e ?_); (case e => exact rfl))
  | with_reducible refine r_c ?_ | with_reducible refine r_op ?_ | with_reducible refine r_un ?_ | with_reducible refine r_name ?_ | with_reducible refine r_next ?_ | with_reducible refine r_brk ?_ | with_reducible refine r_cont ?_
  | with_reducible refine r_cb ?_ | with_reducible refine r_cons ?_ | with_reducible refine r_nil ?_ | with_reducible refine r_call ?_ | with_reducible refine r_test ?_ | with_reducible refine r_tru ?_ | with_reducible refine r_tB ?_
  | with_reducible refine r_exB ?_ | with_reducible refine r_truB ?_ | with_reducible refine r_truI ?_ | with_reducible refine r_and ?_ | with_reducible refine r_or ?_ | with_reducible refine r_not ?_ | with_reducible refine r_ifE ?_
  | with_reducible refine r_andV ?_ | with_reducible refine r_orV ?_ | with_reducible refine r_notV ?_ | with_reducible refine r_gsub ?_ | with_reducible refine r_tup ?_ | with_reducible refine r_lst ?_
  | with_reducible refine r_forL ?_ | with_reducible refine r_forT ?_ | with_reducible refine r_forR ?_ | with_reducible refine r_lcL ?_ | with_reducible refine r_lcT ?_ | with_reducible refine r_lcR ?_ | with_reducible refine r_yes ?_
  | with_reducible refine v_add ?_ | with_reducible refine v_sub ?_ | with_reducible refine v_lt ?_ | with_reducible refine v_le ?_ | with_reducible refine v_gt ?_ | with_reducible refine v_ge ?_ | with_reducible refine v_neg ?_
  | with_reducible refine v_eqI ?_ | with_reducible refine v_neI ?_ | with_reducible refine v_eqB ?_ | with_reducible refine v_int ?_ | with_reducible refine v_max ?_ | with_reducible refine v_min ?_ | with_reducible refine v_abs ?_
  | ((with_reducible refine v_mulL ?s ?_); (case s => walk_at "side"))
  | ((with_reducible refine v_mulR ?s ?_); (case s => walk_at "side"))
  | ((with_reducible refine v_mod ?s ?_); (case s => walk_at "side"))
  | ((with_reducible refine v_div ?s ?t ?_); (case s => walk_at "side"); (case t => walk_at "side"))
  | ((with_reducible refine v_powE (r := ?r) ?s ?e ?_); (case s => exact (by decide)); (case e => (conv => lhs; simp only [Int.reduceToNat, Int.reducePow])))
  | ((with_reducible refine v_ixL (xs := ?xs) (v := ?v) (SqL.of ?s) ?t ?_); (case s => walk_at "at"); (case t => exact rfl))
  | ((with_reducible refine v_ixT (xs := ?xs) (v := ?v) (SqT.of ?s) ?t ?_); (case s => walk_at "at"); (case t => exact rfl))
  | with_reducible refine r_gcons ?_ | with_reducible refine r_gnil ?_ | with_reducible refine r_slice ?_ | with_reducible refine r_noP ?_ | with_reducible refine r_part ?_ | with_reducible refine r_exI ?_ | with_reducible refine r_lstRg ?_ | with_reducible refine r_rg1 ?_ | with_reducible refine iteT ?_ | with_reducible refine iteF ?_ | with_reducible refine iteNF ?_ | with_reducible refine iteNT ?_
  | with_reducible refine r_bm ?_ | ((with_reducible refine r_bmL (xs := ?xs) ?s ?_); (case s => walk_at "at"))
  | ((with_reducible refine v_lenL (xs := ?xs) (SqL.of ?s) ?_); (case s => walk_at "at"))
  | ((with_reducible refine v_setL (xs := ?xs) (n := ?n) ?s ?t ?_); (case s => walk_at "at"); (case t => exact rfl)))
local macro_rules | `(tactic| walk_at "go") => `(tactic| repeat walk_at "st")

section
variable {P : Program} {w : World} {K : PySem.W.Frag} {mg : Str → Option Value} {base : Heap}
def ceD (p : Ce) : PyData := .tuple [.int p.2.1, .int p.2.2]
theorem ceD_dp {H : Hp} {cs : List Ce} (h : TupsIn H cs) : ∀ p ∈ cs, Dp K H (.ref p.1) (ceD p) := fun p hp => .tup (SqT.of (h p hp)) (.cons (.int _) (.cons (.int _) .nil))
theorem ceD_ok (p : Ce) : (ceD p).canLay0 = true ∧ (ceD p).depth ≤ 1 := by
  unfold ceD
  constructor <;> simp [PyData.canLay0, PyData.canLayAll0, PyData.depth, PyData.depthAll]
/-- cells == [] -/
theorem v_eqNil {H : Hp} {Q : VK} {c e : Addr} {cs : List Ce} (hc : H c = some (.lst (refs cs))) (hT : TupsIn H cs) (he : H e = some (.lst [])) (h : Q (.bl cs.isEmpty) H) : rEqU K (.ref c) (.ref e) H Q := by
  refine v_eqD (d := .list (cs.map ceD)) (e := .list []) (.lst (SqL.of hc) (dpAll_map _ _ (ceD_dp hT))) (.lst (SqL.of he) .nil) (shapedL (n := 1) (fun d hd => ?_) (by decide)) (shapedL (n := 1) (fun d hd => (nomatch hd)) (by decide)) ?_
  · obtain ⟨p, _, rfl⟩ := List.mem_map.mp hd
    exact ceD_ok p
  · rw [eqv_nil, List.isEmpty_map]
    exact h
def ArrAt (H : Hp) (a c : Addr) (len : Int) (cs : List Ce) : Prop := H a = some (.lst [.int len, .ref c]) ∧ H c = some (.lst (refs cs)) ∧ TupsIn H cs
def ArrOk (len : Int) (cs : List Ce) : Prop := Asc cs ∧ (∀ p ∈ cs, 0 ≤ p.2.1 ∧ p.2.1 < len) ∧ cs.length ≤ 50 ∧ 0 ≤ len ∧ len ≤ 10000000000000000
theorem ArrAt.kp0 {H H' : Hp} {a c : Addr} {len : Int} {cs : List Ce} (h : ArrAt H a c len cs) (k : Kp [] H H') : ArrAt H' a c len cs := ⟨k.at0 h.1, k.at0 h.2.1, h.2.2.kp0 k⟩
theorem ArrAt.kpB {H H' : Hp} {a b l c : Addr} {len : Int} {cs : List Ce} (h : ArrAt H a c len cs) (k : Kp [b] H H') (hB : BoxAt H b l) (na : a ≠ b) (nc : c ≠ b) : ArrAt H' a c len cs := ⟨k.keep _ _ h.1 (nin1 na), k.keep _ _ h.2.1 (nin1 nc), h.2.2.kpB k hB⟩
def spArray : Sp := fun vs H Q _ => ∃ (b l : Addr) (full : Bool), vs = [.ref b, .bl full] ∧ BoxAt H b l ∧ ∀ (a c : Addr) (len : Int) (cs : List Ce) (H' : Hp), BoxAt H' b l → Kp [b] H H' → H a = none → H c = none → ArrAt H' a c len cs → ArrOk len cs → Q (.ref a) H'
theorem ok_array (D : DefAt K mg "_law_array" s_array ["box", "full"]) (C_take : Cal P w K mg base 1 "_law_take" ["box", "size"] spTake) (C_cells : Cal P w K mg base 3 "_law_cells" ["box", "many"] spCells) (C_gap : Cal P w K mg base 2 "_law_gap" ["box"] spGap) :
    Cal P w K mg base 4 "_law_array" ["box", "full"] spArray := by
  refine D.mk' sc_array (fun vs H Q E h => ?_) (fun f cdv A outer s H vs Q E hr h => ?_)
  · obtain ⟨b, l, full, rfl, _⟩ := h
    rfl
  · obtain ⟨b, l, full, rfl, hB, q⟩ := h
    refine ⟨_, (pss_cons (ps_set (i := 2) sc_array.nd rfl (Or.inl rfl) (p_cal C_take hr (pa_cons (pv 0) (pa_cons pe_int pa_nil))))
      (Evl.pss_cut (ps_if (pt_cmpR (o_eq hr.units) (p_cal C_take hr (pa_cons (pv 0) (pa_cons pe_int pa_nil))) pe_int (nomark _)) (pss_one (ps_set (i := 2) sc_array.nd rfl (Or.inl rfl) (p_cal C_take hr (pa_cons (pv 0) (pa_cons pe_int pa_nil))))) pss_nil)
      (Evl.pss_cut (ps_if (PW.pt (pw_and (p_tru (pv 1) (by intro _; rfl)) (pw_and1 (pt_cmpR (o_eq hr.units) (pv 2) pe_int (nomark _))))) (pss_one (ps_set (i := 2) sc_array.nd rfl (Or.inl rfl) pe_int)) pss_nil)
      (pss_cons (ps_set (i := 3) sc_array.nd rfl (Or.inl rfl) (p_cal C_cells hr (pa_cons (pv 0) (pa_cons (pv 2) pa_nil))))
      (pss_cons (ps_if (pt_cmpR (o_eq hr.units) (pv 3) (pe_lst pa_nil) (nomark _)) (pss_one (ps_ret (pe_lst (pa_cons pe_int (pa_cons (pe_lst pa_nil) pa_nil))))) pss_nil)
      (Evl.pss_cut (ps_if (p_tru (pv 1) (by intro _; rfl)) (pss_one (ps_asg (pe_tup (pa_cons pe_int (pa_cons (pe_op o_add pe_int (p_cal C_take hr (pa_cons (pv 0) (pa_cons pe_int pa_nil)))) pa_nil))) (pg_sub (pv 3) pe_int set_list))) pss_nil)
      (pss_cons (ps_set (i := 4) sc_array.nd rfl (Or.inl rfl) (pe_op o_add (pe_ix ix_tup (pe_ix ix_list (pv 3) (pe_un u_neg pe_int) (fun _ _ => rfl)) pe_int (fun _ _ => rfl)) pe_int))
      (pss_cons (ps_if (pt_cmpR (o_eq hr.units) (p_cal C_take hr (pa_cons (pv 0) (pa_cons pe_int pa_nil))) pe_int (nomark _)) (pss_one (ps_set (i := 4) sc_array.nd rfl (Or.inl rfl) (pe_op o_add (pv 4) (p_cal C_gap hr (pa_cons (pv 0) pa_nil))))) pss_nil)
      (pss_one (ps_ret (pe_lst (pa_cons (pv 4) (pa_cons (pv 3) pa_nil))))))))))))), ?_⟩
    walk_at "go"
    refine ⟨b, l, 7, rfl, hB, by decide, by decide, fun r H1 r0 r1 hB k1 => ?_⟩
    walk_at "go"
    refine r_cut (fun σ' H' => ∃ r : Int, 0 ≤ r ∧ r ≤ 50 ∧ σ' = [some (.ref b), some (.bl full), some (.int r), none, none] ∧ BoxAt H' b l ∧ Kp [b] H H') ?_ ?_
    · walk_at "go"
      refine ⟨b, l, 8, rfl, hB, by decide, by decide, fun u H2 u0 u1 hB k2 => ?_⟩
      walk_at "go"
      refine ifd (fun e1 => ?_) (fun e1 => ?_)
      · walk_at "go"
        refine ⟨b, l, 41, rfl, hB, by decide, by decide, fun u H3 u0 u1 hB k3 => ?_⟩
        walk_at "go"
        exact ⟨u, u0, by omega, rfl, hB, (k1.trans k2).trans k3⟩
      · walk_at "go"
        exact ⟨r, r0, by omega, rfl, hB, k1.trans k2⟩
    · rintro σ' H3 ⟨r, r0, r1, rfl, hB, k3⟩
      refine r_cut (fun σ' H' => ∃ r : Int, 0 ≤ r ∧ r ≤ 50 ∧ σ' = [some (.ref b), some (.bl full), some (.int r), none, none] ∧ H' = H3) ?_ ?_
      · walk_at "go"
        refine ifb (fun e1 => ?_) (fun e1 => ?_)
        · walk_at "go"
          refine ifd (fun e2 => ?_) (fun e2 => ?_)
          · walk_at "go"
            exact ⟨1, by decide, by decide, rfl, rfl⟩
          · walk_at "go"
            exact ⟨r, r0, r1, rfl, rfl⟩
        · walk_at "go"
          exact ⟨r, r0, r1, rfl, rfl⟩
      · rintro σ' H3 ⟨r, r0, r1, rfl, rfl⟩
        walk_at "go"
        refine ⟨b, l, r, rfl, hB, r0, r1, fun c cs H4 hB4 k4 nc hc hT ha hp hl => ?_⟩
        have nbc := hB.ne nc
        replace hB := hB4
        have k := k3.trans k4
        have nc0 : H c = none := k3.free _ nc
        walk_at "go"
        refine ⟨szOk (by simp), fun e ne => ?_⟩
        have kn : Kp [] H4 (upd H4 e (.lst [])) := Kp.new ne
        have hB5 := hB.kp0 kn
        have hc5 := kn.at0 hc
        have hT5 := hT.kp0 kn
        have k5 : Kp [b] H (upd H4 e (.lst [])) := k.trans kn.of0
        have nb := (hB.ne ne)
        refine v_eqNil hc5 hT5 upd_same ?_
        generalize upd H4 e (.lst []) = H5 at *
        walk_at "go"
        refine ifb (fun e1 => ?_) (fun e1 => ?_)
        · walk_at "go"
          refine ⟨szOk (by simp), fun e1 ne1 => ?_⟩
          walk_at "go"
          refine ⟨szOk (by simp), fun a na => ?_⟩
          refine q a e1 0 [] _ ((hB5.kp0 (Kp.new ne1)).kp0 (Kp.new na)) ((k5.trans (Kp.new ne1)).trans (Kp.new na)) (k5.free _ (free_of na)) (k5.free _ ne1) ⟨upd_same, ?_, fun p hp => (nomatch hp)⟩ ⟨List.Pairwise.nil, fun p hp => (nomatch hp), by simp, by decide, by decide⟩
          rw [upd_ne (free_ne na).symm]
          exact upd_same
        · have hne : cs ≠ [] := fun z => by subst z; cases e1
          walk_at "go"
          refine r_cut (fun σ' H' => ∃ (cs : List Ce), cs ≠ [] ∧ σ' = [some (.ref b), some (.bl full), some (.int r), some (.ref c), none] ∧ BoxAt H' b l ∧ Kp [b] H H' ∧ H' c = some (.lst (refs cs)) ∧ TupsIn H' cs ∧ Asc cs ∧ (∀ p ∈ cs, 0 ≤ p.2.1 ∧ p.2.1 ≤ 50 * 10000000000000) ∧ cs.length ≤ 50) ?_ ?_
          · walk_at "go"
            refine ifb (fun e2 => ?_) (fun e2 => ?_)
            · walk_at "go"
              refine ⟨b, l, 9, rfl, hB5, by decide, by decide, fun u H6 u0 u1 hB6 k6 => ?_⟩
              walk_at "go"
              refine ⟨szOk (by simp), fun p np => ?_⟩
              obtain ⟨x, ys, rfl⟩ : ∃ x ys, cs = x :: ys := by
                cases cs with
                | nil => exact absurd rfl hne
                | cons x ys => exact ⟨x, ys, rfl⟩
              have hc6 := k6.keep _ _ hc5 (nin1 nbc.1)
              have hT6 := hT5.kpB k6 hB5
              have hc7 := (Kp.new (M := []) (o := .tup [.int 0, .int (1 + u)]) np).at0 hc6
              walk_at "go"
              refine v_setL (n := 0) hc7 (ixn (j := 0) (by simp [refs])) ?_
              walk_at "go"
              refine ⟨(p, 0, 1 + u) :: ys, by simp, rfl, (hB6.kp0 (Kp.new np)).put nbc, ((k5.trans k6).trans (Kp.new np)).own nc0, upd_same, ?_, ?_, ?_, hl⟩
              · refine TupsIn.put (fun e he => ?_) hc7
                rcases List.mem_cons.mp he with rfl | he
                · exact upd_same
                · exact (Kp.new (M := []) np).at0 (hT6 e (by simp [he]))
              · refine List.pairwise_cons.mpr ⟨fun e he => ?_, (List.pairwise_cons.mp ha).2⟩
                have h1 := (List.pairwise_cons.mp ha).1 e he
                have h2 := (hp x (by simp)).1
                show (0 : Int) < e.2.1
                omega
              · intro e he
                rcases List.mem_cons.mp he with rfl | he
                · exact ⟨Int.le_refl _, by show (0 : Int) ≤ 50 * 10000000000000; decide⟩
                · exact hp e (by simp [he])
            · walk_at "go"
              exact ⟨cs, hne, rfl, hB5, k5, hc5, hT5, ha, hp, hl⟩
          · rintro σ' H6 ⟨cs, hne, rfl, hB6, k6, hc6, hT6, ha, hp, hl⟩
            obtain ⟨ys, y, rfl⟩ : ∃ ys y, cs = ys ++ [y] := ⟨cs.dropLast, cs.getLast hne, (List.dropLast_concat_getLast hne).symm⟩
            have hlast : ∀ p ∈ ys ++ [y], p.2.1 ≤ y.2.1 := fun p hp' => by
              rcases List.mem_append.mp hp' with h | h
              · exact Int.le_of_lt ((List.pairwise_append.mp ha).2.2 p h y (by simp))
              · rw [List.mem_singleton.mp h]; exact Int.le_refl _
            have hy := hp y (by simp)
            walk_at "go"
            refine v_ixL (SqL.of hc6) (refs_last _ _) ?_
            walk_at "go"
            refine v_ixT (SqT.of (hT6 y (by simp))) (v := .int y.2.1) rfl ?_
            walk_at "go"
            refine ⟨b, l, 2, rfl, hB6, by decide, by decide, fun u H7 u0 u1 hB7 k7 => ?_⟩
            have hc7 := k7.keep _ _ hc6 (nin1 nbc.1)
            have hT7 := hT6.kpB k7 hB6
            have kk := k6.trans k7
            walk_at "go"
            refine ifd (fun e2 => ?_) (fun e2 => ?_)
            · walk_at "go"
              refine ⟨b, l, rfl, hB7, fun g H8 g0 g1 hB8 k8 => ?_⟩
              have hc8 := k8.keep _ _ hc7 (nin1 nbc.1)
              have hT8 := hT7.kpB k8 hB7
              walk_at "go"
              refine ⟨szOk (by simp), fun a na => ?_⟩
              refine q a c _ _ _ (hB8.kp0 (Kp.new na)) ((kk.trans k8).trans (Kp.new na)) ((kk.trans k8).free _ na) nc0 ⟨upd_same, (Kp.new (M := []) na).at0 hc8, hT8.kp0 (Kp.new na)⟩ ⟨ha, fun p hp' => ⟨(hp p hp').1, ?_⟩, hl, by omega, by omega⟩
              have := hlast p hp'
              omega
            · walk_at "go"
              refine ⟨szOk (by simp), fun a na => ?_⟩
              refine q a c _ _ _ (hB7.kp0 (Kp.new na)) (kk.trans (Kp.new na)) (kk.free _ na) nc0 ⟨upd_same, (Kp.new (M := []) na).at0 hc7, hT7.kp0 (Kp.new na)⟩ ⟨ha, fun p hp' => ⟨(hp p hp').1, ?_⟩, hl, by omega, by omega⟩
              have := hlast p hp'
              omega
end
end K18

namespace K18
open PySem PySem.Spec L2 KV
local macro_rules | `(tactic| walk_at "side") => `(tactic| first | assumption | omega | decide)
local macro_rules | `(tactic| walk_at "at") => `(tactic| first | assumption | exact upd_same | (rw [upd_ne (by assumption)]; assumption))
local macro_rules | `(tactic| walk_at "st") => `(tactic| first
  | with_reducible refine r_seq ?_ | with_reducible refine r_asg ?_ | with_reducible refine r_ret ?_ | with_reducible refine r_ifS ?_ | with_reducible refine r_drop ?_
  | ((with_reducible refine r_var (v := ?v) ?e ?_); (case e => exact rfl))
  | with_reducible refine r_c ?_ | with_reducible refine r_op ?_ | with_reducible refine r_un ?_ | with_reducible refine r_name ?_ | with_reducible refine r_next ?_ | with_reducible refine r_brk ?_ | with_reducible refine r_cont ?_
  | with_reducible refine r_cb ?_ | with_reducible refine r_cons ?_ | with_reducible refine r_nil ?_ | with_reducible refine r_call ?_ | with_reducible refine r_test ?_ | with_reducible refine r_tru ?_ | with_reducible refine r_tB ?_
  | with_reducible refine r_exB ?_ | with_reducible refine r_truB ?_ | with_reducible refine r_truI ?_ | with_reducible refine r_and ?_ | with_reducible refine r_or ?_ | with_reducible refine r_not ?_ | with_reducible refine r_ifE ?_
  | with_reducible refine r_andV ?_ | with_reducible refine r_orV ?_ | with_reducible refine r_notV ?_ | with_reducible refine r_gsub ?_ | with_reducible refine r_tup ?_ | with_reducible refine r_lst ?_
  | with_reducible refine r_forL ?_ | with_reducible refine r_forT ?_ | with_reducible refine r_forR ?_ | with_reducible refine r_lcL ?_ | with_reducible refine r_lcT ?_ | with_reducible refine r_lcR ?_ | with_reducible refine r_yes ?_
  | with_reducible refine v_add ?_ | with_reducible refine v_sub ?_ | with_reducible refine v_lt ?_ | with_reducible refine v_le ?_ | with_reducible refine v_gt ?_ | with_reducible refine v_ge ?_ | with_reducible refine v_neg ?_
  | with_reducible refine v_eqI ?_ | with_reducible refine v_neI ?_ | with_reducible refine v_eqB ?_ | with_reducible refine v_int ?_ | with_reducible refine v_max ?_ | with_reducible refine v_min ?_ | with_reducible refine v_abs ?_
  | ((with_reducible refine v_mulL ?s ?_); (case s => walk_at "side"))
  | ((with_reducible refine v_mulR ?s ?_); (case s => walk_at "side"))
  | ((with_reducible refine v_mod ?s ?_); (case s => walk_at "side"))
  | ((with_reducible refine v_div ?s ?t ?_); (case s => walk_at "side"); (case t => walk_at "side"))
  | ((with_reducible refine v_powE (r := ?r) ?s ?e ?_); (case s => exact (by decide)); (case e => (conv => lhs; simp only [Int.reduceToNat, Int.reducePow])))
  | ((with_reducible refine v_ixL (xs := ?xs) (v := ?v) (SqL.of ?s) ?t ?_); (case s => walk_at "at"); (case t => exact rfl))
  | ((with_reducible refine v_ixT (xs := ?xs) (v := ?v) (SqT.of ?s) ?t ?_); (case s => walk_at "at"); (case t => exact rfl))
  | with_reducible refine r_gcons ?_ | with_reducible refine r_gnil ?_ | with_reducible refine r_slice ?_ | with_reducible refine r_noP ?_ | with_reducible refine r_part ?_ | with_reducible refine r_exI ?_ | with_reducible refine r_lstRg ?_ | with_reducible refine r_rg1 ?_ | with_reducible refine iteT ?_ | with_reducible refine iteF ?_ | with_reducible refine iteNF ?_ | with_reducible refine iteNT ?_
  | with_reducible refine r_bm ?_ | ((with_reducible refine r_bmL (xs := ?xs) ?s ?_); (case s => walk_at "at"))
  | ((with_reducible refine v_lenL (xs := ?xs) (SqL.of ?s) ?_); (case s => walk_at "at"))
  | ((with_reducible refine v_setL (xs := ?xs) (n := ?n) ?s ?t ?_); (case s => walk_at "at"); (case t => exact rfl)))
local macro_rules | `(tactic| walk_at "go") => `(tactic| repeat walk_at "st")

section
variable {P : Program} {w : World} {K : PySem.W.Frag} {mg : Str → Option Value} {base : Heap}
theorem refs_get {cs : List Ce} {i : Nat} {x : V} (h : (refs cs)[i]? = some x) : ∃ p, cs[i]? = some p ∧ x = .ref p.1 := by
  unfold refs at h
  rw [List.getElem?_map] at h
  cases e : cs[i]? with
  | none => rw [e] at h; cases h
  | some p =>
    rw [e] at h
    exact ⟨p, rfl, (Option.some.inj h).symm⟩
theorem drop_get {α : Type} {xs : List α} {i : Nat} {p : α} (h : xs[i]? = some p) : xs.drop i = p :: xs.drop (i + 1) := by
  obtain ⟨hi, e⟩ := List.getElem?_eq_some_iff.mp h
  rw [← e]
  exact List.drop_eq_getElem_cons hi
theorem take_get {α : Type} {xs : List α} {i : Nat} {p : α} (h : xs[i]? = some p) : xs.take (i + 1) = xs.take i ++ [p] := by
  rw [List.take_add_one, h]; rfl
def spValue (K : PySem.W.Frag) : Sp := fun vs H Q _ => ∃ (t : Addr) (q : Int) (cs : List Ce), vs = [.ref t, .int q] ∧ H t = some (.tup (refs cs)) ∧ TupsIn H cs ∧ Q (.int (vAt cs q 0)) H
theorem ok_value (D : DefAt K mg "value_at" s_value_at ["cells", "position"]) : Cal P w K mg base 1 "value_at" ["cells", "position"] (spValue K) := by
  refine D.mk' sc_value_at (fun vs H Q E h => ?_) (fun f cdv A outer s H vs Q E hr h => ?_)
  · obtain ⟨t, q, cs, rfl, _⟩ := h
    rfl
  · obtain ⟨t, q, cs, rfl, hc, hT, k⟩ := h
    refine ⟨_, (pss_cons (ps_set (i := 2) sc_value_at.nd rfl (Or.inl rfl) pe_int)
      (pss_cons (ps_for PassesOwn.never rfl (pi_tup (pv 0)) (pg_tup rfl (pgs_cons (pg_name (i := 3) sc_value_at.nd rfl (Or.inl rfl)) (pgs_cons (pg_name (i := 4) sc_value_at.nd rfl (Or.inl rfl)) pgs_nil))) (pss_cons (ps_if (pt_cmpR o_gt (pv 3) (pv 1) (nomark _)) (pss_one ps_break) pss_nil)
      (pss_one (ps_set (i := 2) sc_value_at.nd rfl (Or.inl rfl) (pv 4)))))
      (pss_one (ps_ret (pv 2))))), ?_⟩
    walk_at "go"
    refine lpT (SqT.of hc) (fun i σ H' => H' = H ∧ ∃ (v3 v4 : Option V) (w : Int), σ = [some (.ref t), some (.int q), some (.int w), v3, v4] ∧ vAt cs q 0 = vAt (cs.drop i) q w) ?_ ?_ ?_ ?_
    · exact ⟨rfl, none, none, 0, rfl, rfl⟩
    · rintro i σ H' _ ⟨rfl, _⟩
      exact SqT.of hc
    · rintro i x σ H' hx ⟨rfl, v3, v4, w, rfl, e⟩
      obtain ⟨p, hp, rfl⟩ := refs_get hx
      refine r_gtup (SqT.of (hT p (List.mem_of_getElem? hp))) rfl ?_
      walk_at "go"
      rw [drop_get hp] at e
      refine ifd (fun e1 => ?_) (fun e1 => ?_)
      · walk_at "go"
        have e2 : vAt (p :: cs.drop (i + 1)) q w = w := by
          show (if q < p.2.1 then w else _) = w
          rw [if_pos e1]
        rw [e, e2] at k
        exact k
      · walk_at "go"
        refine ⟨rfl, _, _, p.2.2, rfl, ?_⟩
        rw [e]
        show (if q < p.2.1 then w else _) = _
        rw [if_neg e1]
    · rintro σ H' ⟨rfl, v3, v4, w, rfl, e⟩
      walk_at "go"
      rw [refs_len, List.drop_length] at e
      rw [e] at k
      exact k
def spCell (K : PySem.W.Frag) : Sp := fun vs H Q _ => ∃ (a t : Addr) (n : Str) (len q : Int) (cs : List Ce), vs = [.ref a, .int q] ∧ H a = some (.tup [.str n, .int len, .ref t]) ∧ H t = some (.tup (refs cs)) ∧ TupsIn H cs ∧ Q (.int (cellV len cs q)) H
theorem ok_cell (D : DefAt K mg "cell" s_cell ["array", "position"]) (C_value_at : Cal P w K mg base 1 "value_at" ["cells", "position"] (spValue K)) : Cal P w K mg base 2 "cell" ["array", "position"] (spCell K) := by
  refine D.mk' sc_cell (fun vs H Q E h => ?_) (fun f cdv A outer s H vs Q E hr h => ?_)
  · obtain ⟨a, t, n, len, q, cs, rfl, _⟩ := h
    rfl
  · obtain ⟨a, t, n, len, q, cs, rfl, ha, hc, hT, k⟩ := h
    unfold cellV at k
    refine ⟨_, (pss_cons (ps_if (PW.pt (pw_or (pt_cmpR o_lt (pv 1) pe_int (nomark _)) (pw_or1 (pt_cmpR o_ge (pv 1) (pe_ix ix_tup (pv 0) pe_int (fun _ _ => rfl)) (nomark _))))) (pss_one (ps_ret pe_int)) pss_nil)
      (pss_one (ps_ret (p_cal C_value_at hr (pa_cons (pe_ix ix_tup (pv 0) pe_int (fun _ _ => rfl)) (pa_cons (pv 1) pa_nil)))))), ?_⟩
    walk_at "go"
    refine ifd (fun e1 => ?_) (fun e1 => ?_)
    · walk_at "go"
      rw [if_pos (.inl e1)] at k
      exact k
    · walk_at "go"
      refine ifd (fun e2 => ?_) (fun e2 => ?_)
      · walk_at "go"
        rw [if_pos (.inr e2)] at k
        exact k
      · walk_at "go"
        refine ⟨t, q, cs, rfl, hc, hT, ?_⟩
        rw [if_neg (by rintro (z | z); exact e1 z; exact e2 z)] at k
        exact k
def spDue (K : PySem.W.Frag) : Sp := fun vs H Q _ => ∃ (a c : Addr) (len q : Int) (cs : List Ce), vs = [.ref a, .int q] ∧ ArrAt H a c len cs ∧ Q (.int (due len cs q)) H
theorem ok_due (D : DefAt K mg "_law_due" s_due ["array", "place"]) : Cal P w K mg base 1 "_law_due" ["array", "place"] (spDue K) := by
  refine D.mk' sc_due (fun vs H Q E h => ?_) (fun f cdv A outer s H vs Q E hr h => ?_)
  · obtain ⟨a, c, len, q, cs, rfl, _⟩ := h
    rfl
  · obtain ⟨a, c, len, q, cs, rfl, ⟨ha, hc, hT⟩, k⟩ := h
    unfold due at k
    refine ⟨_, (pss_cons (ps_if (PW.pt (pw_or (pt_cmpR o_lt (pv 1) pe_int (nomark _)) (pw_or1 (pt_cmpR o_ge (pv 1) (pe_ix ix_list (pv 0) pe_int (fun _ _ => rfl)) (nomark _))))) (pss_one (ps_ret pe_int)) pss_nil)
      (pss_cons (ps_set (i := 2) sc_due.nd rfl (Or.inl rfl) pe_int)
      (pss_cons (ps_for PassesOwn.never rfl (pi_list (pe_ix ix_list (pv 0) pe_int (fun _ _ => rfl))) (pg_name (i := 3) sc_due.nd rfl (Or.inl rfl)) (pss_one (ps_if (pt_cmpR o_le (pe_ix ix_tup (pv 3) pe_int (fun _ _ => rfl)) (pv 1) (nomark _)) (pss_one (ps_set (i := 2) sc_due.nd rfl (Or.inl rfl) (pe_ix ix_tup (pv 3) pe_int (fun _ _ => rfl)))) pss_nil)))
      (pss_one (ps_ret (pv 2)))))), ?_⟩
    walk_at "go"
    refine ifd (fun e1 => ?_) (fun e1 => ?_)
    · walk_at "go"
      rw [if_pos (.inl e1)] at k
      exact k
    · walk_at "go"
      refine ifd (fun e2 => ?_) (fun e2 => ?_)
      · walk_at "go"
        rw [if_pos (.inr e2)] at k
        exact k
      · rw [if_neg (by rintro (z | z); exact e1 z; exact e2 z)] at k
        walk_at "go"
        refine lpL (SqL.of hc) (fun i σ H' => H' = H ∧ ∃ (v3 : Option V), σ = [some (.ref a), some (.int q), some (.int (lastLe (cs.take i) 0 q)), v3]) ?_ ?_ ?_ ?_
        · exact ⟨rfl, none, rfl⟩
        · rintro i σ H' _ ⟨rfl, _⟩
          exact SqL.of hc
        · rintro i x σ H' hx ⟨rfl, v3, rfl⟩
          obtain ⟨p, hp, rfl⟩ := refs_get hx
          have hq := hT p (List.mem_of_getElem? hp)
          have e : lastLe (cs.take (i + 1)) 0 q = if p.2.1 ≤ q then p.2.2 else lastLe (cs.take i) 0 q := by rw [take_get hp, lastLe_snoc]
          walk_at "go"
          refine ifd (fun e1 => ?_) (fun e1 => ?_)
          · walk_at "go"
            refine ⟨rfl, some (.ref p.1), ?_⟩
            rw [e, if_pos e1]
            rfl
          · walk_at "go"
            refine ⟨rfl, some (.ref p.1), ?_⟩
            rw [e, if_neg e1]
            rfl
        · rintro σ H' ⟨rfl, v3, rfl⟩
          walk_at "go"
          rw [refs_len, List.take_length]
          exact k
def spLess (K : PySem.W.Frag) : Sp := fun vs H Q _ => ∃ (a c0 : Addr) (len : Int) (cs : List Ce), vs = [.ref a] ∧ ArrAt H a c0 len cs ∧ ArrOk len cs ∧ ∀ (c : Addr) (ds : List Ce) (H' : Hp), Kp [] H H' → H c = none → H' c = some (.lst (refs ds)) → TupsIn H' ds → AscW ds →
  (∀ q, lastLe ds 0 q = lastLe cs 0 q) → ds.length ≤ 50 → Q (.ref c) H'
theorem ok_less (D : DefAt K mg "_law_less" s_less ["array"]) : Cal P w K mg base 1 "_law_less" ["array"] (spLess K) := by
  refine D.mk' sc_less (fun vs H Q E h => ?_) (fun f cdv A outer s H vs Q E hr h => ?_)
  · obtain ⟨a, c0, len, cs, rfl, _⟩ := h
    rfl
  · obtain ⟨a, c0, len, cs, rfl, ⟨ha, hc0, hT⟩, ⟨hA, hp, hl, l0, l1⟩, k⟩ := h
    refine ⟨_, (pss_cons (ps_set (i := 1) sc_less.nd rfl (Or.inl rfl) (pe_lst pa_nil))
      (pss_cons (ps_for PassesOwn.never rfl (pi_list (pe_ix ix_list (pv 0) pe_int (fun _ _ => rfl))) (pg_name (i := 2) sc_less.nd rfl (Or.inl rfl)) (pss_one (ps_if (PW.pt (pw_or (pt_cmpR (o_eq hr.units) (pv 1) (pe_lst pa_nil) (nomark _)) (pw_or1 (pt_cmpR (o_ne hr.units) (pe_ix ix_tup (pe_ix ix_list (pv 1) (pe_un u_neg pe_int) (fun _ _ => rfl)) pe_int (fun _ _ => rfl)) (pe_ix ix_tup (pv 2) pe_int (fun _ _ => rfl)) (nomark _))))) (pss_one (ps_expr (pe_bm PySem.F.plainAttrs_list PySem.F.slot_list_append PySem.F.type_list_append mt_append (pv 1) (pa_cons (pv 2) pa_nil)))) pss_nil)))
      (pss_one (ps_ret (pv 1))))), ?_⟩
    walk_at "go"
    refine ⟨szOk (by simp), fun c nc => ?_⟩
    have kc : Kp [] H (upd H c (.lst [])) := Kp.new nc
    have ha1 := kc.at0 ha
    have hc1 := kc.at0 hc0
    walk_at "go"
    refine lpL (SqL.of hc1) (fun i σ H' => Kp [] H H' ∧ ∃ (ds : List Ce) (v : Option V), σ = [some (.ref a), some (.ref c), v] ∧ H' c = some (.lst (refs ds)) ∧ (∀ q, lastLe ds 0 q = lastLe (cs.take i) 0 q) ∧ (∀ e ∈ ds, e ∈ cs.take i) ∧ AscW ds ∧ ds.length ≤ i) ?_ ?_ ?_ ?_
    · exact ⟨kc, [], none, rfl, upd_same, fun _ => rfl, fun _ h => (nomatch h), List.Pairwise.nil, Nat.le_refl _⟩
    · rintro i σ H' _ ⟨k1, _⟩
      exact SqL.of (k1.at0 hc0)
    · rintro i x σ H1 hx ⟨k1, ds, v, rfl, hd, he, hs, hw, hn⟩
      obtain ⟨p, hp', rfl⟩ := refs_get hx
      have hi := (List.getElem?_eq_some_iff.mp hp').1
      have hasc : AscW (cs.take i ++ [p]) := by
        rw [← take_get hp']
        exact List.Pairwise.sublist (List.take_sublist _ _) hA.w
      obtain ⟨g1, g2, g3⟩ := lessS_ok he hs hasc hw
      rw [← take_get hp'] at g1 g2
      have hTd : TupsIn H1 ds := fun e h => hT.kp0 k1 e (List.mem_of_mem_take (hs e h))
      have hpp := hT.kp0 k1 p (List.mem_of_getElem? hp')
      walk_at "go"
      refine ⟨szOk (by simp), fun e ne => ?_⟩
      have kn : Kp [] H1 (upd H1 e (.lst [])) := Kp.new ne
      have hd2 := kn.at0 hd
      have hpp2 := kn.at0 hpp
      have hT2 := hTd.kp0 kn
      refine v_eqNil hd2 hT2 upd_same ?_
      walk_at "go"
      have done : ∀ (H3 : Hp), Kp [] H H3 → H3 c = some (.lst (refs (lessS ds p))) → Kp [] H H3 ∧ ∃ (ds : List Ce) (v : Option V), [some (.ref a), some (.ref c), some (.ref p.1)] = [some (.ref a), some (.ref c), v] ∧ H3 c = some (.lst (refs ds)) ∧ (∀ q, lastLe ds 0 q = lastLe (cs.take (i + 1)) 0 q) ∧ (∀ e ∈ ds, e ∈ cs.take (i + 1)) ∧ AscW ds ∧ ds.length ≤ i + 1 := by
        intro H3 k3 h3
        refine ⟨k3, _, _, rfl, h3, g1, g2, g3, ?_⟩
        unfold lessS
        split
        · rw [List.length_append]; simp; omega
        · omega
      refine ifb (fun e1 => ?_) (fun e1 => ?_)
      · walk_at "go"
        refine v_append hd2 (by rw [refs_len]; exact szLt (by omega)) ?_
        walk_at "go"
        refine done _ ((k1.trans kn).own nc) ?_
        rw [upd_same]
        unfold lessS
        rw [if_pos (.inl (by simpa using e1)), refs_snoc]
      · have hne : ds ≠ [] := fun z => by subst z; cases e1
        obtain ⟨ys, y, rfl⟩ : ∃ ys y, ds = ys ++ [y] := ⟨ds.dropLast, ds.getLast hne, (List.dropLast_concat_getLast hne).symm⟩
        walk_at "go"
        refine v_ixL (SqL.of hd2) (refs_last _ _) ?_
        walk_at "go"
        refine v_ixT (SqT.of (hT2 y (by simp))) (v := .int y.2.2) rfl ?_
        walk_at "go"
        refine ifn (fun e2 => ?_) (fun e2 => ?_)
        · walk_at "go"
          refine v_append hd2 (by rw [refs_len]; exact szLt (by omega)) ?_
          walk_at "go"
          refine done _ ((k1.trans kn).own nc) ?_
          rw [upd_same]
          unfold lessS
          rw [if_pos (.inr (by rw [List.getLast?_concat]; intro z; exact e2 (Option.some.inj z))), refs_snoc (ys ++ [y])]
        · walk_at "go"
          refine done _ (k1.trans kn) ?_
          unfold lessS
          rw [if_neg (by rintro (z | z); exact hne z; exact z (by rw [List.getLast?_concat]; exact congrArg some e2))]
          exact hd2
    · rintro σ H1 ⟨k1, ds, v, rfl, hd, he, hs, hw, hn⟩
      walk_at "go"
      rw [refs_len] at he hs hn
      rw [List.take_length] at hs
      exact k c ds H1 k1 nc hd (fun e h => hT.kp0 k1 e (hs e h)) hw (fun q => by rw [he q, List.take_length]) (by omega)
end
end K18

namespace K18
open PySem PySem.Spec L2 KV
local macro_rules | `(tactic| walk_at "side") => `(tactic| first | assumption | omega | decide)
local macro_rules | `(tactic| walk_at "at") => `(tactic| first | assumption | exact upd_same | (rw [upd_ne (by assumption)]; assumption))
local macro_rules | `(tactic| walk_at "st") => `(tactic| first
  | with_reducible refine r_seq ?_ | with_reducible refine r_asg ?_ | with_reducible refine r_ret ?_ | with_reducible refine r_ifS ?_ | with_reducible refine r_drop ?_
  | ((with_reducible refine r_var (v := ?v) ?e ?_); (case e => exact rfl))
  | with_reducible refine r_c ?_ | with_reducible refine r_op ?_ | with_reducible refine r_un ?_ | with_reducible refine r_name ?_ | with_reducible refine r_next ?_ | with_reducible refine r_brk ?_ | with_reducible refine r_cont ?_
  | with_reducible refine r_cb ?_ | with_reducible refine r_cons ?_ | with_reducible refine r_nil ?_ | with_reducible refine r_call ?_ | with_reducible refine r_test ?_ | with_reducible refine r_tru ?_ | with_reducible refine r_tB ?_
  | with_reducible refine r_exB ?_ | with_reducible refine r_truB ?_ | with_reducible refine r_truI ?_ | with_reducible refine r_and ?_ | with_reducible refine r_or ?_ | with_reducible refine r_not ?_ | with_reducible refine r_ifE ?_
  | with_reducible refine r_andV ?_ | with_reducible refine r_orV ?_ | with_reducible refine r_notV ?_ | with_reducible refine r_gsub ?_ | with_reducible refine r_tup ?_ | with_reducible refine r_lst ?_
  | with_reducible refine r_forL ?_ | with_reducible refine r_forT ?_ | with_reducible refine r_forR ?_ | with_reducible refine r_lcL ?_ | with_reducible refine r_lcT ?_ | with_reducible refine r_lcR ?_ | with_reducible refine r_yes ?_
  | with_reducible refine v_add ?_ | with_reducible refine v_sub ?_ | with_reducible refine v_lt ?_ | with_reducible refine v_le ?_ | with_reducible refine v_gt ?_ | with_reducible refine v_ge ?_ | with_reducible refine v_neg ?_
  | with_reducible refine v_eqI ?_ | with_reducible refine v_neI ?_ | with_reducible refine v_eqB ?_ | with_reducible refine v_int ?_ | with_reducible refine v_max ?_ | with_reducible refine v_min ?_ | with_reducible refine v_abs ?_
  | ((with_reducible refine v_mulL ?s ?_); (case s => walk_at "side"))
  | ((with_reducible refine v_mulR ?s ?_); (case s => walk_at "side"))
  | ((with_reducible refine v_mod ?s ?_); (case s => walk_at "side"))
  | ((with_reducible refine v_div ?s ?t ?_); (case s => walk_at "side"); (case t => walk_at "side"))
  | ((with_reducible refine v_powE (r := ?r) ?s ?e ?_); (case s => exact (by decide)); (case e => (conv => lhs; simp only [Int.reduceToNat, Int.reducePow])))
  | ((with_reducible refine v_ixL (xs := ?xs) (v := ?v) (SqL.of ?s) ?t ?_); (case s => walk_at "at"); (case t => exact rfl))
  | ((with_reducible refine v_ixT (xs := ?xs) (v := ?v) (SqT.of ?s) ?t ?_); (case s => walk_at "at"); (case t => exact rfl))
  | with_reducible refine r_gcons ?_ | with_reducible refine r_gnil ?_ | with_reducible refine r_slice ?_ | with_reducible refine r_noP ?_ | with_reducible refine r_part ?_ | with_reducible refine r_exI ?_ | with_reducible refine r_lstRg ?_ | with_reducible refine r_rg1 ?_ | with_reducible refine iteT ?_ | with_reducible refine iteF ?_ | with_reducible refine iteNF ?_ | with_reducible refine iteNT ?_
  | with_reducible refine r_bm ?_ | ((with_reducible refine r_bmL (xs := ?xs) ?s ?_); (case s => walk_at "at"))
  | ((with_reducible refine v_lenL (xs := ?xs) (SqL.of ?s) ?_); (case s => walk_at "at"))
  | ((with_reducible refine v_setL (xs := ?xs) (n := ?n) ?s ?t ?_); (case s => walk_at "at"); (case t => exact rfl)))
local macro_rules | `(tactic| walk_at "go") => `(tactic| repeat walk_at "st")

section
variable {P : Program} {w : World} {K : PySem.W.Frag} {mg : Str → Option Value} {base : Heap}
theorem sort_asc (ds : List Ce) : AscW (ds.mergeSort (PySem.W.dataLe false ceD)) := by
  have e : PySem.W.dataLe false ceD = fun (p q : Ce) => decide (p.2.1 < q.2.1 ∨ (p.2.1 = q.2.1 ∧ p.2.2 ≤ q.2.2)) := PySem.W.dataLe_ii (fun p : Ce => p.2.1) (fun p => p.2.2)
  rw [e]
  have h := List.pairwise_mergeSort (le := fun (p q : Ce) => decide (p.2.1 < q.2.1 ∨ (p.2.1 = q.2.1 ∧ p.2.2 ≤ q.2.2))) (fun a b c h1 h2 => by simp only [decide_eq_true_eq] at h1 h2 ⊢; omega) (fun a b => by simp only [Bool.or_eq_true, decide_eq_true_eq]; omega) ds
  exact List.Pairwise.imp (fun h => by simp only [decide_eq_true_eq] at h; omega) h
def Good (cs ds : List Ce) : Prop := AscW ds ∧ ∀ q, lastLe ds 0 q = lastLe cs 0 q
def spMore (K : PySem.W.Frag) : Sp := fun vs H Q _ => ∃ (b l a c0 : Addr) (len : Int) (cs : List Ce), vs = [.ref b, .ref a] ∧ BoxAt H b l ∧ a ≠ b ∧ c0 ≠ b ∧ ArrAt H a c0 len cs ∧ ArrOk len cs ∧ ∀ (c : Addr) (ds : List Ce) (H' : Hp), BoxAt H' b l → Kp [b] H H' → H c = none → H' c = some (.lst (refs ds)) → TupsIn H' ds →
  Good cs ds → ds.length ≤ 60 → Q (.ref c) H'
theorem ok_more (D : DefAt K mg "_law_more" s_more ["box", "array"]) (T : Bt mg) (C_take : Cal P w K mg base 1 "_law_take" ["box", "size"] spTake) (C_due : Cal P w K mg base 1 "_law_due" ["array", "place"] (spDue K)) : Cal P w K mg base 2 "_law_more" ["box", "array"] (spMore K) := by
  refine D.mk' sc_more (fun vs H Q E h => ?_) (fun f cdv A outer s H vs Q E hr h => ?_)
  · obtain ⟨b, l, a, c0, len, cs, rfl, _⟩ := h
    rfl
  · obtain ⟨b, l, a, c0, len, cs, rfl, hB, na, n0, hA, hok, k⟩ := h
    obtain ⟨hasc, hpos, hlen, l0, l1⟩ := hok
    refine ⟨_, (pss_cons (ps_set (i := 2) sc_more.nd rfl (Or.inl rfl) (pe_callTy c_list (by rfl) T.m_list bt_list (pa_cons (pe_ix ix_list (pv 1) pe_int (fun _ _ => rfl)) pa_nil)))
      (pss_cons (ps_for PassesOwn.never rfl (pi_range1 (by rfl) T.m_range (pa_cons pe_int pa_nil)) (pg_name (i := 3) sc_more.nd rfl (Or.inl rfl)) (pss_cons (ps_set (i := 4) sc_more.nd rfl (Or.inl rfl) (p_cal C_take hr (pa_cons (pv 0) (pa_cons (pe_callB (c_max2 rfl) (by rfl) T.m_max bt_max (pa_cons pe_int (pa_cons (pe_ix ix_list (pv 1) pe_int (fun _ _ => rfl)) pa_nil))) pa_nil))))
      (Evl.pss_cut (ps_if (PW.pt (pw_and (pt_cmpR (o_eq hr.units) (p_cal C_take hr (pa_cons (pv 0) (pa_cons pe_int pa_nil))) pe_int (nomark _)) (pw_and1 (p_tru (pe_ix ix_list (pv 1) pe_int (fun _ _ => rfl)) (by intro _; rfl))))) (pss_one (ps_set (i := 4) sc_more.nd rfl (Or.inl rfl) (pe_op o_add (pe_ix ix_tup (pe_ix ix_list (pe_ix ix_list (pv 1) pe_int (fun _ _ => rfl)) (p_cal C_take hr (pa_cons (pv 0) (pa_cons (pe_callB c_len (by rfl) T.m_len bt_len (pa_cons (pe_ix ix_list (pv 1) pe_int (fun _ _ => rfl)) pa_nil)) pa_nil))) (fun _ _ => rfl)) pe_int (fun _ _ => rfl)) pe_int))) pss_nil)
      (pss_one (ps_if (PW.pt (pw_and (pt_cmpR o_lt (pv 4) (pe_ix ix_list (pv 1) pe_int (fun _ _ => rfl)) (nomark _)) (pw_and1 (pt_cmpR op_notIn_seq (pv 4) (pe_lc (own := [("pair", 5)]) (g := gName 5) (tt := tYes) rfl sc_more.nd (pi_list (pv 2)) (blkOk_by (own := [("pair", 5)]) (N := ["box", "array", "cells", "turn", "place", "pair"]) (sc := defScope s_more) (by decide +kernel)) (fun _ _ _ _ _ => (pg_name (i := 5) sc_more.nd rfl (Or.inl rfl))) (fun _ _ _ _ _ => pts_nil) (fun _ _ _ _ _ => (pe_ix (ixT_K (K := K) rfl) (pv 5) pe_int (fun _ _ => rfl)))) rfl)))) (pss_one (ps_expr (pe_bm PySem.F.plainAttrs_list PySem.F.slot_list_append PySem.F.type_list_append mt_append (pv 2) (pa_cons (pe_tup (pa_cons (pv 4) (pa_cons (p_cal C_due hr (pa_cons (pv 1) (pa_cons (pv 4) pa_nil))) pa_nil))) pa_nil)))) pss_nil)))))
      (pss_one (ps_ret (pe_callB (c_sortR hr) (by rfl) T.m_sorted bt_sorted (pa_cons (pv 2) pa_nil)))))), ?_⟩
    have h1 := hA.1
    have h2 := hA.2.1
    walk_at "go"
    refine v_listL (SqL.of h2) (fun m nm => ?_)
    have nmb := hB.ne nm
    walk_at "go"
    refine lpR (by omega) (by omega) (fun i σ H' => ∃ (ds : List Ce) (v3 v4 : Option V), σ = [some (.ref b), some (.ref a), some (.ref m), v3, v4, none] ∧ BoxAt H' b l ∧ Kp [b] H H' ∧ H' m = some (.lst (refs ds)) ∧ TupsIn H' ds ∧ ArrAt H' a c0 len cs ∧
      (∀ p ∈ cs, p ∈ ds) ∧ (∀ r ∈ ds, r.2.2 = lastLe cs 0 r.2.1) ∧ ds.length ≤ 50 + i) ?_ ?_ ?_
    · exact ⟨cs, none, none, rfl, hB.kp0 (Kp.new nm), Kp.new nm, upd_same, hA.2.2.kp0 (Kp.new nm), hA.kp0 (Kp.new nm), fun _ h => h, fun r hr => (lastLe_own hasc hr).symm, by omega⟩
    · rintro i σ H1 hi ⟨ds, v3, v4, rfl, hB1, k1, hm, hT, hA1, hin, hv, hl⟩
      have g1 := hA1.1
      have g2 := hA1.2.1
      walk_at "go"
      refine ⟨b, l, _, rfl, hB1, by split <;> omega, by split <;> omega, fun p0 H2 r0 r1 hB2 k2 => ?_⟩
      have hA2 := hA1.kpB k2 hB1 na n0
      have hm2 := k2.keep _ _ hm (nin1 nmb.1)
      have hT2 := hT.kpB k2 hB1
      clear r1
      walk_at "go"
      refine r_cut (fun σ' H' => ∃ (p : Int), 0 ≤ p ∧ σ' = [some (.ref b), some (.ref a), some (.ref m), some (.int i), some (.int p), none] ∧ BoxAt H' b l ∧ Kp [b] H H' ∧ H' m = some (.lst (refs ds)) ∧ TupsIn H' ds ∧ ArrAt H' a c0 len cs) ?_ ?_
      · walk_at "go"
        refine ⟨b, l, _, rfl, hB2, by decide, by decide, fun u H3 u0 u1 hB3 k3 => ?_⟩
        have hA3 := hA2.kpB k3 hB2 na n0
        have hm3 := k3.keep _ _ hm2 (nin1 nmb.1)
        have hT3 := hT2.kpB k3 hB2
        have g31 := hA3.1
        have g32 := hA3.2.1
        have skip : ∃ (p : Int), 0 ≤ p ∧ [some (V.ref b), some (.ref a), some (.ref m), some (.int i), some (.int p0), none] = [some (.ref b), some (.ref a), some (.ref m), some (.int i), some (.int p), none] ∧ BoxAt H3 b l ∧ Kp [b] H H3 ∧ H3 m = some (.lst (refs ds)) ∧ TupsIn H3 ds ∧ ArrAt H3 a c0 len cs := ⟨p0, r0, rfl, hB3, (k1.trans k2).trans k3, hm3, hT3, hA3⟩
        walk_at "go"
        refine ifd (fun e1 => ?_) (fun e1 => ?_)
        · walk_at "go"
          refine r_truL (SqL.of g32) ?_
          refine ifb (fun e2 => ?_) (fun e2 => ?_)
          · walk_at "go"
            have hne : 0 < cs.length := by
              cases cs with
              | nil => cases e2
              | cons x y => simp
            refine ⟨b, l, _, rfl, hB3, by rw [refs_len]; omega, by rw [refs_len]; omega, fun j H4 j0 j1 hB4 k4 => ?_⟩
            have hA4 := hA3.kpB k4 hB3 na n0
            obtain ⟨jj, rfl⟩ : ∃ jj : Nat, j = jj := ⟨j.toNat, by omega⟩
            rw [refs_len] at j1
            have hj : jj < cs.length := by omega
            have gj : (refs cs)[jj]? = some (.ref cs[jj].1) := by unfold refs; rw [List.getElem?_map, List.getElem?_eq_getElem hj]; rfl
            have hcell := hA4.2.2 cs[jj] (List.getElem_mem hj)
            have hpj := hpos cs[jj] (List.getElem_mem hj)
            have g42 := hA4.2.1
            refine v_ixL (SqL.of g42) (atI_nat gj) ?_
            walk_at "go"
            refine ⟨_, ?_, rfl, hB4, ((k1.trans k2).trans k3).trans k4, k4.keep _ _ hm3 (nin1 nmb.1), hT3.kpB k4 hB3, hA4⟩
            omega
          · walk_at "go"
            exact skip
        · walk_at "go"
          exact skip
      · rintro σ' H3 ⟨p, p0, rfl, hB3, k3, hm3, hT3, hA3⟩
        have g31 := hA3.1
        have g32 := hA3.2.1
        have nx : ∀ H5, BoxAt H5 b l → Kp [] H3 H5 → ∃ (ds : List Ce) (v3 v4 : Option V), [some (V.ref b), some (.ref a), some (.ref m), some (.int i), some (.int p), none] = [some (.ref b), some (.ref a), some (.ref m), v3, v4, none] ∧ BoxAt H5 b l ∧ Kp [b] H H5 ∧ H5 m = some (.lst (refs ds)) ∧ TupsIn H5 ds ∧ ArrAt H5 a c0 len cs ∧
            (∀ p ∈ cs, p ∈ ds) ∧ (∀ r ∈ ds, r.2.2 = lastLe cs 0 r.2.1) ∧ ds.length ≤ 50 + (i + 1) := fun H5 hB5 k5 => ⟨ds, _, _, rfl, hB5, k3.trans k5.of0, k5.at0 hm3, hT3.kp0 k5, hA3.kp0 k5, hin, hv, by omega⟩
        walk_at "go"
        refine ifd (fun e1 => ?_) (fun e1 => ?_)
        · walk_at "go"
          refine lcL (SqL.of hm3) (fun D i H' => Kp [] H3 H' ∧ H3 D = none ∧ H' D = some (.lst (((ds.take i).map fun r => V.int r.2.1)))) ?_ ?_ ?_ ?_
          · exact fun D nD => ⟨Kp.new nD, nD, upd_same⟩
          · rintro D i H' _ ⟨k4, _⟩
            exact SqL.of (k4.at0 hm3)
          · rintro D j x H' hx ⟨k4, nD, hD⟩
            obtain ⟨r, hr', rfl⟩ := refs_get hx
            have hj := (List.getElem?_eq_some_iff.mp hr').1
            have hcell := hT3.kp0 k4 r (List.mem_of_getElem? hr')
            walk_at "go"
            refine ⟨rfl, ?_⟩
            walk_at "go"
            refine ⟨_, hD, by rw [List.length_map, List.length_take]; exact szLt (by omega), k4.own nD, nD, ?_⟩
            rw [upd_same, take_get hr', List.map_append]
            rfl
          · rintro D H4 ⟨k4, nD, hD⟩
            walk_at "go"
            refine v_notIn (b := true) (SqL.of hD) rfl ?_ ?_
            · rw [List.all_eq_true]
              intro v hv
              obtain ⟨r, _, rfl⟩ := List.mem_map.mp hv
              rfl
            walk_at "go"
            refine ifb (fun e2 => ?_) (fun e2 => ?_)
            · have hm4 := k4.at0 hm3
              walk_at "go"
              refine ⟨a, c0, len, p, cs, rfl, hA3.kp0 k4, ?_⟩
              have hdue : due len cs p = lastLe cs 0 p := by
                unfold due
                rw [if_neg (by omega)]
              rw [hdue]
              walk_at "go"
              refine ⟨szOk (by simp), fun t nt => ?_⟩
              have hm5 := (Kp.new (M := []) (o := .tup [.int p, .int (lastLe cs 0 p)]) nt).at0 hm4
              walk_at "go"
              refine v_append hm5 (by rw [refs_len]; exact szLt (by omega)) ?_
              walk_at "go"
              have hA4 := (hA3.kp0 k4).kp0 (Kp.new (o := .tup [.int p, .int (lastLe cs 0 p)]) nt)
              have hma : m ≠ a := fun z => by subst z; rw [nm] at h1; cases h1
              have hmc : m ≠ c0 := fun z => by subst z; rw [nm] at h2; cases h2
              have hTn := ((hT3.kp0 k4).snoc (a := p) (v := lastLe cs 0 p) nt)
              refine ⟨ds ++ [(t, p, lastLe cs 0 p)], _, _, rfl, ((hB3.kp0 k4).kp0 (Kp.new nt)).put nmb, ((k3.trans k4.of0).trans (Kp.new nt)).own nm, ?_, hTn.put hm5, ?_, fun e he => List.mem_append_left _ (hin e he), ?_, ?_⟩
              · rw [upd_same, refs_snoc]
              · exact ⟨by rw [upd_ne hma.symm]; exact hA4.1, by rw [upd_ne hmc.symm]; exact hA4.2.1, hA4.2.2.put hm5⟩
              · intro r hr
                rcases List.mem_append.mp hr with hr | hr
                · exact hv r hr
                · rw [List.mem_singleton.mp hr]
              · rw [List.length_append]; simp; omega
            · walk_at "go"
              exact nx _ (hB3.kp0 k4) k4
        · walk_at "go"
          exact nx _ hB3 (Kp.refl _ _)
    · rintro σ H1 ⟨ds, v3, v4, rfl, hB1, k1, hm, hT, hA1, hin, hv, hl⟩
      walk_at "go"
      refine v_sort ds (fun p => .ref p.1) ceD (SqL.of hm) (ceD_dp hT) (PySem.W.AllAlike.of fun _ _ => by simp [ceD, PySem.W.alike, PySem.W.alikeAll]) (PySem.W.Sortable.tuples fun p => ⟨_, _, rfl⟩) (fun p _ => by have := (ceD_ok p).2; omega) (fun c nc => ?_)
      have kn : Kp [] H1 (upd H1 c (.lst (refs (ds.mergeSort (PySem.W.dataLe false ceD))))) := Kp.new nc
      refine k c (ds.mergeSort (PySem.W.dataLe false ceD)) _ (hB1.kp0 kn) (k1.trans kn.of0) (k1.free _ nc) upd_same (fun p hp => hT.kp0 kn p (List.mem_mergeSort.mp hp)) ⟨sort_asc ds, fun q => ?_⟩ (by rw [List.length_mergeSort]; omega)
      exact more_ok (len := len) hasc (sort_asc ds) (fun p hp => ⟨p, List.mem_mergeSort.mpr (hin p hp), rfl⟩) (fun r hr => hv r (List.mem_mergeSort.mp hr))
end
end K18

namespace K18
open PySem PySem.Spec L2 KV
local macro_rules | `(tactic| walk_at "side") => `(tactic| first | assumption | omega | decide)
local macro_rules | `(tactic| walk_at "at") => `(tactic| first | assumption | exact upd_same | (rw [upd_ne (by assumption)]; assumption))
local macro_rules | `(tactic| walk_at "st") => `(tactic| first
  | with_reducible refine r_seq ?_ | with_reducible refine r_asg ?_ | with_reducible refine r_ret ?_ | with_reducible refine r_ifS ?_ | with_reducible refine r_drop ?_
  | ((with_reducible refine r_var (v := ?v) ?e ?_); (case e => exact rfl))
  | with_reducible refine r_c ?_ | with_reducible refine r_op ?_ | with_reducible refine r_un ?_ | with_reducible refine r_name ?_ | with_reducible refine r_next ?_ | with_reducible refine r_brk ?_ | with_reducible refine r_cont ?_
  | with_reducible refine r_cb ?_ | with_reducible refine r_cons ?_ | with_reducible refine r_nil ?_ | with_reducible refine r_call ?_ | with_reducible refine r_test ?_ | with_reducible refine r_tru ?_ | with_reducible refine r_tB ?_
  | with_reducible refine r_exB ?_ | with_reducible refine r_truB ?_ | with_reducible refine r_truI ?_ | with_reducible refine r_and ?_ | with_reducible refine r_or ?_ | with_reducible refine r_not ?_ | with_reducible refine r_ifE ?_
  | with_reducible refine r_andV ?_ | with_reducible refine r_orV ?_ | with_reducible refine r_notV ?_ | with_reducible refine r_gsub ?_ | with_reducible refine r_tup ?_ | with_reducible refine r_lst ?_
  | with_reducible refine r_forL ?_ | with_reducible refine r_forT ?_ | with_reducible refine r_forR ?_ | with_reducible refine r_lcL ?_ | with_reducible refine r_lcT ?_ | with_reducible refine r_lcR ?_ | with_reducible refine r_yes ?_
  | with_reducible refine v_add ?_ | with_reducible refine v_sub ?_ | with_reducible refine v_lt ?_ | with_reducible refine v_le ?_ | with_reducible refine v_gt ?_ | with_reducible refine v_ge ?_ | with_reducible refine v_neg ?_
  | with_reducible refine v_eqI ?_ | with_reducible refine v_neI ?_ | with_reducible refine v_eqB ?_ | with_reducible refine v_int ?_ | with_reducible refine v_max ?_ | with_reducible refine v_min ?_ | with_reducible refine v_abs ?_
  | ((with_reducible refine v_mulL ?s ?_); (case s => walk_at "side"))
  | ((with_reducible refine v_mulR ?s ?_); (case s => walk_at "side"))
  | ((with_reducible refine v_mod ?s ?_); (case s => walk_at "side"))
  | ((with_reducible refine v_div ?s ?t ?_); (case s => walk_at "side"); (case t => walk_at "side"))
  | ((with_reducible refine v_powE (r := ?r) ?s ?e ?_); (case s => exact (by decide)); (case e => (conv => lhs; simp only [Int.reduceToNat, Int.reducePow])))
  | ((with_reducible refine v_ixL (xs := ?xs) (v := ?v) (SqL.of ?s) ?t ?_); (case s => walk_at "at"); (case t => exact rfl))
  | ((with_reducible refine v_ixT (xs := ?xs) (v := ?v) (SqT.of ?s) ?t ?_); (case s => walk_at "at"); (case t => exact rfl))
  | with_reducible refine r_gcons ?_ | with_reducible refine r_gnil ?_ | with_reducible refine r_slice ?_ | with_reducible refine r_noP ?_ | with_reducible refine r_part ?_ | with_reducible refine r_exI ?_ | with_reducible refine r_lstRg ?_ | with_reducible refine r_rg1 ?_ | with_reducible refine iteT ?_ | with_reducible refine iteF ?_ | with_reducible refine iteNF ?_ | with_reducible refine iteNT ?_
  | with_reducible refine r_bm ?_ | ((with_reducible refine r_bmL (xs := ?xs) ?s ?_); (case s => walk_at "at"))
  | ((with_reducible refine v_lenL (xs := ?xs) (SqL.of ?s) ?_); (case s => walk_at "at"))
  | ((with_reducible refine v_setL (xs := ?xs) (n := ?n) ?s ?t ?_); (case s => walk_at "at"); (case t => exact rfl)))
local macro_rules | `(tactic| walk_at "go") => `(tactic| repeat walk_at "st")

section
variable {P : Program} {w : World} {K : PySem.W.Frag} {mg : Str → Option Value} {base : Heap}
def spPlaces : Sp := fun vs H Q _ => ∃ (b l a c0 : Addr) (len : Int) (cs : List Ce), vs = [.ref b, .ref a] ∧ BoxAt H b l ∧ a ≠ b ∧ c0 ≠ b ∧ ArrAt H a c0 len cs ∧ ArrOk len cs ∧ ∀ (p : Addr) (ns : List Int) (H' : Hp), BoxAt H' b l → Kp [b] H H' → H p = none → H' p = some (.lst (ns.map V.int)) → ns.length ≤ 500 → Q (.ref p) H'
theorem ok_places (D : DefAt K mg "_law_places" s_places ["box", "array"]) (T : Bt mg) (C_take : Cal P w K mg base 1 "_law_take" ["box", "size"] spTake) : Cal P w K mg base 2 "_law_places" ["box", "array"] spPlaces := by
  refine D.mk' sc_places (fun vs H Q E h => ?_) (fun f cdv A outer s H vs Q E hr h => ?_)
  · obtain ⟨b, l, a, c0, len, cs, rfl, _⟩ := h
    rfl
  · obtain ⟨b, l, a, c0, len, cs, rfl, hB, na, n0, hA, hok, k⟩ := h
    obtain ⟨hasc, hpos, hlen, l0, l1⟩ := hok
    refine ⟨_, (pss_cons (ps_set (i := 2) sc_places.nd rfl (Or.inr rfl) (pe_ix ix_list (pv 1) pe_int (fun _ _ => rfl)))
      (pss_cons (ps_set (i := 3) sc_places.nd rfl (Or.inl rfl) (pe_lst (pa_cons pe_int (pa_cons (pe_un u_neg pe_int) (pa_cons (pe_un u_neg pe_int) (pa_cons (pe_op o_sub pe_int (pv 2)) (pa_cons (pe_op o_sub (pe_op o_sub pe_int (pv 2)) pe_int) (pa_cons (pe_op o_sub (pv 2) pe_int) (pa_cons (pv 2) (pa_cons (pe_op o_add (pv 2) pe_int) (pa_cons (pe_op o_pow pe_int pe_int) (pa_cons (pe_un u_neg (pe_op o_pow pe_int pe_int)) pa_nil))))))))))))
      (pss_cons (ps_set (i := 3) sc_places.nd rfl (Or.inl rfl) (pe_op op_cat (pv 3) (pe_lc (own := [("turn", 5)]) (g := gName 5) (tt := tYes) rfl sc_places.nd (pi_range1 (by rfl) T.m_range (pa_cons pe_int pa_nil)) (blkOk_by (own := [("turn", 5)]) (N := ["box", "array", "length", "places", "pair", "turn"]) (sc := defScope s_places) (by decide +kernel)) (fun _ _ _ _ _ => (pg_name (i := 5) sc_places.nd rfl (Or.inl rfl))) (fun _ _ _ _ _ => pts_nil) (fun _ _ _ _ _ => (pe_op o_sub (p_cal C_take hr (pa_cons (pv 0) (pa_cons (pe_op o_add (pv 2) pe_int) pa_nil))) pe_int)))))
      (pss_cons (ps_for PassesOwn.never rfl (pi_list (pe_ix ix_list (pv 1) pe_int (fun _ _ => rfl))) (pg_name (i := 4) sc_places.nd rfl (Or.inl rfl)) (pss_one (ps_set (i := 3) sc_places.nd rfl (Or.inl rfl) (pe_op op_cat (pv 3) (pe_lst (pa_cons (pe_op o_sub (pe_ix ix_tup (pv 4) pe_int (fun _ _ => rfl)) pe_int) (pa_cons (pe_ix ix_tup (pv 4) pe_int (fun _ _ => rfl)) (pa_cons (pe_op o_add (pe_ix ix_tup (pv 4) pe_int (fun _ _ => rfl)) pe_int) pa_nil))))))))
      (pss_one (ps_ret (pe_op op_cat (pv 3) (pe_listRg rfl (by rfl) T.m_list (prg_1 (by rfl) T.m_range (pe_callB (c_min2 rfl) (by rfl) T.m_min bt_min (pa_cons (pe_op o_add (pv 2) pe_int) (pa_cons pe_int pa_nil)))))))))))), ?_⟩
    have h1 := hA.1
    have h2 := hA.2.1
    walk_at "go"
    refine ⟨szOk (by simp), fun p np => ?_⟩
    generalize hns : [V.int 0, V.int (-1), V.int (-2), V.int (0 - len), V.int (0 - len - 1), V.int (len - 1), V.int len, V.int (len + 1), V.int 10000000000000000000000000, V.int (-10000000000000000000000000)] = xs
    obtain ⟨ns, rfl, hl⟩ : ∃ ns : List Int, xs = ns.map V.int ∧ ns.length = 10 := ⟨[0, -1, -2, 0 - len, 0 - len - 1, len - 1, len, len + 1, 10000000000000000000000000, -10000000000000000000000000], hns.symm, rfl⟩
    clear hns
    have k0 : Kp [] H (upd H p (.lst (ns.map V.int))) := Kp.new np
    have npb := hB.ne np
    walk_at "go"
    refine lcR (by decide) (by decide) (fun D i H' => ∃ ms : List Int, ms.length = i ∧ BoxAt H' b l ∧ Kp [b] H H' ∧ H D = none ∧ (D ≠ b ∧ D ≠ l) ∧ D ≠ p ∧ H' D = some (.lst (ms.map V.int)) ∧ H' p = some (.lst (ns.map V.int))) ?_ ?_ ?_
    · exact fun D nD => ⟨[], rfl, (hB.kp0 k0).kp0 (Kp.new nD), k0.of0.trans (Kp.new nD), k0.free _ nD, ((hB.kp0 k0).ne nD), free_ne nD, upd_same, (Kp.new (M := []) nD).at0 upd_same⟩
    · rintro D i H1 hi ⟨ms, hm, hB1, k1, nD, nDb, nDp, hD, hp⟩
      walk_at "go"
      refine ⟨rfl, ?_⟩
      walk_at "go"
      refine ⟨b, l, _, rfl, hB1, by omega, by omega, fun u H2 u0 u1 hB2 k2 => ?_⟩
      walk_at "go"
      have hD2 := k2.keep _ _ hD (nin1 nDb.1)
      refine ⟨_, hD2, by rw [List.length_map]; exact szLt (by omega), ms ++ [u - 1], by rw [List.length_append, hm]; rfl, hB2.put nDb, (k1.trans k2).own nD, nD, nDb, nDp, ?_, ?_⟩
      · rw [upd_same, List.map_append]; rfl
      · rw [upd_ne nDp.symm]; exact k2.keep _ _ hp (nin1 npb.1)
    · rintro D H1 ⟨ms, hm, hB1, k1, nD, nDb, nDp, hD, hp⟩
      walk_at "go"
      have hm3 : ms.length = 3 := hm
      refine v_cat hp hD (by rw [List.length_map, List.length_map]; exact szOk (by omega)) (fun p2 np2 => ?_)
      rw [← List.map_append]
      have kp2 : Kp [] H1 (upd H1 p2 (.lst ((ns ++ ms).map V.int))) := Kp.new np2
      have hA2 := (hA.kpB k1 hB na n0).kp0 kp2
      have g1 := hA2.1
      have g2 := hA2.2.1
      have hB2 := hB1.kp0 kp2
      have e2 : (upd H1 p2 (.lst ((ns ++ ms).map V.int))) p2 = some (.lst ((ns ++ ms).map V.int)) := upd_same
      have k2 := k1.trans kp2.of0
      have np20 := k1.free _ np2
      generalize upd H1 p2 (.lst ((ns ++ ms).map V.int)) = H2 at *
      walk_at "go"
      refine lpL (SqL.of g2) (fun i σ H' => ∃ (p : Addr) (ns : List Int) (v : Option V), σ = [some (.ref b), some (.ref a), some (.int len), some (.ref p), v, none] ∧ H p = none ∧ H' p = some (.lst (ns.map V.int)) ∧ BoxAt H' b l ∧ Kp [b] H H' ∧ Kp [] H2 H' ∧ ns.length ≤ 13 + 3 * i) ?_ ?_ ?_ ?_
      · exact ⟨p2, _, none, rfl, np20, e2, hB2, k2, Kp.refl _ _, by rw [List.length_append]; omega⟩
      · rintro i σ H' _ ⟨_, _, _, _, _, _, _, _, k5, _⟩
        exact SqL.of (k5.at0 g2)
      · rintro i x σ H3 hx ⟨q, js, v, rfl, nq, hq, hB3, k3, k23, hl3⟩
        obtain ⟨r, hr', rfl⟩ := refs_get hx
        have hi := (List.getElem?_eq_some_iff.mp hr').1
        have hc := (hA2.2.2.kp0 k23) r (List.mem_of_getElem? hr')
        walk_at "go"
        refine ⟨szOk (by simp), fun t nt => ?_⟩
        have kt : Kp [] H3 (upd H3 t (.lst [.int (r.2.1 - 1), .int r.2.1, .int (r.2.1 + 1)])) := Kp.new nt
        have hq3 := kt.at0 hq
        refine v_cat hq3 upd_same (by rw [List.length_map]; exact szOk (by simp; omega)) (fun q2 nq2 => ?_)
        walk_at "go"
        refine ⟨q2, js ++ [r.2.1 - 1, r.2.1, r.2.1 + 1], _, rfl, k3.free _ (free_of nq2), ?_, (hB3.kp0 kt).kp0 (Kp.new nq2), (k3.trans kt.of0).trans (Kp.new nq2), (k23.trans kt).trans (Kp.new nq2), ?_⟩
        · rw [upd_same, List.map_append]; rfl
        · rw [List.length_append]; simp; omega
      · rintro σ H3 ⟨q, js, v, rfl, nq, hq, hB3, k3, k23, hl3⟩
        rw [refs_len] at hl3
        walk_at "go"
        refine ⟨⟨by decide, by decide, by split <;> omega, by split <;> omega, by split <;> omega⟩, fun t nt => ?_⟩
        rw [rgV_ints]
        generalize hz : ((List.range (if 12 < len + 2 then 12 else len + 2).toNat).map fun (i : Nat) => ((i : Nat) : Int)) = zs
        have hzl : zs.length ≤ 12 := by
          rw [← hz, List.length_map, List.length_range]
          split <;> omega
        have kt : Kp [] H3 (upd H3 t (.lst (zs.map V.int))) := Kp.new nt
        refine v_cat (kt.at0 hq) upd_same (by rw [List.length_map, List.length_map]; exact szOk (by omega)) (fun q2 nq2 => ?_)
        rw [← List.map_append]
        refine k q2 (js ++ zs) _ ((hB3.kp0 kt).kp0 (Kp.new nq2)) ((k3.trans kt.of0).trans (Kp.new nq2)) (k3.free _ (free_of nq2)) upd_same (by rw [List.length_append]; omega)
def WayAt (H : Hp) (t : Addr) (len : Int) (cs : List Ce) : Prop := ∃ u ds, H t = some (.tup [.str "array", .int len, .ref u]) ∧ H u = some (.tup (refs ds)) ∧ TupsIn H ds ∧ Good cs ds
theorem WayAt.kp0 {H H' : Hp} {t : Addr} {len : Int} {cs : List Ce} (h : WayAt H t len cs) (k : Kp [] H H') : WayAt H' t len cs := by
  obtain ⟨u, ds, h1, h2, h3, h4⟩ := h
  exact ⟨u, ds, k.at0 h1, k.at0 h2, h3.kp0 k, h4⟩
theorem WayAt.kpB {H H' : Hp} {t b l : Addr} {len : Int} {cs : List Ce} (h : WayAt H t len cs) (k : Kp [b] H H') (hB : BoxAt H b l) : WayAt H' t len cs := by
  obtain ⟨u, ds, h1, h2, h3, h4⟩ := h
  have nt := hB.nt b (by simp)
  exact ⟨u, ds, k.keep _ _ h1 (nin1 fun z => nt _ (z ▸ h1)), k.keep _ _ h2 (nin1 fun z => nt _ (z ▸ h2)), h3.kpB k hB, h4⟩
def spWays : Sp := fun vs H Q _ => ∃ (b l a c0 : Addr) (len : Int) (cs : List Ce), vs = [.ref b, .ref a] ∧ BoxAt H b l ∧ a ≠ b ∧ c0 ≠ b ∧ ArrAt H a c0 len cs ∧ ArrOk len cs ∧ ∀ (p : Addr) (ts : List Addr) (H' : Hp), BoxAt H' b l → Kp [b] H H' → H p = none → H' p = some (.lst (ts.map V.ref)) → ts.length = 3 → (∀ t ∈ ts, WayAt H' t len cs) → Q (.ref p) H'
theorem ok_ways (D : DefAt K mg "_law_ways" s_ways ["box", "array"]) (T : Bt mg) (C_more : Cal P w K mg base 2 "_law_more" ["box", "array"] (spMore K)) (C_less : Cal P w K mg base 1 "_law_less" ["array"] (spLess K)) : Cal P w K mg base 3 "_law_ways" ["box", "array"] spWays := by
  refine D.mk' sc_ways (fun vs H Q E h => ?_) (fun f cdv A outer s H vs Q E hr h => ?_)
  · obtain ⟨b, l, a, c0, len, cs, rfl, _⟩ := h
    rfl
  · obtain ⟨b, l, a, c0, len, cs, rfl, hB, na, n0, hA, hok, k⟩ := h
    refine ⟨_, (pss_cons (ps_set (i := 2) sc_ways.nd rfl (Or.inl rfl) (pe_lst (pa_cons (pe_ix ix_list (pv 1) pe_int (fun _ _ => rfl)) (pa_cons (p_cal C_more hr (pa_cons (pv 0) (pa_cons (pv 1) pa_nil))) (pa_cons (p_cal C_less hr (pa_cons (pv 1) pa_nil)) pa_nil)))))
      (pss_one (ps_ret (pe_lc (own := [("cells", 3)]) (g := gName 3) (tt := tYes) rfl sc_ways.nd (pi_list (pv 2)) (blkOk_by (own := [("cells", 3)]) (N := ["box", "array", "ways", "cells"]) (sc := defScope s_ways) (by decide +kernel)) (fun _ _ _ _ _ => (pg_name (i := 3) sc_ways.nd rfl (Or.inl rfl))) (fun _ _ _ _ _ => pts_nil) (fun _ _ _ _ _ => (pe_tup (pa_cons pe_str (pa_cons (pe_ix (ixL_K (K := K) rfl) (pv 1) pe_int (fun _ _ => rfl)) (pa_cons (pe_callTy (tuple_K (K := K) rfl) (by rfl) T.m_tuple bt_tuple (pa_cons (pv 3) pa_nil)) pa_nil))))))))), ?_⟩
    have h1 := hA.1
    walk_at "go"
    refine ⟨b, l, a, c0, len, cs, rfl, hB, na, n0, hA, hok, fun c1 ds1 H1 hB1 k1 nc1 hc1 hT1 hg1 hl1 => ?_⟩
    have hA1 := hA.kpB k1 hB na n0
    walk_at "go"
    refine ⟨a, c0, len, cs, rfl, hA1, hok, fun c2 ds2 H2 k2 nc2 hc2 hT2 hw2 hv2 hl2 => ?_⟩
    have hA2 := hA1.kp0 k2
    walk_at "go"
    refine ⟨szOk (by simp), fun p np => ?_⟩
    have kp : Kp [] H2 (upd H2 p (.lst [.ref c0, .ref c1, .ref c2])) := Kp.new np
    have hp : (upd H2 p (.lst [.ref c0, .ref c1, .ref c2])) p = some (.lst [.ref c0, .ref c1, .ref c2]) := upd_same
    have hA3 := hA2.kp0 kp
    have hB3 := (hB1.kp0 k2).kp0 kp
    have kk := (k1.trans k2.of0).trans kp.of0
    have all : ∀ (i : Nat) (x : V), ([.ref c0, .ref c1, .ref c2] : List V)[i]? = some x → ∃ c ds, x = .ref c ∧ (upd H2 p (.lst [.ref c0, .ref c1, .ref c2])) c = some (.lst (refs ds)) ∧ TupsIn (upd H2 p (.lst [.ref c0, .ref c1, .ref c2])) ds ∧ Good cs ds := by
      intro i x hx
      match i, hx with
      | 0, hx => exact ⟨c0, cs, (Option.some.inj hx).symm, hA3.2.1, hA3.2.2, hok.1.w, fun _ => rfl⟩
      | 1, hx => exact ⟨c1, ds1, (Option.some.inj hx).symm, kp.at0 (k2.at0 hc1), (hT1.kp0 k2).kp0 kp, hg1⟩
      | 2, hx => exact ⟨c2, ds2, (Option.some.inj hx).symm, kp.at0 hc2, hT2.kp0 kp, hw2, hv2⟩
      | n + 3, hx => cases hx
    generalize upd H2 p (.lst [.ref c0, .ref c1, .ref c2]) = H3 at *
    have g1 := hA3.1
    walk_at "go"
    refine lcL (SqL.of hp) (fun D i H' => ∃ ts : List Addr, ts.length = i ∧ Kp [] H3 H' ∧ H3 D = none ∧ H' D = some (.lst (ts.map V.ref)) ∧ ∀ t ∈ ts, WayAt H' t len cs) ?_ ?_ ?_ ?_
    · exact fun D nD => ⟨[], rfl, Kp.new nD, nD, upd_same, fun _ h => (nomatch h)⟩
    · rintro D i H' _ ⟨_, _, k4, _⟩
      exact SqL.of (k4.at0 hp)
    · rintro D i x H4 hx ⟨ts, hl, k4, nD, hD, hts⟩
      obtain ⟨c, ds, rfl, hc, hT, hg⟩ := all i x hx
      have hi : i < 3 := (List.getElem?_eq_some_iff.mp hx).1
      have g4 := k4.at0 g1
      have hc4 := k4.at0 hc
      walk_at "go"
      refine ⟨rfl, ?_⟩
      walk_at "go"
      refine v_tupleL (SqL.of hc4) (fun u nu => ?_)
      walk_at "go"
      refine ⟨szOk (by simp), fun t nt => ?_⟩
      have ku : Kp [] H4 (upd H4 u (.tup (refs ds))) := Kp.new nu
      have kt : Kp [] (upd H4 u (.tup (refs ds))) (upd (upd H4 u (.tup (refs ds))) t (.tup [.str "array", .int len, .ref u])) := Kp.new nt
      have hD5 := kt.at0 (ku.at0 hD)
      have w5 : WayAt (upd (upd H4 u (.tup (refs ds))) t (.tup [.str "array", .int len, .ref u])) t len cs := ⟨u, ds, upd_same, kt.at0 upd_same, ((hT.kp0 k4).kp0 ku).kp0 kt, hg⟩
      have put : ∀ t', WayAt (upd (upd H4 u (.tup (refs ds))) t (.tup [.str "array", .int len, .ref u])) t' len cs → WayAt (upd (upd (upd H4 u (.tup (refs ds))) t (.tup [.str "array", .int len, .ref u])) D (.lst (ts.map V.ref ++ [.ref t]))) t' len cs := by
        rintro t' ⟨u', ds', q1, q2, q3, q4⟩
        refine ⟨u', ds', ?_, ?_, q3.put hD5, q4⟩
        · rw [upd_ne (ne_of q1 hD5 (by intro z; cases z))]; exact q1
        · rw [upd_ne (ne_of q2 hD5 (by intro z; cases z))]; exact q2
      refine ⟨_, hD5, by rw [List.length_map]; exact szLt (by omega), ts ++ [t], by rw [List.length_append, hl]; rfl, ((k4.trans ku).trans kt).own nD, nD, by rw [upd_same, List.map_append]; rfl, fun t' ht' => ?_⟩
      rcases List.mem_append.mp ht' with h | h
      · exact put t' (((hts t' h).kp0 ku).kp0 kt)
      · rw [List.mem_singleton.mp h]
        exact put t w5
    · rintro D H4 ⟨ts, hl, k4, nD, hD, hts⟩
      walk_at "go"
      exact k D ts H4 (hB3.kp0 k4) (kk.trans k4.of0) (kk.free _ nD) hD hl hts
def spRight (K : PySem.W.Frag) : Sp := fun vs H Q _ => ∃ (x y : Int), vs = [.int x, .int y] ∧ Q (.bl (decide (x = y))) H
theorem ok_right (D : DefAt K mg "_law_right" s_right ["told", "due"]) (T : Bt mg) : Cal P w K mg base 1 "_law_right" ["told", "due"] (spRight K) := by
  refine D.mk' sc_right (fun vs H Q E h => ?_) (fun f cdv A outer s H vs Q E hr h => ?_)
  · obtain ⟨x, y, rfl, _⟩ := h
    rfl
  · obtain ⟨x, y, rfl, k⟩ := h
    refine ⟨_, (pss_one (ps_ret (pe_and (pe_callB c_isi (by rfl) T.m_isinstance bt_isinstance (pa_cons (pv 0) (pa_cons (pe_bltn (v := .ty "int") (by rfl) T.m_int bt_int rfl) pa_nil))) (pe_and (pe_not (pe_callB c_isi (by rfl) T.m_isinstance bt_isinstance (pa_cons (pv 0) (pa_cons (pe_bltn (v := .ty "bool") (by rfl) T.m_bool bt_bool rfl) pa_nil)))) (pe_one (pe_cmpR (o_eq hr.units) (pv 0) (pv 1) (nomark _))))))), ?_⟩
    walk_at "go"
    refine v_isi (.base (.int x)) (kit_ty (r := true) (by decide +kernel)) ?_
    walk_at "go"
    refine v_isi (.base (.int x)) (kit_ty (r := false) (by decide +kernel)) ?_
    walk_at "go"
    exact k
end
end K18

namespace K18
open PySem PySem.Spec L2 KV
local macro_rules | `(tactic| walk_at "side") => `(tactic| first | assumption | omega | decide)
local macro_rules | `(tactic| walk_at "at") => `(tactic| first | assumption | exact upd_same | (rw [upd_ne (by assumption)]; assumption))
local macro_rules | `(tactic| walk_at "st") => `(tactic| first
  | with_reducible refine r_seq ?_ | with_reducible refine r_asg ?_ | with_reducible refine r_ret ?_ | with_reducible refine r_ifS ?_ | with_reducible refine r_drop ?_
  | ((with_reducible refine r_var (v := ?v) ?e ?_); (case e => exact rfl))
  | with_reducible refine r_c ?_ | with_reducible refine r_op ?_ | with_reducible refine r_un ?_ | with_reducible refine r_name ?_ | with_reducible refine r_next ?_ | with_reducible refine r_brk ?_ | with_reducible refine r_cont ?_
  | with_reducible refine r_cb ?_ | with_reducible refine r_cons ?_ | with_reducible refine r_nil ?_ | with_reducible refine r_call ?_ | with_reducible refine r_test ?_ | with_reducible refine r_tru ?_ | with_reducible refine r_tB ?_
  | with_reducible refine r_exB ?_ | with_reducible refine r_truB ?_ | with_reducible refine r_truI ?_ | with_reducible refine r_and ?_ | with_reducible refine r_or ?_ | with_reducible refine r_not ?_ | with_reducible refine r_ifE ?_
  | with_reducible refine r_andV ?_ | with_reducible refine r_orV ?_ | with_reducible refine r_notV ?_ | with_reducible refine r_gsub ?_ | with_reducible refine r_tup ?_ | with_reducible refine r_lst ?_
  | with_reducible refine r_forL ?_ | with_reducible refine r_forT ?_ | with_reducible refine r_forR ?_ | with_reducible refine r_lcL ?_ | with_reducible refine r_lcT ?_ | with_reducible refine r_lcR ?_ | with_reducible refine r_yes ?_
  | with_reducible refine v_add ?_ | with_reducible refine v_sub ?_ | with_reducible refine v_lt ?_ | with_reducible refine v_le ?_ | with_reducible refine v_gt ?_ | with_reducible refine v_ge ?_ | with_reducible refine v_neg ?_
  | with_reducible refine v_eqI ?_ | with_reducible refine v_neI ?_ | with_reducible refine v_eqB ?_ | with_reducible refine v_int ?_ | with_reducible refine v_max ?_ | with_reducible refine v_min ?_ | with_reducible refine v_abs ?_
  | ((with_reducible refine v_mulL ?s ?_); (case s => walk_at "side"))
  | ((with_reducible refine v_mulR ?s ?_); (case s => walk_at "side"))
  | ((with_reducible refine v_mod ?s ?_); (case s => walk_at "side"))
  | ((with_reducible refine v_div ?s ?t ?_); (case s => walk_at "side"); (case t => walk_at "side"))
  | ((with_reducible refine v_powE (r := ?r) ?s ?e ?_); (case s => exact (by decide)); (case e => (conv => lhs; simp only [Int.reduceToNat, Int.reducePow])))
  | ((with_reducible refine v_ixL (xs := ?xs) (v := ?v) (SqL.of ?s) ?t ?_); (case s => walk_at "at"); (case t => exact rfl))
  | ((with_reducible refine v_ixT (xs := ?xs) (v := ?v) (SqT.of ?s) ?t ?_); (case s => walk_at "at"); (case t => exact rfl))
  | with_reducible refine r_gcons ?_ | with_reducible refine r_gnil ?_ | with_reducible refine r_slice ?_ | with_reducible refine r_noP ?_ | with_reducible refine r_part ?_ | with_reducible refine r_exI ?_ | with_reducible refine r_lstRg ?_ | with_reducible refine r_rg1 ?_ | with_reducible refine iteT ?_ | with_reducible refine iteF ?_ | with_reducible refine iteNF ?_ | with_reducible refine iteNT ?_
  | with_reducible refine r_bm ?_ | ((with_reducible refine r_bmL (xs := ?xs) ?s ?_); (case s => walk_at "at"))
  | ((with_reducible refine v_lenL (xs := ?xs) (SqL.of ?s) ?_); (case s => walk_at "at"))
  | ((with_reducible refine v_setL (xs := ?xs) (n := ?n) ?s ?t ?_); (case s => walk_at "at"); (case t => exact rfl)))
local macro_rules | `(tactic| walk_at "go") => `(tactic| repeat walk_at "st")

section
variable {P : Program} {w : World} {K : PySem.W.Frag} {mg : Str → Option Value} {base : Heap}
def spBox (K : PySem.W.Frag) : Sp := fun vs H Q _ => ∃ (a : Addr) (ns : List Int), vs = [.ref a] ∧ SqL K H a (ns.map V.int) ∧ ns.length ≤ 63 ∧ ∀ (b l : Addr) (H' : Hp), BoxAt H' b l → Kp [] H H' → H b = none → Q (.ref b) H'
theorem ok_box (D : DefAt K mg "_law_box" s_box ["script"]) (T : Bt mg) : Cal P w K mg base 1 "_law_box" ["script"] (spBox K) := by
  refine D.mk' sc_box (fun vs H Q E h => ?_) (fun f cdv A outer s H vs Q E hr h => ?_)
  · obtain ⟨a, ns, rfl, _⟩ := h
    rfl
  · obtain ⟨a, ns, rfl, hS, hl, k⟩ := h
    refine ⟨_, (pss_one (ps_ret (pe_lst (pa_cons (pe_lc (own := [("number", 1)]) (g := gName 1) (tt := tYes) rfl sc_box.nd (pi_list (pe_slice sl_list (pv 0) po_none (po_some pe_int))) (blkOk_by (own := [("number", 1)]) (N := ["script", "number"]) (sc := defScope s_box) (by decide +kernel)) (fun _ _ _ _ _ => (pg_name (i := 1) sc_box.nd rfl (Or.inl rfl))) (fun _ _ _ _ _ => pts_nil) (fun _ _ _ _ _ => (pe_callTy c_int (by rfl) T.m_int bt_int (pa_cons (pv 1) pa_nil)))) (pa_cons pe_int (pa_cons pe_int (pa_cons pe_int (pa_cons pe_int pa_nil)))))))), ?_⟩
    walk_at "go"
    refine v_slL hS (fun p np => ?_)
    obtain ⟨ms, hms, hml⟩ : ∃ ms : List Int, cutV (ns.map V.int) none (some 63) = ms.map V.int ∧ ms.length ≤ 63 := by
      refine ⟨(ns.drop (HT.sIx (ns.map V.int).length 0 none)).take (HT.sIx (ns.map V.int).length (ns.map V.int).length (some 63) - HT.sIx (ns.map V.int).length 0 none), ?_, ?_⟩
      · unfold cutV
        rw [List.map_take, List.map_drop]
      · rw [List.length_take, List.length_drop]
        omega
    rw [hms]
    have kp : Kp [] H (upd H p (.lst (ms.map V.int))) := Kp.new np
    walk_at "go"
    refine lcL (SqL.of upd_same) (fun D i H' => Kp [] (upd H p (.lst (ms.map V.int))) H' ∧ H D = none ∧ (upd H p (.lst (ms.map V.int))) D = none ∧ H' D = some (.lst ((ms.take i).map V.int))) ?_ ?_ ?_ ?_
    · exact fun D nD => ⟨Kp.new nD, free_of nD, nD, upd_same⟩
    · rintro D i H' _ ⟨k1, _⟩
      exact SqL.of (k1.at0 upd_same)
    · rintro D i x H1 hx ⟨k1, nD, nD1, hD⟩
      rw [List.getElem?_map] at hx
      obtain ⟨y, hy, rfl⟩ : ∃ y, ms[i]? = some y ∧ x = V.int y := by
        cases e : ms[i]? with
        | none => rw [e] at hx; cases hx
        | some y => rw [e] at hx; exact ⟨y, rfl, (Option.some.inj hx).symm⟩
      have hi := (List.getElem?_eq_some_iff.mp hy).1
      walk_at "go"
      refine ⟨rfl, ?_⟩
      walk_at "go"
      refine ⟨_, hD, by rw [List.length_map, List.length_take]; exact szLt (by omega), k1.own nD1, nD, nD1, ?_⟩
      rw [upd_same, take_get hy, List.map_append]
      rfl
    · rintro D H1 ⟨k1, nD, nD1, hD⟩
      rw [List.length_map, List.take_length] at hD
      walk_at "go"
      refine ⟨szOk (by simp), fun b nb => ?_⟩
      refine k b D _ ⟨ms, 0, 0, 81, 0, upd_same, ?_, ?_, by decide, by decide, by decide, by decide⟩ ((kp.trans k1).trans (Kp.new nb)) ((kp.trans k1).free _ nb)
      · exact (Kp.new (M := []) nb).at0 hD
      · exact ne_of_none hD nb
def spLaw (K : PySem.W.Frag) : Sp := fun vs H Q _ => ∃ (a : Addr) (ns : List Int), vs = [.ref a] ∧ SqL K H a (ns.map V.int) ∧ ns.length ≤ 63 ∧ ∀ H', Q (.bl true) H'
theorem way_right {H : Hp} {t : Addr} {len : Int} {cs : List Ce} (h : WayAt H t len cs) (q : Int) : ∃ u ds, H t = some (.tup [.str "array", .int len, .ref u]) ∧ H u = some (.tup (refs ds)) ∧ TupsIn H ds ∧ cellV len ds q = due len cs q := by
  obtain ⟨u, ds, h1, h2, h3, h4, h5⟩ := h
  refine ⟨u, ds, h1, h2, h3, ?_⟩
  unfold cellV due
  rw [vAt_eq ds 0 h4, h5]
theorem ok_law {f : Addr} {fd : FuncData} (F : Fun K "law" "law" s_law f fd) (T : Bt mg) (C_box : Cal P w K mg base 1 "_law_box" ["script"] (spBox K)) (C_array : Cal P w K mg base 4 "_law_array" ["box", "full"] spArray) (C_ways : Cal P w K mg base 3 "_law_ways" ["box", "array"] spWays) (C_places : Cal P w K mg base 2 "_law_places" ["box", "array"] spPlaces)
    (C_right : Cal P w K mg base 1 "_law_right" ["told", "due"] (spRight K)) (C_cell : Cal P w K mg base 2 "cell" ["array", "position"] (spCell K)) (C_due : Cal P w K mg base 1 "_law_due" ["array", "place"] (spDue K)) : FnOk P w K mg base CX0 5 f fd ["script"] (spLaw K) := by
  refine F.ok sc_law (fun vs H Q E h => ?_) (fun cdv A outer s H vs Q E hr h => ?_)
  · obtain ⟨a, ns, rfl, _⟩ := h
    rfl
  · obtain ⟨a, ns, rfl, hS, hl, k⟩ := h
    refine ⟨_, (pss_cons (ps_set (i := 1) sc_law.nd rfl (Or.inl rfl) (p_cal C_box hr (pa_cons (pv 0) pa_nil)))
      (pss_cons (ps_set (i := 2) sc_law.nd rfl (Or.inl rfl) (p_cal C_array hr (pa_cons (pv 1) (pa_cons pe_bl pa_nil))))
      (pss_cons (ps_set (i := 3) sc_law.nd rfl (Or.inl rfl) (p_cal C_array hr (pa_cons (pv 1) (pa_cons pe_bl pa_nil))))
      (pss_cons (ps_set (i := 4) sc_law.nd rfl (Or.inl rfl) (p_cal C_ways hr (pa_cons (pv 1) (pa_cons (pv 2) pa_nil))))
      (pss_cons (ps_set (i := 5) sc_law.nd rfl (Or.inl rfl) (p_cal C_ways hr (pa_cons (pv 1) (pa_cons (pv 3) pa_nil))))
      (pss_cons (ps_set (i := 6) sc_law.nd rfl (Or.inl rfl) (pe_op op_cat (p_cal C_places hr (pa_cons (pv 1) (pa_cons (pv 2) pa_nil))) (p_cal C_places hr (pa_cons (pv 1) (pa_cons (pv 3) pa_nil)))))
      (pss_cons (ps_for PassesOwn.never rfl (pi_list (pv 6)) (pg_name (i := 7) sc_law.nd rfl (Or.inl rfl)) (pss_one (ps_for PassesOwn.never rfl (pi_range1 (by rfl) T.m_range (pa_cons pe_int pa_nil)) (pg_name (i := 8) sc_law.nd rfl (Or.inl rfl)) (pss_cons (ps_if (pt_not (p_tru (p_cal C_right hr (pa_cons (p_cal C_cell hr (pa_cons (pe_ix ix_list (pv 4) (pv 8) (fun _ _ => rfl)) (pa_cons (pv 7) pa_nil))) (pa_cons (p_cal C_due hr (pa_cons (pv 2) (pa_cons (pv 7) pa_nil))) pa_nil))) (by intro _; rfl))) (pss_one (ps_ret pe_bl)) pss_nil)
      (pss_one (ps_if (pt_not (p_tru (p_cal C_right hr (pa_cons (p_cal C_cell hr (pa_cons (pe_ix ix_list (pv 5) (pv 8) (fun _ _ => rfl)) (pa_cons (pv 7) pa_nil))) (pa_cons (p_cal C_due hr (pa_cons (pv 3) (pa_cons (pv 7) pa_nil))) pa_nil))) (by intro _; rfl))) (pss_one (ps_ret pe_bl)) pss_nil))))))
      (pss_cons (ps_for PassesOwn.never rfl (pi_list (pe_slice sl_list (pv 6) po_none (po_some pe_int))) (pg_name (i := 7) sc_law.nd rfl (Or.inl rfl)) (pss_one (ps_if (pt_not (p_tru (p_cal C_right hr (pa_cons (p_cal C_cell hr (pa_cons (pe_ix ix_list (pv 4) pe_int (fun _ _ => rfl)) (pa_cons (pv 7) pa_nil))) (pa_cons (p_cal C_due hr (pa_cons (pv 2) (pa_cons (pv 7) pa_nil))) pa_nil))) (by intro _; rfl))) (pss_one (ps_ret pe_bl)) pss_nil)))
      (pss_one (ps_ret pe_bl)))))))))), ?_⟩
    walk_at "go"
    refine ⟨a, ns, rfl, hS, hl, fun b l H1 hB1 k1 nb1 => ?_⟩
    walk_at "go"
    refine ⟨b, l, false, rfl, hB1, fun a1 c1 len1 cs1 H2 hB2 k2 na1 nc1 hA1 ho1 => ?_⟩
    have d1 := (hB1.ne na1).1
    have d2 := (hB1.ne nc1).1
    walk_at "go"
    refine ⟨b, l, true, rfl, hB2, fun a2 c2 len2 cs2 H3 hB3 k3 na2 nc2 hA2 ho2 => ?_⟩
    have d3 := (hB2.ne na2).1
    have d4 := (hB2.ne nc2).1
    have hA1 := hA1.kpB k3 hB2 d1 d2
    walk_at "go"
    refine ⟨b, l, a1, c1, len1, cs1, rfl, hB3, d1, d2, hA1, ho1, fun w1 ts1 H4 hB4 k4 nw1 hw1 tl1 ht1 => ?_⟩
    have d5 := (hB3.ne nw1).1
    have hA1 := hA1.kpB k4 hB3 d1 d2
    have hA2 := hA2.kpB k4 hB3 d3 d4
    walk_at "go"
    refine ⟨b, l, a2, c2, len2, cs2, rfl, hB4, d3, d4, hA2, ho2, fun w2 ts2 H5 hB5 k5 nw2 hw2 tl2 ht2 => ?_⟩
    have d6 := (hB4.ne nw2).1
    have hA1 := hA1.kpB k5 hB4 d1 d2
    have hA2 := hA2.kpB k5 hB4 d3 d4
    have hw1 := k5.keep _ _ hw1 (nin1 d5)
    have ht1 : ∀ t ∈ ts1, WayAt H5 t len1 cs1 := fun t ht => (ht1 t ht).kpB k5 hB4
    walk_at "go"
    refine ⟨b, l, a1, c1, len1, cs1, rfl, hB5, d1, d2, hA1, ho1, fun p1 ns1 H6 hB6 k6 np1 hp1 pl1 => ?_⟩
    have d7 := (hB5.ne np1).1
    have hA1 := hA1.kpB k6 hB5 d1 d2
    have hA2 := hA2.kpB k6 hB5 d3 d4
    have hw1 := k6.keep _ _ hw1 (nin1 d5)
    have hw2 := k6.keep _ _ hw2 (nin1 d6)
    have ht1 : ∀ t ∈ ts1, WayAt H6 t len1 cs1 := fun t ht => (ht1 t ht).kpB k6 hB5
    have ht2 : ∀ t ∈ ts2, WayAt H6 t len2 cs2 := fun t ht => (ht2 t ht).kpB k6 hB5
    walk_at "go"
    refine ⟨b, l, a2, c2, len2, cs2, rfl, hB6, d3, d4, hA2, ho2, fun p2 ns2 H7 hB7 k7 np2 hp2 pl2 => ?_⟩
    have hA1 := hA1.kpB k7 hB6 d1 d2
    have hA2 := hA2.kpB k7 hB6 d3 d4
    have hw1 := k7.keep _ _ hw1 (nin1 d5)
    have hw2 := k7.keep _ _ hw2 (nin1 d6)
    have hp1 := k7.keep _ _ hp1 (nin1 d7)
    have ht1 : ∀ t ∈ ts1, WayAt H7 t len1 cs1 := fun t ht => (ht1 t ht).kpB k7 hB6
    have ht2 : ∀ t ∈ ts2, WayAt H7 t len2 cs2 := fun t ht => (ht2 t ht).kpB k7 hB6
    refine v_cat hp1 hp2 (by rw [List.length_map, List.length_map]; exact szOk (by omega)) (fun pp npp => ?_)
    rw [← List.map_append]
    have kp : Kp [] H7 (upd H7 pp (.lst ((ns1 ++ ns2).map V.int))) := Kp.new npp
    have hpp : (upd H7 pp (.lst ((ns1 ++ ns2).map V.int))) pp = some (.lst ((ns1 ++ ns2).map V.int)) := upd_same
    generalize upd H7 pp (.lst ((ns1 ++ ns2).map V.int)) = H8 at *
    have hA1 := hA1.kp0 kp
    have hA2 := hA2.kp0 kp
    have hw1 := kp.at0 hw1
    have hw2 := kp.at0 hw2
    have ht1 : ∀ t ∈ ts1, WayAt H8 t len1 cs1 := fun t ht => (ht1 t ht).kp0 kp
    have ht2 : ∀ t ∈ ts2, WayAt H8 t len2 cs2 := fun t ht => (ht2 t ht).kp0 kp
    generalize ns1 ++ ns2 = ms at *
    have get : ∀ {ts : List Addr} (i : Nat), i < ts.length → ∃ t ∈ ts, atI (ts.map V.ref) ((i : Nat) : Int) = some (.ref t) := fun {ts} i hi => ⟨ts[i], List.getElem_mem hi, atI_nat (by rw [List.getElem?_map, List.getElem?_eq_getElem hi]; rfl)⟩
    have item : ∀ {ms : List Int} {i : Nat} {x : V}, (ms.map V.int)[i]? = some x → ∃ y, x = V.int y := fun {ms i x} hx => by
      rw [List.getElem?_map] at hx
      cases e : ms[i]? with
      | none => rw [e] at hx; cases hx
      | some y => rw [e] at hx; exact ⟨y, (Option.some.inj hx).symm⟩
    walk_at "go"
    refine lpL (SqL.of hpp) (fun i σ H' => H' = H8 ∧ ∃ v7 v8, σ = [some (.ref a), some (.ref b), some (.ref a1), some (.ref a2), some (.ref w1), some (.ref w2), some (.ref pp), v7, v8]) ?_ ?_ ?_ ?_
    · exact ⟨rfl, none, none, rfl⟩
    · rintro i σ H' _ ⟨rfl, _⟩
      exact SqL.of hpp
    · rintro i x σ H' hx ⟨rfl, v7, v8, rfl⟩
      obtain ⟨q, rfl⟩ := item hx
      walk_at "go"
      refine lpR (by decide) (by decide) (fun i σ H'' => H'' = H' ∧ ∃ v8, σ = [some (.ref a), some (.ref b), some (.ref a1), some (.ref a2), some (.ref w1), some (.ref w2), some (.ref pp), some (.int q), v8]) ?_ ?_ ?_
      · exact ⟨rfl, v8, rfl⟩
      · rintro j σ H'' hj ⟨rfl, v8, rfl⟩
        obtain ⟨t1, m1, g1⟩ := get (ts := ts1) j (by omega)
        obtain ⟨t2, m2, g2⟩ := get (ts := ts2) j (by omega)
        obtain ⟨u1, ds1, x1, x2, x3, x4⟩ := way_right (ht1 t1 m1) q
        obtain ⟨u2, ds2, y1, y2, y3, y4⟩ := way_right (ht2 t2 m2) q
        walk_at "go"
        refine v_ixL (SqL.of hw1) g1 ?_
        walk_at "go"
        refine ⟨t1, u1, _, len1, q, ds1, rfl, x1, x2, x3, ?_⟩
        walk_at "go"
        refine ⟨a1, c1, len1, q, cs1, rfl, hA1, ?_⟩
        walk_at "go"
        refine ⟨_, _, rfl, ?_⟩
        rw [x4, decide_eq_true rfl]
        walk_at "go"
        refine v_ixL (SqL.of hw2) g2 ?_
        walk_at "go"
        refine ⟨t2, u2, _, len2, q, ds2, rfl, y1, y2, y3, ?_⟩
        walk_at "go"
        refine ⟨a2, c2, len2, q, cs2, rfl, hA2, ?_⟩
        walk_at "go"
        refine ⟨_, _, rfl, ?_⟩
        rw [y4, decide_eq_true rfl]
        walk_at "go"
        exact ⟨rfl, _, rfl⟩
      · rintro σ H'' ⟨rfl, v8, rfl⟩
        exact ⟨rfl, _, _, rfl⟩
    · rintro σ H' ⟨rfl, v7, v8, rfl⟩
      walk_at "go"
      refine v_slL (SqL.of hpp) (fun p4 np4 => ?_)
      obtain ⟨ms4, hms⟩ : ∃ ms4 : List Int, cutV (ms.map V.int) none (some 4) = ms4.map V.int :=
        ⟨(ms.drop (HT.sIx (ms.map V.int).length 0 none)).take (HT.sIx (ms.map V.int).length (ms.map V.int).length (some 4) - HT.sIx (ms.map V.int).length 0 none), by unfold cutV; rw [List.map_take, List.map_drop]⟩
      rw [hms]
      have kp4 : Kp [] H' (upd H' p4 (.lst (ms4.map V.int))) := Kp.new np4
      have hp4 : (upd H' p4 (.lst (ms4.map V.int))) p4 = some (.lst (ms4.map V.int)) := upd_same
      generalize upd H' p4 (.lst (ms4.map V.int)) = H9 at *
      have hA1 := hA1.kp0 kp4
      have hw1 := kp4.at0 hw1
      have ht1 : ∀ t ∈ ts1, WayAt H9 t len1 cs1 := fun t ht => (ht1 t ht).kp0 kp4
      refine lpL (SqL.of hp4) (fun i σ H' => H' = H9 ∧ ∃ v7 v8, σ = [some (.ref a), some (.ref b), some (.ref a1), some (.ref a2), some (.ref w1), some (.ref w2), some (.ref pp), v7, v8]) ?_ ?_ ?_ ?_
      · exact ⟨rfl, _, _, rfl⟩
      · rintro i σ H'' _ ⟨rfl, _⟩
        exact SqL.of hp4
      · rintro i x σ H'' hx ⟨rfl, v7, v8, rfl⟩
        obtain ⟨q, rfl⟩ := item hx
        obtain ⟨t1, m1, g1⟩ := get (ts := ts1) 0 (by omega)
        obtain ⟨u1, ds1, x1, x2, x3, x4⟩ := way_right (ht1 t1 m1) q
        walk_at "go"
        refine v_ixL (SqL.of hw1) g1 ?_
        walk_at "go"
        refine ⟨t1, u1, _, len1, q, ds1, rfl, x1, x2, x3, ?_⟩
        walk_at "go"
        refine ⟨a1, c1, len1, q, cs1, rfl, hA1, ?_⟩
        walk_at "go"
        refine ⟨_, _, rfl, ?_⟩
        rw [x4, decide_eq_true rfl]
        walk_at "go"
        exact ⟨rfl, _, _, rfl⟩
      · rintro σ H'' ⟨rfl, v7, v8, rfl⟩
        walk_at "go"
        exact k _
end
end K18

namespace K18
open PySem PySem.Spec L2 KV
theorem all_mk {l : PySem.W.OpenLaw} {w : World} {K : PySem.W.Frag} {h : Heap} {mg : Str → Option Value} {fa f0 f1 f2 f3 f4 f5 f6 f7 f8 f9 f10 f11 f12 f13 f14 : Addr} (X : K.In h) (G : h.Ns mainGlobals mg) (hfa : mg "law" = some (.ref fa))
    {od0 an0 od1 an1 od2 an2 od3 an3 od4 an4 od5 an5 od6 an6 od7 an7 od8 an8 od9 an9 od10 an10 od11 an11 od12 an12 od13 an13 od14 an14 : Option Addr} {sl0 sl1 sl2 sl3 sl4 sl5 sl6 sl7 sl8 sl9 sl10 sl11 sl12 sl13 sl14 : Array (Option Value)} {oc0 kV0 dc0 pm0 cd0 ct0 oc1 kV1 dc1 pm1 cd1 ct1 oc2 kV2 dc2 pm2 cd2 ct2 oc3 kV3 dc3 pm3 cd3 ct3 oc4 kV4 dc4 pm4 cd4 ct4 oc5 kV5 dc5 pm5 cd5 ct5 oc6 kV6 dc6 pm6 cd6 ct6 oc7 kV7 dc7 pm7 cd7 ct7 oc8 kV8 dc8 pm8 cd8 ct8 oc9 kV9 dc9 pm9 cd9 ct9 oc10 kV10 dc10 pm10 cd10 ct10 oc11 kV11 dc11 pm11 cd11 ct11 oc12 kV12 dc12 pm12 cd12 ct12 oc13 kV13 dc13 pm13 cd13 ct13 oc14 kV14 dc14 pm14 cd14 ct14 : Value}
    (a0 : PySem.W.nsIn K mainGlobals "value_at" = some (some (.ref f0))) (l0 : K.lookup f0 = some ⟨oc0, od0, .func (PySem.W.fnOf "value_at" "value_at" (defArgs s_value_at) (defBody s_value_at) (defScope s_value_at) .none kV0 dc0 pm0 an0 cd0 ct0), sl0⟩) (c0 : PySem.W.codeIn K cd0 "value_at" = true) (k0 : PySem.W.keepIn K (.ref f0) = true)
    (a1 : PySem.W.nsIn K mainGlobals "cell" = some (some (.ref f1))) (l1 : K.lookup f1 = some ⟨oc1, od1, .func (PySem.W.fnOf "cell" "cell" (defArgs s_cell) (defBody s_cell) (defScope s_cell) .none kV1 dc1 pm1 an1 cd1 ct1), sl1⟩) (c1 : PySem.W.codeIn K cd1 "cell" = true) (k1 : PySem.W.keepIn K (.ref f1) = true)
    (a2 : PySem.W.nsIn K mainGlobals "_law_box" = some (some (.ref f2))) (l2 : K.lookup f2 = some ⟨oc2, od2, .func (PySem.W.fnOf "_law_box" "_law_box" (defArgs s_box) (defBody s_box) (defScope s_box) .none kV2 dc2 pm2 an2 cd2 ct2), sl2⟩) (c2 : PySem.W.codeIn K cd2 "_law_box" = true) (k2 : PySem.W.keepIn K (.ref f2) = true)
    (a3 : PySem.W.nsIn K mainGlobals "_law_take" = some (some (.ref f3))) (l3 : K.lookup f3 = some ⟨oc3, od3, .func (PySem.W.fnOf "_law_take" "_law_take" (defArgs s_take) (defBody s_take) (defScope s_take) .none kV3 dc3 pm3 an3 cd3 ct3), sl3⟩) (c3 : PySem.W.codeIn K cd3 "_law_take" = true) (k3 : PySem.W.keepIn K (.ref f3) = true)
    (a4 : PySem.W.nsIn K mainGlobals "_law_number" = some (some (.ref f4))) (l4 : K.lookup f4 = some ⟨oc4, od4, .func (PySem.W.fnOf "_law_number" "_law_number" (defArgs s_number) (defBody s_number) (defScope s_number) .none kV4 dc4 pm4 an4 cd4 ct4), sl4⟩) (c4 : PySem.W.codeIn K cd4 "_law_number" = true) (k4 : PySem.W.keepIn K (.ref f4) = true)
    (a5 : PySem.W.nsIn K mainGlobals "_law_gap" = some (some (.ref f5))) (l5 : K.lookup f5 = some ⟨oc5, od5, .func (PySem.W.fnOf "_law_gap" "_law_gap" (defArgs s_gap) (defBody s_gap) (defScope s_gap) .none kV5 dc5 pm5 an5 cd5 ct5), sl5⟩) (c5 : PySem.W.codeIn K cd5 "_law_gap" = true) (k5 : PySem.W.keepIn K (.ref f5) = true)
    (a6 : PySem.W.nsIn K mainGlobals "_law_cells" = some (some (.ref f6))) (l6 : K.lookup f6 = some ⟨oc6, od6, .func (PySem.W.fnOf "_law_cells" "_law_cells" (defArgs s_cells) (defBody s_cells) (defScope s_cells) .none kV6 dc6 pm6 an6 cd6 ct6), sl6⟩) (c6 : PySem.W.codeIn K cd6 "_law_cells" = true) (k6 : PySem.W.keepIn K (.ref f6) = true)
    (a7 : PySem.W.nsIn K mainGlobals "_law_array" = some (some (.ref f7))) (l7 : K.lookup f7 = some ⟨oc7, od7, .func (PySem.W.fnOf "_law_array" "_law_array" (defArgs s_array) (defBody s_array) (defScope s_array) .none kV7 dc7 pm7 an7 cd7 ct7), sl7⟩) (c7 : PySem.W.codeIn K cd7 "_law_array" = true) (k7 : PySem.W.keepIn K (.ref f7) = true)
    (a8 : PySem.W.nsIn K mainGlobals "_law_due" = some (some (.ref f8))) (l8 : K.lookup f8 = some ⟨oc8, od8, .func (PySem.W.fnOf "_law_due" "_law_due" (defArgs s_due) (defBody s_due) (defScope s_due) .none kV8 dc8 pm8 an8 cd8 ct8), sl8⟩) (c8 : PySem.W.codeIn K cd8 "_law_due" = true) (k8 : PySem.W.keepIn K (.ref f8) = true)
    (a9 : PySem.W.nsIn K mainGlobals "_law_more" = some (some (.ref f9))) (l9 : K.lookup f9 = some ⟨oc9, od9, .func (PySem.W.fnOf "_law_more" "_law_more" (defArgs s_more) (defBody s_more) (defScope s_more) .none kV9 dc9 pm9 an9 cd9 ct9), sl9⟩) (c9 : PySem.W.codeIn K cd9 "_law_more" = true) (k9 : PySem.W.keepIn K (.ref f9) = true)
    (a10 : PySem.W.nsIn K mainGlobals "_law_less" = some (some (.ref f10))) (l10 : K.lookup f10 = some ⟨oc10, od10, .func (PySem.W.fnOf "_law_less" "_law_less" (defArgs s_less) (defBody s_less) (defScope s_less) .none kV10 dc10 pm10 an10 cd10 ct10), sl10⟩) (c10 : PySem.W.codeIn K cd10 "_law_less" = true) (k10 : PySem.W.keepIn K (.ref f10) = true)
    (a11 : PySem.W.nsIn K mainGlobals "_law_places" = some (some (.ref f11))) (l11 : K.lookup f11 = some ⟨oc11, od11, .func (PySem.W.fnOf "_law_places" "_law_places" (defArgs s_places) (defBody s_places) (defScope s_places) .none kV11 dc11 pm11 an11 cd11 ct11), sl11⟩) (c11 : PySem.W.codeIn K cd11 "_law_places" = true) (k11 : PySem.W.keepIn K (.ref f11) = true)
    (a12 : PySem.W.nsIn K mainGlobals "_law_ways" = some (some (.ref f12))) (l12 : K.lookup f12 = some ⟨oc12, od12, .func (PySem.W.fnOf "_law_ways" "_law_ways" (defArgs s_ways) (defBody s_ways) (defScope s_ways) .none kV12 dc12 pm12 an12 cd12 ct12), sl12⟩) (c12 : PySem.W.codeIn K cd12 "_law_ways" = true) (k12 : PySem.W.keepIn K (.ref f12) = true)
    (a13 : PySem.W.nsIn K mainGlobals "_law_right" = some (some (.ref f13))) (l13 : K.lookup f13 = some ⟨oc13, od13, .func (PySem.W.fnOf "_law_right" "_law_right" (defArgs s_right) (defBody s_right) (defScope s_right) .none kV13 dc13 pm13 an13 cd13 ct13), sl13⟩) (c13 : PySem.W.codeIn K cd13 "_law_right" = true) (k13 : PySem.W.keepIn K (.ref f13) = true)
    (a14 : PySem.W.nsIn K mainGlobals "law" = some (some (.ref f14))) (l14 : K.lookup f14 = some ⟨oc14, od14, .func (PySem.W.fnOf "law" "law" (defArgs s_law) (defBody s_law) (defScope s_law) .none kV14 dc14 pm14 an14 cd14 ct14), sl14⟩) (c14 : PySem.W.codeIn K cd14 "law" = true) (k14 : PySem.W.keepIn K (.ref f14) = true)
    (z_len : PySem.W.nsIn K mainGlobals "len" = some none)
    (z_int : PySem.W.nsIn K mainGlobals "int" = some none)
    (z_range : PySem.W.nsIn K mainGlobals "range" = some none)
    (z_list : PySem.W.nsIn K mainGlobals "list" = some none)
    (z_tuple : PySem.W.nsIn K mainGlobals "tuple" = some none)
    (z_max : PySem.W.nsIn K mainGlobals "max" = some none)
    (z_min : PySem.W.nsIn K mainGlobals "min" = some none)
    (z_sorted : PySem.W.nsIn K mainGlobals "sorted" = some none)
    (z_isinstance : PySem.W.nsIn K mainGlobals "isinstance" = some none)
    (z_bool : PySem.W.nsIn K mainGlobals "bool" = some none)
    : ∃ fd : FuncData, (∀ (s : Shared) (v : Value), BindsTo s fd ⟨[v], []⟩ [("script", v)]) ∧ ∀ base : Heap, K.In base → base.Ns mainGlobals mg → FnOk l.prog w K mg base CX0 5 fa fd ["script"] (spLaw K) := by
  have e := hfa.symm.trans (PySem.W.mg_of X G a14)
  cases e
  have T : Bt mg := ⟨PySem.W.mg_none_of X G z_len, PySem.W.mg_none_of X G z_int, PySem.W.mg_none_of X G z_range, PySem.W.mg_none_of X G z_list, PySem.W.mg_none_of X G z_tuple, PySem.W.mg_none_of X G z_max, PySem.W.mg_none_of X G z_min, PySem.W.mg_none_of X G z_sorted, PySem.W.mg_none_of X G z_isinstance, PySem.W.mg_none_of X G z_bool⟩
  have F0 := fun_mk (st := s_value_at) l0 c0 k0
  have D0 : DefAt K mg "value_at" s_value_at ["cells", "position"] := ⟨_, _, F0, F0.binds (ps := ["cells", "position"]) (fun _ _ _ _ _ _ us hl => match us, hl with | [_, _], _ => rfl), PySem.W.mg_of X G a0⟩
  have F1 := fun_mk (st := s_cell) l1 c1 k1
  have D1 : DefAt K mg "cell" s_cell ["array", "position"] := ⟨_, _, F1, F1.binds (ps := ["array", "position"]) (fun _ _ _ _ _ _ us hl => match us, hl with | [_, _], _ => rfl), PySem.W.mg_of X G a1⟩
  have F2 := fun_mk (st := s_box) l2 c2 k2
  have D2 : DefAt K mg "_law_box" s_box ["script"] := ⟨_, _, F2, F2.binds (ps := ["script"]) (fun _ _ _ _ _ _ us hl => match us, hl with | [_], _ => rfl), PySem.W.mg_of X G a2⟩
  have F3 := fun_mk (st := s_take) l3 c3 k3
  have D3 : DefAt K mg "_law_take" s_take ["box", "size"] := ⟨_, _, F3, F3.binds (ps := ["box", "size"]) (fun _ _ _ _ _ _ us hl => match us, hl with | [_, _], _ => rfl), PySem.W.mg_of X G a3⟩
  have F4 := fun_mk (st := s_number) l4 c4 k4
  have D4 : DefAt K mg "_law_number" s_number ["box"] := ⟨_, _, F4, F4.binds (ps := ["box"]) (fun _ _ _ _ _ _ us hl => match us, hl with | [_], _ => rfl), PySem.W.mg_of X G a4⟩
  have F5 := fun_mk (st := s_gap) l5 c5 k5
  have D5 : DefAt K mg "_law_gap" s_gap ["box"] := ⟨_, _, F5, F5.binds (ps := ["box"]) (fun _ _ _ _ _ _ us hl => match us, hl with | [_], _ => rfl), PySem.W.mg_of X G a5⟩
  have F6 := fun_mk (st := s_cells) l6 c6 k6
  have D6 : DefAt K mg "_law_cells" s_cells ["box", "many"] := ⟨_, _, F6, F6.binds (ps := ["box", "many"]) (fun _ _ _ _ _ _ us hl => match us, hl with | [_, _], _ => rfl), PySem.W.mg_of X G a6⟩
  have F7 := fun_mk (st := s_array) l7 c7 k7
  have D7 : DefAt K mg "_law_array" s_array ["box", "full"] := ⟨_, _, F7, F7.binds (ps := ["box", "full"]) (fun _ _ _ _ _ _ us hl => match us, hl with | [_, _], _ => rfl), PySem.W.mg_of X G a7⟩
  have F8 := fun_mk (st := s_due) l8 c8 k8
  have D8 : DefAt K mg "_law_due" s_due ["array", "place"] := ⟨_, _, F8, F8.binds (ps := ["array", "place"]) (fun _ _ _ _ _ _ us hl => match us, hl with | [_, _], _ => rfl), PySem.W.mg_of X G a8⟩
  have F9 := fun_mk (st := s_more) l9 c9 k9
  have D9 : DefAt K mg "_law_more" s_more ["box", "array"] := ⟨_, _, F9, F9.binds (ps := ["box", "array"]) (fun _ _ _ _ _ _ us hl => match us, hl with | [_, _], _ => rfl), PySem.W.mg_of X G a9⟩
  have F10 := fun_mk (st := s_less) l10 c10 k10
  have D10 : DefAt K mg "_law_less" s_less ["array"] := ⟨_, _, F10, F10.binds (ps := ["array"]) (fun _ _ _ _ _ _ us hl => match us, hl with | [_], _ => rfl), PySem.W.mg_of X G a10⟩
  have F11 := fun_mk (st := s_places) l11 c11 k11
  have D11 : DefAt K mg "_law_places" s_places ["box", "array"] := ⟨_, _, F11, F11.binds (ps := ["box", "array"]) (fun _ _ _ _ _ _ us hl => match us, hl with | [_, _], _ => rfl), PySem.W.mg_of X G a11⟩
  have F12 := fun_mk (st := s_ways) l12 c12 k12
  have D12 : DefAt K mg "_law_ways" s_ways ["box", "array"] := ⟨_, _, F12, F12.binds (ps := ["box", "array"]) (fun _ _ _ _ _ _ us hl => match us, hl with | [_, _], _ => rfl), PySem.W.mg_of X G a12⟩
  have F13 := fun_mk (st := s_right) l13 c13 k13
  have D13 : DefAt K mg "_law_right" s_right ["told", "due"] := ⟨_, _, F13, F13.binds (ps := ["told", "due"]) (fun _ _ _ _ _ _ us hl => match us, hl with | [_, _], _ => rfl), PySem.W.mg_of X G a13⟩
  refine ⟨PySem.W.fnOf "law" "law" (defArgs s_law) (defBody s_law) (defScope s_law) .none kV14 dc14 pm14 an14 cd14 ct14, fun s v => .of_eq rfl, fun base _ _ => ?_⟩
  have C_value_at := ok_value (P := l.prog) (w := w) (base := base) D0
  have C_cell := ok_cell (P := l.prog) (w := w) (base := base) D1 C_value_at
  have C_box := ok_box (P := l.prog) (w := w) (base := base) D2 T
  have C_take := ok_take (P := l.prog) (w := w) (base := base) D3 T
  have C_number := ok_number (P := l.prog) (w := w) (base := base) D4 C_take
  have C_gap := ok_gap (P := l.prog) (w := w) (base := base) D5 C_take
  have C_cells := ok_cells (P := l.prog) (w := w) (base := base) D6 T C_take C_number C_gap
  have C_array := ok_array (P := l.prog) (w := w) (base := base) D7 C_take C_cells C_gap
  have C_due := ok_due (P := l.prog) (w := w) (base := base) D8
  have C_more := ok_more (P := l.prog) (w := w) (base := base) D9 T C_take C_due
  have C_less := ok_less (P := l.prog) (w := w) (base := base) D10
  have C_places := ok_places (P := l.prog) (w := w) (base := base) D11 T C_take
  have C_ways := ok_ways (P := l.prog) (w := w) (base := base) D12 T C_more C_less
  have C_right := ok_right (P := l.prog) (w := w) (base := base) D13 T
  exact ok_law (fun_mk (st := s_law) l14 c14 k14) T C_box C_array C_ways C_places C_right C_cell C_due
end K18
open PySem PySem.W PyProof.Rows
set_option maxHeartbeats 0 in
theorem PySem.Challenge.cw_kindvow_k18_cells_of_step_arrays_holds : PySem.Challenge.rw_kindvow_k18_cells_of_step_arrays.Holds := by
  w_on; o_law; k_head; (case hw => w_witness2)
  k_fill
  refine L2.walk_of (l := PySem.Challenge.rw_kindvow_k18_cells_of_step_arrays) (n := 63) (k := 5) (x := "script") (CX := fun _ => L2.CX0) (sp := fun w => K18.spLaw _) rfl (by decide) rfl ⟨rfl, by decide, by decide⟩ (fun w h Y => PySem.W.kIn_of Y) ?F (fun _ _ a ns hl _ hS => ⟨a, ns, rfl, hS, hl, fun _ => rfl⟩) (fun _ _ _ _ _ h => h)
  case F =>
    intro w mg fa h KX G hmg
    refine' K18.all_mk KX G hmg ?a0 ?l0 ?c0 ?k0 ?a1 ?l1 ?c1 ?k1 ?a2 ?l2 ?c2 ?k2 ?a3 ?l3 ?c3 ?k3 ?a4 ?l4 ?c4 ?k4 ?a5 ?l5 ?c5 ?k5 ?a6 ?l6 ?c6 ?k6 ?a7 ?l7 ?c7 ?k7 ?a8 ?l8 ?c8 ?k8 ?a9 ?l9 ?c9 ?k9 ?a10 ?l10 ?c10 ?k10 ?a11 ?l11 ?c11 ?k11 ?a12 ?l12 ?c12 ?k12 ?a13 ?l13 ?c13 ?k13 ?a14 ?l14 ?c14 ?k14 ?z_len ?z_int ?z_range ?z_list ?z_tuple ?z_max ?z_min ?z_sorted ?z_isinstance ?z_bool
    (case a0 => k_is)
    (case l0 => k_is)
    (case c0 => k_is)
    (case k0 => k_is)
    (case a1 => k_is)
    (case l1 => k_is)
    (case c1 => k_is)
    (case k1 => k_is)
    (case a2 => k_is)
    (case l2 => k_is)
    (case c2 => k_is)
    (case k2 => k_is)
    (case a3 => k_is)
    (case l3 => k_is)
    (case c3 => k_is)
    (case k3 => k_is)
    (case a4 => k_is)
    (case l4 => k_is)
    (case c4 => k_is)
    (case k4 => k_is)
    (case a5 => k_is)
    (case l5 => k_is)
    (case c5 => k_is)
    (case k5 => k_is)
    (case a6 => k_is)
    (case l6 => k_is)
    (case c6 => k_is)
    (case k6 => k_is)
    (case a7 => k_is)
    (case l7 => k_is)
    (case c7 => k_is)
    (case k7 => k_is)
    (case a8 => k_is)
    (case l8 => k_is)
    (case c8 => k_is)
    (case k8 => k_is)
    (case a9 => k_is)
    (case l9 => k_is)
    (case c9 => k_is)
    (case k9 => k_is)
    (case a10 => k_is)
    (case l10 => k_is)
    (case c10 => k_is)
    (case k10 => k_is)
    (case a11 => k_is)
    (case l11 => k_is)
    (case c11 => k_is)
    (case k11 => k_is)
    (case a12 => k_is)
    (case l12 => k_is)
    (case c12 => k_is)
    (case k12 => k_is)
    (case a13 => k_is)
    (case l13 => k_is)
    (case c13 => k_is)
    (case k13 => k_is)
    (case a14 => k_is)
    (case l14 => k_is)
    (case c14 => k_is)
    (case k14 => k_is)
    (case z_len => k_is)
    (case z_int => k_is)
    (case z_range => k_is)
    (case z_list => k_is)
    (case z_tuple => k_is)
    (case z_max => k_is)
    (case z_min => k_is)
    (case z_sorted => k_is)
    (case z_isinstance => k_is)
    (case z_bool => k_is)

