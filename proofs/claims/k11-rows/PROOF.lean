import PyProof.Rows.All
import Wide.All
import OpenK.AllK
import Wide.FinOn
import HandS.ForMost
import HandS.Evl
import HandS.Wide
import HandS.IsInst
import HandS.Conv
import KE.SortData
import HandS.Style
import HandS.DictComp
import HandS.More
import KE.SortLaws
import PySem.Challenge.RW_kindvow_k11_rows_models_and_weights
set_option Elab.async false
set_option linter.all false
set_option maxRecDepth 100000
set_option maxHeartbeats 4000000
/-! The steps: short readings for the hand layer, one lemma a construct, all with the heap told. -/
namespace KV
open PySem PySem.Spec L2

/-! ### frames: what stands but for the places in M -/
structure Kp (M : List Addr) (H H' : Hp) : Prop where
  keep : ∀ a o, H a = some o → a ∉ M → H' a = some o
  free : ∀ a, H' a = none → H a = none
theorem Kp.refl (M : List Addr) (H : Hp) : Kp M H H := ⟨fun _ _ h _ => h, fun _ h => h⟩
theorem Kp.trans {M : List Addr} {H H1 H2 : Hp} (a : Kp M H H1) (b : Kp M H1 H2) : Kp M H H2 := ⟨fun x o h n => b.keep x o (a.keep x o h n) n, fun x h => a.free x (b.free x h)⟩
theorem Kp.new {M : List Addr} {H : Hp} {p : Addr} {o : HO} (h : H p = none) : Kp M H (upd H p o) := ⟨fun a u e _ => by
  rw [upd_ne (ne_of_none e h)]
  exact e, fun a e => by
  by_cases q : a = p
  · rw [q]; exact h
  · rw [upd_ne q] at e; exact e⟩
theorem Kp.mono {M N : List Addr} {H H' : Hp} (k : Kp M H H') (h : ∀ a, a ∈ M → a ∈ N) : Kp N H H' := ⟨fun a o e n => k.keep a o e fun z => n (h a z), k.free⟩
theorem Kp.of0 {M : List Addr} {H H' : Hp} (k : Kp [] H H') : Kp M H H' := k.mono fun _ z => nomatch z
/-- an object in M is changed -/
theorem Kp.mut {M : List Addr} {H H' : Hp} {p : Addr} {o : HO} (k : Kp M H H') (h : p ∈ M) : Kp M H (upd H' p o) := ⟨fun a u e n => by
  rw [upd_ne (fun z => n (by rw [z]; exact h))]
  exact k.keep a u e n, fun a e => by
  by_cases q : a = p
  · rw [q, upd_same] at e; cases e
  · rw [upd_ne q] at e; exact k.free a e⟩
/-- an object that is new since H is changed -/
theorem Kp.own {M : List Addr} {H H' : Hp} {p : Addr} {o : HO} (k : Kp M H H') (h : H p = none) : Kp M H (upd H' p o) := ⟨fun a u e n => by
  rw [upd_ne (ne_of_none e h)]
  exact k.keep a u e n, fun a e => by
  by_cases q : a = p
  · rw [q]; exact h
  · rw [upd_ne q] at e; exact k.free a e⟩
/-- what was changed was new -/
theorem Kp.less {M : List Addr} {H H' : Hp} (k : Kp M H H') (h : ∀ a ∈ M, H a = none) : Kp [] H H' := ⟨fun a o e _ => k.keep a o e (fun z => by rw [h a z] at e; exact nomatch e), k.free⟩
theorem Kp.rd {M : List Addr} {H H' : Hp} {a : Addr} {u : HO} (k : Kp M H H') (h : Rd H a u) (n : a ∉ M) : Rd H' a u := by
  rcases h with h | ⟨o, h⟩
  · exact .inl (k.keep a _ h n)
  · exact .inr ⟨o, k.keep a _ h n⟩
theorem Kp.l {K : PySem.W.Frag} {M : List Addr} {H H' : Hp} {a : Addr} {xs : List V} (k : Kp M H H') (h : SqL K H a xs) (n : a ∉ M) : SqL K H' a xs := by
  rcases h with h | h
  · exact .inl (k.rd h n)
  · exact .inr h
theorem Kp.t {K : PySem.W.Frag} {M : List Addr} {H H' : Hp} {a : Addr} {xs : List V} (k : Kp M H H') (h : SqT K H a xs) (n : a ∉ M) : SqT K H' a xs := by
  rcases h with h | h
  · exact .inl (k.rd h n)
  · exact .inr h
theorem Kp.l0 {K : PySem.W.Frag} {H H' : Hp} {a : Addr} {xs : List V} (k : Kp [] H H') (h : SqL K H a xs) : SqL K H' a xs := k.l h (by simp)
theorem Kp.t0 {K : PySem.W.Frag} {H H' : Hp} {a : Addr} {xs : List V} (k : Kp [] H H') (h : SqT K H a xs) : SqT K H' a xs := k.t h (by simp)
theorem Kp.at0 {H H' : Hp} {a : Addr} {o : HO} (k : Kp [] H H') (h : H a = some o) : H' a = some o := k.keep a o h (by simp)
theorem nin1 {a b : Addr} (h : a ≠ b) : a ∉ [b] := by simpa using h
theorem free_ne {H : Hp} {p q : Addr} {o : HO} (h : upd H p o q = none) : q ≠ p := fun e => by rw [e, upd_same] at h; cases h
theorem free_of {H : Hp} {p q : Addr} {o : HO} (h : upd H p o q = none) : H q = none := by rw [upd_ne (free_ne h)] at h; exact h

/-! ### named rules -/
section
variable {X : Cx}
theorem OpR.or {f : Value → Value → Sem Value} {r r' : R2} (h : OpR X f r) (h' : OpR X f r') : OpR X f (fun x y H Q => r x y H Q ∨ r' x y H Q) := by
  intro pins s σ H x y v u Q I rx ry q
  rcases q with q | q
  · exact h pins s σ H x y v u Q I rx ry q
  · exact h' pins s σ H x y v u Q I rx ry q
theorem CallR.or {f : Value} {r r' : List V → Hp → VK → Prop} (h : CallR X f r) (h' : CallR X f r') : CallR X f (fun xs H Q => r xs H Q ∨ r' xs H Q) := by
  intro pins s σ H xs us Q I rx q
  rcases q with q | q
  · exact h pins s σ H xs us Q I rx q
  · exact h' pins s σ H xs us Q I rx q
def rAdd : R2 := rI0 fun i j => .int (i + j)
def rSub : R2 := rI0 fun i j => .int (i - j)
def rLt : R2 := rI0 fun i j => .bl (decide (i < j))
def rLe : R2 := rI0 fun i j => .bl (decide (i ≤ j))
def rGt : R2 := rI0 fun i j => .bl (decide (j < i))
def rGe : R2 := rI0 fun i j => .bl (decide (j ≤ i))
def rMul : R2 := fun x y H Q => rI CMul (fun i j => .int (i * j)) x y H Q ∨ rI CMulW (fun i j => .int (i * j)) x y H Q
def rMod : R2 := rI (fun _ j => 0 < j) fun i j => .int (i % j)
def rDiv : R2 := rI CDivW fun i j => .int (i / j)
def rPow : R2 := rI CPow fun i j => .int (i ^ j.toNat)
theorem o_add : OpR X (binaryOp .Add) rAdd := op_add
theorem o_sub : OpR X (binaryOp .Sub) rSub := op_sub
theorem o_lt : OpR X (compareOp .Lt) rLt := op_lt
theorem o_le : OpR X (compareOp .LtE) rLe := op_le
theorem o_gt : OpR X (compareOp .Gt) rGt := op_gt
theorem o_ge : OpR X (compareOp .GtE) rGe := op_ge
theorem o_mul : OpR X (binaryOp .Mult) rMul := OpR.or op_mul op_mulW
theorem o_mod : OpR X (binaryOp .Mod) rMod := op_mod
theorem o_div : OpR X (binaryOp .FloorDiv) rDiv := op_fdivW
theorem o_pow : OpR X (binaryOp .Pow) rPow := op_pow
def rNeg : V → Hp → VK → Prop := rU fun i => .int (-i)
theorem u_neg : UnR X (unaryOp .USub) rNeg := un_neg
def rInt1 : List V → Hp → VK → Prop := fun xs H Q => (∃ i, xs = [.int i] ∧ Q (.int i) H) ∨ ∃ k, xs = [.bl k] ∧ Q (.int (if k then 1 else 0)) H
theorem c_int : CallR X (.type "int") rInt1 := call_int1
def rLenU (K : PySem.W.Frag) : List V → Hp → VK → Prop := fun xs H Q => ∃ x n, xs = [x] ∧ LenV K x H n ∧ Q (.int n) H
theorem c_len : CallR X (.builtin "len") (rLenU X.K) := call_len
def rMax2 : List V → Hp → VK → Prop := fun xs H Q => ∃ i j, xs = [.int i, .int j] ∧ Q (.int (if j > i then j else i)) H
theorem c_max2 (hc : X.calm = true) : CallR X (.builtin "max") rMax2 := call_max2 hc
def rMin2 : List V → Hp → VK → Prop := fun xs H Q => ∃ i j, xs = [.int i, .int j] ∧ Q (.int (if j < i then j else i)) H
theorem c_min2 (hc : X.calm = true) : CallR X (.builtin "min") rMin2 := call_min2 hc
def rAbs : List V → Hp → VK → Prop := fun xs H Q => ∃ i, xs = [.int i] ∧ Q (.int (if i < 0 then -i else i)) H
theorem c_abs : CallR X (.builtin "abs") rAbs := call_abs
def rListOf (K : PySem.W.Frag) : List V → Hp → VK → Prop := fun xs H Q => ∃ p ys, xs = [.ref p] ∧ (SqL K H p ys ∨ SqT K H p ys) ∧ ∀ l, H l = none → Q (.ref l) (upd H l (.lst ys))
theorem c_list : CallR X (.type "list") (rListOf X.K) := call_list_of
def rTupleOf (K : PySem.W.Frag) : List V → Hp → VK → Prop := fun xs H Q => ∃ p ys, xs = [.ref p] ∧ ((SqL K H p ys ∧ ∀ l, H l = none → Q (.ref l) (upd H l (.tup ys))) ∨ (SqT K H p ys ∧ Q (.ref p) H))
theorem c_tuple : CallR X (.type "tuple") (rTupleOf X.K) := call_tuple_of
def rIsI (K : PySem.W.Frag) : List V → Hp → VK → Prop := rIsi K
theorem c_isi : CallR X (.builtin "isinstance") (rIsI X.K) := call_isi
def rEqU (K : PySem.W.Frag) : R2 := fun x y H Q => rEq x y H Q ∨ rEqD K x y H Q
def rNeU (K : PySem.W.Frag) : R2 := fun x y H Q => rNe x y H Q ∨ rNeD K x y H Q
theorem o_eq (hu : X.A.units + 64 < cLine) : OpR X (compareOp .Eq) (rEqU X.K) := OpR.or op_eq (op_eqD hu)
theorem o_ne (hu : X.A.units + 64 < cLine) : OpR X (compareOp .NotEq) (rNeU X.K) := OpR.or op_ne (op_neD hu)
end

/-! ### one step a construct -/
section
variable {K : PySem.W.Frag} {σ σ' : St} {H : Hp} {Q : VK} {D : Ends} {t u ts : TS} {te ta tb : TE} {tt tu : TT} {g : TG} {gs : TGs} {i j : Int} {n m k : Nat} {v x y : V} {vs : List V} {tas : TA} {R : St → Hp → Prop} {B : Bool → Hp → Prop} {a p : Addr} {xs ys : List V}
theorem r_seq (h : t { D with nx := u D } σ H) : tSeq t u D σ H := h
theorem r_next (h : D.nx σ H) : tNext D σ H := h
theorem r_asg (h : te σ H fun x H1 => g x σ H1 D.nx) : tAsg te g D σ H := h
theorem r_drop (h : te σ H fun _ H1 => D.nx σ H1) : tDrop te D σ H := h
theorem r_ret (h : te σ H D.rt) : tRet te D σ H := h
theorem r_retN (h : D.rt .non H) : tRetN D σ H := h
theorem r_brk (h : D.bk σ H) : tBreak D σ H := h
theorem r_cont (h : D.ct σ H) : tCont D σ H := h
theorem r_ifS (h : tt σ H fun b H1 => if b = true then t D σ H1 else u D σ H1) : tIfS tt t u D σ H := h
theorem r_name (h : R (σ.set n (some v)) H) : gName n v σ H R := h
theorem r_gtup (hx : SqT K H a xs) (hn : xs.length = n) (h : gs xs σ H R) : gTup K n gs (.ref a) σ H R := ⟨a, xs, rfl, hx, hn, h⟩
theorem r_gcons (h : g v σ H fun σ' H' => gs vs σ' H' R) : gCons g gs (v :: vs) σ H R := ⟨v, vs, rfl, h⟩
theorem r_gnil (h : R σ H) : gNil [] σ H R := ⟨rfl, h⟩
theorem r_var (e : σ[n]? = some (some v)) (h : Q v H) : tVar n σ H Q := ⟨v, e, h⟩
theorem r_c (h : Q v H) : tC v σ H Q := h
theorem r_op {r : R2} (h : ta σ H fun x H1 => tb σ H1 fun y H2 => r x y H2 Q) : tOp r ta tb σ H Q := h
theorem r_un {r : V → Hp → VK → Prop} (h : ta σ H fun x H1 => r x H1 Q) : tUn r ta σ H Q := h
theorem r_tup (h : tas σ H fun xs H1 => xs.length ≤ sizeLine ∧ ∀ p, H1 p = none → Q (.ref p) (upd H1 p (.tup xs))) : tTup tas σ H Q := h
theorem r_lst (h : tas σ H fun xs H1 => xs.length ≤ sizeLine ∧ ∀ p, H1 p = none → Q (.ref p) (upd H1 p (.lst xs))) : tLst tas σ H Q := h
theorem r_nil {Q : List V → Hp → Prop} (h : Q [] H) : tNil σ H Q := h
theorem r_cons {Q : List V → Hp → Prop} (h : ta σ H fun x H1 => tas σ H1 fun xs H2 => Q (x :: xs) H2) : tCons ta tas σ H Q := h
theorem r_cb {r : List V → Hp → VK → Prop} (h : tas σ H fun vs H1 => r vs H1 Q) : tCB r tas σ H Q := h
theorem r_call {sp : Sp} {E : XK} (h : tas σ H fun vs H1 => sp vs H1 Q E) : tCall sp [] E tas σ H Q := by
  show tas σ H fun vs H1 => sp (vs ++ []) H1 Q E
  have e : (fun (vs : List V) (H1 : Hp) => sp (vs ++ []) H1 Q E) = fun vs H1 => sp vs H1 Q E := by funext vs H1; rw [List.append_nil]
  rw [e]
  exact h
theorem r_ifE (h : tt σ H fun b H1 => if b = true then ta σ H1 Q else tb σ H1 Q) : tIf tt ta tb σ H Q := h
theorem r_test (h : te σ H fun x H' => ∃ k, x = .bl k ∧ B k H') : tTest te σ H B := h
theorem r_tB (h : te σ H fun x H' => ∃ k, x = .bl k ∧ B k H') : tB te σ H B := h
theorem r_and (h : tt σ H fun c H1 => if c = true then tu σ H1 B else B false H1) : tAnd tt tu σ H B := h
theorem r_or (h : tt σ H fun c H1 => if c = true then B true H1 else tu σ H1 B) : tOr tt tu σ H B := h
theorem r_not (h : tt σ H fun c H1 => B (!c) H1) : tNot tt σ H B := h
theorem r_andV (h : ta σ H fun x H1 => ∃ c, x = .bl c ∧ if c = true then tb σ H1 Q else Q (.bl false) H1) : tAndV ta tb σ H Q := h
theorem r_orV (h : ta σ H fun x H1 => ∃ c, x = .bl c ∧ if c = true then Q (.bl true) H1 else tb σ H1 Q) : tOrV ta tb σ H Q := h
theorem r_notV (h : ta σ H fun x H1 => ∃ c, x = .bl c ∧ Q (.bl (!c)) H1) : tNotV ta σ H Q := h
theorem r_exB {P : Bool → Prop} {b : Bool} (h : P b) : ∃ k, V.bl b = V.bl k ∧ P k := ⟨b, rfl, h⟩
/-- a test by a value's truth -/
def tTru (K : PySem.W.Frag) (ta : TE) : TT := fun σ H Q => ta σ H fun x H' => ∃ k, TruV K x H' k ∧ Q k H'
theorem r_tru (h : ta σ H fun x H' => ∃ k, TruV K x H' k ∧ B k H') : tTru K ta σ H B := h
theorem r_truB {P : Bool → Prop} {b : Bool} (h : P b) : ∃ k, TruV K (.bl b) H k ∧ P k := ⟨b, rfl, h⟩
theorem r_truI {P : Bool → Prop} (h : P (i != 0)) : ∃ k, TruV K (.int i) H k ∧ P k := ⟨_, rfl, h⟩
theorem r_truL {P : Bool → Prop} (hS : SqL K H a xs) (h : P (!xs.isEmpty)) : ∃ k, TruV K (.ref a) H k ∧ P k := ⟨_, .inl ⟨xs, hS, rfl⟩, h⟩
theorem r_truT {P : Bool → Prop} (hS : SqT K H a xs) (h : P (!xs.isEmpty)) : ∃ k, TruV K (.ref a) H k ∧ P k := ⟨_, .inr (.inl ⟨xs, hS, rfl⟩), h⟩
-- values
theorem v_add (h : Q (.int (i + j)) H) : rAdd (.int i) (.int j) H Q := ⟨i, j, rfl, rfl, h⟩
theorem v_sub (h : Q (.int (i - j)) H) : rSub (.int i) (.int j) H Q := ⟨i, j, rfl, rfl, h⟩
theorem v_lt (h : Q (.bl (decide (i < j))) H) : rLt (.int i) (.int j) H Q := ⟨i, j, rfl, rfl, h⟩
theorem v_le (h : Q (.bl (decide (i ≤ j))) H) : rLe (.int i) (.int j) H Q := ⟨i, j, rfl, rfl, h⟩
theorem v_gt (h : Q (.bl (decide (j < i))) H) : rGt (.int i) (.int j) H Q := ⟨i, j, rfl, rfl, h⟩
theorem v_ge (h : Q (.bl (decide (j ≤ i))) H) : rGe (.int i) (.int j) H Q := ⟨i, j, rfl, rfl, h⟩
theorem v_mulL (h1 : -(2 ^ 64) < i ∧ i < 2 ^ 64) (h : Q (.int (i * j)) H) : rMul (.int i) (.int j) H Q := .inl ⟨i, j, rfl, rfl, .inl h1, h⟩
theorem v_mulR (h1 : -(2 ^ 64) < j ∧ j < 2 ^ 64) (h : Q (.int (i * j)) H) : rMul (.int i) (.int j) H Q := .inl ⟨i, j, rfl, rfl, .inr h1, h⟩
theorem v_mulW (h1 : CMulW i j) (h : Q (.int (i * j)) H) : rMul (.int i) (.int j) H Q := .inr ⟨i, j, rfl, rfl, h1, h⟩
theorem v_mod (h1 : 0 < j) (h : Q (.int (i % j)) H) : rMod (.int i) (.int j) H Q := ⟨i, j, rfl, rfl, h1, h⟩
theorem v_div (h0 : 0 < j) (h1 : j < 2 ^ 200) (h : Q (.int (i / j)) H) : rDiv (.int i) (.int j) H Q := ⟨i, j, rfl, rfl, wide_div (b := 200) h0 (by omega) (by decide) (by decide), h⟩
theorem v_pow (h1 : 0 ≤ j ∧ j ≤ 1000000 ∧ i.natAbs < 2 ^ 64) (h : Q (.int (i ^ j.toNat)) H) : rPow (.int i) (.int j) H Q := ⟨i, j, rfl, rfl, h1, h⟩
theorem v_neg (h : Q (.int (-i)) H) : rNeg (.int i) H Q := ⟨i, rfl, h⟩
theorem v_int (h : Q (.int i) H) : rInt1 [.int i] H Q := .inl ⟨i, rfl, h⟩
theorem v_lenL (hS : SqL K H a xs) (h : Q (.int xs.length) H) : rLenU K [.ref a] H Q := ⟨.ref a, xs.length, rfl, .inl ⟨xs, hS, rfl⟩, h⟩
theorem v_lenT (hS : SqT K H a xs) (h : Q (.int xs.length) H) : rLenU K [.ref a] H Q := ⟨.ref a, xs.length, rfl, .inr ⟨xs, hS, rfl⟩, h⟩
theorem v_max (h : Q (.int (if j > i then j else i)) H) : rMax2 [.int i, .int j] H Q := ⟨i, j, rfl, h⟩
theorem v_min (h : Q (.int (if j < i then j else i)) H) : rMin2 [.int i, .int j] H Q := ⟨i, j, rfl, h⟩
theorem v_abs (h : Q (.int (if i < 0 then -i else i)) H) : rAbs [.int i] H Q := ⟨i, rfl, h⟩
theorem v_listL (hS : SqL K H a xs) (h : ∀ l, H l = none → Q (.ref l) (upd H l (.lst xs))) : rListOf K [.ref a] H Q := ⟨a, xs, rfl, .inl hS, h⟩
theorem v_listT (hS : SqT K H a xs) (h : ∀ l, H l = none → Q (.ref l) (upd H l (.lst xs))) : rListOf K [.ref a] H Q := ⟨a, xs, rfl, .inr hS, h⟩
theorem v_tupleL (hS : SqL K H a xs) (h : ∀ l, H l = none → Q (.ref l) (upd H l (.tup xs))) : rTupleOf K [.ref a] H Q := ⟨a, xs, rfl, .inl ⟨hS, h⟩⟩
theorem v_eq (hs : scal x y = true) (h : Q (.bl (decide (x = y))) H) : rEqU K x y H Q := .inl ⟨hs, h⟩
theorem v_ne (hs : scal x y = true) (h : Q (.bl (!decide (x = y))) H) : rNeU K x y H Q := .inl ⟨hs, h⟩
theorem v_eqI (h : Q (.bl (decide (i = j))) H) : rEqU K (.int i) (.int j) H Q := .inl ⟨rfl, by
  have e : decide (V.int i = V.int j) = decide (i = j) := by simp
  rw [e]
  exact h⟩
theorem v_neI (h : Q (.bl (!decide (i = j))) H) : rNeU K (.int i) (.int j) H Q := .inl ⟨rfl, by
  have e : decide (V.int i = V.int j) = decide (i = j) := by simp
  rw [e]
  exact h⟩
theorem v_eqB {b c : Bool} (h : Q (.bl (decide (b = c))) H) : rEqU K (.bl b) (.bl c) H Q := .inl ⟨rfl, by
  have e : decide (V.bl b = V.bl c) = decide (b = c) := by simp
  rw [e]
  exact h⟩
theorem v_eqD {d e : PyData} (hx : Dp K H x d) (hy : Dp K H y e) (s1 : SeqAt.shaped d = true) (s2 : SeqAt.shaped e = true) (h : Q (.bl (PyData.eqv d e)) H) : rEqU K x y H Q := .inr ⟨d, e, hx, hy, s1, s2, h⟩
theorem v_neD {d e : PyData} (hx : Dp K H x d) (hy : Dp K H y e) (s1 : SeqAt.shaped d = true) (s2 : SeqAt.shaped e = true) (h : Q (.bl (!PyData.eqv d e)) H) : rNeU K x y H Q := .inr ⟨d, e, hx, hy, s1, s2, h⟩
theorem v_ixL (hS : SqL K H a xs) (e : atI xs i = some v) (h : Q v H) : rIxL K (.ref a) (.int i) H Q := ⟨a, xs, i, v, rfl, rfl, hS, e, h⟩
theorem v_ixT (hS : SqT K H a xs) (e : atI xs i = some v) (h : Q v H) : rIxT K (.ref a) (.int i) H Q := ⟨a, xs, i, v, rfl, rfl, hS, e, h⟩
theorem v_setL (hp : H a = some (.lst xs)) (hj : ixN xs.length i = some n) {Q : Hp → Prop} (h : Q (upd H a (.lst (xs.set n v)))) : rSetL (.ref a) (.int i) v H Q := ⟨a, xs, i, n, rfl, rfl, hp, hj, h⟩
theorem r_gsub {to ti : TE} {ts : TSet} (h : to σ H fun o H1 => ti σ H1 fun i H2 => ts o i v H2 fun H3 => R σ H3) : gSub to ti ts v σ H R := h
theorem r_bm {T : String} {r : V → List V → Hp → VK → Prop} (h : te σ H fun x H1 => tyV K T x H1 ∧ tas σ H1 fun xs H2 => r x xs H2 Q) : tBM K T r te tas σ H Q := h
theorem v_append (hp : H a = some (.lst xs)) (hz : xs.length < sizeLine) (h : Q .non (upd H a (.lst (xs ++ [v])))) : rAppend (.ref a) [v] H Q := ⟨a, xs, v, rfl, rfl, hp, hz, h⟩
theorem ty_list (hp : SqL K H a xs) : tyV K "list" (.ref a) H := .inl ⟨rfl, xs, hp⟩
-- ways
theorem ifd {p : Prop} [Decidable p] {A B : Prop} (h1 : p → A) (h2 : ¬ p → B) : if decide p = true then A else B := by
  by_cases h : p
  · rw [if_pos (decide_eq_true h)]; exact h1 h
  · rw [if_neg (by simpa using h)]; exact h2 h
theorem ifn {p : Prop} [Decidable p] {A B : Prop} (h1 : ¬ p → A) (h2 : p → B) : if (!decide p) = true then A else B := by
  by_cases h : p
  · rw [if_neg (by simpa using h)]; exact h2 h
  · rw [if_pos (by simpa using h)]; exact h1 h
theorem ifb {b : Bool} {A B : Prop} (h1 : b = true → A) (h2 : b = false → B) : if b = true then A else B := by
  cases b with
  | true => exact h1 rfl
  | false => exact h2 rfl
end
end KV

namespace KV
open PySem PySem.Spec L2
/-! ### the built-ins' names -/
theorem bt_len : bootBuiltins "len" = some (.builtin "len") := by decide +kernel
theorem bt_max : bootBuiltins "max" = some (.builtin "max") := by decide +kernel
theorem bt_min : bootBuiltins "min" = some (.builtin "min") := by decide +kernel
theorem bt_abs : bootBuiltins "abs" = some (.builtin "abs") := by decide +kernel
theorem bt_isinstance : bootBuiltins "isinstance" = some (.builtin "isinstance") := by decide +kernel
theorem bt_sum : bootBuiltins "sum" = some (.builtin "sum") := by decide +kernel
theorem bt_all : bootBuiltins "all" = some (.builtin "all") := by decide +kernel
theorem bt_any : bootBuiltins "any" = some (.builtin "any") := by decide +kernel
theorem bt_sorted : bootBuiltins "sorted" = some (.builtin "sorted") := by decide +kernel
theorem bt_zip : bootBuiltins "zip" = some (.type "zip") := by decide +kernel
theorem bt_enumerate : bootBuiltins "enumerate" = some (.type "enumerate") := by decide +kernel
theorem bt_reversed : bootBuiltins "reversed" = some (.type "reversed") := by decide +kernel
theorem bt_ord : bootBuiltins "ord" = some (.builtin "ord") := by decide +kernel
theorem bt_chr : bootBuiltins "chr" = some (.builtin "chr") := by decide +kernel
theorem bt_int : bootBuiltins "int" = some (.type "int") := by decide +kernel
theorem bt_bool : bootBuiltins "bool" = some (.type "bool") := by decide +kernel
theorem bt_str : bootBuiltins "str" = some (.type "str") := by decide +kernel
theorem bt_list : bootBuiltins "list" = some (.type "list") := by decide +kernel
theorem bt_tuple : bootBuiltins "tuple" = some (.type "tuple") := by decide +kernel
theorem bt_dict : bootBuiltins "dict" = some (.type "dict") := by decide +kernel
theorem bt_set : bootBuiltins "set" = some (.type "set") := by decide +kernel
theorem bt_range : bootBuiltins "range" = some (.type "range") := by decide +kernel
theorem bt_float : bootBuiltins "float" = some (.type "float") := by decide +kernel
/-! ### a def that keeps a promise, called by its name -/
structure DefAt (K : PySem.W.Frag) (mg : Str → Option Value) (nm : Str) (st : Stmt) (ps : List Str) : Prop where
  ex : ∃ f fd, Fun K nm nm st f fd ∧ Binds K fd ps [] ∧ mg nm = some (.ref f)
structure Cal (P : Program) (w : World) (K : PySem.W.Frag) (mg : Str → Option Value) (base : Heap) (k : Nat) (nm : Str) (ps : List Str) (sp : Sp) : Prop where
  ex : ∃ f fd, FnOk P w K mg base CX0 k f fd ps sp ∧ Binds K fd ps [] ∧ mg nm = some (.ref f) ∧ PySem.W.keepIn K (.ref f) = true
section
variable {P : Program} {w : World} {K : PySem.W.Frag} {mg : Str → Option Value} {base : Heap}
theorem DefAt.mk' {nm : Str} {st : Stmt} {ps N : List Str} {k : Nat} {sp : Sp} (D : DefAt K mg nm st ps) (S : FnScope N ps (defScope st)) (len : ∀ vs H Q E, sp vs H Q E → vs.length = ps.length)
    (hbody : ∀ (f : Addr) (cdv : Value) (A : Around) (outer : List Env) (s : Shared) (H : Hp) (vs : List V) (Q : VK) (E : XK), Room k (A.deeper (PyProof.Rows.envOfC nm (defScope st) s.heap.objs.size f cdv)) → sp vs H Q E →
      ∃ t, PSs (cxOf CX0 P w K mg base N nm (defScope st) f cdv A outer s H E).nox (defBody st) t ∧ t { nx := fun _ H' => Q .non H', rt := Q } (start N vs) H) : Cal P w K mg base (k + 1) nm ps sp := by
  obtain ⟨f, fd, F, b, e⟩ := D.ex
  exact ⟨f, fd, F.ok S len (fun cdv A outer s H vs Q E hr h => hbody f cdv A outer s H vs Q E hr h), b, e, F.kp⟩
theorem p_cal {X : Cx} {k k' : Nat} {x : Str} {ps : List Str} {sp : Sp} {p pos : Pos} {e : Expr} {es : List Expr} {t : TA} (C : Cal X.prog X.w X.K X.mg X.base k x ps sp) (hr : Room k' X.A) (ha : PA X (e :: es) t) (hk : k ≤ k' := by decide) (hg : Gl X x := by rfl) (hx : Passes CX0 X E0 := by exact pass0)
    (hdb : (x == ("__debug__" : Str)) = false := by decide) (he : starEach (e :: es) X.env = (false, eval e X.env) :: starEach es X.env := by rfl) (hpl : (backTo pos (starEach es X.env)).any (·.1) = false := by rfl) : PE X (.Call (.Name x p) (e :: es) [] pos) (tCall sp [] E0 t) := by
  obtain ⟨f, fd, F, b, m, kp⟩ := C.ex
  exact pe_call F (hr.mono hk) hg m kp b .nil hx ha hdb he hpl
theorem p_tru {X : Cx} {a : Expr} {ta : TE} (ha : PE X a ta) (he : ∀ whole, isTrue a X.env whole = (do let v ← whole; standAt a.pos; holding [v] (truthy v))) : PT X a (tTru X.K ta) := pt_truth ha he
end

theorem v_powE {H : Hp} {Q : VK} {i j r : Int} (h1 : 0 ≤ j ∧ j ≤ 1000000 ∧ i.natAbs < 2 ^ 64) (e : i ^ j.toNat = r) (h : Q (.int r) H) : rPow (.int i) (.int j) H Q := ⟨i, j, rfl, rfl, h1, by
  show Q (.int (i ^ j.toNat)) H
  rw [e]
  exact h⟩
theorem ixn {n j : Nat} (h : j < n) : ixN n ((j : Nat) : Int) = some j := by
  unfold ixN
  rw [if_pos (by omega), if_pos (by omega)]
  simp
theorem iteNF {A B : Prop} (h : A) : if (!false) = true then A else B := h
theorem iteNT {A B : Prop} (h : B) : if (!true) = true then A else B := by
  rw [if_neg (by decide)]
  exact h
theorem szOk {n : Nat} (h : n ≤ 1000000) : n ≤ sizeLine := Nat.le_trans h (by decide)
theorem szLt {n : Nat} (h : n < 1000000) : n < sizeLine := Nat.lt_of_lt_of_le h (by decide)

/-! ### the same with the written part told (within a comprehension's block) -/
section
variable {X : Cx} {K : PySem.W.Frag}
theorem ixT_K (e : X.K = K) : IxR X (rIxT K) := e ▸ ix_tup
theorem ixL_K (e : X.K = K) : IxR X (rIxL K) := e ▸ ix_list
theorem len_K (e : X.K = K) : CallR X (.builtin "len") (rLenU K) := e ▸ c_len
theorem list_K (e : X.K = K) : CallR X (.type "list") (rListOf K) := e ▸ c_list
theorem tuple_K (e : X.K = K) : CallR X (.type "tuple") (rTupleOf K) := e ▸ c_tuple
theorem eq_K (e : X.K = K) (hu : X.A.units + 64 < cLine) : OpR X (compareOp .Eq) (rEqU K) := e ▸ o_eq hu
theorem ne_K (e : X.K = K) (hu : X.A.units + 64 < cLine) : OpR X (compareOp .NotEq) (rNeU K) := e ▸ o_ne hu
theorem isi_K (e : X.K = K) : CallR X (.builtin "isinstance") (rIsI K) := e ▸ c_isi
theorem tru_K {a : Expr} {ta : TE} (e : X.K = K) (ha : PE X a ta) (he : ∀ whole, isTrue a X.env whole = (do let v ← whole; standAt a.pos; holding [v] (truthy v))) : PT X a (tTru K ta) := e ▸ p_tru ha he
theorem gtup_K {es : List Expr} {k : Nat} {t : TGs} {n : Nat} {pos : Pos} (e : X.K = K) (hc : X.calm = true) (h : PGs X es t)
    (hn : (assignEach es X.env).length = n := by rfl) (hst : (assignEach es X.env).findIdx? (·.1) = none := by rfl) : PG X (.Tuple es k pos) (gTup K n t) := e ▸ pg_tup hc h hn hst
theorem inS_K (e : X.K = K) : OpR X (compareOp .In) (rIn K false) := e ▸ op_in_seq
theorem notInS_K (e : X.K = K) : OpR X (compareOp .NotIn) (rIn K true) := e ▸ op_notIn_seq
end

/-! ### loops -/
section
variable {K : PySem.W.Frag} {σ : L2.St} {H : Hp} {Q : VK} {D : Ends} {ts : TS} {te tl : TE} {tt : TT} {g : TG} {tas : TA} {a : Addr} {xs : List V} {x : V} {n : Int} {vs : List Nat}
def LpL (K : PySem.W.Frag) (g : TG) (ts : TS) (D : Ends) (σ : L2.St) : VK := fun x H1 => ∃ a, x = .ref a ∧ (∃ xs, SqL K H1 a xs) ∧ ∃ W : Nat → Nat → L2.St → Hp → Prop, (∃ m, W 0 m σ H1) ∧ ∀ i m σ H, W i m σ H →
  ((Itl K a).stop i H ∧ D.nx σ H) ∨ ((Itl K a).go i H ∧ ∃ N : L2.St → Hp → Prop, (∀ σ' H', N σ' H' → ∃ m', m' < m ∧ W (i + 1) m' σ' H') ∧ ∀ x H', (Itl K a).yld i H x H' → g x σ H' fun σ2 H2 => ts { D with nx := N, ct := N, bk := D.nx } σ2 H2)
theorem r_forL (h : tl σ H fun x H1 => LpL K g ts D σ x H1) : tFor (iList K tl) g ts D σ H := h
theorem lpL (hS : SqL K H a xs) (Pv : Nat → L2.St → Hp → Prop) (h0 : Pv 0 σ H) (hl : ∀ i σ H, i ≤ xs.length → Pv i σ H → SqL K H a xs)
    (hs : ∀ i x σ H, xs[i]? = some x → Pv i σ H → g x σ H fun σ2 H2 => ts { D with nx := Pv (i + 1), ct := Pv (i + 1), bk := D.nx } σ2 H2) (hd : ∀ σ H, Pv xs.length σ H → D.nx σ H) : LpL K g ts D σ (.ref a) H :=
  ⟨a, rfl, ⟨xs, hS⟩, for_list Pv h0 hl hs hd⟩
def LpT (K : PySem.W.Frag) (g : TG) (ts : TS) (D : Ends) (σ : L2.St) : VK := fun x H1 => ∃ a, x = .ref a ∧ (∃ xs, SqT K H1 a xs) ∧ ∃ W : Nat → Nat → L2.St → Hp → Prop, (∃ m, W 0 m σ H1) ∧ ∀ i m σ H, W i m σ H →
  ((Itt K a).stop i H ∧ D.nx σ H) ∨ ((Itt K a).go i H ∧ ∃ N : L2.St → Hp → Prop, (∀ σ' H', N σ' H' → ∃ m', m' < m ∧ W (i + 1) m' σ' H') ∧ ∀ x H', (Itt K a).yld i H x H' → g x σ H' fun σ2 H2 => ts { D with nx := N, ct := N, bk := D.nx } σ2 H2)
theorem r_forT (h : tl σ H fun x H1 => LpT K g ts D σ x H1) : tFor (iTup K tl) g ts D σ H := h
theorem lpT (hS : SqT K H a xs) (Pv : Nat → L2.St → Hp → Prop) (h0 : Pv 0 σ H) (hl : ∀ i σ H, i ≤ xs.length → Pv i σ H → SqT K H a xs)
    (hs : ∀ i x σ H, xs[i]? = some x → Pv i σ H → g x σ H fun σ2 H2 => ts { D with nx := Pv (i + 1), ct := Pv (i + 1), bk := D.nx } σ2 H2) (hd : ∀ σ H, Pv xs.length σ H → D.nx σ H) : LpT K g ts D σ (.ref a) H :=
  ⟨a, rfl, ⟨xs, hS⟩, for_tup Pv h0 hl hs hd⟩
def LpR (g : TG) (ts : TS) (D : Ends) (σ : L2.St) : List V → Hp → Prop := fun vs H1 => ∃ j : Int, vs = [.int j] ∧ -(2 ^ 62) ≤ j ∧ j < 2 ^ 62 ∧ ∃ W : Nat → Nat → L2.St → Hp → Prop, (∃ m, W 0 m σ H1) ∧ ∀ i m σ H, W i m σ H →
  ((Itr 0 j.toNat).stop i H ∧ D.nx σ H) ∨ ((Itr 0 j.toNat).go i H ∧ ∃ N : L2.St → Hp → Prop, (∀ σ' H', N σ' H' → ∃ m', m' < m ∧ W (i + 1) m' σ' H') ∧ ∀ x H', (Itr 0 j.toNat).yld i H x H' → g x σ H' fun σ2 H2 => ts { D with nx := N, ct := N, bk := D.nx } σ2 H2)
theorem r_forR (h : tas σ H fun vs H1 => LpR g ts D σ vs H1) : tFor (iRng1 tas) g ts D σ H := h
theorem lpR (h1 : n < 2 ^ 62) (h2 : -(2 ^ 62) ≤ n) (Pv : Nat → L2.St → Hp → Prop) (h0 : Pv 0 σ H)
    (hs : ∀ (i : Nat) σ H, (i : Int) < n → Pv i σ H → g (.int i) σ H fun σ2 H2 => ts { D with nx := Pv (i + 1), ct := Pv (i + 1), bk := D.nx } σ2 H2) (hd : ∀ σ H, Pv n.toNat σ H → D.nx σ H) : LpR g ts D σ [.int n] H :=
  ⟨n, rfl, h2, h1, for_range Pv h0 (fun i σ H hi p => by
    have e : (0 : Int) + (i : Int) = i := Int.zero_add _
    rw [e]
    exact hs i σ H (by omega) p) hd⟩

/-! ### comprehensions -/
def LcOut (J : It) (g : TG) (tt : TT) (te : TE) (vs : List Nat) (σ : L2.St) (H1 : Hp) (Q : VK) : Prop := ∀ D, H1 D = none → ∃ W : Nat → Nat → Hp → Prop, (∃ m, W 0 m (upd H1 D (.lst []))) ∧ ∀ i m H, W i m H →
  (J.stop i H ∧ Q (.ref D) H) ∨ (J.go i H ∧ ∃ Nx : Hp → Prop, (∀ H', Nx H' → ∃ m', m' < m ∧ W (i + 1) m' H') ∧ ∀ x H', J.yld i H x H' → g x (wipe σ vs) H' fun σ2 H2 => wipe σ2 vs = wipe σ vs ∧ tt σ2 H2 fun b H3 =>
    if b = true then te σ2 H3 fun y H4 => ∃ acc, H4 D = some (.lst acc) ∧ acc.length < sizeLine ∧ Nx (upd H4 D (.lst (acc ++ [y]))) else Nx H3)
def LcL (K : PySem.W.Frag) (g : TG) (tt : TT) (te : TE) (vs : List Nat) (σ : L2.St) (Q : VK) : VK := fun x H1 => ∃ a, x = .ref a ∧ (∃ xs, SqL K H1 a xs) ∧ LcOut (Itl K a) g tt te vs σ H1 Q
theorem r_lcL (h : tl σ H fun x H1 => LcL K g tt te vs σ Q x H1) : tLc (iList K tl) g tt te vs σ H Q := h
theorem lcL (hS : SqL K H a xs) (Pv : Addr → Nat → Hp → Prop) (h0 : ∀ D, H D = none → Pv D 0 (upd H D (.lst []))) (hl : ∀ D i H, i ≤ xs.length → Pv D i H → SqL K H a xs)
    (hs : ∀ D i x H, xs[i]? = some x → Pv D i H → g x (wipe σ vs) H fun σ2 H2 => wipe σ2 vs = wipe σ vs ∧ tt σ2 H2 fun b H3 =>
      if b = true then te σ2 H3 fun y H4 => ∃ acc, H4 D = some (.lst acc) ∧ acc.length < sizeLine ∧ Pv D (i + 1) (upd H4 D (.lst (acc ++ [y]))) else Pv D (i + 1) H3) (hd : ∀ D H, Pv D xs.length H → Q (.ref D) H) : LcL K g tt te vs σ Q (.ref a) H :=
  ⟨a, rfl, ⟨xs, hS⟩, fun D hD => lc_list (Pv D) (h0 D hD) (hl D) (hs D) (hd D)⟩
def LcT (K : PySem.W.Frag) (g : TG) (tt : TT) (te : TE) (vs : List Nat) (σ : L2.St) (Q : VK) : VK := fun x H1 => ∃ a, x = .ref a ∧ (∃ xs, SqT K H1 a xs) ∧ LcOut (Itt K a) g tt te vs σ H1 Q
theorem r_lcT (h : tl σ H fun x H1 => LcT K g tt te vs σ Q x H1) : tLc (iTup K tl) g tt te vs σ H Q := h
theorem lcT (hS : SqT K H a xs) (Pv : Addr → Nat → Hp → Prop) (h0 : ∀ D, H D = none → Pv D 0 (upd H D (.lst []))) (hl : ∀ D i H, i ≤ xs.length → Pv D i H → SqT K H a xs)
    (hs : ∀ D i x H, xs[i]? = some x → Pv D i H → g x (wipe σ vs) H fun σ2 H2 => wipe σ2 vs = wipe σ vs ∧ tt σ2 H2 fun b H3 =>
      if b = true then te σ2 H3 fun y H4 => ∃ acc, H4 D = some (.lst acc) ∧ acc.length < sizeLine ∧ Pv D (i + 1) (upd H4 D (.lst (acc ++ [y]))) else Pv D (i + 1) H3) (hd : ∀ D H, Pv D xs.length H → Q (.ref D) H) : LcT K g tt te vs σ Q (.ref a) H :=
  ⟨a, rfl, ⟨xs, hS⟩, fun D hD => lc_tup (Pv D) (h0 D hD) (hl D) (hs D) (hd D)⟩
def LcR (g : TG) (tt : TT) (te : TE) (vs : List Nat) (σ : L2.St) (Q : VK) : List V → Hp → Prop := fun us H1 => ∃ j : Int, us = [.int j] ∧ -(2 ^ 62) ≤ j ∧ j < 2 ^ 62 ∧ LcOut (Itr 0 j.toNat) g tt te vs σ H1 Q
theorem r_lcR (h : tas σ H fun us H1 => LcR g tt te vs σ Q us H1) : tLc (iRng1 tas) g tt te vs σ H Q := h
theorem lcR (h1 : n < 2 ^ 62) (h2 : -(2 ^ 62) ≤ n) (Pv : Addr → Nat → Hp → Prop) (h0 : ∀ D, H D = none → Pv D 0 (upd H D (.lst [])))
    (hs : ∀ D (i : Nat) H, (i : Int) < n → Pv D i H → g (.int i) (wipe σ vs) H fun σ2 H2 => wipe σ2 vs = wipe σ vs ∧ tt σ2 H2 fun b H3 =>
      if b = true then te σ2 H3 fun y H4 => ∃ acc, H4 D = some (.lst acc) ∧ acc.length < sizeLine ∧ Pv D (i + 1) (upd H4 D (.lst (acc ++ [y]))) else Pv D (i + 1) H3) (hd : ∀ D H, Pv D n.toNat H → Q (.ref D) H) : LcR g tt te vs σ Q [.int n] H :=
  ⟨n, rfl, h2, h1, fun D hD => lc_range (lo := 0) (Pv D) (h0 D hD) (fun i H hi p => by
    have e : (0 : Int) + (i : Int) = i := Int.zero_add _
    rw [e]
    exact hs D i H (by omega) p) (hd D)⟩
theorem r_cut {t u : TS} (Mid : L2.St → Hp → Prop) (h1 : t { D with nx := Mid } σ H) (h2 : ∀ σ' H', Mid σ' H' → u D σ' H') : Evl.tCut t u D σ H := ⟨Mid, h1, h2⟩
theorem r_bmL {xs : List V} {B : Prop} (e : H a = some (.lst xs)) (h : B) : tyV K "list" (.ref a) H ∧ B := ⟨ty_list (SqL.of e), h⟩
theorem r_slice {r : V → Option Int → Option Int → Hp → VK → Prop} {tl th : TO} (h : te σ H fun x H1 => tl σ H1 fun l H2 => th σ H2 fun u H3 => r x l u H3 Q) : tSl r te tl th σ H Q := h
theorem r_noP {Q : Option Int → Hp → Prop} (h : Q none H) : tNoPart σ H Q := h
theorem r_part {Q : Option Int → Hp → Prop} (h : te σ H fun x H1 => ∃ i, x = .int i ∧ Q (some i) H1) : tPart te σ H Q := h
theorem r_exI {P : Int → Prop} {i : Int} (h : P i) : ∃ k, V.int i = V.int k ∧ P k := ⟨i, rfl, h⟩
theorem v_slL {lo hi : Option Int} (hS : SqL K H a xs) (h : ∀ p, H p = none → Q (.ref p) (upd H p (.lst (cutV xs lo hi)))) : rSlL K (.ref a) lo hi H Q := ⟨a, xs, rfl, hS, h⟩
theorem r_lstRg {te : L2.St → Hp → (Int → Int → Hp → Prop) → Prop} (h : te σ H fun a b H1 => RgOk a b ∧ ∀ q, H1 q = none → Q (.ref q) (upd H1 q (.lst (rgV a b)))) : tLstRg te σ H Q := h
theorem r_rg1 {B : Int → Int → Hp → Prop} (h : te σ H fun x H1 => ∃ n, x = .int n ∧ B 0 n H1) : tRg1 te σ H B := h
theorem v_notIn {b : Bool} (hS : SqL K H a xs) (hx : flatV x = true) (hf : xs.all flatV = true) (h : Q (.bl (!inV x xs)) H) : rIn K true x (.ref a) H Q := ⟨a, xs, rfl, .inl hS, hx, hf, h⟩
theorem v_in {b : Bool} (hS : SqL K H a xs) (hx : flatV x = true) (hf : xs.all flatV = true) (h : Q (.bl (inV x xs)) H) : rIn K false x (.ref a) H Q := ⟨a, xs, rfl, .inl hS, hx, hf, h⟩
theorem rgV_ints (n : Int) : rgV 0 n = ((List.range n.toNat).map fun (i : Nat) => ((i : Nat) : Int)).map V.int := by
  unfold rgV
  rw [List.map_map, Int.sub_zero]
  refine List.map_congr_left fun i _ => ?_
  show V.int (0 + (i : Int)) = V.int i
  rw [Int.zero_add]
theorem r_yes {B : Bool → Hp → Prop} (h : B true H) : tYes σ H B := h
end

/-! ### shapes of data -/
theorem layAll {ds : List PyData} (h : ∀ d ∈ ds, d.canLay0 = true) : PyData.canLayAll0 ds = true := by
  induction ds with
  | nil => simp [PyData.canLayAll0]
  | cons d r ih => rw [PyData.canLayAll0, h d (by simp), ih fun e he => h e (by simp [he])]; rfl
theorem depthAll_le {ds : List PyData} {n : Nat} (h : ∀ d ∈ ds, d.depth ≤ n) : PyData.depthAll ds ≤ n := by
  induction ds with
  | nil => simp [PyData.depthAll]
  | cons d r ih =>
    rw [PyData.depthAll]
    exact Nat.max_le.mpr ⟨h d (by simp), ih fun e he => h e (by simp [he])⟩
theorem shapedL {ds : List PyData} {n : Nat} (h : ∀ d ∈ ds, d.canLay0 = true ∧ d.depth ≤ n) (hn : n < 64) : SeqAt.shaped (.list ds) = true := by
  unfold SeqAt.shaped
  rw [PyData.canLay0, layAll fun d hd => (h d hd).1, PyData.depth]
  have := depthAll_le (n := n) fun d hd => (h d hd).2
  simp
  omega
theorem shapedT {ds : List PyData} {n : Nat} (h : ∀ d ∈ ds, d.canLay0 = true ∧ d.depth ≤ n) (hn : n < 64) : SeqAt.shaped (.tuple ds) = true := by
  unfold SeqAt.shaped
  rw [PyData.canLay0, layAll fun d hd => (h d hd).1, PyData.depth]
  have := depthAll_le (n := n) fun d hd => (h d hd).2
  simp
  omega
theorem eqv_nil (ds : List PyData) : PyData.eqv (.list ds) (.list []) = ds.isEmpty := by cases ds <;> simp [PyData.eqv, PyData.eqvAll]
theorem eqv_nilT (ds : List PyData) : PyData.eqv (.tuple ds) (.tuple []) = ds.isEmpty := by cases ds <;> simp [PyData.eqv, PyData.eqvAll]
theorem dpAll_map {α : Type} {K : PySem.W.Frag} {H : Hp} (f : α → V) (g : α → PyData) : ∀ {xs : List α}, (∀ x ∈ xs, Dp K H (f x) (g x)) → DpAll K H (xs.map f) (xs.map g)
  | [], _ => .nil
  | x :: r, h => .cons (h x (by simp)) (dpAll_map f g fun y hy => h y (by simp [hy]))

/-! ### sorting of data -/
section
variable {X : Cx}
def rSortD (K : PySem.W.Frag) : List V → Hp → VK → Prop := fun xs H Q => ∃ (β : Type) (bs : List β) (val : β → V) (enc : β → PyData) (a : Addr), xs = [.ref a] ∧ SqL K H a (bs.map val) ∧ (∀ b ∈ bs, Dp K H (val b) (enc b)) ∧
  PySem.W.AllAlike (bs.map enc) ∧ PySem.W.Sortable (bs.map enc) ∧ (∀ b ∈ bs, (enc b).depth ≤ 50) ∧ ∀ p, H p = none → Q (.ref p) (upd H p (.lst ((bs.mergeSort (PySem.W.dataLe false enc)).map val)))
theorem vals_each {β : Type} {val : β → V} : ∀ {us : List Value} {bs : List β}, PySem.W.EachIs (fun v b => RelV (val b) v) us bs → Vals (bs.map val) us
  | _, _, .nil => .nil
  | _, _, .cons h t => .cons h (vals_each t)
theorem each_vals {β : Type} {val : β → V} : ∀ {us : List Value} {bs : List β}, Vals (bs.map val) us → PySem.W.EachIs (fun v b => RelV (val b) v) us bs
  | [], [], _ => .nil
  | _ :: _, [], h => by cases h
  | [], _ :: _, h => by cases h
  | u :: us, b :: bs, h => by
    cases h with
    | cons h1 h2 => exact .cons h1 (each_vals h2)
theorem each_reads {β : Type} {val : β → V} {enc : β → PyData} {h : Heap} : ∀ {us : List Value} {bs : List β}, Vals (bs.map val) us → (∀ b ∈ bs, ∀ u, RelV (val b) u → ∃ as, Reads h u (enc b) as) → PySem.W.EachIs (fun v b => ∃ as, Reads h v (enc b) as) us bs
  | [], [], _, _ => .nil
  | _ :: _, [], h, _ => by cases h
  | [], _ :: _, h, _ => by cases h
  | u :: us, b :: bs, h, f => by
    cases h with
    | cons h1 h2 => exact .cons (f b (by simp) u h1) (each_reads h2 fun c hc => f c (by simp [hc]))
theorem c_sortD (hu : X.A.units + 100 < cLine) : CallR X (.builtin "sorted") (rSortD X.K) := by
  intro pins s σ H xs us Q I r h
  obtain ⟨β, bs, val, enc, a, rfl, hS, hD, hal, hk, hd, q⟩ := h
  obtain ⟨its, rv, hl, hz⟩ := I.list hS
  rw [Vals.ref1 r]
  have hlen : bs.length ≤ sizeLine := by rw [List.length_map] at hz; exact hz
  refine PySem.W.sorted_data (β := β) (enc := enc) (R := fun v b => RelV (val b) v) hl.isList (each_vals rv) (each_reads rv fun b hb u ru => Dp.reads I _ _ _ (hD b hb) ru) hal hk hlen (fun b hb => by have := hd b hb; omega) fun out ho eo => ?_
  obtain ⟨ep, he'⟩ := PyProof.Rows.sortedAll_at s.heap its (List.toArray out)
  have hlen2 : ((bs.mergeSort (PySem.W.dataLe false enc)).map val).length ≤ sizeLine := by rw [List.length_map, List.length_mergeSort]; exact hlen
  exact ⟨.ref _, upd H (s.heap.objs.size + 1) (.lst ((bs.mergeSort (PySem.W.dataLe false enc)).map val)), I.laid (t' := s.toks) (fun _ _ => PyProof.Rows.sortedAll_old) (Nat.le_succ _) ⟨hlen2, out, ep, vals_each eo, he'⟩, rfl, q _ (I.hok.fresh (Nat.le_succ _))⟩
end
theorem c_sortR {X : Cx} {k : Nat} (hr : Room k X.A) : CallR X (.builtin "sorted") (rSortD X.K) := c_sortD (by have := hr.un; omega)
theorem sort_K {X : Cx} {K : PySem.W.Frag} {k : Nat} (e : X.K = K) (hr : Room k X.A) : CallR X (.builtin "sorted") (rSortD K) := e ▸ c_sortR hr
section
variable {K : PySem.W.Frag} {H : Hp} {Q : VK} {a b : Addr} {xs ys : List V} {v : V} {i : Int} {p : Addr}
theorem v_cat (h1 : H a = some (.lst xs)) (h2 : H b = some (.lst ys)) (hz : xs.length + ys.length ≤ sizeLine) (h : ∀ p, H p = none → Q (.ref p) (upd H p (.lst (xs ++ ys)))) : rCat (.ref a) (.ref b) H Q := ⟨a, b, xs, ys, rfl, rfl, h1, h2, hz, h⟩
theorem v_sort {β : Type} (bs : List β) (val : β → V) (enc : β → PyData) (hS : SqL K H a (bs.map val)) (hD : ∀ b ∈ bs, Dp K H (val b) (enc b)) (hal : PySem.W.AllAlike (bs.map enc)) (hk : PySem.W.Sortable (bs.map enc)) (hd : ∀ b ∈ bs, (enc b).depth ≤ 50)
    (h : ∀ p, H p = none → Q (.ref p) (upd H p (.lst ((bs.mergeSort (PySem.W.dataLe false enc)).map val)))) : rSortD K [.ref a] H Q := ⟨β, bs, val, enc, a, rfl, hS, hD, hal, hk, hd, h⟩
/-- isinstance with a built-in class -/
theorem v_isi {t : Value} {n : String} {r : Bool} (ty : TyX K H v t) (e : PySem.W.kitOne K t (.type n) = some r) (h : Q (.bl r) H) : rIsI K [v, .ty n] H Q := ⟨v, .ty n, t, .type n, r, rfl, .ty n, ty, e, h⟩
end
end KV

/-! frozen data, dicts, sums, texts -/
namespace KV
open PySem PySem.Spec L2
/-! ### data that stands in tuples alone: it stays -/
mutual
inductive Fz (H : Hp) : V → PyData → Prop
  | non : Fz H .non .none
  | bl (b : Bool) : Fz H (.bl b) (.bool b)
  | int (i : Int) : Fz H (.int i) (.int i)
  | str (x : Str) : Fz H (.str x) (.str x)
  | tup {a : Addr} {xs : List V} {ds : List PyData} : H a = some (.tup xs) → FzAll H xs ds → Fz H (.ref a) (.tuple ds)
inductive FzAll (H : Hp) : List V → List PyData → Prop
  | nil : FzAll H [] []
  | cons {v : V} {vs : List V} {d : PyData} {ds : List PyData} : Fz H v d → FzAll H vs ds → FzAll H (v :: vs) (d :: ds)
end
mutual
theorem Fz.mono {H H' : Hp} (k : ∀ a xs, H a = some (.tup xs) → H' a = some (.tup xs)) : ∀ (d : PyData) (v : V), Fz H v d → Fz H' v d
  | .none, _, h => by cases h; exact .non
  | .bool _, _, h => by cases h; exact .bl _
  | .int _, _, h => by cases h; exact .int _
  | .str _, _, h => by cases h; exact .str _
  | .list _, _, h => by cases h
  | .tuple ds, _, h => by
    cases h with
    | tup e r => exact .tup (k _ _ e) (FzAll.mono k ds _ r)
  | .dict _, _, h => by cases h
theorem FzAll.mono {H H' : Hp} (k : ∀ a xs, H a = some (.tup xs) → H' a = some (.tup xs)) : ∀ (ds : List PyData) (vs : List V), FzAll H vs ds → FzAll H' vs ds
  | [], _, h => by cases h; exact .nil
  | d :: ds, _, h => by
    cases h with
    | cons h1 h2 => exact .cons (Fz.mono k d _ h1) (FzAll.mono k ds _ h2)
end
mutual
theorem Fz.dp {K : PySem.W.Frag} {H : Hp} : ∀ (d : PyData) (v : V), Fz H v d → Dp K H v d
  | .none, _, h => by cases h; exact .non
  | .bool _, _, h => by cases h; exact .bl _
  | .int _, _, h => by cases h; exact .int _
  | .str _, _, h => by cases h; exact .str _
  | .list _, _, h => by cases h
  | .tuple ds, _, h => by
    cases h with
    | tup e r => exact .tup (SqT.of e) (FzAll.dp ds _ r)
  | .dict _, _, h => by cases h
theorem FzAll.dp {K : PySem.W.Frag} {H : Hp} : ∀ (ds : List PyData) (vs : List V), FzAll H vs ds → DpAll K H vs ds
  | [], _, h => by cases h; exact .nil
  | d :: ds, _, h => by
    cases h with
    | cons h1 h2 => exact .cons (Fz.dp d _ h1) (FzAll.dp ds _ h2)
end
/-- no tuple stands in M -/
def NT (H : Hp) (M : List Addr) : Prop := ∀ m ∈ M, ∀ xs, H m ≠ some (.tup xs)
theorem NT.nil {H : Hp} : NT H [] := fun _ h => nomatch h
theorem NT.one {H : Hp} {b : Addr} {xs : List V} (h : H b = some (.lst xs)) : NT H [b] := fun m hm ys e => by
  rw [List.mem_singleton.mp hm, h] at e
  cases e
section
variable {H H' : Hp} {M : List Addr} {v : V} {vs : List V} {d : PyData} {ds : List PyData}
theorem Fz.kp (h : Fz H v d) (k : Kp M H H') (n : NT H M) : Fz H' v d := Fz.mono (fun a xs e => k.keep a _ e fun z => n a z xs e) d v h
theorem Fz.kp0 (h : Fz H v d) (k : Kp [] H H') : Fz H' v d := h.kp k .nil
theorem FzAll.kp (h : FzAll H vs ds) (k : Kp M H H') (n : NT H M) : FzAll H' vs ds := FzAll.mono (fun a xs e => k.keep a _ e fun z => n a z xs e) ds vs h
theorem FzAll.kp0 (h : FzAll H vs ds) (k : Kp [] H H') : FzAll H' vs ds := h.kp k .nil
/-- a list or dict is changed -/
theorem Fz.put {c : Addr} {o u : HO} (h : Fz H v d) (e : H c = some u) (nu : ∀ xs, u ≠ .tup xs) : Fz (upd H c o) v d := Fz.mono (fun a xs q => by
  rw [upd_ne]
  · exact q
  · intro z
    rw [z, e] at q
    exact nu xs (Option.some.inj q)) d v h
theorem FzAll.put {c : Addr} {o u : HO} (h : FzAll H vs ds) (e : H c = some u) (nu : ∀ xs, u ≠ .tup xs) : FzAll (upd H c o) vs ds := FzAll.mono (fun a xs q => by
  rw [upd_ne]
  · exact q
  · intro z
    rw [z, e] at q
    exact nu xs (Option.some.inj q)) ds vs h
theorem FzAll.len (h : FzAll H vs ds) : vs.length = ds.length := by
  induction ds generalizing vs with
  | nil => cases h; rfl
  | cons d ds ih => cases h with | cons _ h2 => rw [List.length_cons, List.length_cons, ih h2]
theorem FzAll.get (h : FzAll H vs ds) {i : Nat} {x : V} (e : vs[i]? = some x) : ∃ d, ds[i]? = some d ∧ Fz H x d := by
  induction ds generalizing vs i with
  | nil => cases h; simp at e
  | cons d ds ih =>
    cases h with
    | cons h1 h2 =>
      cases i with
      | zero =>
        simp only [List.getElem?_cons_zero, Option.some.injEq] at e
        subst e
        exact ⟨d, rfl, h1⟩
      | succ i =>
        obtain ⟨d', e1, e2⟩ := ih h2 (i := i) (by simpa using e)
        exact ⟨d', by simpa using e1, e2⟩
theorem FzAll.getR (h : FzAll H vs ds) {i : Nat} {d : PyData} (e : ds[i]? = some d) : ∃ x, vs[i]? = some x ∧ Fz H x d := by
  have hi := (List.getElem?_eq_some_iff.mp e).1
  have hx : vs[i]? = some (vs[i]'(by rw [h.len]; exact hi)) := List.getElem?_eq_getElem _
  obtain ⟨d', e1, e2⟩ := h.get hx
  rw [e] at e1
  rw [Option.some.inj e1]
  exact ⟨_, hx, e2⟩
theorem FzAll.map {α : Type} {l : List α} {enc : α → PyData} (h : FzAll H vs (l.map enc)) {i : Nat} {x : V} (e : vs[i]? = some x) : ∃ y, l[i]? = some y ∧ Fz H x (enc y) := by
  obtain ⟨d, e1, e2⟩ := h.get e
  rw [List.getElem?_map] at e1
  cases q : l[i]? with
  | none => rw [q] at e1; cases e1
  | some y =>
    rw [q] at e1
    rw [← Option.some.inj e1] at e2
    exact ⟨y, rfl, e2⟩
theorem FzAll.snoc (h : FzAll H vs ds) (h1 : Fz H v d) : FzAll H (vs ++ [v]) (ds ++ [d]) := by
  induction ds generalizing vs with
  | nil => cases h; exact .cons h1 .nil
  | cons e ds ih => cases h with | cons q1 q2 => exact .cons q1 (ih q2)
theorem FzAll.app {ws : List V} {es : List PyData} (h : FzAll H vs ds) (h1 : FzAll H ws es) : FzAll H (vs ++ ws) (ds ++ es) := by
  induction ds generalizing vs with
  | nil => cases h; exact h1
  | cons e ds ih => cases h with | cons q1 q2 => exact .cons q1 (ih q2)
theorem FzAll.take (h : FzAll H vs ds) (n : Nat) : FzAll H (vs.take n) (ds.take n) := by
  induction ds generalizing vs n with
  | nil => cases h; simp; exact .nil
  | cons e ds ih =>
    cases h with
    | cons q1 q2 =>
      cases n with
      | zero => exact .nil
      | succ n => exact .cons q1 (ih q2 n)
theorem FzAll.drop (h : FzAll H vs ds) (n : Nat) : FzAll H (vs.drop n) (ds.drop n) := by
  induction ds generalizing vs n with
  | nil => cases h; simp; exact .nil
  | cons e ds ih =>
    cases h with
    | cons q1 q2 =>
      cases n with
      | zero => exact .cons q1 q2
      | succ n => exact ih q2 n
theorem FzAll.set (h : FzAll H vs ds) (h1 : Fz H v d) (n : Nat) : FzAll H (vs.set n v) (ds.set n d) := by
  induction ds generalizing vs n with
  | nil => cases h; exact .nil
  | cons e ds ih =>
    cases h with
    | cons q1 q2 =>
      cases n with
      | zero => exact .cons h1 q2
      | succ n => exact .cons q1 (ih q2 n)
theorem FzAll.reverse (h : FzAll H vs ds) : FzAll H vs.reverse ds.reverse := by
  induction ds generalizing vs with
  | nil => cases h; exact .nil
  | cons e ds ih =>
    cases h with
    | cons q1 q2 =>
      rw [List.reverse_cons, List.reverse_cons]
      exact (ih q2).snoc q1
theorem Fz.tup_inv (h : Fz H v (.tuple ds)) : ∃ a xs, v = .ref a ∧ H a = some (.tup xs) ∧ FzAll H xs ds := by
  cases h with
  | tup e r => exact ⟨_, _, rfl, e, r⟩
theorem Fz.int_inv {i : Int} (h : Fz H v (.int i)) : v = .int i := by cases h; rfl
theorem Fz.str_inv {s : Str} (h : Fz H v (.str s)) : v = .str s := by cases h; rfl
theorem Fz.bl_inv {b : Bool} (h : Fz H v (.bool b)) : v = .bl b := by cases h; rfl
theorem Fz.pair_inv {d1 d2 : PyData} (h : Fz H v (.tuple [d1, d2])) : ∃ a x y, v = .ref a ∧ H a = some (.tup [x, y]) ∧ Fz H x d1 ∧ Fz H y d2 := by
  obtain ⟨a, xs, rfl, e, r⟩ := h.tup_inv
  cases r with
  | cons h1 r =>
    cases r with
    | cons h2 r =>
      cases r
      exact ⟨a, _, _, rfl, e, h1, h2⟩
theorem Fz.mk2 {a : Addr} {x y : V} {d1 d2 : PyData} (e : H a = some (.tup [x, y])) (h1 : Fz H x d1) (h2 : Fz H y d2) : Fz H (.ref a) (.tuple [d1, d2]) := .tup e (.cons h1 (.cons h2 .nil))
end
theorem FzAll.add {H : Hp} {ys xs : List V} {ds es : List PyData} {t D : Addr} (h : FzAll H ys ds) (nt : H t = none) (hD : H D = some (.lst ys)) (hx : FzAll H xs es) :
    (upd H t (.tup xs)) D = some (.lst ys) ∧ FzAll (upd (upd H t (.tup xs)) D (.lst (ys ++ [.ref t]))) (ys ++ [.ref t]) (ds ++ [.tuple es]) := by
  have e : (upd H t (.tup xs)) D = some (.lst ys) := (Kp.new (M := []) nt).at0 hD
  refine ⟨e, ?_⟩
  have f1 : FzAll (upd H t (.tup xs)) (ys ++ [.ref t]) (ds ++ [.tuple es]) := (h.kp0 (Kp.new nt)).snoc (.tup upd_same (hx.kp0 (Kp.new nt)))
  exact f1.put e (by intro z q; cases q)
theorem newQ {H H2 : Hp} {p : Addr} {o : HO} (n : H p = none) (e : upd H p o = H2) : Kp [] H H2 ∧ H2 p = some o := by
  subst e
  exact ⟨Kp.new n, upd_same⟩
theorem eqv_self {d : PyData} (h : SeqAt.shaped d = true) : PyData.eqv d d = true := SeqAt.eqv_refl d (SeqAt.canLay_of_shaped h)

/-! ### steps: dicts -/
section
variable {K : PySem.W.Frag} {σ : L2.St} {H : Hp} {Q : VK} {D : Ends} {te td ty tx tv tl tk : TE} {tt : TT} {g : TG} {tas : TA} {a : Addr} {xs : List V} {x y z v : V} {vs : List Nat} {kvs : List (Key × V)} {s : Str} {R : L2.St → Hp → Prop}
theorem r_dnewK (h : ∀ p, H p = none → Q (.ref p) (upd H p (.dK []))) : tDNewK σ H Q := h
def VDGet (x y : V) (H : Hp) (Q : VK) : Prop := ∃ a v, x = .ref a ∧ DGet H a y (some v) ∧ Q v H
theorem r_dget (h : td σ H fun x H1 => ty σ H1 fun y H2 => VDGet x y H2 Q) : tDGet td ty σ H Q := h
theorem v_dgetS (hd : H a = some (.dK kvs)) (e : valV kvs (Sum.inr s) = some v) (h : Q v H) : VDGet (.ref a) (.str s) H Q := ⟨a, v, rfl, e ▸ DGet.k (k := Sum.inr s) hd, h⟩
def VDG2 (a : Addr) (y z : V) (H : Hp) (Q : VK) : Prop := ∃ o, DGet H a y o ∧ Q (o.getD z) H
def VD2 (ty tx : TE) (σ : L2.St) (Q : VK) : VK := fun x H1 => ∃ a, x = .ref a ∧ IsD H1 a ∧ ty σ H1 fun y H2 => tx σ H2 fun z H3 => VDG2 a y z H3 Q
theorem r_dget2 (h : td σ H fun x H1 => VD2 ty tx σ Q x H1) : tDGet2 td ty tx σ H Q := h
theorem v_d2 (hd : H a = some (.dK kvs)) (h : ty σ H fun y H2 => tx σ H2 fun z H3 => VDG2 a y z H3 Q) : VD2 ty tx σ Q (.ref a) H := ⟨a, rfl, .inl ⟨kvs, .inl hd⟩, h⟩
theorem v_dg2S (hd : H a = some (.dK kvs)) (h : Q ((valV kvs (Sum.inr s)).getD z) H) : VDG2 a (.str s) z H Q := ⟨_, DGet.k (k := Sum.inr s) hd, h⟩
def VDPut (D : Ends) (σ : L2.St) (x y v : V) (H3 : Hp) : Prop := ∃ a H4, x = .ref a ∧ DPut H3 a y v H4 ∧ D.nx σ H4
theorem r_dput (h : tv σ H fun v H1 => td σ H1 fun x H2 => ty σ H2 fun y H3 => VDPut D σ x y v H3) : sDPut td ty tv D σ H := h
theorem v_dputS (hd : H a = some (.dK kvs)) (hl : kvs.length < sizeLine) (h : D.nx σ (upd H a (.dK (putK kvs (Sum.inr s) v)))) : VDPut D σ (.ref a) (.str s) v H := ⟨a, _, rfl, DPut.k (k := Sum.inr s) hd hl, h⟩
def DcT (K : PySem.W.Frag) (g : TG) (tt : TT) (tk tv : TE) (vs : List Nat) (σ : L2.St) (Q : VK) : VK := fun x H1 => ∃ a, x = .ref a ∧ (∃ xs, SqT K H1 a xs) ∧ ∀ D, H1 D = none → ∃ W : Nat → Nat → Hp → Prop, (∃ m, W 0 m (upd H1 D (.dK []))) ∧ ∀ i m H, W i m H →
  ((Itt K a).stop i H ∧ Q (.ref D) H) ∨ ((Itt K a).go i H ∧ ∃ Nx : Hp → Prop, (∀ H', Nx H' → ∃ m', m' < m ∧ W (i + 1) m' H') ∧ ∀ x H', (Itt K a).yld i H x H' → g x (wipe σ vs) H' fun σ2 H2 => wipe σ2 vs = wipe σ vs ∧ tt σ2 H2 fun b H3 =>
    if b = true then tk σ2 H3 fun y H4 => tv σ2 H4 fun z H5 => ∃ kvs k, y = kV k ∧ H5 D = some (.dK kvs) ∧ kvs.length < sizeLine ∧ Nx (upd H5 D (.dK (putK kvs k z))) else Nx H3)
theorem r_dcT (h : tl σ H fun x H1 => DcT K g tt tk tv vs σ Q x H1) : tDc (iTup K tl) g tt tk tv vs σ H Q := h
theorem dcT (hS : SqT K H a xs) (Pv : Addr → Nat → Hp → Prop) (h0 : ∀ D, H D = none → Pv D 0 (upd H D (.dK []))) (hl : ∀ D i H, i ≤ xs.length → Pv D i H → SqT K H a xs)
    (hs : ∀ D i x H, xs[i]? = some x → Pv D i H → g x (wipe σ vs) H fun σ2 H2 => wipe σ2 vs = wipe σ vs ∧ tt σ2 H2 fun b H3 =>
      if b = true then tk σ2 H3 fun y H4 => tv σ2 H4 fun z H5 => ∃ kvs k, y = kV k ∧ H5 D = some (.dK kvs) ∧ kvs.length < sizeLine ∧ Pv D (i + 1) (upd H5 D (.dK (putK kvs k z))) else Pv D (i + 1) H3) (hd : ∀ D H, Pv D xs.length H → Q (.ref D) H) : DcT K g tt tk tv vs σ Q (.ref a) H :=
  ⟨a, rfl, ⟨xs, hS⟩, fun D hD => dc_tup (Pv D) (h0 D hD) (hl D) (hs D) (hd D)⟩
end

/-! ### steps: sums, texts, slices -/
section
variable {X : Cx}
theorem c_sum (hc : X.calm = true) : CallR X (.builtin "sum") (rSum X.K) := cr_sum hc
theorem c_all (hc : X.calm = true) : CallR X (.builtin "all") (rAll X.K) := cr_all hc
theorem c_any (hc : X.calm = true) : CallR X (.builtin "any") (rAny X.K) := cr_any hc
theorem all_K {K : PySem.W.Frag} (e : X.K = K) (hc : X.calm = true) : CallR X (.builtin "all") (rAll K) := e ▸ cr_all hc
theorem any_K {K : PySem.W.Frag} (e : X.K = K) (hc : X.calm = true) : CallR X (.builtin "any") (rAny K) := e ▸ cr_any hc
theorem sum_K {K : PySem.W.Frag} (e : X.K = K) (hc : X.calm = true) : CallR X (.builtin "sum") (rSum K) := e ▸ cr_sum hc
def rAddStr : R2 := fun x y H Q => ∃ i j, x = .str i ∧ y = .str j ∧ i.length + j.length ≤ sizeLine ∧ Q (.str (i ++ j)) H
theorem o_addS : OpR X (binaryOp .Add) rAddStr := op_add_str
def rLtStr : R2 := fun x y H Q => ∃ i j, x = .str i ∧ y = .str j ∧ Q (.bl (decide (i.cps.toList < j.cps.toList))) H
theorem o_ltS : OpR X (compareOp .Lt) rLtStr := op_lt_str
def rSortDk : List V → Hp → VK → Prop := fun xs H Q => ∃ (a : Addr) (kvs : List (Key × V)) (ks : List Str), xs = [.ref a] ∧ Rd H a (.dK kvs) ∧ kvs.map (·.1) = ks.map Sum.inr ∧ ks.length < 64 ∧
    ∀ ys p, ys.Perm ks → PyProof.Rows.sortedS ys = true → H p = none → Q (.ref p) (upd H p (.lst (ys.map V.str)))
theorem c_sortDk (hc : X.calm = true) : CallR X (.builtin "sorted") rSortDk := call_sortedD hc
end
section
variable {K : PySem.W.Frag} {σ : L2.St} {H : Hp} {Q : VK} {te : TE} {a : Addr} {xs : List V} {i : Int} {s t : Str} {c : Nat} {ns : List Int} {bs : List Bool} {kvs : List (Key × V)}
theorem v_sum (hS : SqL K H a (ns.map V.int)) (h : Q (.int ns.sum) H) : rSum K [.ref a] H Q := ⟨a, ns, rfl, hS, h⟩
theorem v_all (hS : SqL K H a (bs.map V.bl)) (h : Q (.bl (bs.all id)) H) : rAll K [.ref a] H Q := ⟨a, bs, rfl, hS, h⟩
theorem v_any (hS : SqL K H a (bs.map V.bl)) (h : Q (.bl (bs.any id)) H) : rAny K [.ref a] H Q := ⟨a, bs, rfl, hS, h⟩
theorem v_addS (hz : s.length + t.length ≤ sizeLine) (h : Q (.str (s ++ t)) H) : rAddStr (.str s) (.str t) H Q := ⟨s, t, rfl, rfl, hz, h⟩
theorem v_ltS (h : Q (.bl (decide (s.cps.toList < t.cps.toList))) H) : rLtStr (.str s) (.str t) H Q := ⟨s, t, rfl, rfl, h⟩
theorem v_ixS (hz : s.length ≤ sizeLine) (e : atI s.cps.toList i = some c) (h : Q (.str ⟨#[c]⟩) H) : rIxS (.str s) (.int i) H Q := ⟨s, i, c, rfl, rfl, hz, e, h⟩
theorem v_sortDk {ks : List Str} (hd : H a = some (.dK kvs)) (e : kvs.map (·.1) = ks.map Sum.inr) (hl : ks.length < 64) (h : ∀ (ys : List Str) (p : Addr), ys.Perm ks → H p = none → Q (.ref p) (upd H p (.lst (ys.map V.str)))) : rSortDk [.ref a] H Q := ⟨a, kvs, ks, rfl, .inl hd, e, hl, fun ys p h1 _ h3 => h ys p h1 h3⟩
def VRev (K : PySem.W.Frag) (Q : VK) : VK := fun x H1 => ∃ a xs, x = .ref a ∧ SqL K H1 a xs ∧ ∀ p, H1 p = none → Q (.ref p) (upd H1 p (.lst xs.reverse))
theorem r_revL (h : te σ H fun x H1 => VRev K Q x H1) : tRevL K te σ H Q := h
theorem v_revL (hS : SqL K H a xs) (h : ∀ p, H p = none → Q (.ref p) (upd H p (.lst xs.reverse))) : VRev K Q (.ref a) H := ⟨a, xs, rfl, hS, h⟩
end
end KV

namespace K11
open PySem L2
/-! ### tables -/
abbrev Ad := List (Str × Int)
abbrev Row := Ad × Int
def tK (tb : Ad) : List (Key × V) := tb.map fun p => (Sum.inr p.1, V.int p.2)
def look (tb : Ad) (n : Str) : Option Int := (tb.find? fun p => decide (p.1 = n)).map (·.2)
def val (tb : Ad) (n : Str) : Int := (look tb n).getD 0
def put (tb : Ad) (n : Str) (v : Int) : Ad := if (tb.any fun p => decide (p.1 = n)) = true then tb.map (fun p => if p.1 = n then (p.1, v) else p) else tb ++ [(n, v)]
theorem key_eq (a b : Str) : decide ((Sum.inr a : Key) = Sum.inr b) = decide (a = b) := key_rr a b
theorem valV_t (tb : Ad) (n : Str) : valV (tK tb) (Sum.inr n) = (look tb n).map V.int := by
  unfold valV tK look
  rw [List.find?_map, Option.map_map, Option.map_map]
  have e : ((fun kv : Key × V => decide (kv.1 = Sum.inr n)) ∘ fun p : Str × Int => ((Sum.inr p.1 : Key), V.int p.2)) = fun p => decide (p.1 = n) := by
    funext p
    exact key_eq p.1 n
  rw [e]
  rfl
theorem putK_t (tb : Ad) (n : Str) (v : Int) : putK (tK tb) (Sum.inr n) (V.int v) = tK (put tb n v) := by
  unfold putK put
  have e : ((tK tb).any fun kv => decide (kv.1 = (Sum.inr n : Key))) = tb.any fun p => decide (p.1 = n) := by
    unfold tK
    rw [List.any_map]
    congr 1
    funext p
    exact key_eq p.1 n
  rw [e]
  split
  · unfold tK
    rw [List.map_map, List.map_map]
    refine List.map_congr_left fun p _ => ?_
    show (if (Sum.inr p.1 : Key) = Sum.inr n then ((Sum.inr p.1 : Key), V.int v) else (Sum.inr p.1, V.int p.2)) = (fun q : Str × Int => ((Sum.inr q.1 : Key), V.int q.2)) (if p.1 = n then (p.1, v) else p)
    by_cases h : p.1 = n
    · rw [if_pos h, if_pos (by rw [h])]
    · rw [if_neg h, if_neg fun z => h (Sum.inr.inj z)]
  · unfold tK
    rw [List.map_append]
    rfl
theorem look_nil (n : Str) : look [] n = none := rfl
theorem look_cons (p : Str × Int) (r : Ad) (n : Str) : look (p :: r) n = if p.1 = n then some p.2 else look r n := by
  unfold look
  rw [List.find?_cons]
  by_cases h : p.1 = n
  · rw [decide_eq_true h, if_pos h]; rfl
  · rw [decide_eq_false h, if_neg h]
theorem look_none {tb : Ad} {n : Str} : look tb n = none ↔ n ∉ tb.map (·.1) := by
  induction tb with
  | nil => simp [look_nil]
  | cons p r ih =>
    rw [look_cons, List.map_cons, List.mem_cons, not_or]
    by_cases h : p.1 = n
    · rw [if_pos h]; simp [h]
    · rw [if_neg h, ih]; exact ⟨fun z => ⟨fun e => h e.symm, z⟩, fun z => z.2⟩
theorem look_mem {tb : Ad} {n : Str} {v : Int} (h : look tb n = some v) : (n, v) ∈ tb := by
  induction tb with
  | nil => cases h
  | cons p r ih =>
    rw [look_cons] at h
    by_cases e : p.1 = n
    · rw [if_pos e] at h
      rw [← e, ← Option.some.inj h]
      exact List.mem_cons_self
    · rw [if_neg e] at h
      exact List.mem_cons_of_mem _ (ih h)
theorem look_some {tb : Ad} {n : Str} (h : n ∈ tb.map (·.1)) : ∃ v, look tb n = some v := by
  cases e : look tb n with
  | none => exact absurd h (look_none.mp e)
  | some v => exact ⟨v, rfl⟩
theorem look_of {tb : Ad} (nd : (tb.map (·.1)).Nodup) {n : Str} {v : Int} (h : (n, v) ∈ tb) : look tb n = some v := by
  induction tb with
  | nil => cases h
  | cons p r ih =>
    rw [List.map_cons, List.nodup_cons] at nd
    rw [look_cons]
    rcases List.mem_cons.mp h with rfl | h
    · rw [if_pos rfl]
    · have hn : n ∈ r.map (·.1) := List.mem_map.mpr ⟨(n, v), h, rfl⟩
      have hne : ¬ p.1 = n := fun e => nd.1 (by rw [e]; exact hn)
      rw [if_neg hne]
      exact ih nd.2 h
theorem put_new {tb : Ad} {n : Str} (h : n ∉ tb.map (·.1)) (v : Int) : put tb n v = tb ++ [(n, v)] := by
  unfold put
  rw [if_neg]
  intro z
  rw [List.any_eq_true] at z
  obtain ⟨p, hp, e⟩ := z
  exact h (List.mem_map.mpr ⟨p, hp, of_decide_eq_true e⟩)
theorem put_keys {tb : Ad} {n : Str} (h : n ∈ tb.map (·.1)) (v : Int) : (put tb n v).map (·.1) = tb.map (·.1) := by
  unfold put
  have z : (tb.any fun p => decide (p.1 = n)) = true := by
    rw [List.any_eq_true]
    obtain ⟨p, hp, e⟩ := List.mem_map.mp h
    exact ⟨p, hp, decide_eq_true e⟩
  rw [if_pos z, List.map_map]
  refine List.map_congr_left fun p _ => ?_
  show (if p.1 = n then (p.1, v) else p).1 = p.1
  split <;> rfl
theorem look_app (tb : Ad) (n m : Str) (v : Int) : look (tb ++ [(n, v)]) m = if (look tb m).isSome then look tb m else if n = m then some v else none := by
  induction tb with
  | nil =>
    show look [(n, v)] m = _
    rw [look_cons, look_nil]; rfl
  | cons p r ih =>
    rw [List.cons_append, look_cons, look_cons, ih]
    by_cases h : p.1 = m
    · simp only [if_pos h]; rfl
    · simp only [if_neg h]
theorem look_put (tb : Ad) (n m : Str) (v : Int) : look (put tb n v) m = if n = m then some v else look tb m := by
  by_cases h : n ∈ tb.map (·.1)
  · unfold put
    have z : (tb.any fun p => decide (p.1 = n)) = true := by
      rw [List.any_eq_true]
      obtain ⟨p, hp, e⟩ := List.mem_map.mp h
      exact ⟨p, hp, decide_eq_true e⟩
    rw [if_pos z]
    clear z
    induction tb with
    | nil => cases h
    | cons p r ih =>
      rw [List.map_cons, look_cons, look_cons]
      by_cases hp : p.1 = n
      · rw [if_pos hp]
        show (if p.1 = m then some v else _) = _
        by_cases hm : n = m
        · rw [if_pos (hp.trans hm), if_pos hm]
        · have hm' : ¬ p.1 = m := fun e => hm (hp.symm.trans e)
          rw [if_neg hm', if_neg hm, if_neg hm']
          by_cases hr : n ∈ r.map (·.1)
          · have := ih hr; rw [if_neg hm] at this; exact this
          · have e : (r.map fun q => if q.1 = n then (q.1, v) else q) = r := by
              refine (List.map_congr_left fun q hq => ?_).trans (List.map_id r)
              rw [if_neg fun e => hr (List.mem_map.mpr ⟨q, hq, e⟩)]
              rfl
            rw [e]
      · rw [if_neg hp]
        have hr : n ∈ r.map (·.1) := by
          rcases List.mem_cons.mp (by rw [List.map_cons] at h; exact h) with e | e
          · exact absurd e.symm hp
          · exact e
        rw [ih hr]
        by_cases hm : n = m
        · rw [if_pos hm, if_pos hm, if_neg fun e => hp (e.trans hm.symm)]
        · rw [if_neg hm, if_neg hm]
  · rw [put_new h, look_app]
    by_cases hm : n = m
    · subst hm
      rw [look_none.mpr h]
      simp
    · rw [if_neg hm, if_neg hm]
      cases look tb m <;> rfl
theorem val_put (tb : Ad) (n m : Str) (v : Int) : val (put tb n v) m = if n = m then v else val tb m := by
  unfold val
  rw [look_put]
  split <;> rfl
theorem put_nodup {tb : Ad} (h : (tb.map (·.1)).Nodup) (n : Str) (v : Int) : ((put tb n v).map (·.1)).Nodup := by
  by_cases hn : n ∈ tb.map (·.1)
  · rw [put_keys hn]; exact h
  · rw [put_new hn, List.map_append, List.nodup_append]
    refine ⟨h, by simp, fun a ha b hb e => ?_⟩
    have : b = n := by simpa using hb
    subst this; subst e
    exact hn ha
theorem put_mem {tb : Ad} {n : Str} {v : Int} {p : Str × Int} (h : p ∈ put tb n v) : p ∈ tb ∨ p = (n, v) := by
  unfold put at h
  split at h
  · obtain ⟨q, hq, e⟩ := List.mem_map.mp h
    by_cases hn : q.1 = n
    · rw [if_pos hn] at e
      right
      rw [← e, hn]
    · rw [if_neg hn] at e
      left
      rw [← e]; exact hq
  · rcases List.mem_append.mp h with h | h
    · exact .inl h
    · exact .inr (by simpa using h)
theorem put_len (tb : Ad) (n : Str) (v : Int) : (put tb n v).length ≤ tb.length + 1 := by
  unfold put
  split
  · rw [List.length_map]; omega
  · rw [List.length_append]; simp
/-- the dict of some pairs -/
def mk (ps : Ad) : Ad := ps.foldl (fun t p => put t p.1 p.2) []
theorem mk_snoc (ps : Ad) (p : Str × Int) : mk (ps ++ [p]) = put (mk ps) p.1 p.2 := by unfold mk; rw [List.foldl_append]; rfl
theorem mk_nodup : ∀ (ps : Ad), (ps.map (·.1)).Nodup → mk ps = ps := by
  have go : ∀ (n : Nat) (ps : Ad), ps.length = n → (ps.map (·.1)).Nodup → mk ps = ps := by
    intro n
    induction n with
    | zero =>
      intro ps hl _
      rw [List.length_eq_zero_iff.mp hl]
      rfl
    | succ n ih =>
      intro ps hl h
      have hne : ps ≠ [] := fun z => by subst z; cases hl
      obtain ⟨r, p, rfl⟩ : ∃ r p, ps = r ++ [p] := ⟨ps.dropLast, ps.getLast hne, (List.dropLast_concat_getLast hne).symm⟩
      rw [List.length_append] at hl
      rw [List.map_append, List.nodup_append] at h
      rw [mk_snoc, ih r (by simpa using hl) h.1, put_new]
      intro z
      exact h.2.2 p.1 z p.1 (by simp) rfl
  exact fun ps h => go _ ps rfl h
/-! ### rows -/
def vs (as : Ad) (f : Str → Int) : Int := (as.map fun p => p.2 * f p.1).sum
def met (r : Row) (f : Str → Int) : Bool := decide (vs r.1 f ≤ r.2)
def metA (rows : List Row) (f : Str → Int) : Bool := rows.all fun r => met r f
def metC (cl : List (List Row)) (f : Str → Int) : Bool := cl.any fun a => metA a f
def metAll (rows : List Row) (cls : List (List (List Row))) (f : Str → Int) : Bool := metA rows f && cls.all fun c => metC c f
def neg (r : Row) : Row := (r.1.map fun p => (p.1, -p.2), -r.2 - 1)
theorem vs_neg (as : Ad) (f : Str → Int) : vs (as.map fun p => (p.1, -p.2)) f = - vs as f := by
  unfold vs
  rw [List.map_map]
  induction as with
  | nil => rfl
  | cons p r ih =>
    rw [List.map_cons, List.map_cons, List.sum_cons, List.sum_cons, ih]
    show -p.2 * f p.1 + _ = _
    rw [Int.neg_mul]; omega
theorem met_neg (r : Row) (f : Str → Int) : met (neg r) f = !met r f := by
  unfold met neg
  rw [vs_neg]
  by_cases h : vs r.1 f ≤ r.2
  · rw [decide_eq_true h, decide_eq_false]; rfl
    show ¬ (-vs r.1 f ≤ -r.2 - 1)
    omega
  · rw [decide_eq_false h, decide_eq_true]; rfl
    show -vs r.1 f ≤ -r.2 - 1
    omega
theorem neg_neg' (r : Row) : neg (neg r) = r := by
  unfold neg
  rw [List.map_map]
  have e : (r.1.map ((fun p : Str × Int => (p.1, -p.2)) ∘ fun p => (p.1, -p.2))) = r.1 := by
    refine (List.map_congr_left fun p _ => ?_).trans (List.map_id _)
    show (p.1, - -p.2) = p
    rw [Int.neg_neg]
  rw [e]
  show (r.1, -(-r.2 - 1) - 1) = r
  have : -(-r.2 - 1) - 1 = r.2 := by omega
  rw [this]
theorem vs_congr {as : Ad} {f g : Str → Int} (h : ∀ p ∈ as, f p.1 = g p.1) : vs as f = vs as g := by
  unfold vs
  rw [List.map_congr_left fun p hp => by rw [h p hp]]
theorem met_congr {r : Row} {f g : Str → Int} (h : ∀ p ∈ r.1, f p.1 = g p.1) : met r f = met r g := by unfold met; rw [vs_congr h]
theorem all_congr' {α : Type} {l : List α} {f g : α → Bool} (h : ∀ x ∈ l, f x = g x) : l.all f = l.all g := by
  induction l with
  | nil => rfl
  | cons x r ih => rw [List.all_cons, List.all_cons, h x (by simp), ih fun y hy => h y (by simp [hy])]
theorem any_congr' {α : Type} {l : List α} {f g : α → Bool} (h : ∀ x ∈ l, f x = g x) : l.any f = l.any g := by
  induction l with
  | nil => rfl
  | cons x r ih => rw [List.any_cons, List.any_cons, h x (by simp), ih fun y hy => h y (by simp [hy])]
/-- all names of rows are in N -/
def Over (N : Str → Prop) (rows : List Row) : Prop := ∀ r ∈ rows, ∀ p ∈ r.1, N p.1
theorem metA_congr {N : Str → Prop} {rows : List Row} {f g : Str → Int} (ho : Over N rows) (h : ∀ n, N n → f n = g n) : metA rows f = metA rows g := all_congr' fun r hr => met_congr fun p hp => h _ (ho r hr p hp)
theorem metAll_congr {N : Str → Prop} {rows : List Row} {cls : List (List (List Row))} {f g : Str → Int} (ho : Over N rows) (hc : ∀ c ∈ cls, ∀ a ∈ c, Over N a) (h : ∀ n, N n → f n = g n) : metAll rows cls f = metAll rows cls g := by
  unfold metAll
  rw [metA_congr ho h]
  congr 1
  exact all_congr' fun c hc' => any_congr' fun a ha => metA_congr (hc c hc' a ha) h
end K11

namespace K11
open PySem L2
/-! ### names -/
def ltr (c : Nat) : Str := ⟨#[97 + c]⟩
def nm (c : Nat) (f : Int) : Str :=
  if f = 2 then (Str.ofString "len(" ++ ltr c) ++ Str.ofString ")"
  else if f = 3 then ltr c ++ Str.ofString "[i + 1]"
  else if f = 4 then ltr c ++ Str.ofString "1"
  else if f = 5 then Str.ofString "abs" ++ ltr c
  else if f = 6 then Str.ofString "abcdefghijk" ++ ltr c
  else ltr c
def absN (n : Str) : Str := Str.ofString "abs " ++ n
/-- the letter of a name -/
def letOf (s : Str) : Nat :=
  (match s.cps.size with
  | 6 => s.cps.getD 4 0
  | 4 => s.cps.getD 3 0
  | 12 => s.cps.getD 11 0
  | _ => s.cps.getD 0 0) - 97
def forms : List Int := [0, 1, 2, 3, 4, 5, 6]
theorem nm_facts : ∀ c < 26, ∀ f ∈ forms, letOf (nm c f) = c ∧ (nm c f).length ≤ 12 ∧ PyData.strOk (nm c f) = true ∧ PyData.strOk (absN (nm c f)) = true ∧ ((nm c f).cps.toList.take 4 == [97, 98, 115, 32]) = false := by decide +kernel
def Nm (n : Str) : Prop := ∃ c f, c < 26 ∧ f ∈ forms ∧ n = nm c f
theorem form_mem {f : Int} (h0 : 0 ≤ f) (h1 : f < 7) : f ∈ forms := by
  have : f = 0 ∨ f = 1 ∨ f = 2 ∨ f = 3 ∨ f = 4 ∨ f = 5 ∨ f = 6 := by omega
  rcases this with rfl | rfl | rfl | rfl | rfl | rfl | rfl <;> decide
theorem Nm.of {c : Nat} {f : Int} (hc : c < 26) (h0 : 0 ≤ f) (h1 : f < 7) : Nm (nm c f) := ⟨c, f, hc, form_mem h0 h1, rfl⟩
theorem nm_inj {c d : Nat} {f g : Int} (hc : c < 26) (hd : d < 26) (hf : f ∈ forms) (hg : g ∈ forms) (e : nm c f = nm d g) : c = d := by
  have h1 := (nm_facts c hc f hf).1
  have h2 := (nm_facts d hd g hg).1
  rw [← h1, ← h2, e]
theorem Nm.len {n : Str} (h : Nm n) : n.length ≤ 12 := by
  obtain ⟨c, f, hc, hf, rfl⟩ := h
  exact (nm_facts c hc f hf).2.1
theorem Nm.ok {n : Str} (h : Nm n) : PyData.strOk n = true := by
  obtain ⟨c, f, hc, hf, rfl⟩ := h
  exact (nm_facts c hc f hf).2.2.1
theorem Nm.okA {n : Str} (h : Nm n) : PyData.strOk (absN n) = true := by
  obtain ⟨c, f, hc, hf, rfl⟩ := h
  exact (nm_facts c hc f hf).2.2.2.1
theorem app_cps (a b : Str) : (a ++ b).cps = a.cps ++ b.cps := rfl
theorem abs_cps (n : Str) : (absN n).cps.toList = [97, 98, 115, 32] ++ n.cps.toList := by
  unfold absN
  rw [app_cps, Array.toList_append]
  have : (Str.ofString "abs ").cps.toList = [97, 98, 115, 32] := by decide +kernel
  rw [this]
theorem str_ext {a b : Str} (h : a.cps.toList = b.cps.toList) : a = b := by
  cases a; cases b
  simp only at h
  rw [Array.toList_inj.mp h]
theorem abs_inj {n m : Str} (h : absN n = absN m) : n = m := by
  have e := congrArg (fun s : Str => s.cps.toList) h
  simp only [abs_cps] at e
  exact str_ext (List.append_cancel_left e)
theorem Nm.ne_abs {n : Str} (h : Nm n) (m : Str) : n ≠ absN m := by
  obtain ⟨c, f, hc, hf, rfl⟩ := h
  intro e
  have h1 := (nm_facts c hc f hf).2.2.2.2
  rw [e, abs_cps] at h1
  simp at h1
/-- letters that are drawn for names stand apart -/
theorem step_ne {st s : Int} {k j : Nat} (hs : s = 1 ∨ s = 3 ∨ s = 5 ∨ s = 7) (hk : k < 5) (hj : j < 5) (e : (st + k * s) % 26 = (st + j * s) % 26) : k = j := by
  rcases hs with rfl | rfl | rfl | rfl <;> omega

/-! ### the rows that bound a weight -/
def prD (p : Str × Int) : PyData := .tuple [.str p.1, .int p.2]
abbrev leP : Str × Int → Str × Int → Bool := PySem.W.dataLe false prD
abbrev leS : Str → Str → Bool := PySem.W.dataLe false PyData.str
def sltB (a b : Str) : Bool := decide (a.cps.toList < b.cps.toList)
theorem dataLt_str (a b : Str) : PySem.W.dataLt (.str a) (.str b) = sltB a b := by
  have h := congrFun (congrFun (PySem.W.dataLe_str (β := Str) id) b) a
  have e1 : PySem.W.dataLe false (fun b : Str => PyData.str (id b)) b a = !PySem.W.dataLt (.str a) (.str b) := rfl
  rw [e1] at h
  have h2 : PySem.W.dataLt (.str a) (.str b) = !decide (b.cps.toList ≤ a.cps.toList) := by
    rw [show decide (b.cps.toList ≤ a.cps.toList) = decide ((id b).cps.toList ≤ (id a).cps.toList) from rfl, ← h, Bool.not_not]
  rw [h2]
  unfold sltB
  by_cases hl : a.cps.toList < b.cps.toList
  · rw [decide_eq_true hl, decide_eq_false (fun z => List.not_lt.mpr z hl)]; rfl
  · rw [decide_eq_false hl, decide_eq_true (List.not_lt.mp hl)]; rfl
theorem leP_eq (p q : Str × Int) : leP p q = !(if q.1 = p.1 then decide (q.2 < p.2) else sltB q.1 p.1) := by
  show (!PySem.W.dataLt (prD q) (prD p)) = _
  unfold prD
  rw [PySem.W.dataLt_pair (by simp [PySem.W.alike]) (by simp [PySem.W.alike])]
  congr 1
  by_cases h : q.1 = p.1
  · have e : PyData.eqv (.str q.1) (.str p.1) = true := by rw [h]; simp [PyData.eqv]
    rw [if_pos e, if_pos h]
    have hlt : PySem.W.dataLt (.int q.2) (.int p.2) = decide (q.2 < p.2) := by
      have h := congrFun (congrFun (PySem.W.dataLe_int (β := Int) id) p.2) q.2
      have e1 : PySem.W.dataLe false (fun b : Int => PyData.int (id b)) p.2 q.2 = !PySem.W.dataLt (.int q.2) (.int p.2) := rfl
      rw [e1] at h
      have h2 : PySem.W.dataLt (.int q.2) (.int p.2) = !decide (p.2 ≤ q.2) := by
        rw [show decide (p.2 ≤ q.2) = decide (id p.2 ≤ id q.2) from rfl, ← h, Bool.not_not]
      rw [h2]
      by_cases hl : q.2 < p.2
      · rw [decide_eq_true hl, decide_eq_false (by omega)]; rfl
      · rw [decide_eq_false hl, decide_eq_true (by omega)]; rfl
    by_cases h2 : q.2 = p.2
    · have e2 : PyData.eqv (.int q.2) (.int p.2) = true := by rw [h2]; simp [PyData.eqv]
      rw [if_pos e2, decide_eq_false (by omega)]
    · have e2 : PyData.eqv (.int q.2) (.int p.2) = false := by simp [PyData.eqv, h2]
      rw [if_neg (by rw [e2]; decide), hlt]
  · have e : PyData.eqv (.str q.1) (.str p.1) = false := by simp [PyData.eqv, h]
    rw [if_neg (by rw [e]; decide), if_neg h, dataLt_str]
theorem leS_eq (a b : Str) : leS a b = !sltB b a := by
  show (!PySem.W.dataLt (.str b) (.str a)) = _
  rw [dataLt_str]
theorem slt_irr (a : Str) : sltB a a = false := decide_eq_false (List.lt_irrefl _)
theorem slt_tri {a b : Str} (h : a ≠ b) : sltB a b = !sltB b a := by
  unfold sltB
  by_cases h1 : a.cps.toList < b.cps.toList
  · rw [decide_eq_true h1, decide_eq_false (List.lt_asymm h1)]; rfl
  · have h2 : b.cps.toList ≤ a.cps.toList := List.not_lt.mp h1
    have h3 : b.cps.toList < a.cps.toList := by
      refine Classical.byContradiction fun z => ?_
      exact h (str_ext (List.le_antisymm (List.not_lt.mp z) h2))
    rw [decide_eq_false h1, decide_eq_true h3]; rfl
theorem two_sort {α : Type} (le : α → α → Bool) (a b : α) : [a, b].mergeSort le = if le a b = true then [a, b] else [b, a] := by
  simp [List.mergeSort, List.MergeSort.Internal.splitInTwo, List.merge]
/-- a pair of addends in order -/
def pr2 (n : Str) (c : Int) (o : Str) (d : Int) : Ad := if sltB n o = true then [(n, c), (o, d)] else [(o, d), (n, c)]
theorem pr2_eq {n o : Str} (h : n ≠ o) (c d : Int) : [(n, c), (o, d)].mergeSort leP = pr2 n c o d := by
  rw [two_sort, leP_eq]
  unfold pr2
  show (if (!(if o = n then decide (d < c) else sltB o n)) = true then _ else _) = _
  rw [if_neg (fun z : o = n => h z.symm), slt_tri h]
theorem last_eq (os : List Str) : (os.map fun o => (o, (1 : Int))).mergeSort leP = (os.mergeSort leS).map fun o => (o, 1) := by
  refine (PySem.W.sort_maps (fun o : Str => (o, (1 : Int))) fun a _ b _ => ?_).symm
  rw [leS_eq, leP_eq]
  congr 1
  by_cases h : b = a
  · rw [if_pos h, h, slt_irr]
    exact (decide_eq_false (Int.lt_irrefl 1)).symm
  · rw [if_neg h]
def wtd (rows : List Row) (us : List Str) (b : Int) : List Row :=
  rows ++ us.flatMap (fun n => [(pr2 n 1 (absN n) (-1), 0), (pr2 n (-1) (absN n) (-1), 0)]) ++ [(((us.map absN).mergeSort leS).map fun o => (o, 1), b)]
theorem vs_cons (p : Str × Int) (r : Ad) (f : Str → Int) : vs (p :: r) f = p.2 * f p.1 + vs r f := by unfold vs; rw [List.map_cons, List.sum_cons]
theorem vs_nil (f : Str → Int) : vs [] f = 0 := rfl
theorem vs_pr2 (n o : Str) (c d : Int) (f : Str → Int) : vs (pr2 n c o d) f = c * f n + d * f o := by
  unfold pr2
  split
  · rw [vs_cons, vs_cons, vs_nil]; simp
  · rw [vs_cons, vs_cons, vs_nil]; simp; omega
theorem sum_perm {xs ys : List Int} (h : xs.Perm ys) : xs.sum = ys.sum := by
  induction h with
  | nil => rfl
  | cons x _ ih => rw [List.sum_cons, List.sum_cons, ih]
  | swap x y l => rw [List.sum_cons, List.sum_cons, List.sum_cons, List.sum_cons]; omega
  | trans _ _ h1 h2 => exact h1.trans h2
theorem vs_ones (os : List Str) (f : Str → Int) : vs ((os.mergeSort leS).map fun o => (o, 1)) f = (os.map f).sum := by
  unfold vs
  rw [List.map_map]
  have e : ((fun p : Str × Int => p.2 * f p.1) ∘ fun o => (o, (1 : Int))) = f := by
    funext o
    show (1 : Int) * f o = f o
    omega
  rw [e]
  exact sum_perm ((List.mergeSort_perm os leS).map f)
theorem metA_app (a b : List Row) (f : Str → Int) : metA (a ++ b) f = (metA a f && metA b f) := List.all_append
theorem metA_pairs (us : List Str) (f : Str → Int) : metA (us.flatMap fun n => [(pr2 n 1 (absN n) (-1), 0), (pr2 n (-1) (absN n) (-1), 0)]) f = us.all fun n => decide (f n ≤ f (absN n)) && decide (- f n ≤ f (absN n)) := by
  induction us with
  | nil => rfl
  | cons n r ih =>
    rw [List.flatMap_cons, metA_app, ih, List.all_cons]
    congr 1
    unfold metA met
    rw [List.all_cons, List.all_cons, List.all_nil, Bool.and_true, vs_pr2, vs_pr2]
    congr 1
    · congr 1
      exact propext ⟨fun h => by omega, fun h => by omega⟩
    · congr 1
      exact propext ⟨fun h => by omega, fun h => by omega⟩
theorem metA_wtd (rows : List Row) (us : List Str) (b : Int) (f : Str → Int) : metA (wtd rows us b) f = ((metA rows f && us.all fun n => decide (f n ≤ f (absN n)) && decide (- f n ≤ f (absN n))) && decide ((us.map fun n => f (absN n)).sum ≤ b)) := by
  unfold wtd
  rw [metA_app, metA_app, metA_pairs]
  congr 1
  unfold metA met
  rw [List.all_cons, List.all_nil, Bool.and_true, vs_ones, List.map_map]
  rfl
end K11

namespace K11
open PySem L2
def absI (i : Int) : Int := if i < 0 then -i else i
def pairOk (f : Str → Int) (n : Str) : Bool := decide (f n ≤ f (absN n)) && decide (- f n ≤ f (absN n))
theorem metAll_wtd {rs : List Row} {cs : List (List (List Row))} {us : List Str} {b : Int} {f g : Str → Int} {N : Str → Prop} (ho : Over N rs) (hc : ∀ c ∈ cs, ∀ a ∈ c, Over N a) (h : ∀ n, N n → f n = g n) :
    metAll (wtd rs us b) cs f = (metAll rs cs g && (us.all (pairOk f) && decide ((us.map fun n => f (absN n)).sum ≤ b))) := by
  rw [← metAll_congr ho hc h]
  unfold metAll
  rw [metA_wtd]
  have e : (us.all fun n => decide (f n ≤ f (absN n)) && decide (- f n ≤ f (absN n))) = us.all (pairOk f) := rfl
  rw [e]
  generalize metA rs f = A
  generalize us.all (pairOk f) = U
  generalize decide ((us.map fun n => f (absN n)).sum ≤ b) = S
  generalize (cs.all fun c => metC c f) = C
  cases A <;> cases U <;> cases S <;> cases C <;> rfl
theorem pair_abs {f : Str → Int} {n : Str} {v : Int} (h1 : f n = v) (h2 : absI v ≤ f (absN n)) : pairOk f n = true := by
  unfold pairOk absI at *
  rw [h1]
  rw [Bool.and_eq_true]
  constructor
  · refine decide_eq_true ?_
    split at h2 <;> omega
  · refine decide_eq_true ?_
    split at h2 <;> omega
theorem pair_less {f : Str → Int} {n : Str} {v : Int} (h1 : f n = v) (h2 : f (absN n) = absI v - 1) : pairOk f n = false := by
  unfold pairOk
  rw [h1, h2]
  unfold absI
  by_cases h : v < 0
  · rw [if_pos h]
    have : decide (-v ≤ -v - 1) = false := decide_eq_false (by omega)
    rw [this, Bool.and_false]
  · rw [if_neg h]
    have : decide (v ≤ v - 1) = false := decide_eq_false (by omega)
    rw [this, Bool.false_and]
theorem sum_eq {us : List Str} {f h : Str → Int} (e : ∀ n ∈ us, f n = h n) : (us.map f).sum = (us.map h).sum := by
  rw [List.map_congr_left e]
theorem sum_one {us : List Str} {f h : Str → Int} {n : Str} (nd : us.Nodup) (hn : n ∈ us) (e1 : f n = h n + 1) (e2 : ∀ m ∈ us, m ≠ n → f m = h m) : (us.map f).sum = (us.map h).sum + 1 := by
  induction us with
  | nil => cases hn
  | cons u us ih =>
    rw [List.nodup_cons] at nd
    rw [List.map_cons, List.map_cons, List.sum_cons, List.sum_cons]
    rcases List.mem_cons.mp hn with rfl | hn
    · rw [e1, sum_eq (us := us) (f := f) (h := h) fun m hm => e2 m (List.mem_cons_of_mem _ hm) fun z => nd.1 (by rw [← z]; exact hm)]
      omega
    · have : u ≠ n := fun z => nd.1 (by rw [z]; exact hn)
      rw [e2 u (by simp) this, ih nd.2 hn fun m hm => e2 m (List.mem_cons_of_mem _ hm)]
      omega
theorem all_true {α : Type} {l : List α} {f : α → Bool} (h : ∀ x ∈ l, f x = true) : l.all f = true := List.all_eq_true.mpr h
end K11

namespace K11
open PySem PySem.Spec L2 KV
local macro_rules | `(tactic| walk_at "side") => `(tactic| first | assumption | omega | decide)
local macro_rules | `(tactic| walk_at "at") => `(tactic| first | assumption | exact upd_same | (rw [upd_ne (by assumption)]; assumption))
local macro_rules | `(tactic| walk_at "st") => `(tactic| first
  | with_reducible refine r_seq ?_ | with_reducible refine r_asg ?_ | with_reducible refine r_ret ?_ | with_reducible refine r_ifS ?_ | with_reducible refine r_drop ?_
  | ((with_reducible refine r_var (v := ?v) ?e ?_); (case e => exact rfl))
  | with_reducible refine r_c ?_ | with_reducible refine r_op ?_ | with_reducible refine r_un ?_ | with_reducible refine r_name ?_ | with_reducible refine r_next ?_ | with_reducible refine r_brk ?_ | with_reducible refine r_cont ?_
  | with_reducible refine r_cb ?_ | with_reducible refine r_cons ?_ | with_reducible refine r_nil ?_ | with_reducible refine r_call ?_ | with_reducible refine r_test ?_ | with_reducible refine r_tru ?_ | with_reducible refine r_tB ?_
  | with_reducible refine r_exB ?_ | with_reducible refine r_truB ?_ | with_reducible refine r_truI ?_ | with_reducible refine r_and ?_ | with_reducible refine r_or ?_ | with_reducible refine r_not ?_ | with_reducible refine r_ifE ?_
  | with_reducible refine r_andV ?_ | with_reducible refine r_orV ?_ | with_reducible refine r_notV ?_ | with_reducible refine r_gsub ?_ | with_reducible refine r_tup ?_ | with_reducible refine r_lst ?_
  | with_reducible refine r_forL ?_ | with_reducible refine r_forT ?_ | with_reducible refine r_forR ?_ | with_reducible refine r_lcL ?_ | with_reducible refine r_lcT ?_ | with_reducible refine r_lcR ?_ | with_reducible refine r_yes ?_
  | with_reducible refine v_add ?_ | with_reducible refine v_sub ?_ | with_reducible refine v_lt ?_ | with_reducible refine v_le ?_ | with_reducible refine v_gt ?_ | with_reducible refine v_ge ?_ | with_reducible refine v_neg ?_
  | with_reducible refine v_eqI ?_ | with_reducible refine v_neI ?_ | with_reducible refine v_eqB ?_ | with_reducible refine v_int ?_ | with_reducible refine v_max ?_ | with_reducible refine v_min ?_ | with_reducible refine v_abs ?_
  | ((with_reducible refine v_mulL ?s ?_); (case s => walk_at "side"))
  | ((with_reducible refine v_mulR ?s ?_); (case s => walk_at "side"))
  | ((with_reducible refine v_mod ?s ?_); (case s => walk_at "side"))
  | ((with_reducible refine v_div ?s ?t ?_); (case s => walk_at "side"); (case t => walk_at "side"))
  | ((with_reducible refine v_powE (r := ?r) ?s ?e ?_); (case s => exact (by decide)); (case e => (conv => lhs; simp only [Int.reduceToNat, Int.reducePow])))
  | ((with_reducible refine v_ixL (xs := ?xs) (v := ?v) (SqL.of ?s) ?t ?_); (case s => walk_at "at"); (case t => exact rfl))
  | ((with_reducible refine v_ixT (xs := ?xs) (v := ?v) (SqT.of ?s) ?t ?_); (case s => walk_at "at"); (case t => exact rfl))
  | with_reducible refine r_dget2 ?_ | with_reducible refine r_dget ?_ | with_reducible refine r_dput ?_ | with_reducible refine r_dcT ?_ | with_reducible refine r_revL ?_ | with_reducible refine v_ltS ?_
  | ((with_reducible refine v_d2 (kvs := ?kvs) ?s ?_); (case s => walk_at "at")) | ((with_reducible refine v_dg2S (kvs := ?kvs) ?s ?_); (case s => walk_at "at"))
  | with_reducible refine r_gcons ?_ | with_reducible refine r_gnil ?_ | with_reducible refine r_slice ?_ | with_reducible refine r_noP ?_ | with_reducible refine r_part ?_ | with_reducible refine r_exI ?_ | with_reducible refine r_lstRg ?_ | with_reducible refine r_rg1 ?_ | with_reducible refine iteT ?_ | with_reducible refine iteF ?_ | with_reducible refine iteNF ?_ | with_reducible refine iteNT ?_
  | with_reducible refine r_bm ?_ | ((with_reducible refine r_bmL (xs := ?xs) ?s ?_); (case s => walk_at "at"))
  | ((with_reducible refine v_lenT (xs := ?xs) (SqT.of ?s) ?_); (case s => walk_at "at"))
  | ((with_reducible refine v_lenL (xs := ?xs) (SqL.of ?s) ?_); (case s => walk_at "at"))
  | ((with_reducible refine v_setL (xs := ?xs) (n := ?n) ?s ?t ?_); (case s => walk_at "at"); (case t => exact rfl)))
local macro_rules | `(tactic| walk_at "go") => `(tactic| repeat walk_at "st")

def topS (i : Nat) : Stmt := PySem.Challenge.pw_kindvow_k11_rows_models_and_weights.main.body.getD i (.Pass ⟨0, 0, 0, 0⟩)
abbrev s_value_of : Stmt := topS 2
theorem sc_value_of : FnScope ["addends", "values", "unknown", "coefficient"] ["addends", "values"] (defScope s_value_of) := ⟨rfl, rfl, rfl, by decide +kernel, rfl, by decide +kernel, by decide +kernel⟩
abbrev s_meets_rows : Stmt := topS 3
theorem sc_meets_rows : FnScope ["rows", "values", "addends", "bound"] ["rows", "values"] (defScope s_meets_rows) := ⟨rfl, rfl, rfl, by decide +kernel, rfl, by decide +kernel, by decide +kernel⟩
abbrev s_meets_clause : Stmt := topS 4
theorem sc_meets_clause : FnScope ["clause", "values", "alternative"] ["clause", "values"] (defScope s_meets_clause) := ⟨rfl, rfl, rfl, by decide +kernel, rfl, by decide +kernel, by decide +kernel⟩
abbrev s_meets : Stmt := topS 5
theorem sc_meets : FnScope ["rows", "clauses", "model", "values", "unknown", "value", "clause"] ["rows", "clauses", "model"] (defScope s_meets) := ⟨rfl, rfl, rfl, by decide +kernel, rfl, by decide +kernel, by decide +kernel⟩
abbrev s_denial : Stmt := topS 6
theorem sc_denial : FnScope ["row", "addends", "bound", "unknown", "coefficient"] ["row"] (defScope s_denial) := ⟨rfl, rfl, rfl, by decide +kernel, rfl, by decide +kernel, by decide +kernel⟩
abbrev s_weighted : Stmt := topS 7
theorem sc_weighted : FnScope ["rows", "unknowns", "bound", "found", "unknown", "size"] ["rows", "unknowns", "bound"] (defScope s_weighted) := ⟨rfl, rfl, rfl, by decide +kernel, rfl, by decide +kernel, by decide +kernel⟩
abbrev s_integer : Stmt := topS 9
theorem sc_integer : FnScope ["thing"] ["thing"] (defScope s_integer) := ⟨rfl, rfl, rfl, by decide +kernel, rfl, by decide +kernel, by decide +kernel⟩
abbrev s_box : Stmt := topS 10
theorem sc_box : FnScope ["script", "place", "number", "first", "seed", "digits"] ["script", "place"] (defScope s_box) := ⟨rfl, rfl, rfl, by decide +kernel, rfl, by decide +kernel, by decide +kernel⟩
abbrev s_take : Stmt := topS 11
theorem sc_take : FnScope ["box", "many", "told"] ["box", "many"] (defScope s_take) := ⟨rfl, rfl, rfl, by decide +kernel, rfl, by decide +kernel, by decide +kernel⟩
abbrev s_text : Stmt := topS 12
theorem sc_text : FnScope ["letter", "form"] ["letter", "form"] (defScope s_text) := ⟨rfl, rfl, rfl, by decide +kernel, rfl, by decide +kernel, by decide +kernel⟩
abbrev s_names : Stmt := topS 13
theorem sc_names : FnScope ["box", "many", "start", "step", "long", "names", "k", "form"] ["box", "many"] (defScope s_names) := ⟨rfl, rfl, rfl, by decide +kernel, rfl, by decide +kernel, by decide +kernel⟩
abbrev s_number : Stmt := topS 14
theorem sc_number : FnScope ["box", "size", "worth"] ["box"] (defScope s_number) := ⟨rfl, rfl, rfl, by decide +kernel, rfl, by decide +kernel, by decide +kernel⟩
abbrev s_value : Stmt := topS 15
theorem sc_value : FnScope ["row", "table", "total", "name", "times"] ["row", "table"] (defScope s_value) := ⟨rfl, rfl, rfl, by decide +kernel, rfl, by decide +kernel, by decide +kernel⟩
abbrev s_met : Stmt := topS 16
theorem sc_met : FnScope ["row", "table"] ["row", "table"] (defScope s_met) := ⟨rfl, rfl, rfl, by decide +kernel, rfl, by decide +kernel, by decide +kernel⟩
abbrev s_all_met : Stmt := topS 17
theorem sc_all_met : FnScope ["rows", "clauses", "table", "row", "clause", "found", "alternative"] ["rows", "clauses", "table"] (defScope s_all_met) := ⟨rfl, rfl, rfl, by decide +kernel, rfl, by decide +kernel, by decide +kernel⟩
abbrev s_row : Stmt := topS 18
theorem sc_row : FnScope ["script", "place", "names", "table", "fails", "box", "slack", "addends", "name", "times", "row"] ["script", "place", "names", "table", "fails"] (defScope s_row) := ⟨rfl, rfl, rfl, by decide +kernel, rfl, by decide +kernel, by decide +kernel⟩
abbrev s_clause : Stmt := topS 19
theorem sc_clause : FnScope ["script", "place", "names", "table", "fails", "box", "many", "good", "alternatives", "k", "count", "wrong", "bad", "first", "rows", "j"] ["script", "place", "names", "table", "fails"] (defScope s_clause) := ⟨rfl, rfl, rfl, by decide +kernel, rfl, by decide +kernel, by decide +kernel⟩
abbrev s_model : Stmt := topS 20
theorem sc_model : FnScope ["table", "box", "pairs", "name"] ["table", "box"] (defScope s_model) := ⟨rfl, rfl, rfl, by decide +kernel, rfl, by decide +kernel, by decide +kernel⟩
abbrev s_copy : Stmt := topS 21
theorem sc_copy : FnScope ["table", "copied", "name"] ["table"] (defScope s_copy) := ⟨rfl, rfl, rfl, by decide +kernel, rfl, by decide +kernel, by decide +kernel⟩
abbrev s_denied : Stmt := topS 22
theorem sc_denied : FnScope ["row", "name", "times"] ["row"] (defScope s_denied) := ⟨rfl, rfl, rfl, by decide +kernel, rfl, by decide +kernel, by decide +kernel⟩
abbrev s_pair : Stmt := topS 23
theorem sc_pair : FnScope ["name", "times", "other", "more"] ["name", "times", "other", "more"] (defScope s_pair) := ⟨rfl, rfl, rfl, by decide +kernel, rfl, by decide +kernel, by decide +kernel⟩
abbrev s_l_weighted : Stmt := topS 24
theorem sc_l_weighted : FnScope ["rows", "unknowns", "bound", "due", "others", "name", "other"] ["rows", "unknowns", "bound"] (defScope s_l_weighted) := ⟨rfl, rfl, rfl, by decide +kernel, rfl, by decide +kernel, by decide +kernel⟩
abbrev s_is_row : Stmt := topS 25
theorem sc_is_row : FnScope ["row", "pair"] ["row"] (defScope s_is_row) := ⟨rfl, rfl, rfl, by decide +kernel, rfl, by decide +kernel, by decide +kernel⟩
abbrev s_says : Stmt := topS 26
theorem sc_says : FnScope ["rows", "clauses", "model", "due", "told"] ["rows", "clauses", "model", "due"] (defScope s_says) := ⟨rfl, rfl, rfl, by decide +kernel, rfl, by decide +kernel, by decide +kernel⟩
abbrev s_denials : Stmt := topS 27
theorem sc_denials : FnScope ["rows", "model", "table", "row", "told", "again", "due"] ["rows", "model", "table"] (defScope s_denials) := ⟨rfl, rfl, rfl, by decide +kernel, rfl, by decide +kernel, by decide +kernel⟩
abbrev s_weights : Stmt := topS 28
theorem sc_weights : FnScope ["script", "rows", "clauses", "names", "table", "box", "unknowns", "turn", "weight", "wide", "name", "model", "good", "bound", "told", "other", "near", "row"] ["script", "rows", "clauses", "names", "table"] (defScope s_weights) := ⟨rfl, rfl, rfl, by decide +kernel, rfl, by decide +kernel, by decide +kernel⟩
abbrev s_law : Stmt := topS 29
theorem sc_law : FnScope ["script", "box", "names", "table", "name", "many", "count", "fault", "rows", "clauses", "changed", "near", "lacking", "k"] ["script"] (defScope s_law) := ⟨rfl, rfl, rfl, by decide +kernel, rfl, by decide +kernel, by decide +kernel⟩
structure Bt (mg : Str → Option Value) : Prop where
  m_ABS : ∃ t, mg "ABSOLUTE" = some (.str "abs " t)
  m_len : mg "len" = none
  m_int : mg "int" = none
  m_str : mg "str" = none
  m_range : mg "range" = none
  m_list : mg "list" = none
  m_tuple : mg "tuple" = none
  m_abs : mg "abs" = none
  m_sum : mg "sum" = none
  m_all : mg "all" = none
  m_any : mg "any" = none
  m_sorted : mg "sorted" = none
  m_isinstance : mg "isinstance" = none
  m_bool : mg "bool" = none
/-! ### rows as data -/
def adD (as : Ad) : PyData := .tuple (as.map prD)
def rowD (r : Row) : PyData := .tuple [adD r.1, .int r.2]
def rowsD (rs : List Row) : PyData := .tuple (rs.map rowD)
def clD (c : List (List Row)) : PyData := .tuple (c.map rowsD)
def clsD (cs : List (List (List Row))) : PyData := .tuple (cs.map clD)
def Sm (n : Int) : Prop := n.natAbs < 2 ^ 200
def SmA (as : Ad) : Prop := (∀ p ∈ as, Sm p.2) ∧ as.length < 1000
def SmR (rs : List Row) : Prop := (∀ r ∈ rs, SmA r.1) ∧ rs.length < 1000
def SmC (c : List (List Row)) : Prop := (∀ a ∈ c, SmR a) ∧ c.length < 1000
def TbAt (H : Hp) (d : Addr) (tb : Ad) : Prop := H d = some (.dK (tK tb)) ∧ (∀ p ∈ tb, Sm p.2)
theorem TbAt.kp0 {H H' : Hp} {d : Addr} {tb : Ad} (h : TbAt H d tb) (k : Kp [] H H') : TbAt H' d tb := ⟨k.at0 h.1, h.2⟩
theorem sm_val {tb : Ad} (h : ∀ p ∈ tb, Sm p.2) (n : Str) : Sm (val tb n) := by
  unfold val
  cases e : look tb n with
  | none => show Sm 0; unfold Sm; decide
  | some v => exact h _ (look_mem e)
theorem mulW {a b : Int} (ha : Sm a) (hb : Sm b) : CMulW a b := wide_mul (a := 200) (b := 200) ha hb (by decide) (by decide) (by decide)
theorem getD_t (tb : Ad) (n : Str) : ((valV (tK tb) (Sum.inr n)).getD (.int 0)) = .int (val tb n) := by
  rw [valV_t]
  unfold val
  cases look tb n <;> rfl
section
variable {P : Program} {w : World} {K : PySem.W.Frag} {mg : Str → Option Value} {base : Heap}
theorem int_get {ms : List Int} {i : Nat} {x : V} (hx : (ms.map V.int)[i]? = some x) : ∃ y, ms[i]? = some y ∧ x = V.int y := by
  rw [List.getElem?_map] at hx
  cases e : ms[i]? with
  | none => rw [e] at hx; cases hx
  | some y => rw [e] at hx; exact ⟨y, rfl, (Option.some.inj hx).symm⟩
theorem str_get {ms : List Str} {i : Nat} {x : V} (hx : (ms.map V.str)[i]? = some x) : ∃ y, ms[i]? = some y ∧ x = V.str y := by
  rw [List.getElem?_map] at hx
  cases e : ms[i]? with
  | none => rw [e] at hx; cases hx
  | some y => rw [e] at hx; exact ⟨y, rfl, (Option.some.inj hx).symm⟩
theorem take_get {α : Type} {xs : List α} {i : Nat} {p : α} (h : xs[i]? = some p) : xs.take (i + 1) = xs.take i ++ [p] := by
  rw [List.take_add_one, h]; rfl
def spValueOf : Sp := fun us H Q _ => ∃ (x : V) (d : Addr) (as tb : Ad), us = [x, .ref d] ∧ Fz H x (adD as) ∧ SmA as ∧ TbAt H d tb ∧ ∀ H', Kp [] H H' → Q (.int (vs as (val tb))) H'
theorem ok_value_of (D : DefAt K mg "value_of" s_value_of ["addends", "values"]) (T : Bt mg) : Cal P w K mg base 1 "value_of" ["addends", "values"] spValueOf := by
  refine D.mk' sc_value_of (fun us H Q E h => ?_) (fun f cdv A outer s H us Q E hr h => ?_)
  · obtain ⟨x, d, as, tb, rfl, _⟩ := h
    rfl
  · obtain ⟨x, d, as, tb, rfl, hx, hs, ht, k⟩ := h
    obtain ⟨a, xs, rfl, ha, hz⟩ := hx.tup_inv
    have hl := hz.len
    rw [List.length_map] at hl
    have hn := hs.2
    refine ⟨_, (pss_one (ps_ret (pe_callB (c_sum rfl) (by rfl) T.m_sum bt_sum (pa_cons (pe_lc (own := [("unknown", 2), ("coefficient", 3)]) (g := gTup K 2 (gCons (gName 2) (gCons (gName 3) (gNil)))) (tt := tYes) rfl sc_value_of.nd (pi_tup (pv 0)) (blkOk_by (own := [("unknown", 2), ("coefficient", 3)]) (N := ["addends", "values", "unknown", "coefficient"]) (sc := defScope s_value_of) (by decide +kernel)) (fun _ _ _ _ _ => (gtup_K (K := K) rfl rfl (pgs_cons (pg_name (i := 2) sc_value_of.nd rfl (Or.inl rfl)) (pgs_cons (pg_name (i := 3) sc_value_of.nd rfl (Or.inl rfl)) pgs_nil)))) (fun _ _ _ _ _ => pts_nil) (fun _ _ _ _ _ => (pe_op o_mul (pv 3) (pe_dget2 (hu_of hr) (pv 1) (pv 2) pe_int ⟨rfl, rfl, rfl, rfl⟩)))) pa_nil)))), ?_⟩
    walk_at "go"
    refine lcT (SqT.of ha) (fun D i H' => Kp [] H H' ∧ H D = none ∧ H' D = some (.lst (((as.take i).map fun p => p.2 * val tb p.1).map V.int))) ?_ ?_ ?_ ?_
    · exact fun D nD => ⟨Kp.new nD, nD, upd_same⟩
    · rintro D i H' _ ⟨k1, _⟩
      exact SqT.of (k1.at0 ha)
    · rintro D i x H1 hx ⟨k1, nD, hD⟩
      obtain ⟨p, hp, hxp⟩ := hz.map hx
      obtain ⟨t, y, z, rfl, e1, e2, e3⟩ := (hxp.kp0 k1).pair_inv
      cases e2.str_inv
      cases e3.int_inv
      have hmem := List.mem_of_getElem? hp
      have hd := k1.at0 ht.1
      refine r_gtup (SqT.of e1) rfl ?_
      walk_at "go"
      refine ⟨rfl, ?_⟩
      walk_at "go"
      rw [getD_t]
      refine v_mulW (mulW (hs.1 p hmem) (sm_val ht.2 p.1)) ?_
      have hi := (List.getElem?_eq_some_iff.mp hp).1
      refine ⟨_, hD, by simp only [List.length_map, List.length_take]; exact szLt (by omega), k1.own nD, nD, ?_⟩
      rw [upd_same, take_get hp, List.map_append, List.map_append]
      rfl
    · rintro D H1 ⟨k1, nD, hD⟩
      rw [hl, List.take_length] at hD
      walk_at "go"
      refine v_sum (SqL.of hD) ?_
      exact k _ k1
end
end K11

namespace K11
open PySem PySem.Spec L2 KV
local macro_rules | `(tactic| walk_at "side") => `(tactic| first | assumption | omega | decide)
local macro_rules | `(tactic| walk_at "at") => `(tactic| first | assumption | exact upd_same | (rw [upd_ne (by assumption)]; assumption))
local macro_rules | `(tactic| walk_at "st") => `(tactic| first
  | with_reducible refine r_seq ?_ | with_reducible refine r_asg ?_ | with_reducible refine r_ret ?_ | with_reducible refine r_ifS ?_ | with_reducible refine r_drop ?_
  | ((with_reducible refine r_var (v := ?v) ?e ?_); (case e => exact rfl))
  | with_reducible refine r_c ?_ | with_reducible refine r_op ?_ | with_reducible refine r_un ?_ | with_reducible refine r_name ?_ | with_reducible refine r_next ?_ | with_reducible refine r_brk ?_ | with_reducible refine r_cont ?_
  | with_reducible refine r_cb ?_ | with_reducible refine r_cons ?_ | with_reducible refine r_nil ?_ | with_reducible refine r_call ?_ | with_reducible refine r_test ?_ | with_reducible refine r_tru ?_ | with_reducible refine r_tB ?_
  | with_reducible refine r_exB ?_ | with_reducible refine r_truB ?_ | with_reducible refine r_truI ?_ | with_reducible refine r_and ?_ | with_reducible refine r_or ?_ | with_reducible refine r_not ?_ | with_reducible refine r_ifE ?_
  | with_reducible refine r_andV ?_ | with_reducible refine r_orV ?_ | with_reducible refine r_notV ?_ | with_reducible refine r_gsub ?_ | with_reducible refine r_tup ?_ | with_reducible refine r_lst ?_
  | with_reducible refine r_forL ?_ | with_reducible refine r_forT ?_ | with_reducible refine r_forR ?_ | with_reducible refine r_lcL ?_ | with_reducible refine r_lcT ?_ | with_reducible refine r_lcR ?_ | with_reducible refine r_yes ?_
  | with_reducible refine v_add ?_ | with_reducible refine v_sub ?_ | with_reducible refine v_lt ?_ | with_reducible refine v_le ?_ | with_reducible refine v_gt ?_ | with_reducible refine v_ge ?_ | with_reducible refine v_neg ?_
  | with_reducible refine v_eqI ?_ | with_reducible refine v_neI ?_ | with_reducible refine v_eqB ?_ | with_reducible refine v_int ?_ | with_reducible refine v_max ?_ | with_reducible refine v_min ?_ | with_reducible refine v_abs ?_
  | ((with_reducible refine v_mulL ?s ?_); (case s => walk_at "side"))
  | ((with_reducible refine v_mulR ?s ?_); (case s => walk_at "side"))
  | ((with_reducible refine v_mod ?s ?_); (case s => walk_at "side"))
  | ((with_reducible refine v_div ?s ?t ?_); (case s => walk_at "side"); (case t => walk_at "side"))
  | ((with_reducible refine v_powE (r := ?r) ?s ?e ?_); (case s => exact (by decide)); (case e => (conv => lhs; simp only [Int.reduceToNat, Int.reducePow])))
  | ((with_reducible refine v_ixL (xs := ?xs) (v := ?v) (SqL.of ?s) ?t ?_); (case s => walk_at "at"); (case t => exact rfl))
  | ((with_reducible refine v_ixT (xs := ?xs) (v := ?v) (SqT.of ?s) ?t ?_); (case s => walk_at "at"); (case t => exact rfl))
  | with_reducible refine r_dget2 ?_ | with_reducible refine r_dget ?_ | with_reducible refine r_dput ?_ | with_reducible refine r_dcT ?_ | with_reducible refine r_revL ?_ | with_reducible refine v_ltS ?_
  | ((with_reducible refine v_d2 (kvs := ?kvs) ?s ?_); (case s => walk_at "at")) | ((with_reducible refine v_dg2S (kvs := ?kvs) ?s ?_); (case s => walk_at "at"))
  | with_reducible refine r_gcons ?_ | with_reducible refine r_gnil ?_ | with_reducible refine r_slice ?_ | with_reducible refine r_noP ?_ | with_reducible refine r_part ?_ | with_reducible refine r_exI ?_ | with_reducible refine r_lstRg ?_ | with_reducible refine r_rg1 ?_ | with_reducible refine iteT ?_ | with_reducible refine iteF ?_ | with_reducible refine iteNF ?_ | with_reducible refine iteNT ?_
  | with_reducible refine r_bm ?_ | ((with_reducible refine r_bmL (xs := ?xs) ?s ?_); (case s => walk_at "at"))
  | ((with_reducible refine v_lenT (xs := ?xs) (SqT.of ?s) ?_); (case s => walk_at "at"))
  | ((with_reducible refine v_lenL (xs := ?xs) (SqL.of ?s) ?_); (case s => walk_at "at"))
  | ((with_reducible refine v_setL (xs := ?xs) (n := ?n) ?s ?t ?_); (case s => walk_at "at"); (case t => exact rfl)))
local macro_rules | `(tactic| walk_at "go") => `(tactic| repeat walk_at "st")

theorem zip_fst {H : Hp} : ∀ {ys : List V} {ps : Ad}, FzAll H ys (ps.map prD) → (ys.zip ps).map (·.1) = ys ∧ (ys.zip ps).map (·.2) = ps ∧ ∀ b ∈ ys.zip ps, Fz H b.1 (prD b.2)
  | _, [], h => by
    cases h
    exact ⟨rfl, rfl, fun _ h => nomatch h⟩
  | _, p :: ps, h => by
    cases h with
    | cons h1 h2 =>
      obtain ⟨a, b, c⟩ := zip_fst h2
      refine ⟨by rw [List.zip_cons_cons, List.map_cons, a], by rw [List.zip_cons_cons, List.map_cons, b], fun q hq => ?_⟩
      rw [List.zip_cons_cons] at hq
      rcases List.mem_cons.mp hq with rfl | hq
      · exact h1
      · exact c q hq
theorem fz_pairs {H : Hp} : ∀ {bs : List (V × (Str × Int))}, (∀ b ∈ bs, Fz H b.1 (prD b.2)) → FzAll H (bs.map (·.1)) ((bs.map (·.2)).map prD)
  | [], _ => .nil
  | b :: bs, h => .cons (h b (by simp)) (fz_pairs fun c hc => h c (by simp [hc]))
theorem v_sortP {K : PySem.W.Frag} {H : Hp} {Q : VK} {l : Addr} {ys : List V} {ps : Ad} (hl : H l = some (.lst ys)) (hz : FzAll H ys (ps.map prD)) (h : ∀ p ys', H p = none → FzAll H ys' ((ps.mergeSort leP).map prD) → Q (.ref p) (upd H p (.lst ys'))) : rSortD K [.ref l] H Q := by
  obtain ⟨e1, e2, e3⟩ := zip_fst hz
  refine v_sort (ys.zip ps) (fun b => b.1) (fun b => prD b.2) (by rw [e1]; exact SqL.of hl) (fun b hb => (e3 b hb).dp) (PySem.W.AllAlike.of fun _ _ => by simp [prD, PySem.W.alike, PySem.W.alikeAll]) (PySem.W.Sortable.tuples fun b => ⟨_, _, rfl⟩) (fun b _ => ?_) (fun p np => ?_)
  · show (PyData.tuple [.str b.2.1, .int b.2.2]).depth ≤ 50
    simp [PyData.depth, PyData.depthAll]
  · refine h p _ np ?_
    have e4 : (ps.mergeSort leP) = ((ys.zip ps).mergeSort (PySem.W.dataLe false fun b => prD b.2)).map (·.2) := by
      rw [PySem.W.sort_maps (r := PySem.W.dataLe false fun b : V × (Str × Int) => prD b.2) (s := leP) (fun b : V × (Str × Int) => b.2) (fun a _ b _ => rfl), e2]
    rw [e4]
    exact fz_pairs fun b hb => e3 b (List.mem_mergeSort.mp hb)
/-- sorted of texts -/
theorem v_sortS {K : PySem.W.Frag} {H : Hp} {Q : VK} {l : Addr} {ns : List Str} (hS : SqL K H l (ns.map V.str)) (h : ∀ p, H p = none → Q (.ref p) (upd H p (.lst ((ns.mergeSort leS).map V.str)))) : rSortD K [.ref l] H Q :=
  v_sort ns V.str PyData.str hS (fun b _ => .str b) (PySem.W.AllAlike.of fun _ _ => by simp [PySem.W.alike]) (PySem.W.Sortable.others fun b => ⟨(fun z => nomatch z), (fun xs z => nomatch z)⟩) (fun b _ => by simp [PyData.depth]) h
section
variable {P : Program} {w : World} {K : PySem.W.Frag} {mg : Str → Option Value} {base : Heap}
def spMRows : Sp := fun us H Q _ => ∃ (x : V) (d : Addr) (rs : List Row) (tb : Ad), us = [x, .ref d] ∧ Fz H x (rowsD rs) ∧ SmR rs ∧ TbAt H d tb ∧ ∀ H', Kp [] H H' → Q (.bl (metA rs (val tb))) H'
theorem all_map {α : Type} (l : List α) (f : α → Bool) : (l.map f).all id = l.all f := by rw [List.all_map]; rfl
theorem any_map {α : Type} (l : List α) (f : α → Bool) : (l.map f).any id = l.any f := by rw [List.any_map]; rfl
theorem ok_meets_rows (D : DefAt K mg "meets_rows" s_meets_rows ["rows", "values"]) (T : Bt mg) (C_value_of : Cal P w K mg base 1 "value_of" ["addends", "values"] spValueOf) : Cal P w K mg base 2 "meets_rows" ["rows", "values"] spMRows := by
  refine D.mk' sc_meets_rows (fun us H Q E h => ?_) (fun f cdv A outer s H us Q E hr h => ?_)
  · obtain ⟨x, d, as, tb, rfl, _⟩ := h
    rfl
  · obtain ⟨x, d, rs, tb, rfl, hx, hs, ht, k⟩ := h
    obtain ⟨a, xs, rfl, ha, hz⟩ := hx.tup_inv
    have hl := hz.len
    rw [List.length_map] at hl
    have hn := hs.2
    refine ⟨_, (pss_one (ps_ret (pe_callB (c_all rfl) (by rfl) T.m_all bt_all (pa_cons (pe_lc (own := [("addends", 2), ("bound", 3)]) (g := gTup K 2 (gCons (gName 2) (gCons (gName 3) (gNil)))) (tt := tYes) rfl sc_meets_rows.nd (pi_tup (pv 0)) (blkOk_by (own := [("addends", 2), ("bound", 3)]) (N := ["rows", "values", "addends", "bound"]) (sc := defScope s_meets_rows) (by decide +kernel)) (fun _ _ _ _ _ => (gtup_K (K := K) rfl rfl (pgs_cons (pg_name (i := 2) sc_meets_rows.nd rfl (Or.inl rfl)) (pgs_cons (pg_name (i := 3) sc_meets_rows.nd rfl (Or.inl rfl)) pgs_nil)))) (fun _ _ _ _ _ => pts_nil) (fun _ _ _ _ _ => (pe_cmpR o_le (p_cal C_value_of hr (pa_cons (pv 2) (pa_cons (pv 1) pa_nil))) (pv 3) (nomark _)))) pa_nil)))), ?_⟩
    walk_at "go"
    refine lcT (SqT.of ha) (fun D i H' => Kp [] H H' ∧ H D = none ∧ H' D = some (.lst (((rs.take i).map fun r => met r (val tb)).map V.bl))) ?_ ?_ ?_ ?_
    · exact fun D nD => ⟨Kp.new nD, nD, upd_same⟩
    · rintro D i H' _ ⟨k1, _⟩
      exact SqT.of (k1.at0 ha)
    · rintro D i x H1 hx ⟨k1, nD, hD⟩
      obtain ⟨r, hr', hxr⟩ := hz.map hx
      obtain ⟨t, y, z, rfl, e1, e2, e3⟩ := (hxr.kp0 k1).pair_inv
      cases e3.int_inv
      have hmem := List.mem_of_getElem? hr'
      have hi := (List.getElem?_eq_some_iff.mp hr').1
      refine r_gtup (SqT.of e1) rfl ?_
      walk_at "go"
      refine ⟨rfl, ?_⟩
      walk_at "go"
      refine ⟨y, d, r.1, tb, rfl, e2, hs.1 r hmem, ht.kp0 k1, fun H2 k2 => ?_⟩
      walk_at "go"
      refine ⟨_, k2.at0 hD, by simp only [List.length_map, List.length_take]; exact szLt (by omega), (k1.trans k2).own nD, nD, ?_⟩
      rw [upd_same, take_get hr', List.map_append, List.map_append]
      rfl
    · rintro D H1 ⟨k1, nD, hD⟩
      rw [hl, List.take_length] at hD
      walk_at "go"
      refine v_all (SqL.of hD) ?_
      rw [all_map]
      exact k _ k1
def spMClause : Sp := fun us H Q _ => ∃ (x : V) (d : Addr) (c : List (List Row)) (tb : Ad), us = [x, .ref d] ∧ Fz H x (clD c) ∧ SmC c ∧ TbAt H d tb ∧ ∀ H', Kp [] H H' → Q (.bl (metC c (val tb))) H'
theorem ok_meets_clause (D : DefAt K mg "meets_clause" s_meets_clause ["clause", "values"]) (T : Bt mg) (C_meets_rows : Cal P w K mg base 2 "meets_rows" ["rows", "values"] spMRows) : Cal P w K mg base 3 "meets_clause" ["clause", "values"] spMClause := by
  refine D.mk' sc_meets_clause (fun us H Q E h => ?_) (fun f cdv A outer s H us Q E hr h => ?_)
  · obtain ⟨x, d, as, tb, rfl, _⟩ := h
    rfl
  · obtain ⟨x, d, c, tb, rfl, hx, hs, ht, k⟩ := h
    obtain ⟨a, xs, rfl, ha, hz⟩ := hx.tup_inv
    have hl := hz.len
    rw [List.length_map] at hl
    have hn := hs.2
    refine ⟨_, (pss_one (ps_ret (pe_callB (c_any rfl) (by rfl) T.m_any bt_any (pa_cons (pe_lc (own := [("alternative", 2)]) (g := gName 2) (tt := tYes) rfl sc_meets_clause.nd (pi_tup (pv 0)) (blkOk_by (own := [("alternative", 2)]) (N := ["clause", "values", "alternative"]) (sc := defScope s_meets_clause) (by decide +kernel)) (fun _ _ _ _ _ => (pg_name (i := 2) sc_meets_clause.nd rfl (Or.inl rfl))) (fun _ _ _ _ _ => pts_nil) (fun _ _ _ _ _ => (p_cal C_meets_rows hr (pa_cons (pv 2) (pa_cons (pv 1) pa_nil))))) pa_nil)))), ?_⟩
    walk_at "go"
    refine lcT (SqT.of ha) (fun D i H' => Kp [] H H' ∧ H D = none ∧ H' D = some (.lst (((c.take i).map fun r => metA r (val tb)).map V.bl))) ?_ ?_ ?_ ?_
    · exact fun D nD => ⟨Kp.new nD, nD, upd_same⟩
    · rintro D i H' _ ⟨k1, _⟩
      exact SqT.of (k1.at0 ha)
    · rintro D i x H1 hx ⟨k1, nD, hD⟩
      obtain ⟨r, hr', hxr⟩ := hz.map hx
      have hmem := List.mem_of_getElem? hr'
      have hi := (List.getElem?_eq_some_iff.mp hr').1
      walk_at "go"
      refine ⟨rfl, ?_⟩
      walk_at "go"
      refine ⟨x, d, r, tb, rfl, hxr.kp0 k1, hs.1 r hmem, ht.kp0 k1, fun H2 k2 => ?_⟩
      refine ⟨_, k2.at0 hD, by simp only [List.length_map, List.length_take]; exact szLt (by omega), (k1.trans k2).own nD, nD, ?_⟩
      rw [upd_same, take_get hr', List.map_append, List.map_append]
      rfl
    · rintro D H1 ⟨k1, nD, hD⟩
      rw [hl, List.take_length] at hD
      walk_at "go"
      refine v_any (SqL.of hD) ?_
      rw [any_map]
      exact k _ k1
def SmCs (cs : List (List (List Row))) : Prop := (∀ c ∈ cs, SmC c) ∧ cs.length < 1000
def spMeets : Sp := fun us H Q _ => ∃ (x y z : V) (rs : List Row) (cs : List (List (List Row))) (ps : Ad), us = [x, y, z] ∧ Fz H x (rowsD rs) ∧ Fz H y (clsD cs) ∧ Fz H z (adD ps) ∧ SmR rs ∧ SmCs cs ∧ SmA ps ∧ ∀ H', Kp [] H H' → Q (.bl (metAll rs cs (val (mk ps)))) H'
theorem mk_len : ∀ (n : Nat) (ps : Ad), ps.length = n → (mk ps).length ≤ n := by
  intro n
  induction n with
  | zero => intro ps hl; rw [List.length_eq_zero_iff.mp hl]; exact Nat.le_refl _
  | succ n ih =>
    intro ps hl
    have hne : ps ≠ [] := fun z => by subst z; cases hl
    obtain ⟨r, p, rfl⟩ : ∃ r p, ps = r ++ [p] := ⟨ps.dropLast, ps.getLast hne, (List.dropLast_concat_getLast hne).symm⟩
    rw [List.length_append] at hl
    rw [mk_snoc]
    have := put_len (mk r) p.1 p.2
    have := ih r (by simpa using hl)
    omega
theorem mk_mem : ∀ (n : Nat) (ps : Ad), ps.length = n → ∀ p ∈ mk ps, p ∈ ps := by
  intro n
  induction n with
  | zero => intro ps hl p hp; rw [List.length_eq_zero_iff.mp hl] at hp; cases hp
  | succ n ih =>
    intro ps hl
    have hne : ps ≠ [] := fun z => by subst z; cases hl
    obtain ⟨r, p, rfl⟩ : ∃ r p, ps = r ++ [p] := ⟨ps.dropLast, ps.getLast hne, (List.dropLast_concat_getLast hne).symm⟩
    rw [List.length_append] at hl
    intro q hq
    rw [mk_snoc] at hq
    rcases put_mem hq with h | h
    · exact List.mem_append_left _ (ih r (by simpa using hl) q h)
    · rw [h]; simp
theorem ok_meets (D : DefAt K mg "meets" s_meets ["rows", "clauses", "model"]) (T : Bt mg) (C_meets_rows : Cal P w K mg base 2 "meets_rows" ["rows", "values"] spMRows) (C_meets_clause : Cal P w K mg base 3 "meets_clause" ["clause", "values"] spMClause) : Cal P w K mg base 4 "meets" ["rows", "clauses", "model"] spMeets := by
  refine D.mk' sc_meets (fun us H Q E h => ?_) (fun f cdv A outer s H us Q E hr h => ?_)
  · obtain ⟨x, y, z, rs, cs, ps, rfl, _⟩ := h
    rfl
  · obtain ⟨x, y, z, rs, cs, ps, rfl, hx, hy, hz, s1, s2, s3, k⟩ := h
    obtain ⟨a, xs, rfl, ha, hza⟩ := hz.tup_inv
    have hl := hza.len
    rw [List.length_map] at hl
    have hn := s3.2
    refine ⟨_, (pss_cons (ps_set (i := 3) sc_meets.nd rfl (Or.inr rfl) (pe_dc (own := [("unknown", 4), ("value", 5)]) (g := gTup K 2 (gCons (gName 4) (gCons (gName 5) (gNil)))) (tt := tYes) rfl sc_meets.nd (pi_tup (pv 2)) (blkOk_by (own := [("unknown", 4), ("value", 5)]) (N := ["rows", "clauses", "model", "values", "unknown", "value", "clause"]) (sc := defScope s_meets) (by decide +kernel)) (fun _ _ _ _ _ => (gtup_K (K := K) rfl rfl (pgs_cons (pg_name (i := 4) sc_meets.nd rfl (Or.inl rfl)) (pgs_cons (pg_name (i := 5) sc_meets.nd rfl (Or.inl rfl)) pgs_nil)))) (fun _ _ _ _ _ => pts_nil) (fun _ _ _ _ _ => (pv 4)) (fun _ _ _ _ _ => (pv 5))))
      (pss_one (ps_ret (pe_and (p_cal C_meets_rows hr (pa_cons (pv 0) (pa_cons (pv 3) pa_nil))) (pe_one (pe_callB (c_all rfl) (by rfl) T.m_all bt_all (pa_cons (pe_lc (own := [("clause", 6)]) (g := gName 6) (tt := tYes) rfl sc_meets.nd (pi_tup (pv 1)) (blkOk_by (own := [("clause", 6)]) (N := ["rows", "clauses", "model", "values", "unknown", "value", "clause"]) (sc := defScope s_meets) (by decide +kernel)) (fun _ _ _ _ _ => (pg_name (i := 6) sc_meets.nd rfl (Or.inl rfl))) (fun _ _ _ _ _ => pts_nil) (fun _ _ _ _ _ => (p_cal C_meets_clause hr (pa_cons (pv 6) (pa_cons (pv 3) pa_nil))))) pa_nil))))))), ?_⟩
    walk_at "go"
    refine dcT (SqT.of ha) (fun D i H' => Kp [] H H' ∧ H D = none ∧ H' D = some (.dK (tK (mk (ps.take i))))) ?_ ?_ ?_ ?_
    · exact fun D nD => ⟨Kp.new nD, nD, upd_same⟩
    · rintro D i H' _ ⟨k1, _⟩
      exact SqT.of (k1.at0 ha)
    · rintro D i x H1 hx ⟨k1, nD, hD⟩
      obtain ⟨p, hp, hxp⟩ := hza.map hx
      obtain ⟨t, y, z, rfl, e1, e2, e3⟩ := (hxp.kp0 k1).pair_inv
      cases e2.str_inv
      cases e3.int_inv
      refine r_gtup (SqT.of e1) rfl ?_
      walk_at "go"
      refine ⟨rfl, ?_⟩
      walk_at "go"
      have hi := (List.getElem?_eq_some_iff.mp hp).1
      have hm := mk_len _ (ps.take i) rfl
      rw [List.length_take] at hm
      refine ⟨_, Sum.inr p.1, rfl, hD, by unfold tK; rw [List.length_map]; exact szLt (by omega), k1.own nD, nD, ?_⟩
      rw [upd_same, putK_t, take_get hp, mk_snoc]
    · rintro D H1 ⟨k1, nD, hD⟩
      rw [hl, List.take_length] at hD
      have hT : TbAt H1 D (mk ps) := ⟨hD, fun p hp => s3.1 p (mk_mem _ ps rfl p hp)⟩
      walk_at "go"
      refine ⟨x, D, rs, mk ps, rfl, hx.kp0 k1, s1, hT, fun H2 k2 => ?_⟩
      have hT2 := hT.kp0 k2
      have k12 := k1.trans k2
      unfold metAll at k
      walk_at "go"
      refine ifb (fun e => ?_) (fun e => ?_)
      · rw [e] at k
        walk_at "go"
        obtain ⟨b, ys, rfl, hb, hzb⟩ := hy.tup_inv
        have hlb := hzb.len
        rw [List.length_map] at hlb
        have hnc := s2.2
        refine lcT (SqT.of (k12.at0 hb)) (fun D i H' => Kp [] H2 H' ∧ H2 D = none ∧ H' D = some (.lst (((cs.take i).map fun c => metC c (val (mk ps))).map V.bl))) ?_ ?_ ?_ ?_
        · exact fun D nD => ⟨Kp.new nD, nD, upd_same⟩
        · rintro D i H' _ ⟨k1, _⟩
          exact SqT.of (k1.at0 (k12.at0 hb))
        · rintro D2 i x H3 hx ⟨k3, nD2, hD2⟩
          obtain ⟨c, hc', hxc⟩ := hzb.map hx
          have hmem := List.mem_of_getElem? hc'
          have hi := (List.getElem?_eq_some_iff.mp hc').1
          walk_at "go"
          refine ⟨rfl, ?_⟩
          walk_at "go"
          refine ⟨x, D, c, mk ps, rfl, (hxc.kp0 k12).kp0 k3, s2.1 c hmem, hT2.kp0 k3, fun H4 k4 => ?_⟩
          refine ⟨_, k4.at0 hD2, by simp only [List.length_map, List.length_take]; exact szLt (by omega), (k3.trans k4).own nD2, nD2, ?_⟩
          rw [upd_same, take_get hc', List.map_append, List.map_append]
          rfl
        · rintro D2 H3 ⟨k3, nD2, hD2⟩
          rw [hlb, List.take_length] at hD2
          walk_at "go"
          refine v_all (SqL.of hD2) ?_
          rw [all_map]
          exact k _ (k12.trans k3)
      · rw [e] at k
        exact k _ k12
def spDenial : Sp := fun us H Q _ => ∃ (x : V) (r : Row), us = [x] ∧ Fz H x (rowD r) ∧ r.1.length < 1000 ∧ ∀ p H', Kp [] H H' → Fz H' p (rowD (neg r)) → Q p H'
theorem ok_denial (D : DefAt K mg "denial" s_denial ["row"]) (T : Bt mg) : Cal P w K mg base 1 "denial" ["row"] spDenial := by
  refine D.mk' sc_denial (fun us H Q E h => ?_) (fun f cdv A outer s H us Q E hr h => ?_)
  · obtain ⟨x, r, rfl, _⟩ := h
    rfl
  · obtain ⟨x, r, rfl, hx, hn, k⟩ := h
    obtain ⟨t, y, z, rfl, e1, e2, e3⟩ := hx.pair_inv
    cases e3.int_inv
    obtain ⟨a, xs, rfl, ha, hz⟩ := e2.tup_inv
    have hl := hz.len
    rw [List.length_map] at hl
    refine ⟨_, (pss_cons (ps_asg (pv 0) (pg_tup rfl (pgs_cons (pg_name (i := 1) sc_denial.nd rfl (Or.inl rfl)) (pgs_cons (pg_name (i := 2) sc_denial.nd rfl (Or.inl rfl)) pgs_nil))))
      (pss_one (ps_ret (pe_tup (pa_cons (pe_callTy c_tuple (by rfl) T.m_tuple bt_tuple (pa_cons (pe_lc (own := [("unknown", 3), ("coefficient", 4)]) (g := gTup K 2 (gCons (gName 3) (gCons (gName 4) (gNil)))) (tt := tYes) rfl sc_denial.nd (pi_tup (pv 1)) (blkOk_by (own := [("unknown", 3), ("coefficient", 4)]) (N := ["row", "addends", "bound", "unknown", "coefficient"]) (sc := defScope s_denial) (by decide +kernel)) (fun _ _ _ _ _ => (gtup_K (K := K) rfl rfl (pgs_cons (pg_name (i := 3) sc_denial.nd rfl (Or.inl rfl)) (pgs_cons (pg_name (i := 4) sc_denial.nd rfl (Or.inl rfl)) pgs_nil)))) (fun _ _ _ _ _ => pts_nil) (fun _ _ _ _ _ => (pe_tup (pa_cons (pv 3) (pa_cons (pe_un u_neg (pv 4)) pa_nil))))) pa_nil)) (pa_cons (pe_op o_sub (pe_un u_neg (pv 2)) pe_int) pa_nil)))))), ?_⟩
    walk_at "go"
    refine r_gtup (SqT.of e1) rfl ?_
    walk_at "go"
    refine lcT (SqT.of ha) (fun D i H' => Kp [] H H' ∧ H D = none ∧ ∃ ys, H' D = some (.lst ys) ∧ FzAll H' ys (((r.1.take i).map fun p => (p.1, -p.2)).map prD)) ?_ ?_ ?_ ?_
    · exact fun D nD => ⟨Kp.new nD, nD, [], upd_same, .nil⟩
    · rintro D i H' _ ⟨k1, _⟩
      exact SqT.of (k1.at0 ha)
    · rintro D i x H1 hx ⟨k1, nD, ys, hD, hys⟩
      obtain ⟨p, hp, hxp⟩ := hz.map hx
      obtain ⟨t, y, z, rfl, f1, f2, f3⟩ := (hxp.kp0 k1).pair_inv
      cases f2.str_inv
      cases f3.int_inv
      have hi := (List.getElem?_eq_some_iff.mp hp).1
      refine r_gtup (SqT.of f1) rfl ?_
      walk_at "go"
      refine ⟨rfl, ?_⟩
      walk_at "go"
      refine ⟨szOk (by simp), fun t nt => ?_⟩
      obtain ⟨g1, g2⟩ := hys.add nt hD (.cons (.str p.1) (.cons (.int (-p.2)) .nil))
      have hyl := hys.len
      simp only [List.length_map, List.length_take] at hyl
      refine ⟨_, g1, szLt (by omega), (k1.trans (Kp.new nt)).own nD, nD, _, upd_same, ?_⟩
      rw [take_get hp, List.map_append, List.map_append]
      exact g2
    · rintro D H1 ⟨k1, nD, ys, hD, hys⟩
      rw [hl, List.take_length] at hys
      walk_at "go"
      refine v_tupleL (SqL.of hD) (fun u nu => ?_)
      walk_at "go"
      refine ⟨szOk (by simp), fun q nq => ?_⟩
      have ku : Kp [] H1 (upd H1 u (.tup ys)) := Kp.new nu
      have kq : Kp [] (upd H1 u (.tup ys)) (upd (upd H1 u (.tup ys)) q (.tup [.ref u, .int (-r.2 - 1)])) := Kp.new nq
      refine k _ _ ((k1.trans ku).trans kq) ?_
      exact Fz.mk2 upd_same (.tup (kq.at0 upd_same) ((hys.kp0 ku).kp0 kq)) (.int _)
end
end K11

namespace K11
open PySem PySem.Spec L2 KV
local macro_rules | `(tactic| walk_at "side") => `(tactic| first | assumption | omega | decide)
local macro_rules | `(tactic| walk_at "at") => `(tactic| first | assumption | exact upd_same | (rw [upd_ne (by assumption)]; assumption))
local macro_rules | `(tactic| walk_at "st") => `(tactic| first
  | with_reducible refine r_seq ?_ | with_reducible refine r_asg ?_ | with_reducible refine r_ret ?_ | with_reducible refine r_ifS ?_ | with_reducible refine r_drop ?_
  | ((with_reducible refine r_var (v := ?v) ?e ?_); (case e => exact rfl))
  | with_reducible refine r_c ?_ | with_reducible refine r_op ?_ | with_reducible refine r_un ?_ | with_reducible refine r_name ?_ | with_reducible refine r_next ?_ | with_reducible refine r_brk ?_ | with_reducible refine r_cont ?_
  | with_reducible refine r_cb ?_ | with_reducible refine r_cons ?_ | with_reducible refine r_nil ?_ | with_reducible refine r_call ?_ | with_reducible refine r_test ?_ | with_reducible refine r_tru ?_ | with_reducible refine r_tB ?_
  | with_reducible refine r_exB ?_ | with_reducible refine r_truB ?_ | with_reducible refine r_truI ?_ | with_reducible refine r_and ?_ | with_reducible refine r_or ?_ | with_reducible refine r_not ?_ | with_reducible refine r_ifE ?_
  | with_reducible refine r_andV ?_ | with_reducible refine r_orV ?_ | with_reducible refine r_notV ?_ | with_reducible refine r_gsub ?_ | with_reducible refine r_tup ?_ | with_reducible refine r_lst ?_
  | with_reducible refine r_forL ?_ | with_reducible refine r_forT ?_ | with_reducible refine r_forR ?_ | with_reducible refine r_lcL ?_ | with_reducible refine r_lcT ?_ | with_reducible refine r_lcR ?_ | with_reducible refine r_yes ?_
  | with_reducible refine v_add ?_ | with_reducible refine v_sub ?_ | with_reducible refine v_lt ?_ | with_reducible refine v_le ?_ | with_reducible refine v_gt ?_ | with_reducible refine v_ge ?_ | with_reducible refine v_neg ?_
  | with_reducible refine v_eqI ?_ | with_reducible refine v_neI ?_ | with_reducible refine v_eqB ?_ | with_reducible refine v_int ?_ | with_reducible refine v_max ?_ | with_reducible refine v_min ?_ | with_reducible refine v_abs ?_
  | ((with_reducible refine v_mulL ?s ?_); (case s => walk_at "side"))
  | ((with_reducible refine v_mulR ?s ?_); (case s => walk_at "side"))
  | ((with_reducible refine v_mod ?s ?_); (case s => walk_at "side"))
  | ((with_reducible refine v_div ?s ?t ?_); (case s => walk_at "side"); (case t => walk_at "side"))
  | ((with_reducible refine v_powE (r := ?r) ?s ?e ?_); (case s => exact (by decide)); (case e => (conv => lhs; simp only [Int.reduceToNat, Int.reducePow])))
  | ((with_reducible refine v_ixL (xs := ?xs) (v := ?v) (SqL.of ?s) ?t ?_); (case s => walk_at "at"); (case t => exact rfl))
  | ((with_reducible refine v_ixT (xs := ?xs) (v := ?v) (SqT.of ?s) ?t ?_); (case s => walk_at "at"); (case t => exact rfl))
  | with_reducible refine r_dget2 ?_ | with_reducible refine r_dget ?_ | with_reducible refine r_dput ?_ | with_reducible refine r_dcT ?_ | with_reducible refine r_revL ?_ | with_reducible refine v_ltS ?_
  | ((with_reducible refine v_d2 (kvs := ?kvs) ?s ?_); (case s => walk_at "at")) | ((with_reducible refine v_dg2S (kvs := ?kvs) ?s ?_); (case s => walk_at "at"))
  | with_reducible refine r_gcons ?_ | with_reducible refine r_gnil ?_ | with_reducible refine r_slice ?_ | with_reducible refine r_noP ?_ | with_reducible refine r_part ?_ | with_reducible refine r_exI ?_ | with_reducible refine r_lstRg ?_ | with_reducible refine r_rg1 ?_ | with_reducible refine iteT ?_ | with_reducible refine iteF ?_ | with_reducible refine iteNF ?_ | with_reducible refine iteNT ?_
  | with_reducible refine r_bm ?_ | ((with_reducible refine r_bmL (xs := ?xs) ?s ?_); (case s => walk_at "at"))
  | ((with_reducible refine v_lenT (xs := ?xs) (SqT.of ?s) ?_); (case s => walk_at "at"))
  | ((with_reducible refine v_lenL (xs := ?xs) (SqL.of ?s) ?_); (case s => walk_at "at"))
  | ((with_reducible refine v_setL (xs := ?xs) (n := ?n) ?s ?t ?_); (case s => walk_at "at"); (case t => exact rfl)))
local macro_rules | `(tactic| walk_at "go") => `(tactic| repeat walk_at "st")

section
variable {P : Program} {w : World} {K : PySem.W.Frag} {mg : Str → Option Value} {base : Heap}
theorem pr_len (n : Str) (h : n.length ≤ 12) : (Str.ofString "abs ").length + n.length ≤ sizeLine := by
  have : (Str.ofString "abs ").length = 4 := by decide +kernel
  rw [this]
  exact szOk (by omega)
def spWeighted : Sp := fun us H Q _ => ∃ (x y : V) (b : Int) (rs : List Row) (ns : List Str), us = [x, y, .int b] ∧ Fz H x (rowsD rs) ∧ Fz H y (.tuple (ns.map .str)) ∧ rs.length < 1000 ∧ ns.length < 100 ∧ (∀ n ∈ ns, Nm n) ∧ ∀ p H', Kp [] H H' → Fz H' p (rowsD (wtd rs ns b)) → Q p H'
theorem fz_strs {H : Hp} {xs : List V} : ∀ {ns : List Str}, FzAll H xs (ns.map PyData.str) → xs = ns.map V.str := by
  intro ns
  induction ns generalizing xs with
  | nil => intro h; cases h; rfl
  | cons n ns ih =>
    intro h
    cases h with
    | cons h1 h2 =>
      rw [h1.str_inv, ih h2]
      rfl
theorem ok_weighted (D : DefAt K mg "weighted" s_weighted ["rows", "unknowns", "bound"]) (T : Bt mg) : Cal P w K mg base 1 "weighted" ["rows", "unknowns", "bound"] spWeighted := by
  refine D.mk' sc_weighted (fun us H Q E h => ?_) (fun f cdv A outer s H us Q E hr h => ?_)
  · obtain ⟨x, y, b, rs, ns, rfl, _⟩ := h
    rfl
  · obtain ⟨x, y, b, rs, ns, rfl, hx, hy, hn, hm, hN, k⟩ := h
    obtain ⟨tABS, hABS⟩ := T.m_ABS
    obtain ⟨a, xs, rfl, ha, hz⟩ := hx.tup_inv
    obtain ⟨a2, xs2, rfl, ha2, hz2⟩ := hy.tup_inv
    cases fz_strs hz2
    have hl := hz.len
    rw [List.length_map] at hl
    refine ⟨_, (pss_cons (ps_set (i := 3) sc_weighted.nd rfl (Or.inl rfl) (pe_callTy c_list (by rfl) T.m_list bt_list (pa_cons (pv 0) pa_nil)))
      (pss_cons (ps_for PassesOwn.never rfl (pi_tup (pv 1)) (pg_name (i := 4) sc_weighted.nd rfl (Or.inl rfl)) (pss_cons (ps_set (i := 5) sc_weighted.nd rfl (Or.inl rfl) (pe_op o_addS (pe_glob (v := .str "abs ") rfl hABS ⟨_, rfl⟩) (pv 4)))
      (pss_cons (ps_expr (pe_bm PySem.F.plainAttrs_list PySem.F.slot_list_append PySem.F.type_list_append mt_append (pv 3) (pa_cons (pe_tup (pa_cons (pe_callTy c_tuple (by rfl) T.m_tuple bt_tuple (pa_cons (pe_callB (c_sortR hr) (by rfl) T.m_sorted bt_sorted (pa_cons (pe_lst (pa_cons (pe_tup (pa_cons (pv 4) (pa_cons pe_int pa_nil))) (pa_cons (pe_tup (pa_cons (pv 5) (pa_cons (pe_un u_neg pe_int) pa_nil))) pa_nil))) pa_nil)) pa_nil)) (pa_cons pe_int pa_nil))) pa_nil)))
      (pss_one (ps_expr (pe_bm PySem.F.plainAttrs_list PySem.F.slot_list_append PySem.F.type_list_append mt_append (pv 3) (pa_cons (pe_tup (pa_cons (pe_callTy c_tuple (by rfl) T.m_tuple bt_tuple (pa_cons (pe_callB (c_sortR hr) (by rfl) T.m_sorted bt_sorted (pa_cons (pe_lst (pa_cons (pe_tup (pa_cons (pv 4) (pa_cons (pe_un u_neg pe_int) pa_nil))) (pa_cons (pe_tup (pa_cons (pv 5) (pa_cons (pe_un u_neg pe_int) pa_nil))) pa_nil))) pa_nil)) pa_nil)) (pa_cons pe_int pa_nil))) pa_nil)))))))
      (pss_cons (ps_expr (pe_bm PySem.F.plainAttrs_list PySem.F.slot_list_append PySem.F.type_list_append mt_append (pv 3) (pa_cons (pe_tup (pa_cons (pe_callTy c_tuple (by rfl) T.m_tuple bt_tuple (pa_cons (pe_callB (c_sortR hr) (by rfl) T.m_sorted bt_sorted (pa_cons (pe_lc (own := [("unknown", 4)]) (g := gName 4) (tt := tYes) rfl sc_weighted.nd (pi_tup (pv 1)) (blkOk_by (own := [("unknown", 4)]) (N := ["rows", "unknowns", "bound", "found", "unknown", "size"]) (sc := defScope s_weighted) (by decide +kernel)) (fun _ _ _ _ _ => (pg_name (i := 4) sc_weighted.nd rfl (Or.inl rfl))) (fun _ _ _ _ _ => pts_nil) (fun _ _ _ _ _ => (pe_tup (pa_cons (pe_op o_addS (pe_glob (v := .str "abs ") rfl hABS ⟨_, rfl⟩) (pv 4)) (pa_cons pe_int pa_nil))))) pa_nil)) pa_nil)) (pa_cons (pv 2) pa_nil))) pa_nil)))
      (pss_one (ps_ret (pe_callTy c_tuple (by rfl) T.m_tuple bt_tuple (pa_cons (pv 3) pa_nil))))))), ?_⟩
    walk_at "go"
    refine v_listT (SqT.of ha) (fun fo nf => ?_)
    have k0 : Kp [] H (upd H fo (.lst xs)) := Kp.new nf
    walk_at "go"
    refine lpT (SqT.of (k0.at0 ha2)) (fun i σ H' => ∃ (v4 v5 : Option V) (ys : List V), σ = [some (.ref a), some (.ref a2), some (.int b), some (.ref fo), v4, v5] ∧ Kp [] H H' ∧ H' fo = some (.lst ys) ∧
      FzAll H' ys ((rs ++ (ns.take i).flatMap (fun n => [(pr2 n 1 (absN n) (-1), 0), (pr2 n (-1) (absN n) (-1), 0)])).map rowD) ∧ ys.length ≤ 1000 + 2 * i) ?_ ?_ ?_ ?_
    · exact ⟨none, none, xs, rfl, k0, upd_same, by simpa using hz.kp0 k0, by omega⟩
    · rintro i σ H' _ ⟨_, _, _, _, k1, _⟩
      exact SqT.of (k1.at0 ha2)
    · rintro i x σ H1 hx ⟨v4, v5, ys, rfl, k1, hf, hys, hyl⟩
      obtain ⟨n, hn', rfl⟩ := str_get hx
      have hi := (List.getElem?_eq_some_iff.mp hn').1
      have hnm := hN n (List.mem_of_getElem? hn')
      have hne := hnm.ne_abs n
      walk_at "go"
      refine v_addS (pr_len n hnm.len) ?_
      change Str at n
      have two : ∀ (c : Int) (H1 : Hp) (ys : List V) (ds : List PyData) (D : Ends) (tc : TE), (∀ σ H Q, Q (.int c) H → tc σ H Q) → Kp [] H H1 → H1 fo = some (.lst ys) → FzAll H1 ys ds → ys.length < 2000 → (∀ H2 ys2, Kp [] H H2 → H2 fo = some (.lst ys2) → FzAll H2 ys2 (ds ++ [rowD (pr2 n c (absN n) (-1), 0)]) → ys2.length = ys.length + 1 → D.nx [some (.ref a), some (.ref a2), some (.int b), some (.ref fo), some (.str n), some (.str (absN n))] H2) →
          tDrop (tBM K "list" rAppend (tVar 3) (tCons (tTup (tCons (tCB (rTupleOf K) (tCons (tCB (rSortD K) (tCons (tLst (tCons (tTup (tCons (tVar 4) (tCons tc tNil))) (tCons (tTup (tCons (tVar 5) (tCons (tUn rNeg (tC (.int 1))) tNil))) tNil))) tNil)) tNil)) (tCons (tC (.int 0)) tNil))) tNil)) D
            [some (.ref a), some (.ref a2), some (.int b), some (.ref fo), some (.str n), some (.str (absN n))] H1 := by
        intro c H1 ys ds D tc htc k1 hf hys hyl kk
        walk_at "go"
        refine htc _ _ _ ?_
        walk_at "go"
        refine ⟨szOk (by simp), fun t1 n1 => ?_⟩
        generalize q1 : upd H1 t1 _ = H2
        obtain ⟨ka, ea⟩ := newQ n1 q1
        walk_at "go"
        refine ⟨szOk (by simp), fun t2 n2 => ?_⟩
        generalize q2 : upd H2 t2 _ = H3
        obtain ⟨kb, eb⟩ := newQ n2 q2
        walk_at "go"
        refine ⟨szOk (by simp), fun t3 n3 => ?_⟩
        generalize q3 : upd H3 t3 _ = H4
        obtain ⟨kc, ec⟩ := newQ n3 q3
        walk_at "go"
        have f1 : FzAll H4 [.ref t1, .ref t2] ([(n, c), (absN n, -1)].map prD) := .cons (Fz.mk2 (kc.at0 (kb.at0 ea)) (.str _) (.int _)) (.cons (Fz.mk2 (kc.at0 eb) (.str _) (.int _)) .nil)
        refine v_sortP ec f1 (fun t4 zs n4 hzs => ?_)
        rw [pr2_eq hne] at hzs
        generalize q4 : upd H4 t4 _ = H5
        obtain ⟨kd, ed⟩ := newQ n4 q4
        walk_at "go"
        refine v_tupleL (SqL.of ed) (fun t5 n5 => ?_)
        generalize q5 : upd H5 t5 _ = H6
        obtain ⟨ke, ee⟩ := newQ n5 q5
        walk_at "go"
        refine ⟨szOk (by simp), fun t6 n6 => ?_⟩
        have kall := (((ka.trans kb).trans kc).trans kd).trans ke
        obtain ⟨g1, g2⟩ := (hys.kp0 kall).add n6 (kall.at0 hf) (.cons (.tup ee ((hzs.kp0 kd).kp0 ke)) (.cons (.int 0) .nil))
        walk_at "go"
        refine v_append g1 (szLt (by omega)) ?_
        refine kk _ _ ((k1.trans (kall.trans (Kp.new n6))).own nf) upd_same g2 (by rw [List.length_append]; rfl)
      refine r_name ?_
      refine r_seq ?_
      refine two 1 H1 ys _ _ (tC (.int 1)) (fun _ _ _ q => q) k1 hf hys (by omega) (fun H2 ys2 k2 hf2 hys2 hl2 => ?_)
      refine two (-1) H2 ys2 _ _ (tUn rNeg (tC (.int 1))) (fun _ _ _ q => v_neg q) k2 hf2 hys2 (by omega) (fun H3 ys3 k3 hf3 hys3 hl3 => ?_)
      refine ⟨_, _, ys3, rfl, k3, hf3, ?_, by omega⟩
      rw [take_get hn', List.flatMap_append, ← List.append_assoc, List.map_append]
      have e : ([n].flatMap fun n => [(pr2 n 1 (absN n) (-1), (0 : Int)), (pr2 n (-1) (absN n) (-1), 0)]) = [(pr2 n 1 (absN n) (-1), 0), (pr2 n (-1) (absN n) (-1), 0)] := by simp
      rw [e]
      rw [List.append_assoc] at hys3
      exact hys3
    · rintro σ H1 ⟨v4, v5, ys, rfl, k1, hf, hys, hyl⟩
      rw [List.length_map, List.take_length] at hys
      rw [List.length_map] at hyl
      walk_at "go"
      refine lcT (SqT.of (k1.at0 ha2)) (fun D i H' => Kp [] H1 H' ∧ H1 D = none ∧ ∃ zs, H' D = some (.lst zs) ∧ FzAll H' zs (((ns.take i).map fun n => (absN n, (1 : Int))).map prD)) ?_ ?_ ?_ ?_
      · exact fun D nD => ⟨Kp.new nD, nD, [], upd_same, .nil⟩
      · rintro D i H' _ ⟨k2, _⟩
        exact SqT.of (k2.at0 (k1.at0 ha2))
      · rintro D i x H2 hx ⟨k2, nD, zs, hD, hzs⟩
        obtain ⟨n, hn', rfl⟩ := str_get hx
        have hi := (List.getElem?_eq_some_iff.mp hn').1
        have hnm := hN n (List.mem_of_getElem? hn')
        walk_at "go"
        refine ⟨rfl, ?_⟩
        walk_at "go"
        refine v_addS (pr_len n hnm.len) ?_
        walk_at "go"
        refine ⟨szOk (by simp), fun t nt => ?_⟩
        obtain ⟨g1, g2⟩ := hzs.add nt hD (.cons (.str (absN n)) (.cons (.int 1) .nil))
        have hzl := hzs.len
        simp only [List.length_map, List.length_take] at hzl
        refine ⟨_, g1, szLt (by omega), (k2.trans (Kp.new nt)).own nD, nD, _, upd_same, ?_⟩
        rw [take_get hn', List.map_append, List.map_append]
        exact g2
      · rintro D H2 ⟨k2, nD, zs, hD, hzs⟩
        rw [List.length_map, List.take_length] at hzs
        walk_at "go"
        refine v_sortP hD hzs (fun t4 zs n4 hzs => ?_)
        generalize q4 : upd H2 t4 _ = H5
        obtain ⟨kd, ed⟩ := newQ n4 q4
        walk_at "go"
        refine v_tupleL (SqL.of ed) (fun t5 n5 => ?_)
        generalize q5 : upd H5 t5 _ = H6
        obtain ⟨ke, ee⟩ := newQ n5 q5
        walk_at "go"
        refine ⟨szOk (by simp), fun t6 n6 => ?_⟩
        have kall := (k2.trans kd).trans ke
        have hlast : ((ns.map fun n => (absN n, (1 : Int))).mergeSort leP) = ((ns.map absN).mergeSort leS).map fun o => (o, 1) := by
          rw [← last_eq, List.map_map]
          rfl
        rw [hlast] at hzs
        obtain ⟨g1, g2⟩ := (hys.kp0 kall).add n6 (kall.at0 hf) (.cons (.tup ee ((hzs.kp0 kd).kp0 ke)) (.cons (.int b) .nil))
        walk_at "go"
        refine v_append g1 (szLt (by omega)) ?_
        generalize q7 : upd (upd H6 t6 _) fo _ = H7
        have h7 : Kp [] H H7 ∧ H7 fo = some (.lst (ys ++ [.ref t6])) := by
          rw [← q7]
          exact ⟨((k1.trans kall).trans (Kp.new n6)).own nf, upd_same⟩
        rw [q7] at g2
        walk_at "go"
        refine v_tupleL (SqL.of h7.2) (fun t8 n8 => ?_)
        refine k _ _ (h7.1.trans (Kp.new n8)) (.tup upd_same ?_)
        have e : (wtd rs ns b).map rowD = (rs ++ ns.flatMap (fun n => [(pr2 n 1 (absN n) (-1), (0 : Int)), (pr2 n (-1) (absN n) (-1), 0)])).map rowD ++ [.tuple [.tuple ((((ns.map absN).mergeSort leS).map fun o => (o, (1 : Int))).map prD), .int b]] := by
          unfold wtd
          rw [List.map_append]
          rfl
        rw [e]
        exact g2.kp0 (Kp.new n8)
end
end K11

namespace K11
open PySem PySem.Spec L2 KV
local macro_rules | `(tactic| walk_at "side") => `(tactic| first | assumption | omega | decide)
local macro_rules | `(tactic| walk_at "at") => `(tactic| first | assumption | exact upd_same | (rw [upd_ne (by assumption)]; assumption))
local macro_rules | `(tactic| walk_at "st") => `(tactic| first
  | with_reducible refine r_seq ?_ | with_reducible refine r_asg ?_ | with_reducible refine r_ret ?_ | with_reducible refine r_ifS ?_ | with_reducible refine r_drop ?_
  | ((with_reducible refine r_var (v := ?v) ?e ?_); (case e => exact rfl))
  | with_reducible refine r_c ?_ | with_reducible refine r_op ?_ | with_reducible refine r_un ?_ | with_reducible refine r_name ?_ | with_reducible refine r_next ?_ | with_reducible refine r_brk ?_ | with_reducible refine r_cont ?_
  | with_reducible refine r_cb ?_ | with_reducible refine r_cons ?_ | with_reducible refine r_nil ?_ | with_reducible refine r_call ?_ | with_reducible refine r_test ?_ | with_reducible refine r_tru ?_ | with_reducible refine r_tB ?_
  | with_reducible refine r_exB ?_ | with_reducible refine r_truB ?_ | with_reducible refine r_truI ?_ | with_reducible refine r_and ?_ | with_reducible refine r_or ?_ | with_reducible refine r_not ?_ | with_reducible refine r_ifE ?_
  | with_reducible refine r_andV ?_ | with_reducible refine r_orV ?_ | with_reducible refine r_notV ?_ | with_reducible refine r_gsub ?_ | with_reducible refine r_tup ?_ | with_reducible refine r_lst ?_
  | with_reducible refine r_forL ?_ | with_reducible refine r_forT ?_ | with_reducible refine r_forR ?_ | with_reducible refine r_lcL ?_ | with_reducible refine r_lcT ?_ | with_reducible refine r_lcR ?_ | with_reducible refine r_yes ?_
  | with_reducible refine v_add ?_ | with_reducible refine v_sub ?_ | with_reducible refine v_lt ?_ | with_reducible refine v_le ?_ | with_reducible refine v_gt ?_ | with_reducible refine v_ge ?_ | with_reducible refine v_neg ?_
  | with_reducible refine v_eqI ?_ | with_reducible refine v_neI ?_ | with_reducible refine v_eqB ?_ | with_reducible refine v_int ?_ | with_reducible refine v_max ?_ | with_reducible refine v_min ?_ | with_reducible refine v_abs ?_
  | ((with_reducible refine v_mulL ?s ?_); (case s => walk_at "side"))
  | ((with_reducible refine v_mulR ?s ?_); (case s => walk_at "side"))
  | ((with_reducible refine v_mod ?s ?_); (case s => walk_at "side"))
  | ((with_reducible refine v_div ?s ?t ?_); (case s => walk_at "side"); (case t => walk_at "side"))
  | ((with_reducible refine v_powE (r := ?r) ?s ?e ?_); (case s => exact (by decide)); (case e => (conv => lhs; simp only [Int.reduceToNat, Int.reducePow])))
  | ((with_reducible refine v_ixL (xs := ?xs) (v := ?v) (SqL.of ?s) ?t ?_); (case s => walk_at "at"); (case t => exact rfl))
  | ((with_reducible refine v_ixT (xs := ?xs) (v := ?v) (SqT.of ?s) ?t ?_); (case s => walk_at "at"); (case t => exact rfl))
  | with_reducible refine r_dget2 ?_ | with_reducible refine r_dget ?_ | with_reducible refine r_dput ?_ | with_reducible refine r_dcT ?_ | with_reducible refine r_revL ?_ | with_reducible refine v_ltS ?_
  | ((with_reducible refine v_d2 (kvs := ?kvs) ?s ?_); (case s => walk_at "at")) | ((with_reducible refine v_dg2S (kvs := ?kvs) ?s ?_); (case s => walk_at "at"))
  | with_reducible refine r_gcons ?_ | with_reducible refine r_gnil ?_ | with_reducible refine r_slice ?_ | with_reducible refine r_noP ?_ | with_reducible refine r_part ?_ | with_reducible refine r_exI ?_ | with_reducible refine r_lstRg ?_ | with_reducible refine r_rg1 ?_ | with_reducible refine iteT ?_ | with_reducible refine iteF ?_ | with_reducible refine iteNF ?_ | with_reducible refine iteNT ?_
  | with_reducible refine r_bm ?_ | ((with_reducible refine r_bmL (xs := ?xs) ?s ?_); (case s => walk_at "at"))
  | ((with_reducible refine v_lenT (xs := ?xs) (SqT.of ?s) ?_); (case s => walk_at "at"))
  | ((with_reducible refine v_lenL (xs := ?xs) (SqL.of ?s) ?_); (case s => walk_at "at"))
  | ((with_reducible refine v_setL (xs := ?xs) (n := ?n) ?s ?t ?_); (case s => walk_at "at"); (case t => exact rfl)))
local macro_rules | `(tactic| walk_at "go") => `(tactic| repeat walk_at "st")

section
variable {P : Program} {w : World} {K : PySem.W.Frag} {mg : Str → Option Value} {base : Heap}
theorem vs_snoc (as : Ad) (p : Str × Int) (f : Str → Int) : vs (as ++ [p]) f = vs as f + p.2 * f p.1 := by
  unfold vs
  rw [List.map_append, List.sum_append]
  simp
theorem shape_row {r : Row} (h : ∀ p ∈ r.1, PyData.strOk p.1 = true) : (rowD r).canLay0 = true ∧ (rowD r).depth ≤ 3 := by
  have h1 : ∀ d ∈ r.1.map prD, d.canLay0 = true ∧ d.depth ≤ 1 := by
    intro d hd
    obtain ⟨p, hp, rfl⟩ := List.mem_map.mp hd
    unfold prD
    constructor
    · simp [PyData.canLay0, PyData.canLayAll0, h p hp]
    · simp [PyData.depth, PyData.depthAll]
  unfold rowD adD
  constructor
  · simp only [PyData.canLay0, PyData.canLayAll0, Bool.and_true]
    exact layAll fun d hd => (h1 d hd).1
  · have := depthAll_le (n := 1) fun d hd => (h1 d hd).2
    simp only [PyData.depth, PyData.depthAll]
    omega
theorem shaped_of {d : PyData} (h1 : d.canLay0 = true) (h2 : d.depth ≤ 64) : SeqAt.shaped d = true := by
  unfold SeqAt.shaped
  rw [h1, decide_eq_true h2]; rfl
/-- equal rows are not unlike -/
theorem v_neFz {H : Hp} {Q : VK} {x y : V} {d : PyData} (hx : Fz H x d) (hy : Fz H y d) (hs : SeqAt.shaped d = true) (h : Q (.bl false) H) : rNeU K x y H Q := by
  refine v_neD (hx.dp) (hy.dp) hs hs ?_
  rw [eqv_self hs]
  exact h
def spInteger : Sp := fun us H Q _ => ∃ (i : Int), us = [.int i] ∧ Q (.bl true) H
theorem ok_integer (D : DefAt K mg "_law_integer" s_integer ["thing"]) (T : Bt mg) : Cal P w K mg base 1 "_law_integer" ["thing"] spInteger := by
  refine D.mk' sc_integer (fun us H Q E h => ?_) (fun f cdv A outer s H us Q E hr h => ?_)
  · obtain ⟨i, rfl, _⟩ := h
    rfl
  · obtain ⟨i, rfl, k⟩ := h
    refine ⟨_, (pss_one (ps_ret (pe_and (pe_callB c_isi (by rfl) T.m_isinstance bt_isinstance (pa_cons (pv 0) (pa_cons (pe_bltn (v := .ty "int") (by rfl) T.m_int bt_int rfl) pa_nil))) (pe_one (pe_not (pe_callB c_isi (by rfl) T.m_isinstance bt_isinstance (pa_cons (pv 0) (pa_cons (pe_bltn (v := .ty "bool") (by rfl) T.m_bool bt_bool rfl) pa_nil)))))))), ?_⟩
    walk_at "go"
    refine v_isi (.base (.int i)) (kit_ty (r := true) (by decide +kernel)) ?_
    walk_at "go"
    refine v_isi (.base (.int i)) (kit_ty (r := false) (by decide +kernel)) ?_
    walk_at "go"
    exact k
def spValue : Sp := fun us H Q _ => ∃ (x : V) (d : Addr) (r : Row) (tb : Ad), us = [x, .ref d] ∧ Fz H x (rowD r) ∧ SmA r.1 ∧ TbAt H d tb ∧ Q (.int (vs r.1 (val tb))) H
theorem ok_value (D : DefAt K mg "_law_value" s_value ["row", "table"]) : Cal P w K mg base 1 "_law_value" ["row", "table"] spValue := by
  refine D.mk' sc_value (fun us H Q E h => ?_) (fun f cdv A outer s H us Q E hr h => ?_)
  · obtain ⟨x, d, as, tb, rfl, _⟩ := h
    rfl
  · obtain ⟨x, d, r, tb, rfl, hx, hs, ht, k⟩ := h
    obtain ⟨t, y, z, rfl, e1, e2, e3⟩ := hx.pair_inv
    obtain ⟨a, xs, rfl, ha, hz⟩ := e2.tup_inv
    have hl := hz.len
    rw [List.length_map] at hl
    have hd := ht.1
    refine ⟨_, (pss_cons (ps_set (i := 2) sc_value.nd rfl (Or.inl rfl) pe_int)
      (pss_cons (ps_for PassesOwn.never rfl (pi_tup (pe_ix ix_tup (pv 0) pe_int (fun _ _ => rfl))) (pg_tup rfl (pgs_cons (pg_name (i := 3) sc_value.nd rfl (Or.inl rfl)) (pgs_cons (pg_name (i := 4) sc_value.nd rfl (Or.inl rfl)) pgs_nil))) (pss_one (ps_set (i := 2) sc_value.nd rfl (Or.inl rfl) (pe_op o_add (pv 2) (pe_op o_mul (pv 4) (pe_dget2 (hu_of hr) (pv 1) (pv 3) pe_int ⟨rfl, rfl, rfl, rfl⟩))))))
      (pss_one (ps_ret (pv 2))))), ?_⟩
    walk_at "go"
    refine lpT (SqT.of ha) (fun i σ H' => H' = H ∧ ∃ v3 v4, σ = [some (.ref t), some (.ref d), some (.int (vs (r.1.take i) (val tb))), v3, v4]) ?_ ?_ ?_ ?_
    · exact ⟨rfl, none, none, rfl⟩
    · rintro i σ H' _ ⟨rfl, _⟩
      exact SqT.of ha
    · rintro i x σ H' hxi ⟨rfl, v3, v4, rfl⟩
      obtain ⟨p, hp, hxp⟩ := hz.map hxi
      obtain ⟨t, y, z, rfl, f1, f2, f3⟩ := hxp.pair_inv
      cases f2.str_inv
      cases f3.int_inv
      refine r_gtup (SqT.of f1) rfl ?_
      walk_at "go"
      rw [getD_t]
      refine v_mulW (mulW (hs.1 p (List.mem_of_getElem? hp)) (sm_val ht.2 p.1)) ?_
      walk_at "go"
      refine ⟨rfl, some (.str p.1), some (.int p.2), ?_⟩
      rw [take_get hp, vs_snoc]
      rfl
    · rintro σ H' ⟨rfl, v3, v4, rfl⟩
      rw [hl, List.take_length]
      walk_at "go"
      exact k
def spMet : Sp := fun us H Q _ => ∃ (x : V) (d : Addr) (r : Row) (tb : Ad), us = [x, .ref d] ∧ Fz H x (rowD r) ∧ SmA r.1 ∧ TbAt H d tb ∧ Q (.bl (met r (val tb))) H
theorem ok_met (D : DefAt K mg "_law_met" s_met ["row", "table"]) (C_value : Cal P w K mg base 1 "_law_value" ["row", "table"] spValue) : Cal P w K mg base 2 "_law_met" ["row", "table"] spMet := by
  refine D.mk' sc_met (fun us H Q E h => ?_) (fun f cdv A outer s H us Q E hr h => ?_)
  · obtain ⟨x, d, as, tb, rfl, _⟩ := h
    rfl
  · obtain ⟨x, d, r, tb, rfl, hx, hs, ht, k⟩ := h
    obtain ⟨t, y, z, rfl, e1, e2, e3⟩ := id hx.pair_inv
    cases e3.int_inv
    refine ⟨_, (pss_one (ps_ret (pe_cmpR o_le (p_cal C_value hr (pa_cons (pv 0) (pa_cons (pv 1) pa_nil))) (pe_ix ix_tup (pv 0) pe_int (fun _ _ => rfl)) (nomark _)))), ?_⟩
    walk_at "go"
    refine ⟨.ref t, d, r, tb, rfl, hx, hs, ht, ?_⟩
    walk_at "go"
    exact k
def spAllMet : Sp := fun us H Q _ => ∃ (x y : V) (d : Addr) (rs : List Row) (cs : List (List (List Row))) (tb : Ad), us = [x, y, .ref d] ∧ Fz H x (rowsD rs) ∧ Fz H y (clsD cs) ∧ SmR rs ∧ SmCs cs ∧ TbAt H d tb ∧ ∀ H', Kp [] H H' → Q (.bl (metAll rs cs (val tb))) H'
theorem all_snoc {α : Type} (l : List α) (x : α) (f : α → Bool) : (l ++ [x]).all f = (l.all f && f x) := by rw [List.all_append]; simp
theorem any_snoc {α : Type} (l : List α) (x : α) (f : α → Bool) : (l ++ [x]).any f = (l.any f || f x) := by rw [List.any_append]; simp
theorem all_false {α : Type} {l : List α} {x : α} {f : α → Bool} (h : x ∈ l) (e : f x = false) : l.all f = false := by
  cases q : l.all f with
  | false => rfl
  | true => rw [List.all_eq_true.mp q x h] at e; cases e
theorem ok_all_met (D : DefAt K mg "_law_all_met" s_all_met ["rows", "clauses", "table"]) (T : Bt mg) (C_met : Cal P w K mg base 2 "_law_met" ["row", "table"] spMet) : Cal P w K mg base 3 "_law_all_met" ["rows", "clauses", "table"] spAllMet := by
  refine D.mk' sc_all_met (fun us H Q E h => ?_) (fun f cdv A outer s H us Q E hr h => ?_)
  · obtain ⟨x, y, d, rs, cs, tb, rfl, _⟩ := h
    rfl
  · obtain ⟨x, y, d, rs, cs, tb, rfl, hx, hy, s1, s2, ht, k⟩ := h
    obtain ⟨a, xs, rfl, ha, hz⟩ := hx.tup_inv
    obtain ⟨b, ys, rfl, hb, hzb⟩ := hy.tup_inv
    have hl := hz.len
    have hlb := hzb.len
    rw [List.length_map] at hl hlb
    have hnc := s2.2
    refine ⟨_, (pss_cons (ps_for PassesOwn.never rfl (pi_tup (pv 0)) (pg_name (i := 3) sc_all_met.nd rfl (Or.inl rfl)) (pss_one (ps_if (pt_not (p_tru (p_cal C_met hr (pa_cons (pv 3) (pa_cons (pv 2) pa_nil))) (by intro _; rfl))) (pss_one (ps_ret pe_bl)) pss_nil)))
      (pss_cons (ps_for PassesOwn.never rfl (pi_tup (pv 1)) (pg_name (i := 4) sc_all_met.nd rfl (Or.inl rfl)) (pss_cons (ps_set (i := 5) sc_all_met.nd rfl (Or.inl rfl) pe_bl)
      (pss_cons (ps_for PassesOwn.never rfl (pi_tup (pv 4)) (pg_name (i := 6) sc_all_met.nd rfl (Or.inl rfl)) (pss_one (ps_if (p_tru (pe_callB (c_all rfl) (by rfl) T.m_all bt_all (pa_cons (pe_lc (own := [("row", 3)]) (g := gName 3) (tt := tYes) rfl sc_all_met.nd (pi_tup (pv 6)) (blkOk_by (own := [("row", 3)]) (N := ["rows", "clauses", "table", "row", "clause", "found", "alternative"]) (sc := defScope s_all_met) (by decide +kernel)) (fun _ _ _ _ _ => (pg_name (i := 3) sc_all_met.nd rfl (Or.inl rfl))) (fun _ _ _ _ _ => pts_nil) (fun _ _ _ _ _ => (p_cal C_met hr (pa_cons (pv 3) (pa_cons (pv 2) pa_nil))))) pa_nil)) (by intro _; rfl)) (pss_one (ps_set (i := 5) sc_all_met.nd rfl (Or.inl rfl) pe_bl)) pss_nil)))
      (pss_one (ps_if (pt_not (p_tru (pv 5) (by intro _; rfl))) (pss_one (ps_ret pe_bl)) pss_nil)))))
      (pss_one (ps_ret pe_bl)))), ?_⟩
    walk_at "go"
    refine lpT (SqT.of ha) (fun i σ H' => H' = H ∧ metA (rs.take i) (val tb) = true ∧ ∃ v3, σ = [some (.ref a), some (.ref b), some (.ref d), v3, none, none, none]) ?_ ?_ ?_ ?_
    · exact ⟨rfl, rfl, none, rfl⟩
    · rintro i σ H' _ ⟨rfl, _⟩
      exact SqT.of ha
    · rintro i x σ H' hxi ⟨rfl, hm, v3, rfl⟩
      obtain ⟨r, hr', hxr⟩ := hz.map hxi
      have hmem := List.mem_of_getElem? hr'
      walk_at "go"
      refine ⟨x, d, r, tb, rfl, hxr, s1.1 r hmem, ht, ?_⟩
      walk_at "go"
      refine ifb (fun e => ?_) (fun e => ?_)
      · have e' : met r (val tb) = false := by simpa using e
        have : metAll rs cs (val tb) = false := by
          unfold metAll metA
          rw [all_false (f := fun r => met r (val tb)) hmem e']; rfl
        rw [this] at k
        walk_at "go"
        exact k _ (Kp.refl _ _)
      · have e' : met r (val tb) = true := by simpa using e
        walk_at "go"
        refine ⟨rfl, ?_, _, rfl⟩
        unfold metA at hm ⊢
        rw [take_get hr', all_snoc, hm, e']; rfl
    · rintro σ H' ⟨rfl, hm, v3, rfl⟩
      rw [hl, List.take_length] at hm
      unfold metAll at k
      rw [hm, Bool.true_and] at k
      walk_at "go"
      refine lpT (SqT.of hb) (fun i σ H2 => Kp [] H' H2 ∧ ((cs.take i).all fun c => metC c (val tb)) = true ∧ ∃ v3 v4 v5 v6, σ = [some (.ref a), some (.ref b), some (.ref d), v3, v4, v5, v6]) ?_ ?_ ?_ ?_
      · exact ⟨Kp.refl _ _, rfl, _, _, _, _, rfl⟩
      · rintro i σ H2 _ ⟨k1, _⟩
        exact SqT.of (k1.at0 hb)
      · rintro i x σ H2 hx ⟨k2, hm2, v3, v4, v5, v6, rfl⟩
        obtain ⟨c, hc, hxc⟩ := hzb.map hx
        have hmem := List.mem_of_getElem? hc
        have hsc := s2.1 c hmem
        obtain ⟨u, zs, rfl, hu, hzu⟩ := (hxc.kp0 k2).tup_inv
        have hlu := hzu.len
        rw [List.length_map] at hlu
        walk_at "go"
        refine lpT (SqT.of hu) (fun i σ H3 => Kp [] H2 H3 ∧ ∃ v6, σ = [some (.ref a), some (.ref b), some (.ref d), v3, some (.ref u), some (.bl ((c.take i).any fun a => metA a (val tb))), v6]) ?_ ?_ ?_ ?_
        · exact ⟨Kp.refl _ _, v6, rfl⟩
        · rintro i σ H3 _ ⟨k1, _⟩
          exact SqT.of (k1.at0 hu)
        · rintro j x σ H3 hx ⟨k3, v6, rfl⟩
          obtain ⟨al, hal, hxa⟩ := hzu.map hx
          have hmema := List.mem_of_getElem? hal
          have hsa := hsc.1 al hmema
          obtain ⟨u2, zs2, rfl, hu2, hzu2⟩ := (hxa.kp0 k3).tup_inv
          have hlu2 := hzu2.len
          rw [List.length_map] at hlu2
          have hna := hsa.2
          have ht3 := (ht.kp0 k2).kp0 k3
          walk_at "go"
          refine lcT (SqT.of hu2) (fun D i H' => Kp [] H3 H' ∧ H3 D = none ∧ H' D = some (.lst (((al.take i).map fun r => met r (val tb)).map V.bl))) ?_ ?_ ?_ ?_
          · exact fun D nD => ⟨Kp.new nD, nD, upd_same⟩
          · rintro D i H' _ ⟨k1, _⟩
            exact SqT.of (k1.at0 hu2)
          · rintro D i x H4 hx ⟨k4, nD, hD⟩
            obtain ⟨r, hr', hxr⟩ := hzu2.map hx
            have hi := (List.getElem?_eq_some_iff.mp hr').1
            walk_at "go"
            refine ⟨rfl, ?_⟩
            walk_at "go"
            refine ⟨x, d, r, tb, rfl, hxr.kp0 k4, hsa.1 r (List.mem_of_getElem? hr'), ht3.kp0 k4, ?_⟩
            refine ⟨_, hD, by simp only [List.length_map, List.length_take]; exact szLt (by omega), k4.own nD, nD, ?_⟩
            rw [upd_same, take_get hr', List.map_append, List.map_append]
            rfl
          · rintro D H4 ⟨k4, nD, hD⟩
            rw [hlu2, List.take_length] at hD
            walk_at "go"
            refine v_all (SqL.of hD) ?_
            rw [all_map]
            walk_at "go"
            have e : ((c.take (j + 1)).any fun a => metA a (val tb)) = (((c.take j).any fun a => metA a (val tb)) || metA al (val tb)) := by rw [take_get hal, any_snoc]
            refine ifb (fun e1 => ?_) (fun e1 => ?_)
            · walk_at "go"
              refine ⟨k3.trans k4, some (.ref u2), ?_⟩
              have e1' : metA al (val tb) = true := e1
              rw [e, e1', Bool.or_true]
              rfl
            · walk_at "go"
              refine ⟨k3.trans k4, some (.ref u2), ?_⟩
              have e1' : metA al (val tb) = false := e1
              rw [e, e1', Bool.or_false]
              rfl
        · rintro σ H3 ⟨k3, v6, rfl⟩
          rw [hlu, List.take_length]
          walk_at "go"
          refine ifb (fun e => ?_) (fun e => ?_)
          · have e' : metC c (val tb) = false := by unfold metC; simpa using e
            rw [all_false (f := fun c => metC c (val tb)) hmem e'] at k
            walk_at "go"
            exact k _ (k2.trans k3)
          · have e' : metC c (val tb) = true := by unfold metC; simpa using e
            walk_at "go"
            refine ⟨k2.trans k3, ?_, _, _, _, _, rfl⟩
            rw [take_get hc, all_snoc, hm2, e']; rfl
      · rintro σ H2 ⟨k2, hm2, v3, v4, v5, v6, rfl⟩
        rw [hlb, List.take_length] at hm2
        rw [hm2] at k
        walk_at "go"
        exact k _ k2
def spDenied : Sp := fun us H Q _ => ∃ (x : V) (r : Row), us = [x] ∧ Fz H x (rowD r) ∧ r.1.length < 1000 ∧ ∀ p H', Kp [] H H' → Fz H' p (rowD (neg r)) → Q p H'
theorem ok_denied (D : DefAt K mg "_law_denied" s_denied ["row"]) (T : Bt mg) : Cal P w K mg base 1 "_law_denied" ["row"] spDenied := by
  refine D.mk' sc_denied (fun us H Q E h => ?_) (fun f cdv A outer s H us Q E hr h => ?_)
  · obtain ⟨x, r, rfl, _⟩ := h
    rfl
  · obtain ⟨x, r, rfl, hx, hn, k⟩ := h
    obtain ⟨t, y, z, rfl, e1, e2, e3⟩ := hx.pair_inv
    cases e3.int_inv
    obtain ⟨a, xs, rfl, ha, hz⟩ := e2.tup_inv
    have hl := hz.len
    rw [List.length_map] at hl
    refine ⟨_, (pss_one (ps_ret (pe_tup (pa_cons (pe_callTy c_tuple (by rfl) T.m_tuple bt_tuple (pa_cons (pe_lc (own := [("name", 1), ("times", 2)]) (g := gTup K 2 (gCons (gName 1) (gCons (gName 2) (gNil)))) (tt := tYes) rfl sc_denied.nd (pi_tup (pe_ix ix_tup (pv 0) pe_int (fun _ _ => rfl))) (blkOk_by (own := [("name", 1), ("times", 2)]) (N := ["row", "name", "times"]) (sc := defScope s_denied) (by decide +kernel)) (fun _ _ _ _ _ => (gtup_K (K := K) rfl rfl (pgs_cons (pg_name (i := 1) sc_denied.nd rfl (Or.inl rfl)) (pgs_cons (pg_name (i := 2) sc_denied.nd rfl (Or.inl rfl)) pgs_nil)))) (fun _ _ _ _ _ => pts_nil) (fun _ _ _ _ _ => (pe_tup (pa_cons (pv 1) (pa_cons (pe_un u_neg (pv 2)) pa_nil))))) pa_nil)) (pa_cons (pe_op o_sub (pe_un u_neg (pe_ix ix_tup (pv 0) pe_int (fun _ _ => rfl))) pe_int) pa_nil))))), ?_⟩
    walk_at "go"
    refine lcT (SqT.of ha) (fun D i H' => Kp [] H H' ∧ H D = none ∧ ∃ ys, H' D = some (.lst ys) ∧ FzAll H' ys (((r.1.take i).map fun p => (p.1, -p.2)).map prD)) ?_ ?_ ?_ ?_
    · exact fun D nD => ⟨Kp.new nD, nD, [], upd_same, .nil⟩
    · rintro D i H' _ ⟨k1, _⟩
      exact SqT.of (k1.at0 ha)
    · rintro D i x H1 hx ⟨k1, nD, ys, hD, hys⟩
      obtain ⟨p, hp, hxp⟩ := hz.map hx
      obtain ⟨t, y, z, rfl, f1, f2, f3⟩ := (hxp.kp0 k1).pair_inv
      cases f2.str_inv
      cases f3.int_inv
      have hi := (List.getElem?_eq_some_iff.mp hp).1
      refine r_gtup (SqT.of f1) rfl ?_
      walk_at "go"
      refine ⟨rfl, ?_⟩
      walk_at "go"
      refine ⟨szOk (by simp), fun t nt => ?_⟩
      obtain ⟨g1, g2⟩ := hys.add nt hD (.cons (.str p.1) (.cons (.int (-p.2)) .nil))
      have hyl := hys.len
      simp only [List.length_map, List.length_take] at hyl
      refine ⟨_, g1, szLt (by omega), (k1.trans (Kp.new nt)).own nD, nD, _, upd_same, ?_⟩
      rw [take_get hp, List.map_append, List.map_append]
      exact g2
    · rintro D H1 ⟨k1, nD, ys, hD, hys⟩
      rw [hl, List.take_length] at hys
      have e1' := k1.at0 e1
      walk_at "go"
      refine v_tupleL (SqL.of hD) (fun u nu => ?_)
      generalize q1 : upd H1 u _ = H2
      obtain ⟨ku, eu⟩ := newQ nu q1
      have e2' := ku.at0 e1'
      walk_at "go"
      refine ⟨szOk (by simp), fun q nq => ?_⟩
      refine k _ _ ((k1.trans ku).trans (Kp.new nq)) ?_
      exact Fz.mk2 upd_same (.tup ((Kp.new (M := []) nq).at0 eu) ((hys.kp0 ku).kp0 (Kp.new nq))) (.int _)
end
end K11

namespace K11
open PySem PySem.Spec L2 KV
local macro_rules | `(tactic| walk_at "side") => `(tactic| first | assumption | omega | decide)
local macro_rules | `(tactic| walk_at "at") => `(tactic| first | assumption | exact upd_same | (rw [upd_ne (by assumption)]; assumption))
local macro_rules | `(tactic| walk_at "st") => `(tactic| first
  | with_reducible refine r_seq ?_ | with_reducible refine r_asg ?_ | with_reducible refine r_ret ?_ | with_reducible refine r_ifS ?_ | with_reducible refine r_drop ?_
  | ((with_reducible refine r_var (v := ?v) ?e ?_); (case e => exact rfl))
  | with_reducible refine r_c ?_ | with_reducible refine r_op ?_ | with_reducible refine r_un ?_ | with_reducible refine r_name ?_ | with_reducible refine r_next ?_ | with_reducible refine r_brk ?_ | with_reducible refine r_cont ?_
  | with_reducible refine r_cb ?_ | with_reducible refine r_cons ?_ | with_reducible refine r_nil ?_ | with_reducible refine r_call ?_ | with_reducible refine r_test ?_ | with_reducible refine r_tru ?_ | with_reducible refine r_tB ?_
  | with_reducible refine r_exB ?_ | with_reducible refine r_truB ?_ | with_reducible refine r_truI ?_ | with_reducible refine r_and ?_ | with_reducible refine r_or ?_ | with_reducible refine r_not ?_ | with_reducible refine r_ifE ?_
  | with_reducible refine r_andV ?_ | with_reducible refine r_orV ?_ | with_reducible refine r_notV ?_ | with_reducible refine r_gsub ?_ | with_reducible refine r_tup ?_ | with_reducible refine r_lst ?_
  | with_reducible refine r_forL ?_ | with_reducible refine r_forT ?_ | with_reducible refine r_forR ?_ | with_reducible refine r_lcL ?_ | with_reducible refine r_lcT ?_ | with_reducible refine r_lcR ?_ | with_reducible refine r_yes ?_
  | with_reducible refine v_add ?_ | with_reducible refine v_sub ?_ | with_reducible refine v_lt ?_ | with_reducible refine v_le ?_ | with_reducible refine v_gt ?_ | with_reducible refine v_ge ?_ | with_reducible refine v_neg ?_
  | with_reducible refine v_eqI ?_ | with_reducible refine v_neI ?_ | with_reducible refine v_eqB ?_ | with_reducible refine v_int ?_ | with_reducible refine v_max ?_ | with_reducible refine v_min ?_ | with_reducible refine v_abs ?_
  | ((with_reducible refine v_mulL ?s ?_); (case s => walk_at "side"))
  | ((with_reducible refine v_mulR ?s ?_); (case s => walk_at "side"))
  | ((with_reducible refine v_mod ?s ?_); (case s => walk_at "side"))
  | ((with_reducible refine v_div ?s ?t ?_); (case s => walk_at "side"); (case t => walk_at "side"))
  | ((with_reducible refine v_powE (r := ?r) ?s ?e ?_); (case s => exact (by decide)); (case e => (conv => lhs; simp only [Int.reduceToNat, Int.reducePow])))
  | ((with_reducible refine v_ixL (xs := ?xs) (v := ?v) (SqL.of ?s) ?t ?_); (case s => walk_at "at"); (case t => exact rfl))
  | ((with_reducible refine v_ixT (xs := ?xs) (v := ?v) (SqT.of ?s) ?t ?_); (case s => walk_at "at"); (case t => exact rfl))
  | with_reducible refine r_dget2 ?_ | with_reducible refine r_dget ?_ | with_reducible refine r_dput ?_ | with_reducible refine r_dcT ?_ | with_reducible refine r_revL ?_ | with_reducible refine v_ltS ?_
  | ((with_reducible refine v_d2 (kvs := ?kvs) ?s ?_); (case s => walk_at "at")) | ((with_reducible refine v_dg2S (kvs := ?kvs) ?s ?_); (case s => walk_at "at"))
  | with_reducible refine r_gcons ?_ | with_reducible refine r_gnil ?_ | with_reducible refine r_slice ?_ | with_reducible refine r_noP ?_ | with_reducible refine r_part ?_ | with_reducible refine r_exI ?_ | with_reducible refine r_lstRg ?_ | with_reducible refine r_rg1 ?_ | with_reducible refine iteT ?_ | with_reducible refine iteF ?_ | with_reducible refine iteNF ?_ | with_reducible refine iteNT ?_
  | with_reducible refine r_bm ?_ | ((with_reducible refine r_bmL (xs := ?xs) ?s ?_); (case s => walk_at "at"))
  | ((with_reducible refine v_lenT (xs := ?xs) (SqT.of ?s) ?_); (case s => walk_at "at"))
  | ((with_reducible refine v_lenL (xs := ?xs) (SqL.of ?s) ?_); (case s => walk_at "at"))
  | ((with_reducible refine v_setL (xs := ?xs) (n := ?n) ?s ?t ?_); (case s => walk_at "at"); (case t => exact rfl)))
local macro_rules | `(tactic| walk_at "go") => `(tactic| repeat walk_at "st")

section
variable {P : Program} {w : World} {K : PySem.W.Frag} {mg : Str → Option Value} {base : Heap}
def spPair : Sp := fun us H Q _ => ∃ (n o : Str) (c d : Int), us = [.str n, .int c, .str o, .int d] ∧ ∀ p H', Kp [] H H' → Fz H' p (adD (pr2 n c o d)) → Q p H'
theorem ok_pair (D : DefAt K mg "_law_pair" s_pair ["name", "times", "other", "more"]) : Cal P w K mg base 1 "_law_pair" ["name", "times", "other", "more"] spPair := by
  refine D.mk' sc_pair (fun us H Q E h => ?_) (fun f cdv A outer s H us Q E hr h => ?_)
  · obtain ⟨n, o, c, d, rfl, _⟩ := h
    rfl
  · obtain ⟨n, o, c, d, rfl, k⟩ := h
    refine ⟨_, (pss_cons (ps_if (pt_cmpR o_ltS (pv 0) (pv 2) (nomark _)) (pss_one (ps_ret (pe_tup (pa_cons (pe_tup (pa_cons (pv 0) (pa_cons (pv 1) pa_nil))) (pa_cons (pe_tup (pa_cons (pv 2) (pa_cons (pv 3) pa_nil))) pa_nil))))) pss_nil)
      (pss_one (ps_ret (pe_tup (pa_cons (pe_tup (pa_cons (pv 2) (pa_cons (pv 3) pa_nil))) (pa_cons (pe_tup (pa_cons (pv 0) (pa_cons (pv 1) pa_nil))) pa_nil)))))), ?_⟩
    walk_at "go"
    refine ifd (fun e => ?_) (fun e => ?_)
    · walk_at "go"
      refine ⟨szOk (by simp), fun t1 n1 => ?_⟩
      generalize q1 : upd H t1 _ = H1
      obtain ⟨ka, ea⟩ := newQ n1 q1
      walk_at "go"
      refine ⟨szOk (by simp), fun t2 n2 => ?_⟩
      generalize q2 : upd H1 t2 _ = H2
      obtain ⟨kb, eb⟩ := newQ n2 q2
      walk_at "go"
      refine ⟨szOk (by simp), fun t3 n3 => ?_⟩
      refine k _ _ ((ka.trans kb).trans (Kp.new n3)) ?_
      have e' : sltB n o = true := decide_eq_true e
      unfold adD pr2
      rw [if_pos e']
      exact .tup upd_same (.cons (Fz.mk2 ((Kp.new (M := []) n3).at0 (kb.at0 ea)) (.str _) (.int _)) (.cons (Fz.mk2 ((Kp.new (M := []) n3).at0 eb) (.str _) (.int _)) .nil))
    · walk_at "go"
      refine ⟨szOk (by simp), fun t1 n1 => ?_⟩
      generalize q1 : upd H t1 _ = H1
      obtain ⟨ka, ea⟩ := newQ n1 q1
      walk_at "go"
      refine ⟨szOk (by simp), fun t2 n2 => ?_⟩
      generalize q2 : upd H1 t2 _ = H2
      obtain ⟨kb, eb⟩ := newQ n2 q2
      walk_at "go"
      refine ⟨szOk (by simp), fun t3 n3 => ?_⟩
      refine k _ _ ((ka.trans kb).trans (Kp.new n3)) ?_
      have e' : sltB n o = false := decide_eq_false e
      unfold adD pr2
      rw [if_neg (by rw [e']; decide)]
      exact .tup upd_same (.cons (Fz.mk2 ((Kp.new (M := []) n3).at0 (kb.at0 ea)) (.str _) (.int _)) (.cons (Fz.mk2 ((Kp.new (M := []) n3).at0 eb) (.str _) (.int _)) .nil))
def spLWeighted : Sp := fun us H Q _ => ∃ (x : V) (u : Addr) (b : Int) (rs : List Row) (ns : List Str), us = [x, .ref u, .int b] ∧ Fz H x (rowsD rs) ∧ H u = some (.lst (ns.map V.str)) ∧ rs.length < 1000 ∧ ns.length < 100 ∧ (∀ n ∈ ns, Nm n) ∧ ∀ p H', Kp [] H H' → Fz H' p (rowsD (wtd rs ns b)) → Q p H'
theorem ok_l_weighted (D : DefAt K mg "_law_weighted" s_l_weighted ["rows", "unknowns", "bound"]) (T : Bt mg) (C_pair : Cal P w K mg base 1 "_law_pair" ["name", "times", "other", "more"] spPair) : Cal P w K mg base 2 "_law_weighted" ["rows", "unknowns", "bound"] spLWeighted := by
  refine D.mk' sc_l_weighted (fun us H Q E h => ?_) (fun f cdv A outer s H us Q E hr h => ?_)
  · obtain ⟨x, y, b, rs, ns, rfl, _⟩ := h
    rfl
  · obtain ⟨x, u, b, rs, ns, rfl, hx, hu, hn, hm, hN, k⟩ := h
    obtain ⟨a, xs, rfl, ha, hz⟩ := hx.tup_inv
    have hl := hz.len
    rw [List.length_map] at hl
    refine ⟨_, (pss_cons (ps_set (i := 3) sc_l_weighted.nd rfl (Or.inl rfl) (pe_callTy c_list (by rfl) T.m_list bt_list (pa_cons (pv 0) pa_nil)))
      (pss_cons (ps_set (i := 4) sc_l_weighted.nd rfl (Or.inl rfl) (pe_lst pa_nil))
      (pss_cons (ps_for PassesOwn.never rfl (pi_list (pv 1)) (pg_name (i := 5) sc_l_weighted.nd rfl (Or.inl rfl)) (pss_cons (ps_set (i := 6) sc_l_weighted.nd rfl (Or.inl rfl) (pe_op o_addS pe_str (pv 5)))
      (pss_cons (ps_expr (pe_bm PySem.F.plainAttrs_list PySem.F.slot_list_append PySem.F.type_list_append mt_append (pv 4) (pa_cons (pv 6) pa_nil)))
      (pss_cons (ps_expr (pe_bm PySem.F.plainAttrs_list PySem.F.slot_list_append PySem.F.type_list_append mt_append (pv 3) (pa_cons (pe_tup (pa_cons (p_cal C_pair hr (pa_cons (pv 5) (pa_cons pe_int (pa_cons (pv 6) (pa_cons (pe_un u_neg pe_int) pa_nil))))) (pa_cons pe_int pa_nil))) pa_nil)))
      (pss_one (ps_expr (pe_bm PySem.F.plainAttrs_list PySem.F.slot_list_append PySem.F.type_list_append mt_append (pv 3) (pa_cons (pe_tup (pa_cons (p_cal C_pair hr (pa_cons (pv 5) (pa_cons (pe_un u_neg pe_int) (pa_cons (pv 6) (pa_cons (pe_un u_neg pe_int) pa_nil))))) (pa_cons pe_int pa_nil))) pa_nil))))))))
      (pss_cons (ps_expr (pe_bm PySem.F.plainAttrs_list PySem.F.slot_list_append PySem.F.type_list_append mt_append (pv 3) (pa_cons (pe_tup (pa_cons (pe_callTy c_tuple (by rfl) T.m_tuple bt_tuple (pa_cons (pe_lc (own := [("other", 6)]) (g := gName 6) (tt := tYes) rfl sc_l_weighted.nd (pi_list (pe_callB (c_sortR hr) (by rfl) T.m_sorted bt_sorted (pa_cons (pv 4) pa_nil))) (blkOk_by (own := [("other", 6)]) (N := ["rows", "unknowns", "bound", "due", "others", "name", "other"]) (sc := defScope s_l_weighted) (by decide +kernel)) (fun _ _ _ _ _ => (pg_name (i := 6) sc_l_weighted.nd rfl (Or.inl rfl))) (fun _ _ _ _ _ => pts_nil) (fun _ _ _ _ _ => (pe_tup (pa_cons (pv 6) (pa_cons pe_int pa_nil))))) pa_nil)) (pa_cons (pv 2) pa_nil))) pa_nil)))
      (pss_one (ps_ret (pe_callTy c_tuple (by rfl) T.m_tuple bt_tuple (pa_cons (pv 3) pa_nil)))))))), ?_⟩
    walk_at "go"
    refine v_listT (SqT.of ha) (fun du nd => ?_)
    generalize q1 : upd H du _ = H0
    obtain ⟨k0, e0⟩ := newQ nd q1
    walk_at "go"
    refine ⟨szOk (by simp), fun ot no => ?_⟩
    have kot : Kp [] H (upd H0 ot (.lst [])) := k0.trans (Kp.new no)
    have nod : ot ≠ du := fun z => by rw [z, e0] at no; cases no
    have noH := k0.free _ no
    walk_at "go"
    refine lpL (SqL.of (kot.at0 hu)) (fun i σ H' => ∃ (v5 v6 : Option V) (ys : List V), σ = [some (.ref a), some (.ref u), some (.int b), some (.ref du), some (.ref ot), v5, v6] ∧ Kp [] H H' ∧ H' du = some (.lst ys) ∧
      H' ot = some (.lst (((ns.take i).map absN).map V.str)) ∧
      FzAll H' ys ((rs ++ (ns.take i).flatMap (fun n => [(pr2 n 1 (absN n) (-1), 0), (pr2 n (-1) (absN n) (-1), 0)])).map rowD) ∧ ys.length ≤ 1000 + 2 * i) ?_ ?_ ?_ ?_
    · exact ⟨none, none, xs, rfl, kot, (Kp.new (M := []) no).at0 e0, upd_same, by simpa using (hz.kp0 k0).kp0 (Kp.new no), by omega⟩
    · rintro i σ H' _ ⟨_, _, _, _, k1, _⟩
      exact SqL.of (k1.at0 hu)
    · rintro i x σ H1 hx ⟨v5, v6, ys, rfl, k1, hd, ho, hys, hyl⟩
      obtain ⟨n, hn', rfl⟩ := str_get hx
      have hi := (List.getElem?_eq_some_iff.mp hn').1
      have hnm := hN n (List.mem_of_getElem? hn')
      walk_at "go"
      refine v_addS (pr_len n hnm.len) ?_
      walk_at "go"
      refine v_append ho (by simp only [List.length_map, List.length_take]; exact szLt (by omega)) ?_
      have k2 := k1.own (o := .lst (((ns.take i).map absN).map V.str ++ [.str (absN n)])) noH
      have hd2 : (upd H1 ot (.lst (((ns.take i).map absN).map V.str ++ [.str (absN n)]))) du = some (.lst ys) := by rw [upd_ne nod.symm]; exact hd
      have ho2 : (upd H1 ot (.lst (((ns.take i).map absN).map V.str ++ [.str (absN n)]))) ot = some (.lst (((ns.take i).map absN).map V.str ++ [.str (absN n)])) := upd_same
      have hys2 := hys.put (o := .lst (((ns.take i).map absN).map V.str ++ [.str (absN n)])) ho (by intro z q; cases q)
      change Kp [] H (upd H1 ot (.lst (((ns.take i).map absN).map V.str ++ [.str (Str.ofString "abs " ++ n)]))) at k2
      change (upd H1 ot (.lst (((ns.take i).map absN).map V.str ++ [.str (Str.ofString "abs " ++ n)]))) du = _ at hd2
      change (upd H1 ot (.lst (((ns.take i).map absN).map V.str ++ [.str (Str.ofString "abs " ++ n)]))) ot = _ at ho2
      change FzAll (upd H1 ot (.lst (((ns.take i).map absN).map V.str ++ [.str (Str.ofString "abs " ++ n)]))) _ _ at hys2
      generalize upd H1 ot (.lst (((ns.take i).map absN).map V.str ++ [.str (Str.ofString "abs " ++ n)])) = H2 at *
      walk_at "go"
      refine ⟨n, absN n, 1, -1, rfl, fun p H3 k3 hp => ?_⟩
      walk_at "go"
      refine ⟨szOk (by simp), fun t nt => ?_⟩
      obtain ⟨g1, g2⟩ := (hys2.kp0 k3).add nt (k3.at0 hd2) (.cons hp (.cons (.int 0) .nil))
      walk_at "go"
      refine v_append g1 (szLt (by omega)) ?_
      have k4 : Kp [] H (upd (upd H3 t (.tup [p, .int 0])) du (.lst (ys ++ [.ref t]))) := ((k2.trans k3).trans (Kp.new nt)).own nd
      have hd4 : (upd (upd H3 t (.tup [p, .int 0])) du (.lst (ys ++ [.ref t]))) du = some (.lst (ys ++ [.ref t])) := upd_same
      have ho4 : (upd (upd H3 t (.tup [p, .int 0])) du (.lst (ys ++ [.ref t]))) ot = some (.lst (((ns.take i).map absN).map V.str ++ [.str (Str.ofString "abs " ++ n)])) := by rw [upd_ne nod]; exact (Kp.new (M := []) nt).at0 (k3.at0 ho2)
      generalize upd (upd H3 t (.tup [p, .int 0])) du (.lst (ys ++ [.ref t])) = H4 at *
      walk_at "go"
      refine ⟨n, absN n, -1, -1, rfl, fun p2 H5 k5 hp2 => ?_⟩
      walk_at "go"
      refine ⟨szOk (by simp), fun t2 nt2 => ?_⟩
      obtain ⟨g3, g4⟩ := (g2.kp0 k5).add nt2 (k5.at0 hd4) (.cons hp2 (.cons (.int 0) .nil))
      walk_at "go"
      refine v_append g3 (by rw [List.length_append]; exact szLt (by simp; omega)) ?_
      refine ⟨_, _, _, rfl, ((k4.trans k5).trans (Kp.new nt2)).own nd, upd_same, ?_, ?_, ?_⟩
      · rw [upd_ne nod]
        have := (Kp.new (M := []) (o := .tup [p2, .int 0]) nt2).at0 (k5.at0 ho4)
        rw [this, take_get hn', List.map_append, List.map_append]
        rfl
      · rw [take_get hn', List.flatMap_append, ← List.append_assoc, List.map_append]
        have e : ([n].flatMap fun n => [(pr2 n 1 (absN n) (-1), (0 : Int)), (pr2 n (-1) (absN n) (-1), 0)]) = [(pr2 n 1 (absN n) (-1), 0), (pr2 n (-1) (absN n) (-1), 0)] := by simp
        rw [e]
        rw [List.append_assoc _ [PyData.tuple _] [PyData.tuple _]] at g4
        exact g4
      · rw [List.length_append, List.length_append]; simp; omega
    · rintro σ H1 ⟨v5, v6, ys, rfl, k1, hd, ho, hys, hyl⟩
      rw [List.length_map, List.take_length] at hys
      rw [List.length_map] at hyl
      rw [List.length_map, List.take_length] at ho
      walk_at "go"
      refine v_sortS (SqL.of ho) (fun so nso => ?_)
      generalize q2 : upd H1 so _ = H2
      obtain ⟨k2, e2⟩ := newQ nso q2
      have hsl : ((ns.map absN).mergeSort leS).length = ns.length := by rw [List.length_mergeSort, List.length_map]
      obtain ⟨os, hos⟩ : ∃ os, (ns.map absN).mergeSort leS = os := ⟨_, rfl⟩
      rw [hos] at e2 hsl
      walk_at "go"
      refine lcL (SqL.of e2) (fun D i H' => Kp [] H2 H' ∧ H2 D = none ∧ ∃ zs, H' D = some (.lst zs) ∧ FzAll H' zs (((os.take i).map fun o => (o, (1 : Int))).map prD)) ?_ ?_ ?_ ?_
      · exact fun D nD => ⟨Kp.new nD, nD, [], upd_same, .nil⟩
      · rintro D i H' _ ⟨k3, _⟩
        exact SqL.of (k3.at0 e2)
      · rintro D i x H3 hx ⟨k3, nD, zs, hD, hzs⟩
        obtain ⟨o, ho', rfl⟩ := str_get hx
        have hi := (List.getElem?_eq_some_iff.mp ho').1
        walk_at "go"
        refine ⟨rfl, ?_⟩
        walk_at "go"
        refine ⟨szOk (by simp), fun t nt => ?_⟩
        obtain ⟨g1, g2⟩ := hzs.add nt hD (.cons (.str o) (.cons (.int 1) .nil))
        have hzl := hzs.len
        simp only [List.length_map, List.length_take] at hzl
        refine ⟨_, g1, szLt (by omega), (k3.trans (Kp.new nt)).own nD, nD, _, upd_same, ?_⟩
        rw [take_get ho', List.map_append, List.map_append]
        exact g2
      · rintro D H3 ⟨k3, nD, zs, hD, hzs⟩
        rw [List.length_map, List.take_length] at hzs
        walk_at "go"
        refine v_tupleL (SqL.of hD) (fun t5 n5 => ?_)
        generalize q5 : upd H3 t5 _ = H6
        obtain ⟨ke, ee⟩ := newQ n5 q5
        walk_at "go"
        refine ⟨szOk (by simp), fun t6 n6 => ?_⟩
        have kall := (k2.trans k3).trans ke
        obtain ⟨g1, g2⟩ := (hys.kp0 kall).add n6 (kall.at0 hd) (.cons (.tup ee (hzs.kp0 ke)) (.cons (.int b) .nil))
        walk_at "go"
        refine v_append g1 (szLt (by omega)) ?_
        generalize q7 : upd (upd H6 t6 _) du _ = H7
        have h7 : Kp [] H H7 ∧ H7 du = some (.lst (ys ++ [.ref t6])) := by
          rw [← q7]
          exact ⟨((k1.trans kall).trans (Kp.new n6)).own nd, upd_same⟩
        rw [q7] at g2
        walk_at "go"
        refine v_tupleL (SqL.of h7.2) (fun t8 n8 => ?_)
        refine k _ _ (h7.1.trans (Kp.new n8)) (.tup upd_same ?_)
        have e : (wtd rs ns b).map rowD = (rs ++ ns.flatMap (fun n => [(pr2 n 1 (absN n) (-1), (0 : Int)), (pr2 n (-1) (absN n) (-1), 0)])).map rowD ++ [.tuple [.tuple ((os.map fun o => (o, (1 : Int))).map prD), .int b]] := by
          unfold wtd
          rw [List.map_append, hos]
          rfl
        rw [e]
        exact g2.kp0 (Kp.new n8)
def spIsRow : Sp := fun us H Q _ => ∃ (x : V) (r : Row), us = [x] ∧ Fz H x (rowD r) ∧ Q (.bl true) H
theorem ok_is_row (D : DefAt K mg "_law_is_row" s_is_row ["row"]) (T : Bt mg) (C_integer : Cal P w K mg base 1 "_law_integer" ["thing"] spInteger) : Cal P w K mg base 2 "_law_is_row" ["row"] spIsRow := by
  refine D.mk' sc_is_row (fun us H Q E h => ?_) (fun f cdv A outer s H us Q E hr h => ?_)
  · obtain ⟨x, r, rfl, _⟩ := h
    rfl
  · obtain ⟨x, r, rfl, hx, k⟩ := h
    obtain ⟨t, y, z, rfl, e1, e2, e3⟩ := hx.pair_inv
    cases e3.int_inv
    obtain ⟨a, xs, rfl, ha, hz⟩ := e2.tup_inv
    refine ⟨_, (pss_cons (ps_if (PW.pt (pw_or (pt_not (p_tru (pe_callB c_isi (by rfl) T.m_isinstance bt_isinstance (pa_cons (pv 0) (pa_cons (pe_bltn (v := .ty "tuple") (by rfl) T.m_tuple bt_tuple rfl) pa_nil))) (by intro _; rfl))) (pw_or (pt_cmpR (o_ne hr.units) (pe_callB c_len (by rfl) T.m_len bt_len (pa_cons (pv 0) pa_nil)) pe_int (nomark _)) (pw_or1 (pt_not (p_tru (pe_callB c_isi (by rfl) T.m_isinstance bt_isinstance (pa_cons (pe_ix ix_tup (pv 0) pe_int (fun _ _ => rfl)) (pa_cons (pe_bltn (v := .ty "tuple") (by rfl) T.m_tuple bt_tuple rfl) pa_nil))) (by intro _; rfl))))))) (pss_one (ps_ret pe_bl)) pss_nil)
      (pss_cons (ps_for PassesOwn.never rfl (pi_tup (pe_ix ix_tup (pv 0) pe_int (fun _ _ => rfl))) (pg_name (i := 1) sc_is_row.nd rfl (Or.inl rfl)) (pss_cons (ps_if (PW.pt (pw_or (pt_not (p_tru (pe_callB c_isi (by rfl) T.m_isinstance bt_isinstance (pa_cons (pv 1) (pa_cons (pe_bltn (v := .ty "tuple") (by rfl) T.m_tuple bt_tuple rfl) pa_nil))) (by intro _; rfl))) (pw_or1 (pt_cmpR (o_ne hr.units) (pe_callB c_len (by rfl) T.m_len bt_len (pa_cons (pv 1) pa_nil)) pe_int (nomark _))))) (pss_one (ps_ret pe_bl)) pss_nil)
      (pss_one (ps_if (PW.pt (pw_or (pt_not (p_tru (pe_callB c_isi (by rfl) T.m_isinstance bt_isinstance (pa_cons (pe_ix ix_tup (pv 1) pe_int (fun _ _ => rfl)) (pa_cons (pe_bltn (v := .ty "str") (by rfl) T.m_str bt_str rfl) pa_nil))) (by intro _; rfl))) (pw_or1 (pt_not (p_tru (p_cal C_integer hr (pa_cons (pe_ix ix_tup (pv 1) pe_int (fun _ _ => rfl)) pa_nil)) (by intro _; rfl)))))) (pss_one (ps_ret pe_bl)) pss_nil))))
      (pss_one (ps_ret (p_cal C_integer hr (pa_cons (pe_ix ix_tup (pv 0) pe_int (fun _ _ => rfl)) pa_nil)))))), ?_⟩
    walk_at "go"
    refine v_isi (.base (.tup e1)) (kit_ty (r := true) (by decide +kernel)) ?_
    walk_at "go"
    refine ifn (fun e => absurd rfl e) (fun _ => ?_)
    walk_at "go"
    refine v_isi (.base (.tup ha)) (kit_ty (r := true) (by decide +kernel)) ?_
    walk_at "go"
    refine lpT (SqT.of ha) (fun i σ H' => H' = H ∧ ∃ v1, σ = [some (.ref t), v1]) ?_ ?_ ?_ ?_
    · exact ⟨rfl, none, rfl⟩
    · rintro i σ H' _ ⟨rfl, _⟩
      exact SqT.of ha
    · rintro i x σ H' hxi ⟨rfl, v1, rfl⟩
      obtain ⟨p, hp, hxp⟩ := hz.map hxi
      obtain ⟨u, y, z, rfl, f1, f2, f3⟩ := hxp.pair_inv
      cases f2.str_inv
      cases f3.int_inv
      walk_at "go"
      refine v_isi (.base (.tup f1)) (kit_ty (r := true) (by decide +kernel)) ?_
      walk_at "go"
      refine ifn (fun e => absurd rfl e) (fun _ => ?_)
      walk_at "go"
      refine v_isi (.base (.str p.1)) (kit_ty (r := true) (by decide +kernel)) ?_
      walk_at "go"
      refine ⟨p.2, rfl, ?_⟩
      walk_at "go"
      exact ⟨rfl, _, rfl⟩
    · rintro σ H' ⟨rfl, v1, rfl⟩
      walk_at "go"
      refine ⟨r.2, rfl, ?_⟩
      exact k
def spSays : Sp := fun us H Q _ => ∃ (x y z : V) (due : Bool) (rs : List Row) (cs : List (List (List Row))) (ps : Ad), us = [x, y, z, .bl due] ∧ Fz H x (rowsD rs) ∧ Fz H y (clsD cs) ∧ Fz H z (adD ps) ∧ SmR rs ∧ SmCs cs ∧ SmA ps ∧ ∀ H', Kp [] H H' → Q (.bl (decide (metAll rs cs (val (mk ps)) = due))) H'
theorem ok_says (D : DefAt K mg "_law_says" s_says ["rows", "clauses", "model", "due"]) (T : Bt mg) (C_meets : Cal P w K mg base 4 "meets" ["rows", "clauses", "model"] spMeets) : Cal P w K mg base 5 "_law_says" ["rows", "clauses", "model", "due"] spSays := by
  refine D.mk' sc_says (fun us H Q E h => ?_) (fun f cdv A outer s H us Q E hr h => ?_)
  · obtain ⟨x, y, z, due, rs, cs, ps, rfl, _⟩ := h
    rfl
  · obtain ⟨x, y, z, due, rs, cs, ps, rfl, hx, hy, hz, s1, s2, s3, k⟩ := h
    refine ⟨_, (pss_cons (ps_set (i := 4) sc_says.nd rfl (Or.inl rfl) (p_cal C_meets hr (pa_cons (pv 0) (pa_cons (pv 1) (pa_cons (pv 2) pa_nil)))))
      (pss_one (ps_ret (pe_and (pe_callB c_isi (by rfl) T.m_isinstance bt_isinstance (pa_cons (pv 4) (pa_cons (pe_bltn (v := .ty "bool") (by rfl) T.m_bool bt_bool rfl) pa_nil))) (pe_one (pe_cmpR (o_eq hr.units) (pv 4) (pv 3) (nomark _))))))), ?_⟩
    walk_at "go"
    refine ⟨x, y, z, rs, cs, ps, rfl, hx, hy, hz, s1, s2, s3, fun H1 k1 => ?_⟩
    walk_at "go"
    refine v_isi (.base (.bl _)) (kit_ty (r := true) (by decide +kernel)) ?_
    walk_at "go"
    exact k _ k1
end
end K11

namespace K11
open PySem PySem.Spec L2 KV
local macro_rules | `(tactic| walk_at "side") => `(tactic| first | assumption | omega | decide)
local macro_rules | `(tactic| walk_at "at") => `(tactic| first | assumption | exact upd_same | (rw [upd_ne (by assumption)]; assumption))
local macro_rules | `(tactic| walk_at "st") => `(tactic| first
  | with_reducible refine r_seq ?_ | with_reducible refine r_asg ?_ | with_reducible refine r_ret ?_ | with_reducible refine r_ifS ?_ | with_reducible refine r_drop ?_
  | ((with_reducible refine r_var (v := ?v) ?e ?_); (case e => exact rfl))
  | with_reducible refine r_c ?_ | with_reducible refine r_op ?_ | with_reducible refine r_un ?_ | with_reducible refine r_name ?_ | with_reducible refine r_next ?_ | with_reducible refine r_brk ?_ | with_reducible refine r_cont ?_
  | with_reducible refine r_cb ?_ | with_reducible refine r_cons ?_ | with_reducible refine r_nil ?_ | with_reducible refine r_call ?_ | with_reducible refine r_test ?_ | with_reducible refine r_tru ?_ | with_reducible refine r_tB ?_
  | with_reducible refine r_exB ?_ | with_reducible refine r_truB ?_ | with_reducible refine r_truI ?_ | with_reducible refine r_and ?_ | with_reducible refine r_or ?_ | with_reducible refine r_not ?_ | with_reducible refine r_ifE ?_
  | with_reducible refine r_andV ?_ | with_reducible refine r_orV ?_ | with_reducible refine r_notV ?_ | with_reducible refine r_gsub ?_ | with_reducible refine r_tup ?_ | with_reducible refine r_lst ?_
  | with_reducible refine r_forL ?_ | with_reducible refine r_forT ?_ | with_reducible refine r_forR ?_ | with_reducible refine r_lcL ?_ | with_reducible refine r_lcT ?_ | with_reducible refine r_lcR ?_ | with_reducible refine r_yes ?_
  | with_reducible refine v_add ?_ | with_reducible refine v_sub ?_ | with_reducible refine v_lt ?_ | with_reducible refine v_le ?_ | with_reducible refine v_gt ?_ | with_reducible refine v_ge ?_ | with_reducible refine v_neg ?_
  | with_reducible refine v_eqI ?_ | with_reducible refine v_neI ?_ | with_reducible refine v_eqB ?_ | with_reducible refine v_int ?_ | with_reducible refine v_max ?_ | with_reducible refine v_min ?_ | with_reducible refine v_abs ?_
  | ((with_reducible refine v_mulL ?s ?_); (case s => walk_at "side"))
  | ((with_reducible refine v_mulR ?s ?_); (case s => walk_at "side"))
  | ((with_reducible refine v_mod ?s ?_); (case s => walk_at "side"))
  | ((with_reducible refine v_div ?s ?t ?_); (case s => walk_at "side"); (case t => walk_at "side"))
  | ((with_reducible refine v_powE (r := ?r) ?s ?e ?_); (case s => exact (by decide)); (case e => (conv => lhs; simp only [Int.reduceToNat, Int.reducePow])))
  | ((with_reducible refine v_ixL (xs := ?xs) (v := ?v) (SqL.of ?s) ?t ?_); (case s => walk_at "at"); (case t => exact rfl))
  | ((with_reducible refine v_ixT (xs := ?xs) (v := ?v) (SqT.of ?s) ?t ?_); (case s => walk_at "at"); (case t => exact rfl))
  | with_reducible refine r_dget2 ?_ | with_reducible refine r_dget ?_ | with_reducible refine r_dput ?_ | with_reducible refine r_dcT ?_ | with_reducible refine r_revL ?_ | with_reducible refine v_ltS ?_
  | ((with_reducible refine v_d2 (kvs := ?kvs) ?s ?_); (case s => walk_at "at")) | ((with_reducible refine v_dg2S (kvs := ?kvs) ?s ?_); (case s => walk_at "at"))
  | with_reducible refine r_gcons ?_ | with_reducible refine r_gnil ?_ | with_reducible refine r_slice ?_ | with_reducible refine r_noP ?_ | with_reducible refine r_part ?_ | with_reducible refine r_exI ?_ | with_reducible refine r_lstRg ?_ | with_reducible refine r_rg1 ?_ | with_reducible refine iteT ?_ | with_reducible refine iteF ?_ | with_reducible refine iteNF ?_ | with_reducible refine iteNT ?_
  | with_reducible refine r_bm ?_ | ((with_reducible refine r_bmL (xs := ?xs) ?s ?_); (case s => walk_at "at"))
  | ((with_reducible refine v_lenT (xs := ?xs) (SqT.of ?s) ?_); (case s => walk_at "at"))
  | ((with_reducible refine v_lenL (xs := ?xs) (SqL.of ?s) ?_); (case s => walk_at "at"))
  | ((with_reducible refine v_setL (xs := ?xs) (n := ?n) ?s ?t ?_); (case s => walk_at "at"); (case t => exact rfl)))
local macro_rules | `(tactic| walk_at "go") => `(tactic| repeat walk_at "st")

/-- the script: locked, or of the written part -/
def SqF (K : PySem.W.Frag) (H : Hp) (a : Addr) (xs : List V) : Prop := (∃ o, H a = some (.frz o (.lst xs))) ∨ (∃ (o : Obj) (its : Array Value) (n : Nat), K.lookup a = some o ∧ o.cls = .type "list" ∧ o.dict = none ∧ o.data = .seq its n ∧ its.size ≤ sizeLine ∧ Vals xs its.toList)
theorem SqF.l {K : PySem.W.Frag} {H : Hp} {a : Addr} {xs : List V} (h : SqF K H a xs) : SqL K H a xs := by
  rcases h with ⟨o, h⟩ | h
  · exact .inl (.inr ⟨o, h⟩)
  · exact .inr h
theorem SqF.of {K : PySem.W.Frag} {H : Hp} {a : Addr} {xs : List V} (h : SqL K H a xs) (o : Only H) : SqF K H a xs := by
  rcases h with (h | ⟨ob, h⟩) | h
  · rcases o a with z | ⟨ob, ys, z⟩
    · rw [z] at h; cases h
    · rw [z] at h; cases h
  · exact .inl ⟨ob, h⟩
  · exact .inr h
theorem SqF.kp {K : PySem.W.Frag} {M : List Addr} {H H' : Hp} {a : Addr} {xs : List V} (h : SqF K H a xs) (k : Kp M H H') (hm : ∀ m ∈ M, ∃ ys, H m = some (.lst ys)) : SqF K H' a xs := by
  rcases h with ⟨o, h⟩ | h
  · refine .inl ⟨o, k.keep _ _ h fun z => ?_⟩
    obtain ⟨ys, e⟩ := hm a z
    rw [e] at h; cases h
  · exact .inr h
theorem SqF.kp0 {K : PySem.W.Frag} {H H' : Hp} {a : Addr} {xs : List V} (h : SqF K H a xs) (k : Kp [] H H') : SqF K H' a xs := h.kp k fun _ z => nomatch z
def BoxAt (H : Hp) (b : Addr) : Prop := ∃ (d s t : Int), H b = some (.lst [.int d, .int s, .int t]) ∧ 0 ≤ d
theorem BoxAt.kp0 {H H' : Hp} {b : Addr} (h : BoxAt H b) (k : Kp [] H H') : BoxAt H' b := by
  obtain ⟨d, s, t, e, r⟩ := h
  exact ⟨d, s, t, k.at0 e, r⟩
theorem BoxAt.ne {H : Hp} {a b : Addr} (h : BoxAt H b) (n : H a = none) : a ≠ b := by
  obtain ⟨d, s, t, e, r⟩ := h
  exact (ne_of_none e n).symm
theorem BoxAt.put {H : Hp} {a b : Addr} {o : HO} (h : BoxAt H b) (n : a ≠ b) : BoxAt (upd H a o) b := by
  obtain ⟨d, s, t, e, r⟩ := h
  exact ⟨d, s, t, by rw [upd_ne n.symm]; exact e, r⟩
theorem BoxAt.ls {H : Hp} {b : Addr} (h : BoxAt H b) : ∀ m ∈ [b], ∃ ys, H m = some (.lst ys) := fun m hm => by
  obtain ⟨d, s, t, e, r⟩ := h
  rw [List.mem_singleton.mp hm]
  exact ⟨_, e⟩
theorem BoxAt.nt {H : Hp} {b : Addr} (h : BoxAt H b) : NT H [b] := by
  obtain ⟨d, s, t, e, r⟩ := h
  exact NT.one e
section
variable {P : Program} {w : World} {K : PySem.W.Frag} {mg : Str → Option Value} {base : Heap}
def spTake : Sp := fun vs H Q _ => ∃ (b : Addr) (n : Int), vs = [.ref b, .int n] ∧ BoxAt H b ∧ 0 < n ∧ n < 2 ^ 200 ∧ ∀ (r : Int) (H' : Hp), 0 ≤ r → r < n → BoxAt H' b → Kp [b] H H' → Q (.int r) H'
theorem ok_take (D : DefAt K mg "_law_take" s_take ["box", "many"]) (T : Bt mg) : Cal P w K mg base 1 "_law_take" ["box", "many"] spTake := by
  refine D.mk' sc_take (fun vs H Q E h => ?_) (fun f cdv A outer s H vs Q E hr h => ?_)
  · obtain ⟨b, n, rfl, _⟩ := h
    rfl
  · obtain ⟨b, n, rfl, ⟨d, z, t, hB, d0⟩, n0, n1, q⟩ := h
    refine ⟨_, (pss_cons (ps_asg (pe_op o_add (pe_ix ix_list (pv 0) pe_int (fun _ _ => rfl)) pe_int) (pg_sub (pv 0) pe_int set_list))
      (Evl.pss_cut (ps_if (PW.pt (pw_and (pt_cmpR o_gt (pe_ix ix_list (pv 0) pe_int (fun _ _ => rfl)) pe_int (nomark _)) (pw_and1 (pt_cmpR o_le (pe_ix ix_list (pv 0) pe_int (fun _ _ => rfl)) pe_int (nomark _))))) (pss_cons (ps_set (i := 2) sc_take.nd rfl (Or.inl rfl) (pe_op o_mod (pe_callTy c_int (by rfl) T.m_int bt_int (pa_cons (pe_ix ix_list (pv 0) pe_int (fun _ _ => rfl)) pa_nil)) (pv 1)))
      (pss_cons (ps_asg (pe_op o_div (pe_callTy c_int (by rfl) T.m_int bt_int (pa_cons (pe_ix ix_list (pv 0) pe_int (fun _ _ => rfl)) pa_nil)) (pv 1)) (pg_sub (pv 0) pe_int set_list))
      (pss_one (ps_ret (pv 2))))) pss_nil)
      (pss_cons (ps_asg (pe_op o_mod (pe_callTy c_int (by rfl) T.m_int bt_int (pa_cons (pe_op o_add (pe_op o_add (pe_op o_mul (pe_ix ix_list (pv 0) pe_int (fun _ _ => rfl)) pe_int) (pe_op o_mul (pe_ix ix_list (pv 0) pe_int (fun _ _ => rfl)) pe_int)) pe_int) pa_nil)) pe_int) (pg_sub (pv 0) pe_int set_list))
      (pss_one (ps_ret (pe_op o_mod (pe_op o_div (pe_op o_mod (pe_callTy c_int (by rfl) T.m_int bt_int (pa_cons (pe_op o_add (pe_op o_mul (pe_ix ix_list (pv 0) pe_int (fun _ _ => rfl)) pe_int) (pe_ix ix_list (pv 0) pe_int (fun _ _ => rfl))) pa_nil)) pe_int) pe_int) (pv 1))))))), ?_⟩
    walk_at "go"
    refine r_cut (fun σ' H' => σ' = [some (.ref b), some (.int n), none] ∧ H' b = some (.lst [.int d, .int z, .int (t + 1)]) ∧ Kp [b] H H') ?_ ?_
    · walk_at "go"
      refine ifd (fun e1 => ?_) (fun e1 => ?_)
      · walk_at "go"
        refine ifd (fun e2 => ?_) (fun e2 => ?_)
        · walk_at "go"
          exact q _ _ (Int.emod_nonneg _ (by omega)) (Int.emod_lt_of_pos _ n0) ⟨_, z, t + 1, upd_same, Int.ediv_nonneg d0 (by omega)⟩ (((Kp.refl _ _).mut (by simp)).mut (by simp))
        · walk_at "go"
          exact ⟨rfl, upd_same, (Kp.refl _ _).mut (by simp)⟩
      · walk_at "go"
        exact ⟨rfl, upd_same, (Kp.refl _ _).mut (by simp)⟩
    · rintro σ' H1 ⟨rfl, hB1, k1⟩
      walk_at "go"
      exact q _ _ (Int.emod_nonneg _ (by omega)) (Int.emod_lt_of_pos _ n0) ⟨d, _, t + 1, upd_same, d0⟩ (k1.mut (by simp))
def spBox (K : PySem.W.Frag) : Sp := fun us H Q _ => ∃ (sc : Addr) (place : Int) (ns : List Int), us = [.ref sc, .int place] ∧ SqF K H sc (ns.map V.int) ∧ 0 ≤ place ∧ place ≤ 1000 ∧ ∀ b H', Kp [] H H' → H b = none → BoxAt H' b → Q (.ref b) H'
theorem ok_box (D : DefAt K mg "_law_box" s_box ["script", "place"]) (T : Bt mg) : Cal P w K mg base 1 "_law_box" ["script", "place"] (spBox K) := by
  refine D.mk' sc_box (fun vs H Q E h => ?_) (fun f cdv A outer s H vs Q E hr h => ?_)
  · obtain ⟨sc, p, ns, rfl, _⟩ := h
    rfl
  · obtain ⟨sc, p, ns, rfl, hS, p0, p1, k⟩ := h
    refine ⟨_, (pss_cons (ps_set (i := 2) sc_box.nd rfl (Or.inl rfl) pe_int)
      (Evl.pss_cut (ps_if (pt_cmpR o_lt (pv 1) (pe_callB c_len (by rfl) T.m_len bt_len (pa_cons (pv 0) pa_nil)) (nomark _)) (pss_one (ps_set (i := 2) sc_box.nd rfl (Or.inl rfl) (pe_ix ix_list (pv 0) (pv 1) (fun _ _ => rfl)))) pss_nil)
      (pss_cons (ps_set (i := 3) sc_box.nd rfl (Or.inl rfl) pe_int)
      (Evl.pss_cut (ps_if (pt_cmpR o_gt (pe_callB c_len (by rfl) T.m_len bt_len (pa_cons (pv 0) pa_nil)) pe_int (nomark _)) (pss_one (ps_set (i := 3) sc_box.nd rfl (Or.inl rfl) (pe_ix ix_list (pv 0) pe_int (fun _ _ => rfl)))) pss_nil)
      (pss_cons (ps_set (i := 4) sc_box.nd rfl (Or.inl rfl) (pe_op o_add (pe_op o_add (pe_op o_add (pe_op o_mul (pe_op o_mod (pe_callTy c_int (by rfl) T.m_int bt_int (pa_cons (pv 2) pa_nil)) pe_int) pe_int) (pe_op o_mul (pe_op o_mod (pe_callTy c_int (by rfl) T.m_int bt_int (pa_cons (pv 3) pa_nil)) pe_int) (pe_op o_add (pv 1) pe_int))) (pe_op o_mul (pv 1) pe_int)) pe_int))
      (pss_cons (ps_set (i := 5) sc_box.nd rfl (Or.inl rfl) pe_int)
      (Evl.pss_cut (ps_if (pt_cmpR o_ge (pe_callB c_abs (by rfl) T.m_abs bt_abs (pa_cons (pv 2) pa_nil)) (pe_op o_pow pe_int pe_int) (nomark _)) (pss_one (ps_set (i := 5) sc_box.nd rfl (Or.inl rfl) (pe_callB c_abs (by rfl) T.m_abs bt_abs (pa_cons (pv 2) pa_nil)))) pss_nil)
      (pss_one (ps_ret (pe_lst (pa_cons (pv 5) (pa_cons (pv 4) (pa_cons pe_int pa_nil))))))))))))), ?_⟩
    walk_at "go"
    refine r_cut (fun σ' H' => ∃ n : Int, σ' = [some (.ref sc), some (.int p), some (.int n), none, none, none] ∧ H' = H) ?_ ?_
    · walk_at "go"
      refine v_lenL hS.l ?_
      walk_at "go"
      refine ifd (fun e => ?_) (fun e => ?_)
      · rw [List.length_map] at e
        obtain ⟨j, rfl⟩ : ∃ j : Nat, p = j := ⟨p.toNat, by omega⟩
        have g1 : (ns.map V.int)[j]? = some (.int ns[j]) := by rw [List.getElem?_map, List.getElem?_eq_getElem (by omega)]; rfl
        walk_at "go"
        refine v_ixL hS.l (atI_nat g1) ?_
        walk_at "go"
        exact ⟨_, rfl, rfl⟩
      · walk_at "go"
        exact ⟨_, rfl, rfl⟩
    · rintro σ' H' ⟨n, rfl, rfl⟩
      walk_at "go"
      refine r_cut (fun σ' H2 => ∃ m : Int, σ' = [some (.ref sc), some (.int p), some (.int n), some (.int m), none, none] ∧ H2 = H') ?_ ?_
      · walk_at "go"
        refine v_lenL hS.l ?_
        walk_at "go"
        refine ifd (fun e => ?_) (fun e => ?_)
        · rw [List.length_map] at e
          have g1 : (ns.map V.int)[0]? = some (.int (ns[0]'(by omega))) := by rw [List.getElem?_map, List.getElem?_eq_getElem (by omega)]; rfl
          walk_at "go"
          refine v_ixL hS.l (atI_nat (j := 0) g1) ?_
          walk_at "go"
          exact ⟨_, rfl, rfl⟩
        · walk_at "go"
          exact ⟨_, rfl, rfl⟩
      · rintro σ' H2 ⟨m, rfl, rfl⟩
        have b1 : -(2 ^ 64) < m % 999983 ∧ m % 999983 < 2 ^ 64 := by omega
        walk_at "go"
        refine r_cut (fun σ' H3 => ∃ u v : Int, 0 ≤ v ∧ σ' = [some (.ref sc), some (.int p), some (.int n), some (.int m), some (.int u), some (.int v)] ∧ H3 = H2) ?_ ?_
        · walk_at "go"
          refine ifd (fun e => ?_) (fun e => ?_)
          · walk_at "go"
            refine ⟨_, _, ?_, rfl, rfl⟩
            split <;> omega
          · walk_at "go"
            exact ⟨_, _, Int.le_refl _, rfl, rfl⟩
        · rintro σ' H3 ⟨u, v, v0, rfl, rfl⟩
          walk_at "go"
          refine ⟨szOk (by simp), fun b nb => ?_⟩
          exact k b _ (Kp.new nb) nb ⟨v, u, 0, upd_same, v0⟩
theorem len_app (a b : Str) : (a ++ b).length = a.length + b.length := by
  show (a.cps ++ b.cps).size = _
  rw [Array.size_append]
  rfl
theorem len_ltr (c : Nat) : (ltr c).length = 1 := rfl
def spText : Sp := fun us H Q _ => ∃ (c : Nat) (f : Int), us = [.str (ltr c), .int f] ∧ Q (.str (nm c f)) H
theorem ok_text (D : DefAt K mg "_law_text" s_text ["letter", "form"]) : Cal P w K mg base 1 "_law_text" ["letter", "form"] spText := by
  refine D.mk' sc_text (fun vs H Q E h => ?_) (fun f cdv A outer s H vs Q E hr h => ?_)
  · obtain ⟨c, f, rfl, _⟩ := h
    rfl
  · obtain ⟨c, f, rfl, k⟩ := h
    have a1 : (Str.ofString "len(").length = 4 := by decide +kernel
    have a2 : (Str.ofString ")").length = 1 := by decide +kernel
    have a3 : (Str.ofString "[i + 1]").length = 7 := by decide +kernel
    have a4 : (Str.ofString "1").length = 1 := by decide +kernel
    have a5 : (Str.ofString "abs").length = 3 := by decide +kernel
    have a6 : (Str.ofString "abcdefghijk").length = 11 := by decide +kernel
    unfold nm at k
    refine ⟨_, (pss_cons (ps_if (pt_cmpR (o_eq hr.units) (pv 1) pe_int (nomark _)) (pss_one (ps_ret (pe_op o_addS (pe_op o_addS pe_str (pv 0)) pe_str))) pss_nil)
      (pss_cons (ps_if (pt_cmpR (o_eq hr.units) (pv 1) pe_int (nomark _)) (pss_one (ps_ret (pe_op o_addS (pv 0) pe_str))) pss_nil)
      (pss_cons (ps_if (pt_cmpR (o_eq hr.units) (pv 1) pe_int (nomark _)) (pss_one (ps_ret (pe_op o_addS (pv 0) pe_str))) pss_nil)
      (pss_cons (ps_if (pt_cmpR (o_eq hr.units) (pv 1) pe_int (nomark _)) (pss_one (ps_ret (pe_op o_addS pe_str (pv 0)))) pss_nil)
      (pss_cons (ps_if (pt_cmpR (o_eq hr.units) (pv 1) pe_int (nomark _)) (pss_one (ps_ret (pe_op o_addS pe_str (pv 0)))) pss_nil)
      (pss_one (ps_ret (pv 0)))))))), ?_⟩
    walk_at "go"
    refine ifd (fun e => ?_) (fun e2 => ?_)
    · rw [if_pos e] at k
      walk_at "go"
      refine v_addS (by rw [a1, len_ltr]; exact szOk (by decide)) ?_
      walk_at "go"
      refine v_addS (by rw [len_app, a1, a2, len_ltr]; exact szOk (by decide)) ?_
      exact k
    · rw [if_neg e2] at k
      walk_at "go"
      refine ifd (fun e => ?_) (fun e3 => ?_)
      · rw [if_pos e] at k
        walk_at "go"
        refine v_addS (by rw [a3, len_ltr]; exact szOk (by decide)) ?_
        exact k
      · rw [if_neg e3] at k
        walk_at "go"
        refine ifd (fun e => ?_) (fun e4 => ?_)
        · rw [if_pos e] at k
          walk_at "go"
          refine v_addS (by rw [a4, len_ltr]; exact szOk (by decide)) ?_
          exact k
        · rw [if_neg e4] at k
          walk_at "go"
          refine ifd (fun e => ?_) (fun e5 => ?_)
          · rw [if_pos e] at k
            walk_at "go"
            refine v_addS (by rw [a5, len_ltr]; exact szOk (by decide)) ?_
            exact k
          · rw [if_neg e5] at k
            walk_at "go"
            refine ifd (fun e => ?_) (fun e6 => ?_)
            · rw [if_pos e] at k
              walk_at "go"
              refine v_addS (by rw [a6, len_ltr]; exact szOk (by decide)) ?_
              exact k
            · rw [if_neg e6] at k
              walk_at "go"
              exact k
theorem alpha_at : ∀ c < 26, atI (Str.ofString "abcdefghijklmnopqrstuvwxyz").cps.toList ((c : Nat) : Int) = some (97 + c) := by decide +kernel
def spNames : Sp := fun us H Q _ => ∃ (b : Addr) (many : Int), us = [.ref b, .int many] ∧ BoxAt H b ∧ 0 ≤ many ∧ many ≤ 5 ∧ ∀ (p : Addr) (ns : List Str) (H' : Hp), BoxAt H' b → Kp [b] H H' → H p = none → H' p = some (.lst (ns.map V.str)) → ns.Nodup → (∀ n ∈ ns, Nm n) → (ns.length : Int) = many → Q (.ref p) H'
theorem ok_names (D : DefAt K mg "_law_names" s_names ["box", "many"]) (T : Bt mg) (C_take : Cal P w K mg base 1 "_law_take" ["box", "many"] spTake) (C_text : Cal P w K mg base 1 "_law_text" ["letter", "form"] spText) : Cal P w K mg base 2 "_law_names" ["box", "many"] spNames := by
  refine D.mk' sc_names (fun vs H Q E h => ?_) (fun f cdv A outer s H vs Q E hr h => ?_)
  · obtain ⟨b, many, rfl, _⟩ := h
    rfl
  · obtain ⟨b, many, rfl, hB, m0, m1, k⟩ := h
    refine ⟨_, (pss_cons (ps_set (i := 2) sc_names.nd rfl (Or.inl rfl) (p_cal C_take hr (pa_cons (pv 0) (pa_cons pe_int pa_nil))))
      (pss_cons (ps_set (i := 3) sc_names.nd rfl (Or.inl rfl) (pe_op o_add pe_int (pe_op o_mul pe_int (p_cal C_take hr (pa_cons (pv 0) (pa_cons pe_int pa_nil))))))
      (pss_cons (ps_set (i := 4) sc_names.nd rfl (Or.inl rfl) (p_cal C_take hr (pa_cons (pv 0) (pa_cons pe_int pa_nil))))
      (pss_cons (ps_set (i := 5) sc_names.nd rfl (Or.inl rfl) (pe_lst pa_nil))
      (pss_cons (ps_for PassesOwn.never rfl (pi_range1 (by rfl) T.m_range (pa_cons (pv 1) pa_nil)) (pg_name (i := 6) sc_names.nd rfl (Or.inl rfl)) (pss_cons (ps_set (i := 7) sc_names.nd rfl (Or.inl rfl) (p_cal C_take hr (pa_cons (pv 0) (pa_cons pe_int pa_nil))))
      (Evl.pss_cut (ps_if (pt_cmpR (o_eq hr.units) (pv 4) pe_int (nomark _)) (pss_one (ps_set (i := 7) sc_names.nd rfl (Or.inl rfl) pe_int)) pss_nil)
      (pss_one (ps_expr (pe_bm PySem.F.plainAttrs_list PySem.F.slot_list_append PySem.F.type_list_append mt_append (pv 5) (pa_cons (p_cal C_text hr (pa_cons (pe_ix ix_str pe_str (pe_op o_mod (pe_op o_add (pv 2) (pe_op o_mul (pv 6) (pv 3))) pe_int) (fun _ _ => rfl)) (pa_cons (pv 7) pa_nil))) pa_nil)))))))
      (pss_one (ps_ret (pv 5)))))))), ?_⟩
    walk_at "go"
    refine ⟨b, _, rfl, hB, by decide, by decide, fun st H1 s0 s1 hB1 k1 => ?_⟩
    walk_at "go"
    refine ⟨b, _, rfl, hB1, by decide, by decide, fun sp H2 p0 p1 hB2 k2 => ?_⟩
    walk_at "go"
    have hs : 1 + 2 * sp = 1 ∨ 1 + 2 * sp = 3 ∨ 1 + 2 * sp = 5 ∨ 1 + 2 * sp = 7 := by omega
    generalize 1 + 2 * sp = st2 at hs
    refine ⟨b, _, rfl, hB2, by decide, by decide, fun lg H3 _ _ hB3 k3 => ?_⟩
    walk_at "go"
    refine ⟨szOk (by simp), fun p np => ?_⟩
    have kk : Kp [b] H (upd H3 p (.lst [])) := ((k1.trans k2).trans k3).trans (Kp.new np)
    have nH := ((k1.trans k2).trans k3).free _ np
    have npb := hB3.ne np
    walk_at "go"
    refine lpR (by omega) (by omega) (fun i σ H' => ∃ (ns : List Str) (v6 v7 : Option V), σ = [some (.ref b), some (.int many), some (.int st), some (.int st2), some (.int lg), some (.ref p), v6, v7] ∧ BoxAt H' b ∧ Kp [b] H H' ∧ H' p = some (.lst (ns.map V.str)) ∧ ns.Nodup ∧ ns.length = i ∧
      ∀ n ∈ ns, ∃ (j : Nat) (f : Int), j < i ∧ f ∈ forms ∧ n = nm ((st + j * st2) % 26).toNat f) ?_ ?_ ?_
    · exact ⟨[], none, none, rfl, hB3.kp0 (Kp.new np), kk, upd_same, List.nodup_nil, rfl, fun _ h => (nomatch h)⟩
    · rintro i σ H4 hi ⟨ns, v6, v7, rfl, hB4, k4, hp, hnd, hl, hall⟩
      walk_at "go"
      refine ⟨b, _, rfl, hB4, by decide, by decide, fun fm H5 f0 f1 hB5 k5 => ?_⟩
      walk_at "go"
      refine r_cut (fun σ' H' => ∃ fm : Int, 0 ≤ fm ∧ fm < 7 ∧ σ' = [some (.ref b), some (.int many), some (.int st), some (.int st2), some (.int lg), some (.ref p), some (.int i), some (.int fm)] ∧ H' = H5) ?_ ?_
      · walk_at "go"
        refine ifd (fun e => ?_) (fun e => ?_)
        · walk_at "go"
          exact ⟨6, by decide, by decide, rfl, rfl⟩
        · walk_at "go"
          exact ⟨fm, f0, f1, rfl, rfl⟩
      · rintro σ' H' ⟨fm, f0, f1, rfl, rfl⟩
        have hp5 := k5.keep _ _ hp (nin1 npb)
        walk_at "go"
        obtain ⟨c, hc, hce⟩ : ∃ c : Nat, c < 26 ∧ (st + (i : Int) * st2) % 26 = c := ⟨((st + (i : Int) * st2) % 26).toNat, by omega, by omega⟩
        rw [hce]
        refine v_ixS (c := 97 + c) (szOk (by decide +kernel)) (alpha_at c hc) ?_
        walk_at "go"
        refine ⟨c, fm, rfl, ?_⟩
        walk_at "go"
        refine v_append hp5 (by rw [List.length_map]; exact szLt (by omega)) ?_
        have hcn : ((st + (i : Int) * st2) % 26).toNat = c := by omega
        refine ⟨ns ++ [nm c fm], _, _, rfl, hB5.put npb, (k4.trans k5).own nH, by rw [upd_same, List.map_append]; rfl, ?_, by rw [List.length_append, hl]; rfl, ?_⟩
        · rw [List.nodup_append]
          refine ⟨hnd, by simp, fun x hx y hy e => ?_⟩
          have hy' : y = nm c fm := by simpa using hy
          obtain ⟨j, g, hj, hg, rfl⟩ := hall x hx
          rw [hy'] at e
          have hcj := nm_inj (by omega) hc hg (form_mem f0 f1) e
          have := step_ne (st := st) (s := st2) (k := j) (j := i) hs (by omega) (by omega) (by omega)
          omega
        · intro n hn
          rcases List.mem_append.mp hn with hn | hn
          · obtain ⟨j, g, hj, hg, e⟩ := hall n hn
            exact ⟨j, g, by omega, hg, e⟩
          · refine ⟨i, fm, by omega, form_mem f0 f1, ?_⟩
            rw [hcn]
            simpa using hn
    · rintro σ H4 ⟨ns, v6, v7, rfl, hB4, k4, hp, hnd, hl, hall⟩
      walk_at "go"
      refine k p ns H4 hB4 k4 nH hp hnd (fun n hn => ?_) (by omega)
      obtain ⟨j, g, hj, hg, rfl⟩ := hall n hn
      exact ⟨_, g, by omega, hg, rfl⟩
/-- small enough that one more is small, too -/
def Sn (n : Int) : Prop := n.natAbs < 2 ^ 150
theorem Sn.sm {n : Int} (h : Sn n) : Sm n := by
  unfold Sn at h
  unfold Sm
  have : (2 : Nat) ^ 150 < 2 ^ 200 := by decide
  omega
def spNumber : Sp := fun us H Q _ => ∃ (b : Addr), us = [.ref b] ∧ BoxAt H b ∧ ∀ (r : Int) (H' : Hp), Sn r → BoxAt H' b → Kp [b] H H' → Q (.int r) H'
theorem sn_lt {r : Int} (h0 : -(10 ^ 40) ≤ r) (h1 : r ≤ 10 ^ 40) : Sn r := by
  unfold Sn
  have : (10 : Nat) ^ 40 < 2 ^ 150 := by decide
  omega
theorem ok_number (D : DefAt K mg "_law_number" s_number ["box"]) (C_take : Cal P w K mg base 1 "_law_take" ["box", "many"] spTake) : Cal P w K mg base 2 "_law_number" ["box"] spNumber := by
  refine D.mk' sc_number (fun vs H Q E h => ?_) (fun f cdv A outer s H vs Q E hr h => ?_)
  · obtain ⟨b, rfl, _⟩ := h
    rfl
  · obtain ⟨b, rfl, hB, k⟩ := h
    refine ⟨_, (pss_cons (ps_set (i := 1) sc_number.nd rfl (Or.inl rfl) (p_cal C_take hr (pa_cons (pv 0) (pa_cons pe_int pa_nil))))
      (pss_cons (ps_set (i := 2) sc_number.nd rfl (Or.inl rfl) (p_cal C_take hr (pa_cons (pv 0) (pa_cons pe_int pa_nil))))
      (Evl.pss_cut (ps_if (pt_cmpR (o_eq hr.units) (pv 1) pe_int (nomark _)) (pss_one (ps_set (i := 2) sc_number.nd rfl (Or.inl rfl) (pe_op o_add (pv 2) (p_cal C_take hr (pa_cons (pv 0) (pa_cons pe_int pa_nil)))))) pss_nil)
      (Evl.pss_cut (ps_if (pt_cmpR (o_eq hr.units) (pv 1) pe_int (nomark _)) (pss_one (ps_set (i := 2) sc_number.nd rfl (Or.inl rfl) (pe_op o_add (pe_op o_mul (pv 2) (pe_op o_pow pe_int pe_int)) (p_cal C_take hr (pa_cons (pv 0) (pa_cons (pe_op o_pow pe_int pe_int) pa_nil)))))) pss_nil)
      (pss_cons (ps_if (pt_cmpR (o_eq hr.units) (p_cal C_take hr (pa_cons (pv 0) (pa_cons pe_int pa_nil))) pe_int (nomark _)) (pss_one (ps_ret (pe_un u_neg (pv 2)))) pss_nil)
      (pss_one (ps_ret (pv 2)))))))), ?_⟩
    walk_at "go"
    refine ⟨b, _, rfl, hB, by decide, by decide, fun sz H1 _ _ hB1 k1 => ?_⟩
    walk_at "go"
    refine ⟨b, _, rfl, hB1, by decide, by decide, fun wo H2 w0 w1 hB2 k2 => ?_⟩
    walk_at "go"
    refine r_cut (fun σ' H' => ∃ wo : Int, 0 ≤ wo ∧ wo ≤ 1000 ∧ σ' = [some (.ref b), some (.int sz), some (.int wo)] ∧ BoxAt H' b ∧ Kp [b] H H') ?_ ?_
    · walk_at "go"
      refine ifd (fun e => ?_) (fun e => ?_)
      · walk_at "go"
        refine ⟨b, _, rfl, hB2, by decide, by decide, fun u H3 u0 u1 hB3 k3 => ?_⟩
        walk_at "go"
        exact ⟨_, by omega, by omega, rfl, hB3, (k1.trans k2).trans k3⟩
      · walk_at "go"
        exact ⟨_, w0, by omega, rfl, hB2, k1.trans k2⟩
    · rintro σ' H3 ⟨wo, w0, w1, rfl, hB3, k3⟩
      refine r_cut (fun σ' H' => ∃ wo : Int, 0 ≤ wo ∧ wo ≤ 10 ^ 30 ∧ σ' = [some (.ref b), some (.int sz), some (.int wo)] ∧ BoxAt H' b ∧ Kp [b] H H') ?_ ?_
      · walk_at "go"
        refine ifd (fun e => ?_) (fun e => ?_)
        · walk_at "go"
          refine ⟨b, _, rfl, hB3, by decide, by decide, fun u H4 u0 u1 hB4 k4 => ?_⟩
          walk_at "go"
          exact ⟨_, by omega, by omega, rfl, hB4, k3.trans k4⟩
        · walk_at "go"
          exact ⟨_, w0, by omega, rfl, hB3, k3⟩
      · rintro σ' H4 ⟨wo, w0, w1, rfl, hB4, k4⟩
        walk_at "go"
        refine ⟨b, _, rfl, hB4, by decide, by decide, fun u H5 _ _ hB5 k5 => ?_⟩
        walk_at "go"
        refine ifd (fun e => ?_) (fun e => ?_)
        · walk_at "go"
          exact k _ _ (sn_lt (by omega) (by omega)) hB5 (k4.trans k5)
        · walk_at "go"
          exact k _ _ (sn_lt (by omega) (by omega)) hB5 (k4.trans k5)
end
end K11

namespace K11
open PySem PySem.Spec L2 KV
local macro_rules | `(tactic| walk_at "side") => `(tactic| first | assumption | omega | decide)
local macro_rules | `(tactic| walk_at "at") => `(tactic| first | assumption | exact upd_same | (rw [upd_ne (by assumption)]; assumption))
local macro_rules | `(tactic| walk_at "st") => `(tactic| first
  | with_reducible refine r_seq ?_ | with_reducible refine r_asg ?_ | with_reducible refine r_ret ?_ | with_reducible refine r_ifS ?_ | with_reducible refine r_drop ?_
  | ((with_reducible refine r_var (v := ?v) ?e ?_); (case e => exact rfl))
  | with_reducible refine r_c ?_ | with_reducible refine r_op ?_ | with_reducible refine r_un ?_ | with_reducible refine r_name ?_ | with_reducible refine r_next ?_ | with_reducible refine r_brk ?_ | with_reducible refine r_cont ?_
  | with_reducible refine r_cb ?_ | with_reducible refine r_cons ?_ | with_reducible refine r_nil ?_ | with_reducible refine r_call ?_ | with_reducible refine r_test ?_ | with_reducible refine r_tru ?_ | with_reducible refine r_tB ?_
  | with_reducible refine r_exB ?_ | with_reducible refine r_truB ?_ | with_reducible refine r_truI ?_ | with_reducible refine r_and ?_ | with_reducible refine r_or ?_ | with_reducible refine r_not ?_ | with_reducible refine r_ifE ?_
  | with_reducible refine r_andV ?_ | with_reducible refine r_orV ?_ | with_reducible refine r_notV ?_ | with_reducible refine r_gsub ?_ | with_reducible refine r_tup ?_ | with_reducible refine r_lst ?_
  | with_reducible refine r_forL ?_ | with_reducible refine r_forT ?_ | with_reducible refine r_forR ?_ | with_reducible refine r_lcL ?_ | with_reducible refine r_lcT ?_ | with_reducible refine r_lcR ?_ | with_reducible refine r_yes ?_
  | with_reducible refine v_add ?_ | with_reducible refine v_sub ?_ | with_reducible refine v_lt ?_ | with_reducible refine v_le ?_ | with_reducible refine v_gt ?_ | with_reducible refine v_ge ?_ | with_reducible refine v_neg ?_
  | with_reducible refine v_eqI ?_ | with_reducible refine v_neI ?_ | with_reducible refine v_eqB ?_ | with_reducible refine v_int ?_ | with_reducible refine v_max ?_ | with_reducible refine v_min ?_ | with_reducible refine v_abs ?_
  | ((with_reducible refine v_mulL ?s ?_); (case s => walk_at "side"))
  | ((with_reducible refine v_mulR ?s ?_); (case s => walk_at "side"))
  | ((with_reducible refine v_mod ?s ?_); (case s => walk_at "side"))
  | ((with_reducible refine v_div ?s ?t ?_); (case s => walk_at "side"); (case t => walk_at "side"))
  | ((with_reducible refine v_powE (r := ?r) ?s ?e ?_); (case s => exact (by decide)); (case e => (conv => lhs; simp only [Int.reduceToNat, Int.reducePow])))
  | ((with_reducible refine v_ixL (xs := ?xs) (v := ?v) (SqL.of ?s) ?t ?_); (case s => walk_at "at"); (case t => exact rfl))
  | ((with_reducible refine v_ixT (xs := ?xs) (v := ?v) (SqT.of ?s) ?t ?_); (case s => walk_at "at"); (case t => exact rfl))
  | with_reducible refine r_dget2 ?_ | with_reducible refine r_dget ?_ | with_reducible refine r_dput ?_ | with_reducible refine r_dcT ?_ | with_reducible refine r_revL ?_ | with_reducible refine v_ltS ?_
  | ((with_reducible refine v_d2 (kvs := ?kvs) ?s ?_); (case s => walk_at "at")) | ((with_reducible refine v_dg2S (kvs := ?kvs) ?s ?_); (case s => walk_at "at"))
  | with_reducible refine r_gcons ?_ | with_reducible refine r_gnil ?_ | with_reducible refine r_slice ?_ | with_reducible refine r_noP ?_ | with_reducible refine r_part ?_ | with_reducible refine r_exI ?_ | with_reducible refine r_lstRg ?_ | with_reducible refine r_rg1 ?_ | with_reducible refine iteT ?_ | with_reducible refine iteF ?_ | with_reducible refine iteNF ?_ | with_reducible refine iteNT ?_
  | with_reducible refine r_bm ?_ | ((with_reducible refine r_bmL (xs := ?xs) ?s ?_); (case s => walk_at "at"))
  | ((with_reducible refine v_lenT (xs := ?xs) (SqT.of ?s) ?_); (case s => walk_at "at"))
  | ((with_reducible refine v_lenL (xs := ?xs) (SqL.of ?s) ?_); (case s => walk_at "at"))
  | ((with_reducible refine v_setL (xs := ?xs) (n := ?n) ?s ?t ?_); (case s => walk_at "at"); (case t => exact rfl)))
local macro_rules | `(tactic| walk_at "go") => `(tactic| repeat walk_at "st")

section
variable {P : Program} {w : World} {K : PySem.W.Frag} {mg : Str → Option Value} {base : Heap}
theorem Kp.box {H H1 H2 : Hp} {b : Addr} (k : Kp [] H H1) (n : H b = none) (k2 : Kp [b] H1 H2) : Kp [] H H2 :=
  (k.of0.trans k2).less fun a ha => by rw [List.mem_singleton.mp ha]; exact n
theorem at_ints {xs : List Int} {r : Int} (h0 : 0 ≤ r) (h1 : r < xs.length) : ∃ v ∈ xs, atI (xs.map V.int) r = some (.int v) := by
  obtain ⟨j, rfl⟩ : ∃ j : Nat, r = j := ⟨r.toNat, by omega⟩
  have hj : j < xs.length := by omega
  exact ⟨xs[j], List.getElem_mem hj, atI_nat (by rw [List.getElem?_map, List.getElem?_eq_getElem hj]; rfl)⟩
def spRow (K : PySem.W.Frag) : Sp := fun us H Q _ => ∃ (sc nl d : Addr) (place : Int) (fails : Bool) (xs : List Int) (ns : List Str) (tb : Ad), us = [.ref sc, .int place, .ref nl, .ref d, .bl fails] ∧ SqF K H sc (xs.map V.int) ∧ 0 ≤ place ∧ place ≤ 1000 ∧ H nl = some (.lst (ns.map V.str)) ∧ ns.length ≤ 10 ∧ TbAt H d tb ∧
  ∀ x r H', Kp [] H H' → Fz H' x (rowD r) → SmA r.1 → (∀ p ∈ r.1, p.1 ∈ ns) → Q x H'
theorem ok_row (D : DefAt K mg "_law_row" s_row ["script", "place", "names", "table", "fails"]) (T : Bt mg) (C_box : Cal P w K mg base 1 "_law_box" ["script", "place"] (spBox K)) (C_take : Cal P w K mg base 1 "_law_take" ["box", "many"] spTake) (C_number : Cal P w K mg base 2 "_law_number" ["box"] spNumber) (C_value : Cal P w K mg base 1 "_law_value" ["row", "table"] spValue) : Cal P w K mg base 3 "_law_row" ["script", "place", "names", "table", "fails"] (spRow K) := by
  refine D.mk' sc_row (fun vs H Q E h => ?_) (fun f cdv A outer s H vs Q E hr h => ?_)
  · obtain ⟨_, _, _, _, _, _, _, _, rfl, _⟩ := h
    rfl
  · obtain ⟨sc, nl, d, place, fails, xs, ns, tb, rfl, hS, p0, p1, hnl, hnn, ht, k⟩ := h
    refine ⟨_, (pss_cons (ps_set (i := 5) sc_row.nd rfl (Or.inl rfl) (p_cal C_box hr (pa_cons (pv 0) (pa_cons (pv 1) pa_nil))))
      (pss_cons (ps_set (i := 6) sc_row.nd rfl (Or.inl rfl) (pe_ix ix_list (pe_lst (pa_cons pe_int (pa_cons pe_int (pa_cons pe_int (pa_cons pe_int (pa_cons (pe_op o_pow pe_int pe_int) pa_nil)))))) (p_cal C_take hr (pa_cons (pv 5) (pa_cons pe_int pa_nil))) (fun _ _ => rfl)))
      (Evl.pss_cut (ps_if (p_tru (pv 4) (by intro _; rfl)) (pss_one (ps_set (i := 6) sc_row.nd rfl (Or.inl rfl) (pe_op o_sub (pe_un u_neg pe_int) (pv 6)))) pss_nil)
      (pss_cons (ps_set (i := 7) sc_row.nd rfl (Or.inl rfl) (pe_lst pa_nil))
      (pss_cons (ps_for PassesOwn.never rfl (pi_list (pe_callB (c_sortR hr) (by rfl) T.m_sorted bt_sorted (pa_cons (pv 2) pa_nil))) (pg_name (i := 8) sc_row.nd rfl (Or.inl rfl)) (pss_cons (ps_set (i := 9) sc_row.nd rfl (Or.inl rfl) (pe_ix ix_list (pe_lst (pa_cons pe_int (pa_cons pe_int (pa_cons (pe_un u_neg pe_int) (pa_cons pe_int (pa_cons (pe_un u_neg pe_int) (pa_cons pe_int (pa_cons (pe_un u_neg pe_int) (pa_cons pe_int (pa_cons pe_int pa_nil)))))))))) (p_cal C_take hr (pa_cons (pv 5) (pa_cons pe_int pa_nil))) (fun _ _ => rfl)))
      (Evl.pss_cut (ps_if (pt_cmpR (o_eq hr.units) (pv 9) pe_int (nomark _)) (pss_one (ps_set (i := 9) sc_row.nd rfl (Or.inl rfl) (p_cal C_number hr (pa_cons (pv 5) pa_nil)))) pss_nil)
      (pss_one (ps_if (pt_cmpR (o_ne hr.units) (pv 9) pe_int (nomark _)) (pss_one (ps_expr (pe_bm PySem.F.plainAttrs_list PySem.F.slot_list_append PySem.F.type_list_append mt_append (pv 7) (pa_cons (pe_tup (pa_cons (pv 8) (pa_cons (pv 9) pa_nil))) pa_nil)))) pss_nil)))))
      (pss_cons (ps_set (i := 10) sc_row.nd rfl (Or.inl rfl) (pe_tup (pa_cons (pe_callTy c_tuple (by rfl) T.m_tuple bt_tuple (pa_cons (pv 7) pa_nil)) (pa_cons pe_int pa_nil))))
      (pss_one (ps_ret (pe_tup (pa_cons (pe_ix ix_tup (pv 10) pe_int (fun _ _ => rfl)) (pa_cons (pe_op o_add (p_cal C_value hr (pa_cons (pv 10) (pa_cons (pv 3) pa_nil))) (pv 6)) pa_nil))))))))))), ?_⟩
    walk_at "go"
    refine ⟨sc, place, xs, rfl, hS, p0, p1, fun b H1 k1 nb hB1 => ?_⟩
    walk_at "go"
    refine ⟨szOk (by simp), fun p np => ?_⟩
    generalize q1 : upd H1 p _ = H2
    obtain ⟨ka, ea⟩ := newQ np q1
    have npb := hB1.ne np
    walk_at "go"
    refine ⟨b, _, rfl, hB1.kp0 ka, by decide, by decide, fun r H3 r0 r1 hB3 k3 => ?_⟩
    have ep := k3.keep _ _ ea (nin1 npb)
    obtain ⟨v, _, hv⟩ := at_ints (xs := [0, 0, 1, 7, 1000000000000]) r0 r1
    refine v_ixL (SqL.of ep) hv ?_
    have kk : Kp [] H H3 := Kp.box (k1.trans ka) nb k3
    walk_at "go"
    refine r_cut (fun σ' H' => ∃ sl : Int, σ' = [some (.ref sc), some (.int place), some (.ref nl), some (.ref d), some (.bl fails), some (.ref b), some (.int sl), none, none, none, none] ∧ H' = H3) ?_ ?_
    · walk_at "go"
      refine ifb (fun e => ?_) (fun e => ?_)
      · walk_at "go"
        exact ⟨_, rfl, rfl⟩
      · walk_at "go"
        exact ⟨_, rfl, rfl⟩
    · rintro σ' H' ⟨sl, rfl, rfl⟩
      walk_at "go"
      refine ⟨szOk (by simp), fun ad nad => ?_⟩
      generalize q4 : upd H' ad _ = H4
      obtain ⟨k4, e4⟩ := newQ nad q4
      have nadH := kk.free _ nad
      have nadb := hB3.ne nad
      have kk4 := kk.trans k4
      walk_at "go"
      refine v_sortS (SqL.of (kk4.at0 hnl)) (fun so nso => ?_)
      generalize q5 : upd H4 so _ = H5
      obtain ⟨k5, e5⟩ := newQ nso q5
      have kk5 := kk4.trans k5
      have hB5 := (hB3.kp0 k4).kp0 k5
      have nsob := (hB3.kp0 k4).ne nso
      have hsl : (ns.mergeSort leS).length = ns.length := List.length_mergeSort ..
      have nsoa : so ≠ ad := fun z => by rw [z, e4] at nso; cases nso
      have nsoH := kk4.free _ nso
      obtain ⟨os, hos⟩ : ∃ os, ns.mergeSort leS = os := ⟨_, rfl⟩
      have hmo : ∀ n ∈ os, n ∈ ns := fun n hn => by rw [← hos] at hn; exact List.mem_mergeSort.mp hn
      rw [hos] at e5 hsl
      refine lpL (SqL.of e5) (fun i σ H' => ∃ (v8 v9 : Option V) (as : Ad) (ys : List V), σ = [some (.ref sc), some (.int place), some (.ref nl), some (.ref d), some (.bl fails), some (.ref b), some (.int sl), some (.ref ad), v8, v9, none] ∧ Kp [] H H' ∧ BoxAt H' b ∧ H' so = some (.lst (os.map V.str)) ∧ H' ad = some (.lst ys) ∧ FzAll H' ys (as.map prD) ∧
        as.length ≤ i ∧ (∀ p ∈ as, Sm p.2 ∧ p.1 ∈ ns)) ?_ ?_ ?_ ?_
      · exact ⟨none, none, [], [], rfl, kk5, hB5, e5, k5.at0 e4, .nil, Nat.le_refl _, fun _ h => nomatch h⟩
      · rintro i σ H' _ ⟨_, _, _, _, _, _, _, hso, _⟩
        exact SqL.of hso
      · rintro i x σ H6 hx ⟨v8, v9, as, ys, rfl, k6, hB6, hso, had, hys, hlen, hall⟩
        obtain ⟨n, hn, rfl⟩ := str_get hx
        have hi := (List.getElem?_eq_some_iff.mp hn).1
        walk_at "go"
        refine ⟨szOk (by simp), fun p np => ?_⟩
        generalize q7 : upd H6 p _ = H7
        obtain ⟨k7, e7⟩ := newQ np q7
        have npb := hB6.ne np
        walk_at "go"
        refine ⟨b, _, rfl, hB6.kp0 k7, by decide, by decide, fun r H8 r0 r1 hB8 k8 => ?_⟩
        have ep := k8.keep _ _ e7 (nin1 npb)
        obtain ⟨u, hu, hv⟩ := at_ints (xs := [0, 1, -1, 2, -2, 3, -5, 0, 100]) r0 r1
        refine v_ixL (SqL.of ep) hv ?_
        have smu : Sm u := by
          have : ∀ u ∈ ([0, 1, -1, 2, -2, 3, -5, 0, 100] : List Int), u.natAbs < 2 ^ 200 := by decide
          exact this u hu
        have kk8 : Kp [] H H8 := Kp.box (k6.trans k7) nb k8
        have hso8 := k8.keep _ _ (k7.at0 hso) (nin1 nsob)
        have had8 := k8.keep _ _ (k7.at0 had) (nin1 nadb)
        have hys8 := (hys.kp0 k7).kp k8 (hB6.kp0 k7).nt
        walk_at "go"
        refine r_cut (fun σ' H' => ∃ u : Int, σ' = [some (.ref sc), some (.int place), some (.ref nl), some (.ref d), some (.bl fails), some (.ref b), some (.int sl), some (.ref ad), some (.str n), some (.int u), none] ∧ Sm u ∧ Kp [] H H' ∧ BoxAt H' b ∧ H' so = some (.lst (os.map V.str)) ∧ H' ad = some (.lst ys) ∧ FzAll H' ys (as.map prD)) ?_ ?_
        · walk_at "go"
          refine ifd (fun e => ?_) (fun e => ?_)
          · walk_at "go"
            refine ⟨b, rfl, hB8, fun r H9 sr hB9 k9 => ?_⟩
            walk_at "go"
            exact ⟨_, rfl, sr.sm, Kp.box kk8 nb k9, hB9, k9.keep _ _ hso8 (nin1 nsob), k9.keep _ _ had8 (nin1 nadb), hys8.kp k9 hB8.nt⟩
          · walk_at "go"
            exact ⟨_, rfl, smu, kk8, hB8, hso8, had8, hys8⟩
        · rintro σ' H9 ⟨u, rfl, smu, kk9, hB9, hso9, had9, hys9⟩
          walk_at "go"
          refine ifn (fun e => ?_) (fun e => ?_)
          · walk_at "go"
            refine ⟨szOk (by simp), fun t nt => ?_⟩
            obtain ⟨g1, g2⟩ := hys9.add nt had9 (.cons (.str n) (.cons (.int u) .nil))
            have hyl := hys9.len
            simp only [List.length_map] at hyl
            walk_at "go"
            refine v_append g1 (szLt (by omega)) ?_
            refine ⟨_, _, as ++ [(n, u)], _, rfl, (kk9.trans (Kp.new nt)).own nadH, (hB9.kp0 (Kp.new nt)).put nadb, ?_, upd_same, ?_, ?_, ?_⟩
            · rw [upd_ne nsoa]
              exact (Kp.new (M := []) nt).at0 hso9
            · rw [List.map_append]
              exact g2
            · rw [List.length_append]
              show as.length + 1 ≤ i + 1
              omega
            · intro q hq
              rcases List.mem_append.mp hq with hq | hq
              · exact hall q hq
              · have : q = (n, u) := by simpa using hq
                rw [this]
                exact ⟨smu, hmo n (List.mem_of_getElem? hn)⟩
          · walk_at "go"
            exact ⟨_, _, as, ys, rfl, kk9, hB9, hso9, had9, hys9, by omega, hall⟩
      · rintro σ H6 ⟨v8, v9, as, ys, rfl, k6, hB6, hso, had, hys, hlen, hall⟩
        rw [List.length_map] at hlen
        have hsm : SmA as := ⟨fun p hp => (hall p hp).1, by omega⟩
        walk_at "go"
        refine v_tupleL (SqL.of had) (fun t1 n1 => ?_)
        generalize q7 : upd H6 t1 _ = H7
        obtain ⟨k7, e7⟩ := newQ n1 q7
        walk_at "go"
        refine ⟨szOk (by simp), fun t2 n2 => ?_⟩
        generalize q8 : upd H7 t2 _ = H8
        obtain ⟨k8, e8⟩ := newQ n2 q8
        have f8 : Fz H8 (.ref t1) (adD as) := .tup (k8.at0 e7) ((hys.kp0 k7).kp0 k8)
        have kk8 := (k6.trans k7).trans k8
        walk_at "go"
        refine ⟨.ref t2, d, (as, 0), tb, rfl, Fz.mk2 e8 f8 (.int 0), hsm, ht.kp0 kk8, ?_⟩
        walk_at "go"
        refine ⟨szOk (by simp), fun t3 n3 => ?_⟩
        refine k _ (as, vs as (val tb) + sl) _ (kk8.trans (Kp.new n3)) ?_ hsm (fun p hp => (hall p hp).2)
        exact Fz.mk2 upd_same (f8.kp0 (Kp.new n3)) (.int _)
end
end K11

namespace K11
open PySem PySem.Spec L2 KV
local macro_rules | `(tactic| walk_at "side") => `(tactic| first | assumption | omega | decide)
local macro_rules | `(tactic| walk_at "at") => `(tactic| first | assumption | exact upd_same | (rw [upd_ne (by assumption)]; assumption))
local macro_rules | `(tactic| walk_at "st") => `(tactic| first
  | with_reducible refine r_seq ?_ | with_reducible refine r_asg ?_ | with_reducible refine r_ret ?_ | with_reducible refine r_ifS ?_ | with_reducible refine r_drop ?_
  | ((with_reducible refine r_var (v := ?v) ?e ?_); (case e => exact rfl))
  | with_reducible refine r_c ?_ | with_reducible refine r_op ?_ | with_reducible refine r_un ?_ | with_reducible refine r_name ?_ | with_reducible refine r_next ?_ | with_reducible refine r_brk ?_ | with_reducible refine r_cont ?_
  | with_reducible refine r_cb ?_ | with_reducible refine r_cons ?_ | with_reducible refine r_nil ?_ | with_reducible refine r_call ?_ | with_reducible refine r_test ?_ | with_reducible refine r_tru ?_ | with_reducible refine r_tB ?_
  | with_reducible refine r_exB ?_ | with_reducible refine r_truB ?_ | with_reducible refine r_truI ?_ | with_reducible refine r_and ?_ | with_reducible refine r_or ?_ | with_reducible refine r_not ?_ | with_reducible refine r_ifE ?_
  | with_reducible refine r_andV ?_ | with_reducible refine r_orV ?_ | with_reducible refine r_notV ?_ | with_reducible refine r_gsub ?_ | with_reducible refine r_tup ?_ | with_reducible refine r_lst ?_
  | with_reducible refine r_forL ?_ | with_reducible refine r_forT ?_ | with_reducible refine r_forR ?_ | with_reducible refine r_lcL ?_ | with_reducible refine r_lcT ?_ | with_reducible refine r_lcR ?_ | with_reducible refine r_yes ?_
  | with_reducible refine v_add ?_ | with_reducible refine v_sub ?_ | with_reducible refine v_lt ?_ | with_reducible refine v_le ?_ | with_reducible refine v_gt ?_ | with_reducible refine v_ge ?_ | with_reducible refine v_neg ?_
  | with_reducible refine v_eqI ?_ | with_reducible refine v_neI ?_ | with_reducible refine v_eqB ?_ | with_reducible refine v_int ?_ | with_reducible refine v_max ?_ | with_reducible refine v_min ?_ | with_reducible refine v_abs ?_
  | ((with_reducible refine v_mulL ?s ?_); (case s => walk_at "side"))
  | ((with_reducible refine v_mulR ?s ?_); (case s => walk_at "side"))
  | ((with_reducible refine v_mod ?s ?_); (case s => walk_at "side"))
  | ((with_reducible refine v_div ?s ?t ?_); (case s => walk_at "side"); (case t => walk_at "side"))
  | ((with_reducible refine v_powE (r := ?r) ?s ?e ?_); (case s => exact (by decide)); (case e => (conv => lhs; simp only [Int.reduceToNat, Int.reducePow])))
  | ((with_reducible refine v_ixL (xs := ?xs) (v := ?v) (SqL.of ?s) ?t ?_); (case s => walk_at "at"); (case t => exact rfl))
  | ((with_reducible refine v_ixT (xs := ?xs) (v := ?v) (SqT.of ?s) ?t ?_); (case s => walk_at "at"); (case t => exact rfl))
  | with_reducible refine r_dget2 ?_ | with_reducible refine r_dget ?_ | with_reducible refine r_dput ?_ | with_reducible refine r_dcT ?_ | with_reducible refine r_revL ?_ | with_reducible refine v_ltS ?_
  | ((with_reducible refine v_d2 (kvs := ?kvs) ?s ?_); (case s => walk_at "at")) | ((with_reducible refine v_dg2S (kvs := ?kvs) ?s ?_); (case s => walk_at "at"))
  | with_reducible refine r_gcons ?_ | with_reducible refine r_gnil ?_ | with_reducible refine r_slice ?_ | with_reducible refine r_noP ?_ | with_reducible refine r_part ?_ | with_reducible refine r_exI ?_ | with_reducible refine r_lstRg ?_ | with_reducible refine r_rg1 ?_ | with_reducible refine iteT ?_ | with_reducible refine iteF ?_ | with_reducible refine iteNF ?_ | with_reducible refine iteNT ?_
  | with_reducible refine r_bm ?_ | ((with_reducible refine r_bmL (xs := ?xs) ?s ?_); (case s => walk_at "at"))
  | ((with_reducible refine v_lenT (xs := ?xs) (SqT.of ?s) ?_); (case s => walk_at "at"))
  | ((with_reducible refine v_lenL (xs := ?xs) (SqL.of ?s) ?_); (case s => walk_at "at"))
  | ((with_reducible refine v_setL (xs := ?xs) (n := ?n) ?s ?t ?_); (case s => walk_at "at"); (case t => exact rfl)))
local macro_rules | `(tactic| walk_at "go") => `(tactic| repeat walk_at "st")

section
variable {P : Program} {w : World} {K : PySem.W.Frag} {mg : Str → Option Value} {base : Heap}
def OverA (ns : List Str) (a : List Row) : Prop := ∀ r ∈ a, ∀ p ∈ r.1, p.1 ∈ ns
def spClause (K : PySem.W.Frag) : Sp := fun us H Q _ => ∃ (sc nl d : Addr) (place : Int) (fails : Bool) (xs : List Int) (ns : List Str) (tb : Ad), us = [.ref sc, .int place, .ref nl, .ref d, .bl fails] ∧ SqF K H sc (xs.map V.int) ∧ 0 ≤ place ∧ place ≤ 100 ∧ H nl = some (.lst (ns.map V.str)) ∧ ns.length ≤ 10 ∧ TbAt H d tb ∧
  ∀ x c H', Kp [] H H' → Fz H' x (clD c) → SmC c → (∀ a ∈ c, OverA ns a) → Q x H'
theorem ok_clause (D : DefAt K mg "_law_clause" s_clause ["script", "place", "names", "table", "fails"]) (T : Bt mg) (C_box : Cal P w K mg base 1 "_law_box" ["script", "place"] (spBox K)) (C_take : Cal P w K mg base 1 "_law_take" ["box", "many"] spTake) (C_row : Cal P w K mg base 3 "_law_row" ["script", "place", "names", "table", "fails"] (spRow K)) : Cal P w K mg base 4 "_law_clause" ["script", "place", "names", "table", "fails"] (spClause K) := by
  refine D.mk' sc_clause (fun vs H Q E h => ?_) (fun f cdv A outer s H vs Q E hr h => ?_)
  · obtain ⟨_, _, _, _, _, _, _, _, rfl, _⟩ := h
    rfl
  · obtain ⟨sc, nl, d, place, fails, xs, ns, tb, rfl, hS, p0, p1, hnl, hnn, ht, k⟩ := h
    refine ⟨_, (pss_cons (ps_set (i := 5) sc_clause.nd rfl (Or.inl rfl) (p_cal C_box hr (pa_cons (pv 0) (pa_cons (pe_op o_add pe_int (pv 1)) pa_nil))))
      (pss_cons (ps_set (i := 6) sc_clause.nd rfl (Or.inl rfl) (pe_ix ix_list (pe_lst (pa_cons pe_int (pa_cons pe_int (pa_cons pe_int (pa_cons pe_int (pa_cons pe_int (pa_cons pe_int pa_nil))))))) (p_cal C_take hr (pa_cons (pv 5) (pa_cons pe_int pa_nil))) (fun _ _ => rfl)))
      (pss_cons (ps_set (i := 7) sc_clause.nd rfl (Or.inl rfl) (p_cal C_take hr (pa_cons (pv 5) (pa_cons (pe_op o_add (pv 6) pe_int) pa_nil))))
      (pss_cons (ps_set (i := 8) sc_clause.nd rfl (Or.inl rfl) (pe_lst pa_nil))
      (pss_cons (ps_for PassesOwn.never rfl (pi_range1 (by rfl) T.m_range (pa_cons (pv 6) pa_nil)) (pg_name (i := 9) sc_clause.nd rfl (Or.inl rfl)) (pss_cons (ps_set (i := 10) sc_clause.nd rfl (Or.inl rfl) (p_cal C_take hr (pa_cons (pv 5) (pa_cons pe_int pa_nil))))
      (pss_cons (ps_set (i := 11) sc_clause.nd rfl (Or.inr rfl) (p_cal C_take hr (pa_cons (pv 5) (pa_cons (pe_op o_add (pv 10) pe_int) pa_nil))))
      (Evl.pss_cut (ps_set (i := 12) sc_clause.nd rfl (Or.inr rfl) (pe_or (pv 4) (pe_one (pe_and (pe_cmpR (o_ne hr.units) (pv 9) (pv 7) (nomark _)) (pe_one (pe_cmpR (o_ne hr.units) (p_cal C_take hr (pa_cons (pv 5) (pa_cons pe_int pa_nil))) pe_int (nomark _)))))))
      (Evl.pss_cut (ps_if (PW.pt (pw_and (p_tru (pv 12) (by intro _; rfl)) (pw_and1 (pt_cmpR (o_eq hr.units) (pv 10) pe_int (nomark _))))) (pss_one (ps_set (i := 10) sc_clause.nd rfl (Or.inl rfl) pe_int)) pss_nil)
      (Evl.pss_cut (ps_if (PW.pt (pw_and (p_tru (pv 12) (by intro _; rfl)) (pw_and1 (pt_cmpR o_ge (pv 11) (pv 10) (nomark _))))) (pss_one (ps_set (i := 11) sc_clause.nd rfl (Or.inr rfl) pe_int)) pss_nil)
      (pss_cons (ps_set (i := 13) sc_clause.nd rfl (Or.inr rfl) (pe_op o_add (pe_op o_add pe_int (pe_op o_mul pe_int (pv 1))) (pe_op o_mul pe_int (pv 9))))
      (pss_cons (ps_setLc (i := 14) (own := [("j", 15)]) (g := gName 15) (tt := tYes) rfl sc_clause.nd rfl rfl (sw_true rfl rfl rfl (by decide +kernel)) (pi_range1 (by rfl) T.m_range (pa_cons (pv 10) pa_nil)) (blkOk_by (own := [("j", 15)]) (N := ["script", "place", "names", "table", "fails", "box", "many", "good", "alternatives", "k", "count", "wrong", "bad", "first", "rows", "j"]) (sc := defScope s_clause) (by decide +kernel)) (fun _ _ _ _ _ => (pg_name (i := 15) sc_clause.nd rfl (Or.inl rfl))) (fun _ _ _ _ _ => pts_nil) (fun _ _ _ _ _ => (p_cal C_row hr (pa_cons (pv 0) (pa_cons (pe_op o_add (pv 13) (pv 15)) (pa_cons (pv 2) (pa_cons (pv 3) (pa_cons (pe_and (pv 12) (pe_one (pe_cmpR (eq_K (K := K) rfl hr.units) (pv 11) (pv 15) (nomark _)))) pa_nil))))))))
      (pss_one (ps_expr (pe_bm PySem.F.plainAttrs_list PySem.F.slot_list_append PySem.F.type_list_append mt_append (pv 8) (pa_cons (pe_callTy c_tuple (by rfl) T.m_tuple bt_tuple (pa_cons (pv 14) pa_nil)) pa_nil))))))))))))
      (pss_one (ps_ret (pe_callTy c_tuple (by rfl) T.m_tuple bt_tuple (pa_cons (pv 8) pa_nil))))))))), ?_⟩
    walk_at "go"
    refine ⟨sc, 6 + place, xs, rfl, hS, by omega, by omega, fun b H1 k1 nb hB1 => ?_⟩
    walk_at "go"
    refine ⟨szOk (by simp), fun p np => ?_⟩
    generalize q1 : upd H1 p _ = H2
    obtain ⟨ka, ea⟩ := newQ np q1
    have npb := hB1.ne np
    walk_at "go"
    refine ⟨b, _, rfl, hB1.kp0 ka, by decide, by decide, fun r H3 r0 r1 hB3 k3 => ?_⟩
    have ep := k3.keep _ _ ea (nin1 npb)
    obtain ⟨many, hmm, hv⟩ := at_ints (xs := [1, 2, 3, 1, 2, 0]) r0 r1
    have m0 : 0 ≤ many ∧ many ≤ 3 := by
      have : ∀ u ∈ ([1, 2, 3, 1, 2, 0] : List Int), 0 ≤ u ∧ u ≤ 3 := by decide
      exact this _ hmm
    refine v_ixL (SqL.of ep) hv ?_
    have kk : Kp [] H H3 := Kp.box (k1.trans ka) nb k3
    walk_at "go"
    refine ⟨b, _, rfl, hB3, by omega, by omega, fun good H4 g0 g1 hB4 k4 => ?_⟩
    have kk4 := Kp.box kk nb k4
    walk_at "go"
    refine ⟨szOk (by simp), fun al nal => ?_⟩
    generalize q5 : upd H4 al _ = H5
    obtain ⟨k5, e5⟩ := newQ nal q5
    have nalH := kk4.free _ nal
    have nalb := hB4.ne nal
    walk_at "go"
    refine lpR (by omega) (by omega) (fun i σ H' => ∃ (v9 v10 v11 v12 v13 v14 v15 : Option V) (c : List (List Row)) (ys : List V), σ = [some (.ref sc), some (.int place), some (.ref nl), some (.ref d), some (.bl fails), some (.ref b), some (.int many), some (.int good), some (.ref al), v9, v10, v11, v12, v13, v14, none] ∧ Kp [] H H' ∧ BoxAt H' b ∧ H' al = some (.lst ys) ∧ FzAll H' ys (c.map rowsD) ∧
        c.length ≤ i ∧ (∀ a ∈ c, SmR a ∧ OverA ns a)) ?_ ?_ ?_
    · exact ⟨none, none, none, none, none, none, none, [], [], rfl, kk4.trans k5, hB4.kp0 k5, e5, .nil, Nat.le_refl _, fun _ h => nomatch h⟩
    · rintro i σ H6 hi ⟨v9, v10, v11, v12, v13, v14, v15, c, ys, rfl, k6, hB6, hal, hys, hlen, hall⟩
      walk_at "go"
      refine ⟨b, _, rfl, hB6, by decide, by decide, fun cnt H7 c0 c1 hB7 k7 => ?_⟩
      have kk7 := Kp.box k6 nb k7
      have hal7 := k7.keep _ _ hal (nin1 nalb)
      have hys7 := hys.kp k7 hB6.nt
      walk_at "go"
      refine ⟨b, _, rfl, hB7, by omega, by omega, fun wr H8 w0 w1 hB8 k8 => ?_⟩
      have kk8 := Kp.box kk7 nb k8
      have hal8 := k8.keep _ _ hal7 (nin1 nalb)
      have hys8 := hys7.kp k8 hB7.nt
      walk_at "go"
      refine r_cut (fun σ' H' => ∃ bad : Bool, σ' = [some (.ref sc), some (.int place), some (.ref nl), some (.ref d), some (.bl fails), some (.ref b), some (.int many), some (.int good), some (.ref al), some (.int i), some (.int cnt), some (.int wr), some (.bl bad), v13, v14, none] ∧ Kp [] H H' ∧ BoxAt H' b ∧ H' al = some (.lst ys) ∧ FzAll H' ys (c.map rowsD)) ?_ ?_
      · walk_at "go"
        refine ifb (fun e => ?_) (fun e => ?_)
        · walk_at "go"
          exact ⟨true, rfl, kk8, hB8, hal8, hys8⟩
        · walk_at "go"
          refine ifn (fun e => ?_) (fun e => ?_)
          · walk_at "go"
            refine ⟨b, _, rfl, hB8, by decide, by decide, fun u H9 _ _ hB9 k9 => ?_⟩
            walk_at "go"
            exact ⟨_, rfl, Kp.box kk8 nb k9, hB9, k9.keep _ _ hal8 (nin1 nalb), hys8.kp k9 hB8.nt⟩
          · walk_at "go"
            exact ⟨false, rfl, kk8, hB8, hal8, hys8⟩
      · rintro σ' H9 ⟨bad, rfl, kk9, hB9, hal9, hys9⟩
        refine r_cut (fun σ' H' => ∃ cnt : Int, 0 ≤ cnt ∧ cnt ≤ 3 ∧ σ' = [some (.ref sc), some (.int place), some (.ref nl), some (.ref d), some (.bl fails), some (.ref b), some (.int many), some (.int good), some (.ref al), some (.int i), some (.int cnt), some (.int wr), some (.bl bad), v13, v14, none] ∧ H' = H9) ?_ ?_
        · walk_at "go"
          refine ifb (fun e => ?_) (fun e => ?_)
          · walk_at "go"
            refine ifd (fun e => ?_) (fun e => ?_)
            · walk_at "go"
              exact ⟨1, by decide, by decide, rfl, rfl⟩
            · walk_at "go"
              exact ⟨cnt, c0, by omega, rfl, rfl⟩
          · walk_at "go"
            exact ⟨cnt, c0, by omega, rfl, rfl⟩
        · rintro σ' H' ⟨cnt, c0, c1, rfl, rfl⟩
          refine r_cut (fun σ' H2 => ∃ wr : Int, σ' = [some (.ref sc), some (.int place), some (.ref nl), some (.ref d), some (.bl fails), some (.ref b), some (.int many), some (.int good), some (.ref al), some (.int i), some (.int cnt), some (.int wr), some (.bl bad), v13, v14, none] ∧ H2 = H') ?_ ?_
          · walk_at "go"
            refine ifb (fun e => ?_) (fun e => ?_)
            · walk_at "go"
              refine ifd (fun e => ?_) (fun e => ?_)
              · walk_at "go"
                exact ⟨0, rfl, rfl⟩
              · walk_at "go"
                exact ⟨wr, rfl, rfl⟩
            · walk_at "go"
              exact ⟨wr, rfl, rfl⟩
          · rintro σ' H2 ⟨wr, rfl, rfl⟩
            walk_at "go"
            refine lcR (by omega) (by omega) (fun D j H' => Kp [] H2 H' ∧ H2 D = none ∧ ∃ (zs : List V) (rs : List Row), H' D = some (.lst zs) ∧ FzAll H' zs (rs.map rowD) ∧ rs.length = j ∧ (∀ r ∈ rs, SmA r.1 ∧ ∀ p ∈ r.1, p.1 ∈ ns)) ?_ ?_ ?_
            · exact fun D nD => ⟨Kp.new nD, nD, [], [], upd_same, .nil, rfl, fun _ h => nomatch h⟩
            · rintro D j H3 hj ⟨k3, nD, zs, rs, hD, hzs, hrl, hrs⟩
              have kk3 := kk9.trans k3
              walk_at "go"
              refine ⟨rfl, ?_⟩
              walk_at "go"
              have fin : ∀ x r H4, Kp [] H3 H4 → Fz H4 x (rowD r) → SmA r.1 → (∀ p ∈ r.1, p.1 ∈ ns) → ∃ acc, H4 D = some (.lst acc) ∧ acc.length < sizeLine ∧ (Kp [] H2 (upd H4 D (.lst (acc ++ [x]))) ∧ H2 D = none ∧ ∃ (zs : List V) (rs : List Row), (upd H4 D (.lst (acc ++ [x]))) D = some (.lst zs) ∧ FzAll (upd H4 D (.lst (acc ++ [x]))) zs (rs.map rowD) ∧ rs.length = j + 1 ∧ (∀ r ∈ rs, SmA r.1 ∧ ∀ p ∈ r.1, p.1 ∈ ns)) := by
                intro x r H4 k4 hx hsm hov
                have hD4 := k4.at0 hD
                have hzl := hzs.len
                rw [List.length_map] at hzl
                refine ⟨zs, hD4, szLt (by omega), (k3.trans k4).own nD, nD, zs ++ [x], rs ++ [r], upd_same, ?_, by rw [List.length_append, hrl]; rfl, ?_⟩
                · rw [List.map_append]
                  exact ((hzs.kp0 k4).snoc hx).put hD4 (by intro z q; cases q)
                · intro q hq
                  rcases List.mem_append.mp hq with hq | hq
                  · exact hrs q hq
                  · have : q = r := by simpa using hq
                    rw [this]
                    exact ⟨hsm, hov⟩
              refine ifb (fun e => ?_) (fun e => ?_)
              · walk_at "go"
                exact ⟨sc, nl, d, _, _, xs, ns, tb, rfl, hS.kp0 kk3, by omega, by omega, kk3.at0 hnl, hnn, ht.kp0 kk3, fin⟩
              · walk_at "go"
                exact ⟨sc, nl, d, _, _, xs, ns, tb, rfl, hS.kp0 kk3, by omega, by omega, kk3.at0 hnl, hnn, ht.kp0 kk3, fin⟩
            · rintro D H3 ⟨k3, nD, zs, rs, hD, hzs, hrl, hrs⟩
              have hal3 := k3.at0 hal9
              walk_at "go"
              refine v_tupleL (SqL.of hD) (fun t nt => ?_)
              obtain ⟨g1, g2⟩ := (hys9.kp0 k3).add nt hal3 hzs
              have hyl := hys9.len
              rw [List.length_map] at hyl
              walk_at "go"
              refine v_append g1 (szLt (by omega)) ?_
              refine ⟨_, _, _, _, _, _, none, c ++ [rs], _, rfl, ((kk9.trans k3).trans (Kp.new nt)).own nalH, ((hB9.kp0 k3).kp0 (Kp.new nt)).put nalb, upd_same, by rw [List.map_append]; exact g2, by rw [List.length_append]; show c.length + 1 ≤ i + 1; omega, ?_⟩
              intro a ha
              rcases List.mem_append.mp ha with ha | ha
              · exact hall a ha
              · have : a = rs := by simpa using ha
                rw [this]
                exact ⟨⟨fun r hr => (hrs r hr).1, by omega⟩, fun r hr => (hrs r hr).2⟩
    · rintro σ H6 ⟨v9, v10, v11, v12, v13, v14, v15, c, ys, rfl, k6, hB6, hal, hys, hlen, hall⟩
      walk_at "go"
      refine v_tupleL (SqL.of hal) (fun t1 n1 => ?_)
      exact k _ c _ (k6.trans (Kp.new n1)) (.tup upd_same (hys.kp0 (Kp.new n1))) ⟨fun a ha => (hall a ha).1, by omega⟩ fun a ha => (hall a ha).2
end
end K11

namespace K11
open PySem PySem.Spec L2 KV
local macro_rules | `(tactic| walk_at "side") => `(tactic| first | assumption | omega | decide)
local macro_rules | `(tactic| walk_at "at") => `(tactic| first | assumption | exact upd_same | (rw [upd_ne (by assumption)]; assumption))
local macro_rules | `(tactic| walk_at "st") => `(tactic| first
  | with_reducible refine r_seq ?_ | with_reducible refine r_asg ?_ | with_reducible refine r_ret ?_ | with_reducible refine r_ifS ?_ | with_reducible refine r_drop ?_
  | ((with_reducible refine r_var (v := ?v) ?e ?_); (case e => exact rfl))
  | with_reducible refine r_c ?_ | with_reducible refine r_op ?_ | with_reducible refine r_un ?_ | with_reducible refine r_name ?_ | with_reducible refine r_next ?_ | with_reducible refine r_brk ?_ | with_reducible refine r_cont ?_
  | with_reducible refine r_cb ?_ | with_reducible refine r_cons ?_ | with_reducible refine r_nil ?_ | with_reducible refine r_call ?_ | with_reducible refine r_test ?_ | with_reducible refine r_tru ?_ | with_reducible refine r_tB ?_
  | with_reducible refine r_exB ?_ | with_reducible refine r_truB ?_ | with_reducible refine r_truI ?_ | with_reducible refine r_and ?_ | with_reducible refine r_or ?_ | with_reducible refine r_not ?_ | with_reducible refine r_ifE ?_
  | with_reducible refine r_andV ?_ | with_reducible refine r_orV ?_ | with_reducible refine r_notV ?_ | with_reducible refine r_gsub ?_ | with_reducible refine r_tup ?_ | with_reducible refine r_lst ?_
  | with_reducible refine r_forL ?_ | with_reducible refine r_forT ?_ | with_reducible refine r_forR ?_ | with_reducible refine r_lcL ?_ | with_reducible refine r_lcT ?_ | with_reducible refine r_lcR ?_ | with_reducible refine r_yes ?_
  | with_reducible refine v_add ?_ | with_reducible refine v_sub ?_ | with_reducible refine v_lt ?_ | with_reducible refine v_le ?_ | with_reducible refine v_gt ?_ | with_reducible refine v_ge ?_ | with_reducible refine v_neg ?_
  | with_reducible refine v_eqI ?_ | with_reducible refine v_neI ?_ | with_reducible refine v_eqB ?_ | with_reducible refine v_int ?_ | with_reducible refine v_max ?_ | with_reducible refine v_min ?_ | with_reducible refine v_abs ?_
  | ((with_reducible refine v_mulL ?s ?_); (case s => walk_at "side"))
  | ((with_reducible refine v_mulR ?s ?_); (case s => walk_at "side"))
  | ((with_reducible refine v_mod ?s ?_); (case s => walk_at "side"))
  | ((with_reducible refine v_div ?s ?t ?_); (case s => walk_at "side"); (case t => walk_at "side"))
  | ((with_reducible refine v_powE (r := ?r) ?s ?e ?_); (case s => exact (by decide)); (case e => (conv => lhs; simp only [Int.reduceToNat, Int.reducePow])))
  | ((with_reducible refine v_ixL (xs := ?xs) (v := ?v) (SqL.of ?s) ?t ?_); (case s => walk_at "at"); (case t => exact rfl))
  | ((with_reducible refine v_ixT (xs := ?xs) (v := ?v) (SqT.of ?s) ?t ?_); (case s => walk_at "at"); (case t => exact rfl))
  | with_reducible refine r_dget2 ?_ | with_reducible refine r_dget ?_ | with_reducible refine r_dput ?_ | with_reducible refine r_dcT ?_ | with_reducible refine r_revL ?_ | with_reducible refine v_ltS ?_
  | ((with_reducible refine v_d2 (kvs := ?kvs) ?s ?_); (case s => walk_at "at")) | ((with_reducible refine v_dg2S (kvs := ?kvs) ?s ?_); (case s => walk_at "at"))
  | with_reducible refine r_gcons ?_ | with_reducible refine r_gnil ?_ | with_reducible refine r_slice ?_ | with_reducible refine r_noP ?_ | with_reducible refine r_part ?_ | with_reducible refine r_exI ?_ | with_reducible refine r_lstRg ?_ | with_reducible refine r_rg1 ?_ | with_reducible refine iteT ?_ | with_reducible refine iteF ?_ | with_reducible refine iteNF ?_ | with_reducible refine iteNT ?_
  | with_reducible refine r_bm ?_ | ((with_reducible refine r_bmL (xs := ?xs) ?s ?_); (case s => walk_at "at"))
  | ((with_reducible refine v_lenT (xs := ?xs) (SqT.of ?s) ?_); (case s => walk_at "at"))
  | ((with_reducible refine v_lenL (xs := ?xs) (SqL.of ?s) ?_); (case s => walk_at "at"))
  | ((with_reducible refine v_setL (xs := ?xs) (n := ?n) ?s ?t ?_); (case s => walk_at "at"); (case t => exact rfl)))
local macro_rules | `(tactic| walk_at "go") => `(tactic| repeat walk_at "st")

section
variable {P : Program} {w : World} {K : PySem.W.Frag} {mg : Str → Option Value} {base : Heap}
theorem tK_keys (tb : Ad) : (tK tb).map (·.1) = (tb.map (·.1)).map Sum.inr := by
  unfold tK
  rw [List.map_map, List.map_map]
  rfl
theorem look_snoc_ne {tb : Ad} {n m : Str} {v : Int} (h : n ≠ m) : look (tb ++ [(n, v)]) m = look tb m := by
  rw [look_app, if_neg h]
  cases look tb m <;> rfl
theorem look_snoc_self {tb : Ad} {n : Str} {v : Int} (h : n ∉ tb.map (·.1)) : look (tb ++ [(n, v)]) n = some v := by
  rw [look_app, look_none.mpr h]
  simp
theorem take_not_mem {α : Type} {xs : List α} (nd : xs.Nodup) {i : Nat} {x : α} (h : xs[i]? = some x) : x ∉ xs.take i := by
  intro hm
  have h2 : (xs.take i ++ [x]).Nodup := by rw [← take_get h]; exact nd.sublist (List.take_sublist _ _)
  exact (List.nodup_append.mp h2).2.2 x hm x (by simp) rfl
theorem snoc_nodup {tb : Ad} {n : Str} {v : Int} (h : (tb.map (·.1)).Nodup) (hn : n ∉ tb.map (·.1)) : ((tb ++ [(n, v)]).map (·.1)).Nodup := by
  rw [List.map_append, List.nodup_append]
  refine ⟨h, by simp, fun a ha b hb e => ?_⟩
  have : b = n := by simpa using hb
  subst this; subst e
  exact hn ha
theorem mem_take_snoc {α : Type} {xs : List α} {i : Nat} {x y : α} (h : xs[i]? = some x) (hy : y ∈ xs.take (i + 1)) : y ∈ xs.take i ∨ y = x := by
  rw [take_get h] at hy
  rcases List.mem_append.mp hy with hy | hy
  · exact .inl hy
  · exact .inr (by simpa using hy)
def spModel : Sp := fun us H Q _ => ∃ (d b : Addr) (tb : Ad), us = [.ref d, .ref b] ∧ TbAt H d tb ∧ (tb.map (·.1)).Nodup ∧ tb.length < 60 ∧ BoxAt H b ∧
  ∀ x ps H', BoxAt H' b → Kp [b] H H' → Fz H' x (adD ps) → (ps.map (·.1)).Nodup → (∀ n, val ps n = val tb n) → SmA ps → Q x H'
theorem ok_model (D : DefAt K mg "_law_model" s_model ["table", "box"]) (T : Bt mg) (C_take : Cal P w K mg base 1 "_law_take" ["box", "many"] spTake) : Cal P w K mg base 2 "_law_model" ["table", "box"] spModel := by
  refine D.mk' sc_model (fun vs H Q E h => ?_) (fun f cdv A outer s H vs Q E hr h => ?_)
  · obtain ⟨_, _, _, rfl, _⟩ := h
    rfl
  · obtain ⟨d, b, tb, rfl, ht, nd, hlen, hB, k⟩ := h
    refine ⟨_, (pss_cons (ps_set (i := 2) sc_model.nd rfl (Or.inl rfl) (pe_lst pa_nil))
      (pss_cons (ps_for PassesOwn.never rfl (pi_list (pe_callB (c_sortDk rfl) (by rfl) T.m_sorted bt_sorted (pa_cons (pv 0) pa_nil))) (pg_name (i := 3) sc_model.nd rfl (Or.inl rfl)) (pss_one (ps_if (PW.pt (pw_or (pt_cmpR (o_ne hr.units) (pe_dget (hu_of hr) (pv 0) (pv 3) (fun _ _ => rfl)) pe_int (nomark _)) (pw_or1 (pt_cmpR (o_eq hr.units) (p_cal C_take hr (pa_cons (pv 1) (pa_cons pe_int pa_nil))) pe_int (nomark _))))) (pss_one (ps_expr (pe_bm PySem.F.plainAttrs_list PySem.F.slot_list_append PySem.F.type_list_append mt_append (pv 2) (pa_cons (pe_tup (pa_cons (pv 3) (pa_cons (pe_dget (hu_of hr) (pv 0) (pv 3) (fun _ _ => rfl)) pa_nil))) pa_nil)))) pss_nil)))
      (pss_one (ps_ret (pe_callTy c_tuple (by rfl) T.m_tuple bt_tuple (pa_cons (pv 2) pa_nil)))))), ?_⟩
    have dneb : d ≠ b := by
      intro z
      obtain ⟨_, _, _, e, _⟩ := hB
      have ht1 := ht.1
      rw [z, e] at ht1
      cases ht1
    walk_at "go"
    refine ⟨szOk (by simp), fun pl npl => ?_⟩
    generalize q1 : upd H pl _ = H1
    obtain ⟨k1, e1⟩ := newQ npl q1
    have nplb := hB.ne npl
    walk_at "go"
    refine v_sortDk (ks := tb.map (·.1)) (k1.at0 ht.1) (tK_keys tb) (by rw [List.length_map]; omega) (fun ys so hperm nso => ?_)
    have ndy : ys.Nodup := hperm.nodup_iff.mpr nd
    generalize q2 : upd H1 so _ = H2
    obtain ⟨k2, e2⟩ := newQ nso q2
    have hB1 := hB.kp0 k1
    have nsob := hB1.ne nso
    have nsop : so ≠ pl := fun z => by rw [z, e1] at nso; cases nso
    have hyl : ys.length = tb.length := by rw [hperm.length_eq, List.length_map]
    walk_at "go"
    refine lpL (SqL.of e2) (fun i σ H' => ∃ (v3 : Option V) (ps : Ad) (zs : List V), σ = [some (.ref d), some (.ref b), some (.ref pl), v3] ∧ Kp [b] H H' ∧ BoxAt H' b ∧ H' so = some (.lst (ys.map V.str)) ∧ H' pl = some (.lst zs) ∧ FzAll H' zs (ps.map prD) ∧
      ps.length ≤ i ∧ (∀ p ∈ ps, Sm p.2 ∧ p.1 ∈ ys.take i) ∧ (ps.map (·.1)).Nodup ∧ (∀ n ∈ ys.take i, val ps n = val tb n)) ?_ ?_ ?_ ?_
    · exact ⟨none, [], [], rfl, (k1.trans k2).of0, hB1.kp0 k2, e2, k2.at0 e1, .nil, Nat.le_refl _, (fun _ h => nomatch h), List.nodup_nil, (fun n h => by simp at h)⟩
    · rintro i σ H' _ ⟨_, _, _, _, _, _, hso, _⟩
      exact SqL.of hso
    · rintro i x σ H6 hx ⟨v3, ps, zs, rfl, k6, hB6, hso, hpl, hzs, hpsl, hall, hnd, hval⟩
      obtain ⟨n, hn, rfl⟩ := str_get hx
      have hi := (List.getElem?_eq_some_iff.mp hn).1
      have hnot := take_not_mem ndy hn
      have hnk : n ∉ ps.map (·.1) := fun z => by
        obtain ⟨p, hp, e⟩ := List.mem_map.mp z
        exact hnot (by rw [← e]; exact (hall p hp).2)
      obtain ⟨v, hv⟩ := look_some (hperm.mem_iff.mp (List.mem_of_getElem? hn))
      have hv' : valV (tK tb) (Sum.inr n) = some (.int v) := by rw [valV_t, hv]; rfl
      have hvv : val tb n = v := by unfold val; rw [hv]; rfl
      have hd6 := k6.keep _ _ ht.1 (nin1 dneb)
      have smv : Sm v := ht.2 _ (look_mem hv)
      have hzl := hzs.len
      rw [List.length_map] at hzl
      have fin : ∀ H7 t, Kp [b] H H7 → BoxAt H7 b → H7 so = some (.lst (ys.map V.str)) → H7 pl = some (.lst zs) → FzAll H7 zs (ps.map prD) → H7 t = none → (upd H7 t (.tup [.str n, .int v])) pl = some (.lst zs) ∧
          ∃ (v3 : Option V) (qs : Ad) (us : List V), [some (.ref d), some (.ref b), some (.ref pl), some (.str n)] = [some (.ref d), some (.ref b), some (.ref pl), v3] ∧ Kp [b] H (upd (upd H7 t (.tup [.str n, .int v])) pl (.lst (zs ++ [.ref t]))) ∧ BoxAt (upd (upd H7 t (.tup [.str n, .int v])) pl (.lst (zs ++ [.ref t]))) b ∧ (upd (upd H7 t (.tup [.str n, .int v])) pl (.lst (zs ++ [.ref t]))) so = some (.lst (ys.map V.str)) ∧ (upd (upd H7 t (.tup [.str n, .int v])) pl (.lst (zs ++ [.ref t]))) pl = some (.lst us) ∧ FzAll (upd (upd H7 t (.tup [.str n, .int v])) pl (.lst (zs ++ [.ref t]))) us (qs.map prD) ∧
      qs.length ≤ i + 1 ∧ (∀ p ∈ qs, Sm p.2 ∧ p.1 ∈ ys.take (i + 1)) ∧ (qs.map (·.1)).Nodup ∧ (∀ n ∈ ys.take (i + 1), val qs n = val tb n) := by
        intro H7 t k7 hB7 hso7 hpl7 hzs7 nt
        obtain ⟨g1, g2⟩ := hzs7.add nt hpl7 (.cons (.str n) (.cons (.int v) .nil))
        refine ⟨g1, _, ps ++ [(n, v)], _, rfl, (k7.trans (Kp.new nt)).own npl, (hB7.kp0 (Kp.new nt)).put nplb, ?_, upd_same, ?_, ?_, ?_, ?_, ?_⟩
        · rw [upd_ne nsop]
          exact (Kp.new (M := []) nt).at0 hso7
        · rw [List.map_append]; exact g2
        · rw [List.length_append]; show ps.length + 1 ≤ _; omega
        · intro q hq
          rw [take_get hn]
          rcases List.mem_append.mp hq with hq | hq
          · exact ⟨(hall q hq).1, List.mem_append_left _ (hall q hq).2⟩
          · have : q = (n, v) := by simpa using hq
            rw [this]
            exact ⟨smv, by simp⟩
        · exact snoc_nodup hnd hnk
        · intro m hm
          rcases mem_take_snoc hn hm with hm | rfl
          · have : n ≠ m := fun z => hnot (by rw [z]; exact hm)
            rw [← hval m hm]
            unfold val
            rw [look_snoc_ne this]
          · rw [hvv]
            unfold val
            rw [look_snoc_self hnk]; rfl
      walk_at "go"
      refine v_dgetS hd6 hv' ?_
      walk_at "go"
      refine ifn (fun e => ?_) (fun e => ?_)
      · walk_at "go"
        refine v_dgetS hd6 hv' ?_
        walk_at "go"
        refine ⟨szOk (by simp), fun t nt => ?_⟩
        obtain ⟨g1, g2⟩ := fin H6 t k6 hB6 hso hpl hzs nt
        walk_at "go"
        exact v_append g1 (szLt (by omega)) g2
      · walk_at "go"
        refine ⟨b, _, rfl, hB6, by decide, by decide, fun u H7 _ _ hB7 k7 => ?_⟩
        have hd7 := k7.keep _ _ hd6 (nin1 dneb)
        have hso7 := k7.keep _ _ hso (nin1 nsob)
        have hpl7 := k7.keep _ _ hpl (nin1 nplb)
        have hzs7 := hzs.kp k7 hB6.nt
        walk_at "go"
        refine ifd (fun e2 => ?_) (fun e2 => ?_)
        · walk_at "go"
          refine v_dgetS hd7 hv' ?_
          walk_at "go"
          refine ⟨szOk (by simp), fun t nt => ?_⟩
          obtain ⟨g1, g2⟩ := fin H7 t (k6.trans k7) hB7 hso7 hpl7 hzs7 nt
          walk_at "go"
          exact v_append g1 (szLt (by omega)) g2
        · walk_at "go"
          refine ⟨_, ps, zs, rfl, k6.trans k7, hB7, hso7, hpl7, hzs7, by omega, ?_, hnd, ?_⟩
          · intro q hq
            rw [take_get hn]
            exact ⟨(hall q hq).1, List.mem_append_left _ (hall q hq).2⟩
          · intro m hm
            rcases mem_take_snoc hn hm with hm | rfl
            · exact hval m hm
            · rw [hvv, e]
              unfold val
              rw [look_none.mpr hnk]; rfl
    · rintro σ H6 ⟨v3, ps, zs, rfl, k6, hB6, hso, hpl, hzs, hpsl, hall, hnd, hval⟩
      rw [List.length_map] at hpsl hval hall
      rw [List.take_length] at hval hall
      walk_at "go"
      refine v_tupleL (SqL.of hpl) (fun t1 n1 => ?_)
      refine k _ ps _ (hB6.kp0 (Kp.new n1)) (k6.trans (Kp.new n1)) (.tup upd_same (hzs.kp0 (Kp.new n1))) hnd (fun n => ?_) ⟨fun p hp => (hall p hp).1, by omega⟩
      by_cases hm : n ∈ ys
      · exact hval n hm
      · have h1 : look tb n = none := look_none.mpr fun z => hm (hperm.mem_iff.mpr z)
        have h2 : look ps n = none := look_none.mpr fun z => by
          obtain ⟨p, hp, e⟩ := List.mem_map.mp z
          exact hm (by rw [← e]; exact (hall p hp).2)
        unfold val
        rw [h1, h2]
def spCopy : Sp := fun us H Q _ => ∃ (d : Addr) (tb : Ad), us = [.ref d] ∧ TbAt H d tb ∧ (tb.map (·.1)).Nodup ∧ tb.length < 60 ∧
  ∀ d' tb' H', Kp [] H H' → H d' = none → TbAt H' d' tb' → (tb'.map (·.1)).Perm (tb.map (·.1)) → (∀ n, look tb' n = look tb n) → Q (.ref d') H'
theorem ok_copy (D : DefAt K mg "_law_copy" s_copy ["table"]) (T : Bt mg) : Cal P w K mg base 1 "_law_copy" ["table"] spCopy := by
  refine D.mk' sc_copy (fun vs H Q E h => ?_) (fun f cdv A outer s H vs Q E hr h => ?_)
  · obtain ⟨_, _, rfl, _⟩ := h
    rfl
  · obtain ⟨d, tb, rfl, ht, nd, hlen, k⟩ := h
    refine ⟨_, (pss_cons (ps_set (i := 1) sc_copy.nd rfl (Or.inl rfl) pe_dnewK)
      (pss_cons (ps_for PassesOwn.never rfl (pi_list (pe_callB (c_sortDk rfl) (by rfl) T.m_sorted bt_sorted (pa_cons (pv 0) pa_nil))) (pg_name (i := 2) sc_copy.nd rfl (Or.inl rfl)) (pss_one (ps_dput (hu_of hr) (pv 1) (pv 2) (pe_dget (hu_of hr) (pv 0) (pv 2) (fun _ _ => rfl)) rfl)))
      (pss_one (ps_ret (pv 1))))), ?_⟩
    walk_at "go"
    refine r_dnewK (fun c nc => ?_)
    generalize q1 : upd H c _ = H1
    obtain ⟨k1, e1⟩ := newQ nc q1
    walk_at "go"
    refine v_sortDk (ks := tb.map (·.1)) (k1.at0 ht.1) (tK_keys tb) (by rw [List.length_map]; omega) (fun ys so hperm nso => ?_)
    have ndy : ys.Nodup := hperm.nodup_iff.mpr nd
    generalize q2 : upd H1 so _ = H2
    obtain ⟨k2, e2⟩ := newQ nso q2
    have nsoc : so ≠ c := fun z => by rw [z, e1] at nso; cases nso
    have hyl : ys.length = tb.length := by rw [hperm.length_eq, List.length_map]
    walk_at "go"
    refine lpL (SqL.of e2) (fun i σ H' => ∃ (v2 : Option V) (t' : Ad), σ = [some (.ref d), some (.ref c), v2] ∧ Kp [] H H' ∧ H' so = some (.lst (ys.map V.str)) ∧ H' c = some (.dK (tK t')) ∧
      t'.map (·.1) = ys.take i ∧ (∀ p ∈ t', Sm p.2) ∧ (∀ n ∈ ys.take i, look t' n = look tb n)) ?_ ?_ ?_ ?_
    · exact ⟨none, [], rfl, k1.trans k2, e2, k2.at0 e1, rfl, (fun _ h => nomatch h), (fun n h => by simp at h)⟩
    · rintro i σ H' _ ⟨_, _, _, _, hso, _⟩
      exact SqL.of hso
    · rintro i x σ H6 hx ⟨v2, t', rfl, k6, hso, hc, hk, hsm, hlk⟩
      obtain ⟨n, hn, rfl⟩ := str_get hx
      have hi := (List.getElem?_eq_some_iff.mp hn).1
      have hnot := take_not_mem ndy hn
      obtain ⟨v, hv⟩ := look_some (hperm.mem_iff.mp (List.mem_of_getElem? hn))
      have hv' : valV (tK tb) (Sum.inr n) = some (.int v) := by rw [valV_t, hv]; rfl
      have htl : t'.length ≤ i := by
        have := congrArg List.length hk
        rw [List.length_map, List.length_take] at this
        omega
      walk_at "go"
      refine v_dgetS (k6.at0 ht.1) hv' ?_
      walk_at "go"
      refine v_dputS hc (by unfold tK; rw [List.length_map]; exact szLt (by omega)) ?_
      rw [putK_t, put_new (by rw [hk]; exact hnot)]
      refine ⟨_, _, rfl, k6.own nc, by rw [upd_ne nsoc]; exact hso, upd_same, by rw [List.map_append, hk, take_get hn]; rfl, ?_, ?_⟩
      · intro q hq
        rcases List.mem_append.mp hq with hq | hq
        · exact hsm q hq
        · have : q = (n, v) := by simpa using hq
          rw [this]
          exact ht.2 _ (look_mem hv)
      · intro m hm
        rcases mem_take_snoc hn hm with hm | rfl
        · have : n ≠ m := fun z => hnot (by rw [z]; exact hm)
          rw [look_snoc_ne this]
          exact hlk m hm
        · rw [look_snoc_self (by rw [hk]; exact hnot), hv]
    · rintro σ H6 ⟨v2, t', rfl, k6, hso, hc, hk, hsm, hlk⟩
      rw [List.length_map, List.take_length] at hk hlk
      walk_at "go"
      refine k c t' _ k6 nc ⟨hc, hsm⟩ (by rw [hk]; exact hperm) (fun n => ?_)
      by_cases hm : n ∈ ys
      · exact hlk n hm
      · rw [look_none.mpr fun z => hm (hperm.mem_iff.mpr z), look_none.mpr fun z => hm (by rw [← hk]; exact z)]
theorem Sm.neg {i : Int} (h : Sm i) : Sm (-i) := by
  unfold Sm at *
  rw [Int.natAbs_neg]
  exact h
theorem SmA.neg {r : Row} (h : SmA r.1) : SmA (neg r).1 := by
  refine ⟨fun p hp => ?_, ?_⟩
  · obtain ⟨q, hq, rfl⟩ := List.mem_map.mp hp
    exact (h.1 q hq).neg
  · show (r.1.map _).length < 1000
    rw [List.length_map]
    exact h.2
theorem metAll_one (r : Row) (f : Str → Int) : metAll [r] [] f = met r f := by
  unfold metAll metA
  simp
def spDenials : Sp := fun us H Q _ => ∃ (x y : V) (d : Addr) (rs : List Row) (ps tb : Ad), us = [x, y, .ref d] ∧ Fz H x (rowsD rs) ∧ SmR rs ∧ (∀ r ∈ rs, ∀ p ∈ r.1, PyData.strOk p.1 = true) ∧ Fz H y (adD ps) ∧ SmA ps ∧ (∀ n, val (mk ps) n = val tb n) ∧ TbAt H d tb ∧ ∀ H', Kp [] H H' → Q (.bl true) H'
theorem ok_denials (D : DefAt K mg "_law_denials" s_denials ["rows", "model", "table"]) (C_denial : Cal P w K mg base 1 "denial" ["row"] spDenial) (C_is_row : Cal P w K mg base 2 "_law_is_row" ["row"] spIsRow) (C_denied : Cal P w K mg base 1 "_law_denied" ["row"] spDenied) (C_met : Cal P w K mg base 2 "_law_met" ["row", "table"] spMet) (C_says : Cal P w K mg base 5 "_law_says" ["rows", "clauses", "model", "due"] spSays) : Cal P w K mg base 6 "_law_denials" ["rows", "model", "table"] spDenials := by
  refine D.mk' sc_denials (fun vs H Q E h => ?_) (fun f cdv A outer s H vs Q E hr h => ?_)
  · obtain ⟨_, _, _, _, _, _, rfl, _⟩ := h
    rfl
  · obtain ⟨x, y, d, rs, ps, tb, rfl, hx, hs, hok, hy, hps, hval, ht, k⟩ := h
    obtain ⟨a, xs, rfl, ha, hz⟩ := hx.tup_inv
    have hl := hz.len
    rw [List.length_map] at hl
    have hfun : val (mk ps) = val tb := funext hval
    refine ⟨_, (pss_cons (ps_for PassesOwn.never rfl (pi_tup (pv 0)) (pg_name (i := 3) sc_denials.nd rfl (Or.inl rfl)) (pss_cons (ps_set (i := 4) sc_denials.nd rfl (Or.inl rfl) (p_cal C_denial hr (pa_cons (pv 3) pa_nil)))
      (pss_cons (ps_if (PW.pt (pw_or (pt_not (p_tru (p_cal C_is_row hr (pa_cons (pv 4) pa_nil)) (by intro _; rfl))) (pw_or1 (pt_cmpR (o_ne hr.units) (pv 4) (p_cal C_denied hr (pa_cons (pv 3) pa_nil)) (nomark _))))) (pss_one (ps_ret pe_bl)) pss_nil)
      (pss_cons (ps_set (i := 5) sc_denials.nd rfl (Or.inl rfl) (p_cal C_denial hr (pa_cons (pv 4) pa_nil)))
      (pss_cons (ps_if (PW.pt (pw_or (pt_not (p_tru (p_cal C_is_row hr (pa_cons (pv 5) pa_nil)) (by intro _; rfl))) (pw_or1 (pt_cmpR (o_ne hr.units) (pv 5) (pv 3) (nomark _))))) (pss_one (ps_ret pe_bl)) pss_nil)
      (pss_cons (ps_set (i := 6) sc_denials.nd rfl (Or.inl rfl) (p_cal C_met hr (pa_cons (pv 3) (pa_cons (pv 2) pa_nil))))
      (pss_one (ps_if (PW.pt (pw_or (pt_not (p_tru (p_cal C_says hr (pa_cons (pe_tup (pa_cons (pv 3) pa_nil)) (pa_cons (pe_tup pa_nil) (pa_cons (pv 1) (pa_cons (pv 6) pa_nil))))) (by intro _; rfl))) (pw_or1 (pt_not (p_tru (p_cal C_says hr (pa_cons (pe_tup (pa_cons (pv 4) pa_nil)) (pa_cons (pe_tup pa_nil) (pa_cons (pv 1) (pa_cons (pe_not (pv 6)) pa_nil))))) (by intro _; rfl)))))) (pss_one (ps_ret pe_bl)) pss_nil))))))))
      (pss_one (ps_ret pe_bl))), ?_⟩
    walk_at "go"
    refine lpT (SqT.of ha) (fun i σ H' => ∃ v3 v4 v5 v6, σ = [some (.ref a), some y, some (.ref d), v3, v4, v5, v6] ∧ Kp [] H H') ?_ ?_ ?_ ?_
    · exact ⟨none, none, none, none, rfl, Kp.refl _ _⟩
    · rintro i σ H' _ ⟨_, _, _, _, _, k1⟩
      exact SqT.of (k1.at0 ha)
    · rintro i x σ H1 hxi ⟨v3, v4, v5, v6, rfl, k1⟩
      obtain ⟨r, hr', hxr⟩ := hz.map hxi
      have hmem := List.mem_of_getElem? hr'
      have hsr := hs.1 r hmem
      have hsn : SmA (neg r).1 := hsr.neg
      have h1 := shape_row (hok r hmem)
      have h2 : (rowD (neg r)).canLay0 = true ∧ (rowD (neg r)).depth ≤ 3 := shape_row fun p hp => by
        obtain ⟨q, hq, rfl⟩ := List.mem_map.mp hp
        exact hok r hmem q hq
      have sh1 := shaped_of h1.1 (by omega)
      have sh2 := shaped_of h2.1 (by omega)
      have hxr1 := hxr.kp0 k1
      walk_at "go"
      refine ⟨x, r, rfl, hxr1, hsr.2, fun p H2 k2 hp => ?_⟩
      walk_at "go"
      refine ⟨p, neg r, rfl, hp, ?_⟩
      walk_at "go"
      refine ⟨x, r, rfl, hxr1.kp0 k2, hsr.2, fun p2 H3 k3 hp2 => ?_⟩
      refine v_neFz (hp.kp0 k3) hp2 sh2 ?_
      walk_at "go"
      refine ⟨p, neg r, rfl, hp.kp0 k3, hsn.2, fun p3 H4 k4 hp3 => ?_⟩
      rw [neg_neg'] at hp3
      walk_at "go"
      refine ⟨p3, r, rfl, hp3, ?_⟩
      have kk4 := (k2.trans k3).trans k4
      have hx4 := hxr1.kp0 kk4
      walk_at "go"
      refine v_neFz hp3 hx4 sh1 ?_
      walk_at "go"
      refine ⟨x, d, r, tb, rfl, hx4, hsr, (ht.kp0 k1).kp0 kk4, ?_⟩
      walk_at "go"
      refine ⟨szOk (by simp), fun t1 n1 => ?_⟩
      generalize q5 : upd H4 t1 _ = H5
      obtain ⟨k5, e5⟩ := newQ n1 q5
      walk_at "go"
      refine ⟨szOk (by simp), fun t2 n2 => ?_⟩
      generalize q6 : upd H5 t2 _ = H6
      obtain ⟨k6, e6⟩ := newQ n2 q6
      have kk6 := ((k1.trans kk4).trans k5).trans k6
      walk_at "go"
      refine ⟨.ref t1, .ref t2, y, met r (val tb), [r], [], ps, rfl, .tup (k6.at0 e5) (.cons ((hx4.kp0 k5).kp0 k6) .nil), .tup e6 .nil, hy.kp0 kk6, ⟨fun q hq => ?_, (show (1 : Nat) < 1000 by decide)⟩, ⟨(fun _ h => nomatch h), by decide⟩, hps, fun H7 k7 => ?_⟩
      · rw [List.mem_singleton.mp hq]; exact hsr
      rw [metAll_one, hfun, decide_eq_true rfl]
      walk_at "go"
      refine ⟨szOk (by simp), fun t3 n3 => ?_⟩
      generalize q8 : upd H7 t3 _ = H8
      obtain ⟨k8, e8⟩ := newQ n3 q8
      walk_at "go"
      refine ⟨szOk (by simp), fun t4 n4 => ?_⟩
      generalize q9 : upd H8 t4 _ = H9
      obtain ⟨k9, e9⟩ := newQ n4 q9
      have kk9 := (((((k3.trans k4).trans k5).trans k6).trans k7).trans k8).trans k9
      have kkH := ((kk6.trans k7).trans k8).trans k9
      walk_at "go"
      refine ⟨.ref t3, .ref t4, y, !met r (val tb), [neg r], [], ps, rfl, .tup (k9.at0 e8) (.cons (hp.kp0 kk9) .nil), .tup e9 .nil, hy.kp0 kkH, ⟨fun q hq => ?_, (show (1 : Nat) < 1000 by decide)⟩, ⟨(fun _ h => nomatch h), by decide⟩, hps, fun H10 k10 => ?_⟩
      · rw [List.mem_singleton.mp hq]; exact hsn
      rw [metAll_one, hfun, met_neg, decide_eq_true rfl]
      walk_at "go"
      exact ⟨_, _, _, _, rfl, kkH.trans k10⟩
    · rintro σ H1 ⟨v3, v4, v5, v6, rfl, k1⟩
      walk_at "go"
      exact k _ k1
end
end K11

namespace K11
open PySem PySem.Spec L2 KV
local macro_rules | `(tactic| walk_at "side") => `(tactic| first | assumption | omega | decide)
local macro_rules | `(tactic| walk_at "at") => `(tactic| first | assumption | exact upd_same | (rw [upd_ne (by assumption)]; assumption))
local macro_rules | `(tactic| walk_at "st") => `(tactic| first
  | with_reducible refine r_seq ?_ | with_reducible refine r_asg ?_ | with_reducible refine r_ret ?_ | with_reducible refine r_ifS ?_ | with_reducible refine r_drop ?_
  | ((with_reducible refine r_var (v := ?v) ?e ?_); (case e => exact rfl))
  | with_reducible refine r_c ?_ | with_reducible refine r_op ?_ | with_reducible refine r_un ?_ | with_reducible refine r_name ?_ | with_reducible refine r_next ?_ | with_reducible refine r_brk ?_ | with_reducible refine r_cont ?_
  | with_reducible refine r_cb ?_ | with_reducible refine r_cons ?_ | with_reducible refine r_nil ?_ | with_reducible refine r_call ?_ | with_reducible refine r_test ?_ | with_reducible refine r_tru ?_ | with_reducible refine r_tB ?_
  | with_reducible refine r_exB ?_ | with_reducible refine r_truB ?_ | with_reducible refine r_truI ?_ | with_reducible refine r_and ?_ | with_reducible refine r_or ?_ | with_reducible refine r_not ?_ | with_reducible refine r_ifE ?_
  | with_reducible refine r_andV ?_ | with_reducible refine r_orV ?_ | with_reducible refine r_notV ?_ | with_reducible refine r_gsub ?_ | with_reducible refine r_tup ?_ | with_reducible refine r_lst ?_
  | with_reducible refine r_forL ?_ | with_reducible refine r_forT ?_ | with_reducible refine r_forR ?_ | with_reducible refine r_lcL ?_ | with_reducible refine r_lcT ?_ | with_reducible refine r_lcR ?_ | with_reducible refine r_yes ?_
  | with_reducible refine v_add ?_ | with_reducible refine v_sub ?_ | with_reducible refine v_lt ?_ | with_reducible refine v_le ?_ | with_reducible refine v_gt ?_ | with_reducible refine v_ge ?_ | with_reducible refine v_neg ?_
  | with_reducible refine v_eqI ?_ | with_reducible refine v_neI ?_ | with_reducible refine v_eqB ?_ | with_reducible refine v_int ?_ | with_reducible refine v_max ?_ | with_reducible refine v_min ?_ | with_reducible refine v_abs ?_
  | ((with_reducible refine v_mulL ?s ?_); (case s => walk_at "side"))
  | ((with_reducible refine v_mulR ?s ?_); (case s => walk_at "side"))
  | ((with_reducible refine v_mod ?s ?_); (case s => walk_at "side"))
  | ((with_reducible refine v_div ?s ?t ?_); (case s => walk_at "side"); (case t => walk_at "side"))
  | ((with_reducible refine v_powE (r := ?r) ?s ?e ?_); (case s => exact (by decide)); (case e => (conv => lhs; simp only [Int.reduceToNat, Int.reducePow])))
  | ((with_reducible refine v_ixL (xs := ?xs) (v := ?v) (SqL.of ?s) ?t ?_); (case s => walk_at "at"); (case t => exact rfl))
  | ((with_reducible refine v_ixT (xs := ?xs) (v := ?v) (SqT.of ?s) ?t ?_); (case s => walk_at "at"); (case t => exact rfl))
  | with_reducible refine r_dget2 ?_ | with_reducible refine r_dget ?_ | with_reducible refine r_dput ?_ | with_reducible refine r_dcT ?_ | with_reducible refine r_revL ?_ | with_reducible refine v_ltS ?_
  | ((with_reducible refine v_d2 (kvs := ?kvs) ?s ?_); (case s => walk_at "at")) | ((with_reducible refine v_dg2S (kvs := ?kvs) ?s ?_); (case s => walk_at "at"))
  | with_reducible refine r_gcons ?_ | with_reducible refine r_gnil ?_ | with_reducible refine r_slice ?_ | with_reducible refine r_noP ?_ | with_reducible refine r_part ?_ | with_reducible refine r_exI ?_ | with_reducible refine r_lstRg ?_ | with_reducible refine r_rg1 ?_ | with_reducible refine iteT ?_ | with_reducible refine iteF ?_ | with_reducible refine iteNF ?_ | with_reducible refine iteNT ?_
  | with_reducible refine r_bm ?_ | ((with_reducible refine r_bmL (xs := ?xs) ?s ?_); (case s => walk_at "at"))
  | ((with_reducible refine v_lenT (xs := ?xs) (SqT.of ?s) ?_); (case s => walk_at "at"))
  | ((with_reducible refine v_lenL (xs := ?xs) (SqL.of ?s) ?_); (case s => walk_at "at"))
  | ((with_reducible refine v_setL (xs := ?xs) (n := ?n) ?s ?t ?_); (case s => walk_at "at"); (case t => exact rfl)))
local macro_rules | `(tactic| walk_at "go") => `(tactic| repeat walk_at "st")

section
variable {P : Program} {w : World} {K : PySem.W.Frag} {mg : Str → Option Value} {base : Heap}
theorem cut_lo (xs : List V) (j : Nat) : cutV xs (some (j : Int)) none = xs.drop j := by
  unfold cutV
  rw [HT.sIx_none, HT.sIx_nat]
  by_cases h : j ≤ xs.length
  · rw [Nat.min_eq_left h, List.take_of_length_le]
    rw [List.length_drop]; omega
  · rw [Nat.min_eq_right (by omega), List.drop_eq_nil_of_le (as := xs) (i := j) (by omega), List.drop_eq_nil_of_le (Nat.le_refl _)]
    simp
theorem cut_hi (xs : List V) (j : Nat) : cutV xs none (some (j : Int)) = xs.take j := by
  unfold cutV
  rw [HT.sIx_none, HT.sIx_nat, List.drop_zero, Nat.sub_zero]
  by_cases h : j ≤ xs.length
  · rw [Nat.min_eq_left h]
  · rw [Nat.min_eq_right (by omega), List.take_of_length_le (Nat.le_refl _), List.take_of_length_le (by omega)]
theorem nat_of {i : Int} (h : 0 ≤ i) : ∃ j : Nat, i = j := ⟨i.toNat, by omega⟩
theorem shape_rows {rs : List Row} (h : ∀ r ∈ rs, ∀ p ∈ r.1, PyData.strOk p.1 = true) : SeqAt.shaped (rowsD rs) = true := by
  refine shapedT (n := 3) (fun d hd => ?_) (by decide)
  obtain ⟨r, hr, rfl⟩ := List.mem_map.mp hd
  exact shape_row (h r hr)
theorem pr2_mem {n o : Str} {c d : Int} {p : Str × Int} (h : p ∈ pr2 n c o d) : p = (n, c) ∨ p = (o, d) := by
  unfold pr2 at h
  split at h
  · simpa using h
  · rcases (by simpa using h : p = (o, d) ∨ p = (n, c)) with h | h
    · exact .inr h
    · exact .inl h
/-- what stands in a weighted row -/
theorem wtd_mem {rs : List Row} {us : List Str} {b : Int} {r : Row} (h : r ∈ wtd rs us b) : r ∈ rs ∨ (r.1.length ≤ 2 + us.length ∧ ∀ p ∈ r.1, (p.2 = 1 ∨ p.2 = -1) ∧ ∃ n ∈ us, p.1 = n ∨ p.1 = absN n) := by
  unfold wtd at h
  rcases List.mem_append.mp h with h | h
  · rcases List.mem_append.mp h with h | h
    · exact .inl h
    · right
      obtain ⟨n, hn, h⟩ := List.mem_flatMap.mp h
      have l2 : ∀ c d, (pr2 n c (absN n) d).length ≤ 2 + us.length := fun c d => by
        unfold pr2
        split
        · show 2 ≤ _; omega
        · show 2 ≤ _; omega
      rcases (by simpa using h : r = (pr2 n 1 (absN n) (-1), 0) ∨ r = (pr2 n (-1) (absN n) (-1), 0)) with rfl | rfl
      · refine ⟨l2 _ _, fun p hp => ?_⟩
        rcases pr2_mem hp with rfl | rfl
        · exact ⟨.inl rfl, n, hn, .inl rfl⟩
        · exact ⟨.inr rfl, n, hn, .inr rfl⟩
      · refine ⟨l2 _ _, fun p hp => ?_⟩
        rcases pr2_mem hp with rfl | rfl
        · exact ⟨.inr rfl, n, hn, .inl rfl⟩
        · exact ⟨.inr rfl, n, hn, .inr rfl⟩
  · right
    rcases List.mem_singleton.mp h with rfl
    refine ⟨?_, fun p hp => ?_⟩
    · show (((us.map absN).mergeSort leS).map _).length ≤ _
      rw [List.length_map, List.length_mergeSort, List.length_map]; omega
    · obtain ⟨o, ho, rfl⟩ := List.mem_map.mp hp
      obtain ⟨n, hn, rfl⟩ := List.mem_map.mp (List.mem_mergeSort.mp ho)
      exact ⟨.inl rfl, n, hn, .inr rfl⟩
theorem wtd_len (rs : List Row) (us : List Str) (b : Int) : (wtd rs us b).length = rs.length + 2 * us.length + 1 := by
  unfold wtd
  rw [List.length_append, List.length_append, List.length_flatMap]
  have : (us.map fun n => [(pr2 n 1 (absN n) (-1), (0 : Int)), (pr2 n (-1) (absN n) (-1), 0)].length).sum = 2 * us.length := by
    induction us with
    | nil => rfl
    | cons u us ih => rw [List.map_cons, List.sum_cons, ih]; show 2 + 2 * us.length = 2 * (us.length + 1); omega
  rw [this]; rfl
theorem absI_n (v : Int) : (absI v).natAbs = v.natAbs := by
  unfold absI
  split <;> omega
theorem key0 {ns us : List Str} {tb t : Ad} (hN : ∀ n ∈ ns, Nm n) (hO : ∀ m, (∀ n ∈ us, m ≠ absN n) → look t m = look tb m) : ∀ n, n ∈ ns → val t n = val tb n := fun n hn => by
  unfold val
  rw [hO n fun m _ => (hN n hn).ne_abs m]
theorem key1 {ns us : List Str} {tb t : Ad} {rs : List Row} {cs : List (List (List Row))} {b W : Int} (hN : ∀ n ∈ ns, Nm n) (hin : ∀ n ∈ us, n ∈ ns) (o1 : OverA ns rs) (o2 : ∀ c ∈ cs, ∀ a ∈ c, OverA ns a) (hO : ∀ m, (∀ n ∈ us, m ≠ absN n) → look t m = look tb m)
    (hA : ∀ n ∈ us, val t (absN n) = absI (val tb n)) (hW : (us.map fun n => absI (val tb n)).sum = W) : metAll (wtd rs us b) cs (val t) = (metAll rs cs (val tb) && decide (W ≤ b)) := by
  have h0 := key0 hN hO
  rw [metAll_wtd (N := (· ∈ ns)) o1 o2 h0, all_true (f := pairOk (val t)) fun n hn => pair_abs (h0 n (hin n hn)) (by rw [hA n hn]; exact Int.le_refl _), sum_eq hA, hW, Bool.true_and]
theorem key2 {ns us : List Str} {tb t : Ad} {rs : List Row} {cs : List (List (List Row))} {b : Int} {n : Str} (hN : ∀ n ∈ ns, Nm n) (hin : ∀ n ∈ us, n ∈ ns) (o1 : OverA ns rs) (o2 : ∀ c ∈ cs, ∀ a ∈ c, OverA ns a) (hO : ∀ m, (∀ n ∈ us, m ≠ absN n) → look t m = look tb m)
    (hn : n ∈ us) (h : val t (absN n) = absI (val tb n) - 1) : metAll (wtd rs us b) cs (val t) = false := by
  have h0 := key0 hN hO
  rw [metAll_wtd (N := (· ∈ ns)) o1 o2 h0, all_false (f := pairOk (val t)) hn (pair_less (h0 n (hin n hn)) h), Bool.false_and, Bool.and_false]
theorem key3 {ns us : List Str} {tb t : Ad} {rs : List Row} {cs : List (List (List Row))} {b W : Int} {n : Str} (hN : ∀ n ∈ ns, Nm n) (hin : ∀ n ∈ us, n ∈ ns) (o1 : OverA ns rs) (o2 : ∀ c ∈ cs, ∀ a ∈ c, OverA ns a) (hO : ∀ m, (∀ n ∈ us, m ≠ absN n) → look t m = look tb m)
    (nd : us.Nodup) (hn : n ∈ us) (h : val t (absN n) = absI (val tb n) + 1) (hA : ∀ m ∈ us, m ≠ n → val t (absN m) = absI (val tb m)) (hW : (us.map fun n => absI (val tb n)).sum = W) : metAll (wtd rs us b) cs (val t) = (metAll rs cs (val tb) && decide (W < b)) := by
  have h0 := key0 hN hO
  rw [metAll_wtd (N := (· ∈ ns)) o1 o2 h0, all_true (f := pairOk (val t)) fun m hm => ?_, sum_one nd hn h hA, hW, Bool.true_and]
  · rfl
  · refine pair_abs (h0 m (hin m hm)) ?_
    by_cases e : m = n
    · rw [e, h]; omega
    · rw [hA m hm e]; exact Int.le_refl _
theorem fz_strs' {H : Hp} : ∀ (ns : List Str), FzAll H (ns.map V.str) (ns.map PyData.str)
  | [] => .nil
  | n :: ns => .cons (.str n) (fz_strs' ns)
theorem wtd_sm {us : List Str} {rs : List Row} {b : Int} (h : SmR rs) (hl : rs.length ≤ 100) (hu : us.length ≤ 10) : SmR (wtd rs us b) := by
  refine ⟨fun r hr => ?_, by rw [wtd_len]; omega⟩
  rcases wtd_mem hr with hr | ⟨h1, h2⟩
  · exact h.1 r hr
  · refine ⟨fun p hp => ?_, ?_⟩
    · rcases (h2 p hp).1 with e | e
      · rw [e]; unfold Sm; decide
      · rw [e]; unfold Sm; decide
    · omega
theorem wtd_ok {ns us : List Str} {rs : List Row} {b : Int} (hN : ∀ n ∈ ns, Nm n) (hin : ∀ n ∈ us, n ∈ ns) (o1 : OverA ns rs) : ∀ r ∈ wtd rs us b, ∀ p ∈ r.1, PyData.strOk p.1 = true := by
  intro r hr p hp
  rcases wtd_mem hr with hr | ⟨h1, h2⟩
  · exact (hN _ (o1 r hr p hp)).ok
  · obtain ⟨_, n, hn, e⟩ := h2 p hp
    rcases e with e | e
    · rw [e]; exact (hN n (hin n hn)).ok
    · rw [e]; exact (hN n (hin n hn)).okA
end
end K11

namespace K11
open PySem PySem.Spec L2 KV
local macro_rules | `(tactic| walk_at "side") => `(tactic| first | assumption | omega | decide)
local macro_rules | `(tactic| walk_at "at") => `(tactic| first | assumption | exact upd_same | (rw [upd_ne (by assumption)]; assumption))
local macro_rules | `(tactic| walk_at "st") => `(tactic| first
  | with_reducible refine r_seq ?_ | with_reducible refine r_asg ?_ | with_reducible refine r_ret ?_ | with_reducible refine r_ifS ?_ | with_reducible refine r_drop ?_
  | ((with_reducible refine r_var (v := ?v) ?e ?_); (case e => exact rfl))
  | with_reducible refine r_c ?_ | with_reducible refine r_op ?_ | with_reducible refine r_un ?_ | with_reducible refine r_name ?_ | with_reducible refine r_next ?_ | with_reducible refine r_brk ?_ | with_reducible refine r_cont ?_
  | with_reducible refine r_cb ?_ | with_reducible refine r_cons ?_ | with_reducible refine r_nil ?_ | with_reducible refine r_call ?_ | with_reducible refine r_test ?_ | with_reducible refine r_tru ?_ | with_reducible refine r_tB ?_
  | with_reducible refine r_exB ?_ | with_reducible refine r_truB ?_ | with_reducible refine r_truI ?_ | with_reducible refine r_and ?_ | with_reducible refine r_or ?_ | with_reducible refine r_not ?_ | with_reducible refine r_ifE ?_
  | with_reducible refine r_andV ?_ | with_reducible refine r_orV ?_ | with_reducible refine r_notV ?_ | with_reducible refine r_gsub ?_ | with_reducible refine r_tup ?_ | with_reducible refine r_lst ?_
  | with_reducible refine r_forL ?_ | with_reducible refine r_forT ?_ | with_reducible refine r_forR ?_ | with_reducible refine r_lcL ?_ | with_reducible refine r_lcT ?_ | with_reducible refine r_lcR ?_ | with_reducible refine r_yes ?_
  | with_reducible refine v_add ?_ | with_reducible refine v_sub ?_ | with_reducible refine v_lt ?_ | with_reducible refine v_le ?_ | with_reducible refine v_gt ?_ | with_reducible refine v_ge ?_ | with_reducible refine v_neg ?_
  | with_reducible refine v_eqI ?_ | with_reducible refine v_neI ?_ | with_reducible refine v_eqB ?_ | with_reducible refine v_int ?_ | with_reducible refine v_max ?_ | with_reducible refine v_min ?_ | with_reducible refine v_abs ?_
  | ((with_reducible refine v_mulL ?s ?_); (case s => walk_at "side"))
  | ((with_reducible refine v_mulR ?s ?_); (case s => walk_at "side"))
  | ((with_reducible refine v_mod ?s ?_); (case s => walk_at "side"))
  | ((with_reducible refine v_div ?s ?t ?_); (case s => walk_at "side"); (case t => walk_at "side"))
  | ((with_reducible refine v_powE (r := ?r) ?s ?e ?_); (case s => exact (by decide)); (case e => (conv => lhs; simp only [Int.reduceToNat, Int.reducePow])))
  | ((with_reducible refine v_ixL (xs := ?xs) (v := ?v) (SqL.of ?s) ?t ?_); (case s => walk_at "at"); (case t => exact rfl))
  | ((with_reducible refine v_ixT (xs := ?xs) (v := ?v) (SqT.of ?s) ?t ?_); (case s => walk_at "at"); (case t => exact rfl))
  | with_reducible refine r_dget2 ?_ | with_reducible refine r_dget ?_ | with_reducible refine r_dput ?_ | with_reducible refine r_dcT ?_ | with_reducible refine r_revL ?_ | with_reducible refine v_ltS ?_
  | ((with_reducible refine v_d2 (kvs := ?kvs) ?s ?_); (case s => walk_at "at")) | ((with_reducible refine v_dg2S (kvs := ?kvs) ?s ?_); (case s => walk_at "at"))
  | with_reducible refine r_gcons ?_ | with_reducible refine r_gnil ?_ | with_reducible refine r_slice ?_ | with_reducible refine r_noP ?_ | with_reducible refine r_part ?_ | with_reducible refine r_exI ?_ | with_reducible refine r_lstRg ?_ | with_reducible refine r_rg1 ?_ | with_reducible refine iteT ?_ | with_reducible refine iteF ?_ | with_reducible refine iteNF ?_ | with_reducible refine iteNT ?_
  | with_reducible refine r_bm ?_ | ((with_reducible refine r_bmL (xs := ?xs) ?s ?_); (case s => walk_at "at"))
  | ((with_reducible refine v_lenT (xs := ?xs) (SqT.of ?s) ?_); (case s => walk_at "at"))
  | ((with_reducible refine v_lenL (xs := ?xs) (SqL.of ?s) ?_); (case s => walk_at "at"))
  | ((with_reducible refine v_setL (xs := ?xs) (n := ?n) ?s ?t ?_); (case s => walk_at "at"); (case t => exact rfl)))
local macro_rules | `(tactic| walk_at "go") => `(tactic| repeat walk_at "st")

section
variable {P : Program} {w : World} {K : PySem.W.Frag} {mg : Str → Option Value} {base : Heap}
/-- a table of small numbers under unlike names -/
structure Tab (tb : Ad) (n : Nat) : Prop where
  nd : (tb.map (·.1)).Nodup
  len : tb.length ≤ n
  sm : ∀ p ∈ tb, Sn p.2
theorem Tab.put {tb : Ad} {n : Nat} (h : Tab tb n) (m : Str) {v : Int} (hv : Sn v) : Tab (put tb m v) (n + 1) :=
  ⟨put_nodup h.nd m v, Nat.le_trans (put_len tb m v) (Nat.succ_le_succ h.len), fun p hp => (put_mem hp).elim (h.sm p) fun e => by rw [e]; exact hv⟩
theorem Tab.at {tb : Ad} {n : Nat} (h : Tab tb n) {H : Hp} {d : Addr} (e : H d = some (.dK (tK tb))) : TbAt H d tb := ⟨e, fun p hp => (h.sm p hp).sm⟩
def spWeights (K : PySem.W.Frag) : Sp := fun vs H Q _ => ∃ (sc nl d : Addr) (x y : V) (xs : List Int) (ns : List Str) (tb : Ad) (rs : List Row) (cs : List (List (List Row))), vs = [.ref sc, x, y, .ref nl, .ref d] ∧ SqF K H sc (xs.map V.int) ∧ Fz H x (rowsD rs) ∧ Fz H y (clsD cs) ∧ SmR rs ∧ rs.length ≤ 100 ∧ SmCs cs ∧ OverA ns rs ∧ (∀ c ∈ cs, ∀ a ∈ c, OverA ns a) ∧
  H nl = some (.lst (ns.map V.str)) ∧ ns.Nodup ∧ (∀ n ∈ ns, Nm n) ∧ ns.length ≤ 10 ∧ H d = some (.dK (tK tb)) ∧ Tab tb 10 ∧ (∀ n, n ∈ tb.map (·.1) ↔ n ∈ ns) ∧ ∀ H', Kp [] H H' → Q (.bl true) H'
set_option maxHeartbeats 8000000 in
theorem ok_weights (D : DefAt K mg "_law_weights" s_weights ["script", "rows", "clauses", "names", "table"]) (T : Bt mg) (C_box : Cal P w K mg base 1 "_law_box" ["script", "place"] (spBox K)) (C_take : Cal P w K mg base 1 "_law_take" ["box", "many"] spTake) (C_number : Cal P w K mg base 2 "_law_number" ["box"] spNumber)
    (C_copy : Cal P w K mg base 1 "_law_copy" ["table"] spCopy) (C_model : Cal P w K mg base 2 "_law_model" ["table", "box"] spModel) (C_all_met : Cal P w K mg base 3 "_law_all_met" ["rows", "clauses", "table"] spAllMet) (C_weighted : Cal P w K mg base 1 "weighted" ["rows", "unknowns", "bound"] spWeighted)
    (C_l_weighted : Cal P w K mg base 2 "_law_weighted" ["rows", "unknowns", "bound"] spLWeighted) (C_is_row : Cal P w K mg base 2 "_law_is_row" ["row"] spIsRow) (C_says : Cal P w K mg base 5 "_law_says" ["rows", "clauses", "model", "due"] spSays) : Cal P w K mg base 6 "_law_weights" ["script", "rows", "clauses", "names", "table"] (spWeights K) := by
  refine D.mk' sc_weights (fun vs H Q E h => ?_) (fun f cdv A outer s H vs Q E hr h => ?_)
  · obtain ⟨_, _, _, _, _, _, _, _, _, _, rfl, _⟩ := h
    rfl
  · obtain ⟨sc, nl, d, x, y, xs, ns, tb, rs, cs, rfl, hS, hx, hy, s1, hrl, s2, o1, o2, hnl, hnd, hN, hnn, hd, hT, hkeys, k⟩ := h
    refine ⟨_, (pss_cons (ps_set (i := 5) sc_weights.nd rfl (Or.inl rfl) (p_cal C_box hr (pa_cons (pv 0) (pa_cons pe_int pa_nil))))
      (pss_cons (ps_set (i := 6) sc_weights.nd rfl (Or.inl rfl) (pe_callTy c_list (by rfl) T.m_list bt_list (pa_cons (pv 3) pa_nil)))
      (Evl.pss_cut (ps_if (pt_cmpR o_gt (pe_callB c_len (by rfl) T.m_len bt_len (pa_cons (pv 3) pa_nil)) pe_int (nomark _)) (pss_cons (ps_set (i := 7) sc_weights.nd rfl (Or.inl rfl) (p_cal C_take hr (pa_cons (pv 5) (pa_cons (pe_callB c_len (by rfl) T.m_len bt_len (pa_cons (pv 3) pa_nil)) pa_nil))))
      (pss_cons (ps_set (i := 6) sc_weights.nd rfl (Or.inl rfl) (pe_op op_cat (pe_slice sl_list (pv 3) (po_some (pv 7)) po_none) (pe_slice sl_list (pv 3) po_none (po_some (pv 7)))))
      (Evl.pss_cut (ps_if (pt_cmpR (o_eq hr.units) (p_cal C_take hr (pa_cons (pv 5) (pa_cons pe_int pa_nil))) pe_int (nomark _)) (pss_one (ps_set (i := 6) sc_weights.nd rfl (Or.inl rfl) (pe_revL (pv 6)))) pss_nil)
      (pss_one (ps_if (pt_cmpR (o_eq hr.units) (p_cal C_take hr (pa_cons (pv 5) (pa_cons pe_int pa_nil))) pe_int (nomark _)) (pss_one (ps_set (i := 6) sc_weights.nd rfl (Or.inl rfl) (pe_slice sl_list (pv 6) po_none (po_some (p_cal C_take hr (pa_cons (pv 5) (pa_cons (pe_op o_add (pe_callB c_len (by rfl) T.m_len bt_len (pa_cons (pv 3) pa_nil)) pe_int) pa_nil))))))) pss_nil))))) pss_nil)
      (pss_cons (ps_set (i := 8) sc_weights.nd rfl (Or.inl rfl) (pe_callB (c_sum rfl) (by rfl) T.m_sum bt_sum (pa_cons (pe_lc (own := [("name", 10)]) (g := gName 10) (tt := tYes) rfl sc_weights.nd (pi_list (pv 6)) (blkOk_by (own := [("name", 10)]) (N := ["script", "rows", "clauses", "names", "table", "box", "unknowns", "turn", "weight", "wide", "name", "model", "good", "bound", "told", "other", "near", "row"]) (sc := defScope s_weights) (by decide +kernel)) (fun _ _ _ _ _ => (pg_name (i := 10) sc_weights.nd rfl (Or.inl rfl))) (fun _ _ _ _ _ => pts_nil) (fun _ _ _ _ _ => (pe_callB c_abs (by rfl) T.m_abs bt_abs (pa_cons (pe_dget (hu_of hr) (pv 4) (pv 10) (fun _ _ => rfl)) pa_nil)))) pa_nil)))
      (pss_cons (ps_set (i := 9) sc_weights.nd rfl (Or.inl rfl) (p_cal C_copy hr (pa_cons (pv 4) pa_nil)))
      (pss_cons (ps_for PassesOwn.never rfl (pi_list (pv 6)) (pg_name (i := 10) sc_weights.nd rfl (Or.inl rfl)) (pss_one (ps_dput (hu_of hr) (pv 9) (pe_op o_addS pe_str (pv 10)) (pe_callB c_abs (by rfl) T.m_abs bt_abs (pa_cons (pe_dget (hu_of hr) (pv 4) (pv 10) (fun _ _ => rfl)) pa_nil)) rfl)))
      (pss_cons (ps_set (i := 11) sc_weights.nd rfl (Or.inl rfl) (p_cal C_model hr (pa_cons (pv 9) (pa_cons (pv 5) pa_nil))))
      (pss_cons (ps_set (i := 12) sc_weights.nd rfl (Or.inl rfl) (p_cal C_all_met hr (pa_cons (pv 1) (pa_cons (pv 2) (pa_cons (pv 4) pa_nil)))))
      (pss_cons (ps_for PassesOwn.never rfl (pi_list (pe_lst (pa_cons (pv 8) (pa_cons (pe_op o_sub (pv 8) pe_int) (pa_cons (pe_op o_add (pe_op o_add (pv 8) pe_int) (p_cal C_take hr (pa_cons (pv 5) (pa_cons pe_int pa_nil)))) (pa_cons (p_cal C_number hr (pa_cons (pv 5) pa_nil)) pa_nil)))))) (pg_name (i := 13) sc_weights.nd rfl (Or.inl rfl)) (pss_cons (ps_set (i := 14) sc_weights.nd rfl (Or.inl rfl) (p_cal C_weighted hr (pa_cons (pv 1) (pa_cons (pe_callTy c_tuple (by rfl) T.m_tuple bt_tuple (pa_cons (pv 6) pa_nil)) (pa_cons (pv 13) pa_nil)))))
      (pss_cons (ps_if (PW.pt (pw_or (pt_not (p_tru (pe_callB c_isi (by rfl) T.m_isinstance bt_isinstance (pa_cons (pv 14) (pa_cons (pe_bltn (v := .ty "tuple") (by rfl) T.m_tuple bt_tuple rfl) pa_nil))) (by intro _; rfl))) (pw_or1 (pt_not (p_tru (pe_callB (c_all rfl) (by rfl) T.m_all bt_all (pa_cons (pe_lc (own := [("row", 17)]) (g := gName 17) (tt := tYes) rfl sc_weights.nd (pi_tup (pv 14)) (blkOk_by (own := [("row", 17)]) (N := ["script", "rows", "clauses", "names", "table", "box", "unknowns", "turn", "weight", "wide", "name", "model", "good", "bound", "told", "other", "near", "row"]) (sc := defScope s_weights) (by decide +kernel)) (fun _ _ _ _ _ => (pg_name (i := 17) sc_weights.nd rfl (Or.inl rfl))) (fun _ _ _ _ _ => pts_nil) (fun _ _ _ _ _ => (p_cal C_is_row hr (pa_cons (pv 17) pa_nil)))) pa_nil)) (by intro _; rfl)))))) (pss_one (ps_ret pe_bl)) pss_nil)
      (pss_cons (ps_if (pt_cmpR (o_ne hr.units) (pv 14) (p_cal C_l_weighted hr (pa_cons (pv 1) (pa_cons (pv 6) (pa_cons (pv 13) pa_nil)))) (nomark _)) (pss_one (ps_ret pe_bl)) pss_nil)
      (pss_cons (ps_if (pt_not (p_tru (p_cal C_says hr (pa_cons (pv 14) (pa_cons (pv 2) (pa_cons (pv 11) (pa_cons (pe_and (pv 12) (pe_one (pe_cmpR o_ge (pv 13) (pv 8) (nomark _)))) pa_nil))))) (by intro _; rfl))) (pss_one (ps_ret pe_bl)) pss_nil)
      (pss_one (ps_if (pt_cmpR o_gt (pe_callB c_len (by rfl) T.m_len bt_len (pa_cons (pv 6) pa_nil)) pe_int (nomark _)) (pss_cons (ps_set (i := 15) sc_weights.nd rfl (Or.inl rfl) (pe_op o_addS pe_str (pe_ix ix_list (pv 6) (p_cal C_take hr (pa_cons (pv 5) (pa_cons (pe_callB c_len (by rfl) T.m_len bt_len (pa_cons (pv 6) pa_nil)) pa_nil))) (fun _ _ => rfl))))
      (pss_cons (ps_set (i := 16) sc_weights.nd rfl (Or.inl rfl) (p_cal C_copy hr (pa_cons (pv 9) pa_nil)))
      (pss_cons (ps_dput (hu_of hr) (pv 16) (pv 15) (pe_op o_sub (pe_dget (hu_of hr) (pv 16) (pv 15) (fun _ _ => rfl)) pe_int) rfl)
      (pss_cons (ps_if (pt_not (p_tru (p_cal C_says hr (pa_cons (pv 14) (pa_cons (pv 2) (pa_cons (p_cal C_model hr (pa_cons (pv 16) (pa_cons (pv 5) pa_nil))) (pa_cons pe_bl pa_nil))))) (by intro _; rfl))) (pss_one (ps_ret pe_bl)) pss_nil)
      (pss_cons (ps_dput (hu_of hr) (pv 16) (pv 15) (pe_op o_add (pe_dget (hu_of hr) (pv 16) (pv 15) (fun _ _ => rfl)) pe_int) rfl)
      (pss_one (ps_if (pt_not (p_tru (p_cal C_says hr (pa_cons (pv 14) (pa_cons (pv 2) (pa_cons (p_cal C_model hr (pa_cons (pv 16) (pa_cons (pv 5) pa_nil))) (pa_cons (pe_and (pv 12) (pe_one (pe_cmpR o_gt (pv 13) (pv 8) (nomark _)))) pa_nil))))) (by intro _; rfl))) (pss_one (ps_ret pe_bl)) pss_nil))))))) pss_nil)))))))
      (pss_one (ps_ret pe_bl))))))))))), ?_⟩
    walk_at "go"
    refine ⟨sc, 50, xs, rfl, hS, by decide, by decide, fun b H1 k1 nb hB1 => ?_⟩
    walk_at "go"
    refine v_listL (SqL.of (k1.at0 hnl)) (fun un nun => ?_)
    generalize q2 : upd H1 un _ = H2
    obtain ⟨k2, e2⟩ := newQ nun q2
    have hB2 := hB1.kp0 k2
    have nunb := hB1.ne nun
    have kk2 := k1.trans k2
    walk_at "go"
    refine r_cut (fun σ' H' => ∃ (un : Addr) (us : List Str) (v7 : Option V), σ' = [some (.ref sc), some x, some y, some (.ref nl), some (.ref d), some (.ref b), some (.ref un), v7, none, none, none, none, none, none, none, none, none, none] ∧ Kp [] H H' ∧ BoxAt H' b ∧ un ≠ b ∧ H' un = some (.lst (us.map V.str)) ∧ us.Nodup ∧ (∀ n ∈ us, n ∈ ns) ∧ us.length ≤ 10) ?_ ?_
    · have hnl2 := kk2.at0 hnl
      walk_at "go"
      refine ifd (fun e => ?_) (fun e => ?_)
      · rw [List.length_map] at e
        walk_at "go"
        rw [List.length_map]
        refine ⟨b, _, rfl, hB2, by omega, by omega, fun t H3 t0 t1 hB3 k3 => ?_⟩
        obtain ⟨t, rfl⟩ := nat_of t0
        have kk3 := Kp.box kk2 nb k3
        have hnl3 := kk3.at0 hnl
        walk_at "go"
        refine v_slL (SqL.of hnl3) (fun p1 np1 => ?_)
        rw [cut_lo, ← List.map_drop]
        generalize q4 : upd H3 p1 _ = H4
        obtain ⟨k4, e4⟩ := newQ np1 q4
        walk_at "go"
        refine v_slL (SqL.of (k4.at0 hnl3)) (fun p2 np2 => ?_)
        rw [cut_hi, ← List.map_take]
        generalize q5 : upd H4 p2 _ = H5
        obtain ⟨k5, e5⟩ := newQ np2 q5
        walk_at "go"
        refine v_cat (k5.at0 e4) e5 (by simp only [List.length_map, List.length_drop, List.length_take]; exact szOk (by omega)) (fun p3 np3 => ?_)
        rw [← List.map_append]
        generalize q6 : upd H5 p3 _ = H6
        obtain ⟨k6, e6⟩ := newQ np3 q6
        have kk6 := ((kk3.trans k4).trans k5).trans k6
        have hB6 := ((hB3.kp0 k4).kp0 k5).kp0 k6
        have np3b := ((hB3.kp0 k4).kp0 k5).ne np3
        have hperm : (ns.drop t ++ ns.take t).Perm ns := List.perm_append_comm.trans (by rw [List.take_append_drop])
        have hnd6 := hperm.nodup_iff.mpr hnd
        have hin6 : ∀ n ∈ ns.drop t ++ ns.take t, n ∈ ns := fun n hn => hperm.mem_iff.mp hn
        have hl6 : (ns.drop t ++ ns.take t).length ≤ 10 := by rw [hperm.length_eq]; exact hnn
        generalize ns.drop t ++ ns.take t = us at *
        walk_at "go"
        refine r_cut (fun σ' H' => ∃ (un : Addr) (us : List Str) (v7 : Option V), σ' = [some (.ref sc), some x, some y, some (.ref nl), some (.ref d), some (.ref b), some (.ref un), v7, none, none, none, none, none, none, none, none, none, none] ∧ Kp [] H H' ∧ BoxAt H' b ∧ un ≠ b ∧ H' un = some (.lst (us.map V.str)) ∧ us.Nodup ∧ (∀ n ∈ us, n ∈ ns) ∧ us.length ≤ 10) ?_ ?_
        · walk_at "go"
          refine ⟨b, _, rfl, hB6, by decide, by decide, fun u H7 _ _ hB7 k7 => ?_⟩
          have kk7 := Kp.box kk6 nb k7
          have e7 := k7.keep _ _ e6 (nin1 np3b)
          walk_at "go"
          refine ifd (fun e => ?_) (fun e => ?_)
          · walk_at "go"
            refine v_revL (SqL.of e7) (fun p4 np4 => ?_)
            rw [← List.map_reverse]
            generalize q8 : upd H7 p4 _ = H8
            obtain ⟨k8, e8⟩ := newQ np4 q8
            walk_at "go"
            exact ⟨p4, us.reverse, _, rfl, kk7.trans k8, hB7.kp0 k8, hB7.ne np4, e8, (List.reverse_perm us).nodup_iff.mpr hnd6, fun n hn => hin6 n (List.mem_reverse.mp hn), by rw [List.length_reverse]; exact hl6⟩
          · walk_at "go"
            exact ⟨p3, us, _, rfl, kk7, hB7, np3b, e7, hnd6, hin6, hl6⟩
        · rintro σ' H7 ⟨un, us, v7, rfl, kk7, hB7, nunb, e7, hnd7, hin7, hl7⟩
          walk_at "go"
          refine ⟨b, _, rfl, hB7, by decide, by decide, fun u H8 _ _ hB8 k8 => ?_⟩
          have kk8 := Kp.box kk7 nb k8
          have e8 := k8.keep _ _ e7 (nin1 nunb)
          have hnl8 := kk8.at0 hnl
          walk_at "go"
          refine ifd (fun e => ?_) (fun e => ?_)
          · walk_at "go"
            rw [List.length_map]
            refine ⟨b, _, rfl, hB8, by omega, by omega, fun u H9 u0 u1 hB9 k9 => ?_⟩
            obtain ⟨u, rfl⟩ := nat_of u0
            walk_at "go"
            refine v_slL (SqL.of (k9.keep _ _ e8 (nin1 nunb))) (fun p4 np4 => ?_)
            rw [cut_hi, ← List.map_take]
            generalize q10 : upd H9 p4 _ = H10
            obtain ⟨k10, e10⟩ := newQ np4 q10
            walk_at "go"
            refine ⟨p4, us.take u, _, rfl, (Kp.box kk8 nb k9).trans k10, hB9.kp0 k10, hB9.ne np4, e10, hnd7.sublist (List.take_sublist _ _), fun n hn => hin7 n (List.mem_of_mem_take hn), ?_⟩
            rw [List.length_take]; omega
          · walk_at "go"
            exact ⟨un, us, _, rfl, kk8, hB8, nunb, e8, hnd7, hin7, hl7⟩
      · walk_at "go"
        exact ⟨un, ns, _, rfl, kk2, hB2, nunb, e2, hnd, fun n hn => hn, hnn⟩
    · clear nunb nun e2 k2 kk2 q2 hB2
      rintro σ' H3 ⟨un, us, v7, rfl, kk3, hB3, nunb, e3, hus, hin, hul⟩
      have hval : ∀ n ∈ us, ∃ v, look tb n = some v ∧ Sn v := fun n hn => by
        obtain ⟨v, hv⟩ := look_some ((hkeys n).mpr (hin n hn))
        exact ⟨v, hv, hT.sm _ (look_mem hv)⟩
      have valv : ∀ {n : Str} {v : Int}, look tb n = some v → valV (tK tb) (Sum.inr n) = some (.int v) ∧ val tb n = v := fun {n v} hv => ⟨by rw [valV_t, hv]; rfl, by unfold val; rw [hv]; rfl⟩
      walk_at "go"
      refine lcL (SqL.of e3) (fun D i H' => Kp [] H3 H' ∧ H3 D = none ∧ H' D = some (.lst (((us.take i).map fun n => absI (val tb n)).map V.int))) ?_ ?_ ?_ ?_
      · exact fun D nD => ⟨Kp.new nD, nD, upd_same⟩
      · rintro D i H' _ ⟨k4, _⟩
        exact SqL.of (k4.at0 e3)
      · rintro D i z H4 hz ⟨k4, nD, hD⟩
        obtain ⟨n, hn, rfl⟩ := str_get hz
        obtain ⟨v, hv, sv⟩ := hval n (List.mem_of_getElem? hn)
        have hi := (List.getElem?_eq_some_iff.mp hn).1
        walk_at "go"
        refine ⟨rfl, ?_⟩
        walk_at "go"
        refine v_dgetS ((kk3.trans k4).at0 hd) (valv hv).1 ?_
        walk_at "go"
        refine ⟨_, hD, by simp only [List.length_map, List.length_take]; exact szLt (by omega), k4.own nD, nD, ?_⟩
        rw [upd_same, take_get hn, List.map_append, List.map_append, ← (valv hv).2]
        rfl
      · rintro D H4 ⟨k4, nD, hD⟩
        rw [List.length_map, List.take_length] at hD
        have kk4 := kk3.trans k4
        have hB4 := hB3.kp0 k4
        have e4 := k4.at0 e3
        walk_at "go"
        refine v_sum (SqL.of hD) ?_
        obtain ⟨W, hW⟩ : ∃ W, (us.map fun n => absI (val tb n)).sum = W := ⟨_, rfl⟩
        rw [hW]
        walk_at "go"
        refine ⟨d, tb, rfl, hT.at (kk4.at0 hd), hT.nd, by have := hT.len; omega, fun wd tw H5 k5 nwd htw hpw hlw => ?_⟩
        have kk5 := kk4.trans k5
        have nwdH := kk4.free _ nwd
        have hB5 := hB4.kp0 k5
        have nwdb := hB4.ne nwd
        have nwdd : wd ≠ d := fun z => by rw [z, kk4.at0 hd] at nwd; cases nwd
        have nwdu : wd ≠ un := fun z => by rw [z, e4] at nwd; cases nwd
        have e5 := k5.at0 e4
        have hTw : Tab tw (10 + 0) := by
          refine ⟨hpw.nodup_iff.mpr hT.nd, ?_, fun p hp => ?_⟩
          · have := hpw.length_eq
            rw [List.length_map, List.length_map] at this
            rw [this]; exact hT.len
          · have h1 := look_of (hpw.nodup_iff.mpr hT.nd) (n := p.1) (v := p.2) hp
            rw [hlw] at h1
            exact hT.sm _ (look_mem h1)
        walk_at "go"
        refine lpL (SqL.of e5) (fun i σ H' => ∃ (v10 : Option V) (tw : Ad), σ = [some (.ref sc), some x, some y, some (.ref nl), some (.ref d), some (.ref b), some (.ref un), v7, some (.int W), some (.ref wd), v10, none, none, none, none, none, none, none] ∧ Kp [] H H' ∧ BoxAt H' b ∧ H' un = some (.lst (us.map V.str)) ∧
          H' wd = some (.dK (tK tw)) ∧ Tab tw (10 + i) ∧ (∀ n ∈ us.take i, look tw (absN n) = some (absI (val tb n))) ∧ (∀ m, (∀ n ∈ us, m ≠ absN n) → look tw m = look tb m)) ?_ ?_ ?_ ?_
        · exact ⟨none, tw, rfl, kk5, hB5, e5, htw.1, hTw, (fun n hn => by simp at hn), fun m _ => hlw m⟩
        · rintro i σ H' _ ⟨_, _, _, _, _, hun, _⟩
          exact SqL.of hun
        · rintro i z σ H6 hz ⟨v10, tw, rfl, k6, hB6, e6, hwd, hTw, hA, hO⟩
          obtain ⟨n, hn, rfl⟩ := str_get hz
          have hmem := List.mem_of_getElem? hn
          obtain ⟨v, hv, sv⟩ := hval n hmem
          have hi := (List.getElem?_eq_some_iff.mp hn).1
          walk_at "go"
          refine v_dgetS (k6.at0 hd) (valv hv).1 ?_
          walk_at "go"
          refine v_addS (pr_len n (hN n (hin n hmem)).len) ?_
          walk_at "go"
          refine v_dputS hwd (by unfold tK; rw [List.length_map]; have := hTw.len; exact szLt (by omega)) ?_
          have ea : Str.ofString "abs " ++ n = absN n := rfl
          have ev : (if v < 0 then -v else v) = absI v := rfl
          rw [ea, ev, putK_t]
          refine ⟨_, put tw (absN n) (absI v), rfl, k6.own nwdH, hB6.put nwdb, by rw [upd_ne nwdu.symm]; exact e6, upd_same, hTw.put _ (by unfold Sn at *; rw [absI_n]; exact sv), fun m hm => ?_, fun m hm => ?_⟩
          · rw [look_put]
            rcases mem_take_snoc hn hm with hm | rfl
            · by_cases z : absN n = absN m
              · rw [if_pos z, ← abs_inj z, (valv hv).2]
              · rw [if_neg z]; exact hA m hm
            · rw [if_pos rfl, (valv hv).2]
          · rw [look_put, if_neg fun z => hm n hmem z.symm]
            exact hO m hm
        · rintro σ H6 ⟨v10, tw, rfl, k6, hB6, e6, hwd, hTw, hA, hO⟩
          rw [List.length_map, List.take_length] at hA
          rw [List.length_map] at hTw
          have hlen := hTw.len
          walk_at "go"
          refine ⟨wd, b, tw, rfl, hTw.at hwd, hTw.nd, by omega, hB6, fun xm ps H7 hB7 k7 hxm hpn hpv hps => ?_⟩
          have kk7 := Kp.box k6 nb k7
          have e7 := k7.keep _ _ e6 (nin1 nunb)
          have hwd7 := k7.keep _ _ hwd (nin1 nwdb)
          walk_at "go"
          refine ⟨x, y, d, rs, cs, tb, rfl, hx.kp0 kk7, hy.kp0 kk7, s1, s2, hT.at (kk7.at0 hd), fun H8 k8 => ?_⟩
          obtain ⟨G, hG⟩ : ∃ G, metAll rs cs (val tb) = G := ⟨_, rfl⟩
          rw [hG]
          have kk8 := kk7.trans k8
          have hB8 := hB7.kp0 k8
          have e8 := k8.at0 e7
          have hwd8 := k8.at0 hwd7
          have hxm8 := hxm.kp0 k8
          walk_at "go"
          refine ⟨b, _, rfl, hB8, by decide, by decide, fun u H9 u0 u1 hB9 k9 => ?_⟩
          walk_at "go"
          refine ⟨b, rfl, hB9, fun r H10 sr hB10 k10 => ?_⟩
          walk_at "go"
          refine ⟨szOk (by simp), fun bl nbl => ?_⟩
          generalize q11 : upd H10 bl _ = H11
          obtain ⟨k11, e11⟩ := newQ nbl q11
          have kk11 := (Kp.box (Kp.box kk8 nb k9) nb k10).trans k11
          have hB11 := hB10.kp0 k11
          have nblb := hB10.ne nbl
          have e12 := k11.at0 (k10.keep _ _ (k9.keep _ _ e8 (nin1 nunb)) (nin1 nunb))
          have hwd12 := k11.at0 (k10.keep _ _ (k9.keep _ _ hwd8 (nin1 nwdb)) (nin1 nwdb))
          have hxm12 := ((hxm8.kp k9 hB8.nt).kp k10 hB9.nt).kp0 k11
          obtain ⟨bs, hbs⟩ : ∃ bs : List Int, bs = [W, W - 1, W + 1 + u, r] := ⟨_, rfl⟩
          have e11' : H11 bl = some (.lst (bs.map V.int)) := by rw [hbs]; exact e11
          clear e11 q11 k10 k9 k8 k7 e8 e7 hwd8 hwd7 hB10 hB9 hB8 hB7 nbl hxm hxm8 kk8 kk7
          have hf0 : ∀ n ∈ us, val tw (absN n) = absI (val tb n) := fun n hn => by unfold val; rw [hA n hn]; rfl
          have hmk : val (mk ps) = val tw := by rw [mk_nodup ps hpn]; exact funext hpv
          refine lpL (SqL.of e11') (fun i σ H' => ∃ (v13 v14 v15 v16 : Option V), σ = [some (.ref sc), some x, some y, some (.ref nl), some (.ref d), some (.ref b), some (.ref un), v7, some (.int W), some (.ref wd), v10, some xm, some (.bl G), v13, v14, v15, v16, none] ∧ Kp [b] H11 H' ∧ BoxAt H' b) ?_ ?_ ?_ ?_
          · exact ⟨none, none, none, none, rfl, Kp.refl _ _, hB11⟩
          · rintro i σ H' _ ⟨_, _, _, _, _, k12, _⟩
            exact SqL.of (k12.keep _ _ e11' (nin1 nblb))
          · rintro i z σ H12 hz ⟨v13, v14, v15, v16, rfl, k12, hB12⟩
            obtain ⟨bd, _, rfl⟩ := int_get hz
            have hx12 := (hx.kp0 kk11).kp k12 hB11.nt
            have hy12 := (hy.kp0 kk11).kp k12 hB11.nt
            have hm12 := hxm12.kp k12 hB11.nt
            have e12' := k12.keep _ _ e12 (nin1 nunb)
            have hw12' := k12.keep _ _ hwd12 (nin1 nwdb)
            have key1 := key1 (b := bd) hN hin o1 o2 hO hf0 hW
            have hsm := wtd_sm (us := us) (b := bd) s1 hrl hul
            have hsh := shape_rows (wtd_ok (b := bd) hN hin o1)
            have hNu : ∀ n ∈ us, Nm n := fun n hn => hN n (hin n hn)
            rw [hG] at key1
            walk_at "go"
            refine v_tupleL (SqL.of e12') (fun t1 n1 => ?_)
            generalize q13 : upd H12 t1 _ = H13
            obtain ⟨k13, e13⟩ := newQ n1 q13
            walk_at "go"
            refine ⟨x, .ref t1, bd, rs, us, rfl, hx12.kp0 k13, .tup e13 (fz_strs' us), by omega, by omega, hNu, fun p H14 k14 hp => ?_⟩
            obtain ⟨pa, pxs, rfl, hpa, hpz⟩ := id hp.tup_inv
            walk_at "go"
            refine v_isi (.base (.tup hpa)) (kit_ty (r := true) (by decide +kernel)) ?_
            walk_at "go"
            have hpl := hpz.len
            rw [List.length_map] at hpl
            have hwl := hsm.2
            refine lcT (SqT.of hpa) (fun D i H' => Kp [] H14 H' ∧ H14 D = none ∧ H' D = some (.lst ((((wtd rs us bd).take i).map fun _ => true).map V.bl))) ?_ ?_ ?_ ?_
            · exact fun D nD => ⟨Kp.new nD, nD, upd_same⟩
            · rintro D i H' _ ⟨k4, _⟩
              exact SqT.of (k4.at0 hpa)
            · rintro D i z H15 hz ⟨k15, nD, hD⟩
              obtain ⟨r, hr', hxr⟩ := hpz.map hz
              have hi := (List.getElem?_eq_some_iff.mp hr').1
              walk_at "go"
              refine ⟨rfl, ?_⟩
              walk_at "go"
              refine ⟨z, r, rfl, hxr.kp0 k15, ?_⟩
              refine ⟨_, hD, by simp only [List.length_map, List.length_take]; exact szLt (by omega), k15.own nD, nD, ?_⟩
              rw [upd_same, take_get hr', List.map_append, List.map_append]
              rfl
            · rintro D H15 ⟨k15, nD, hD⟩
              rw [hpl, List.take_length] at hD
              walk_at "go"
              refine v_all (SqL.of hD) ?_
              rw [all_map, all_true (f := fun _ => true) fun _ _ => rfl]
              have kk15 := (k13.trans k14).trans k15
              walk_at "go"
              refine ⟨x, un, bd, rs, us, rfl, hx12.kp0 kk15, kk15.at0 e12', by omega, by omega, hNu, fun p2 H16 k16 hp2 => ?_⟩
              have kk16 := kk15.trans k16
              have hp16 := hp.kp0 (k15.trans k16)
              refine v_neFz hp16 hp2 hsh ?_
              walk_at "go"
              have hB16 := hB12.kp0 kk16
              have e16 := kk16.at0 e12'
              have hw16 := kk16.at0 hw12'
              have hsn : ∀ {i : Int}, Sn i → Sm (absI i - 1) ∧ Sm (absI i - 1 + 2) := fun {i} h => by
                unfold Sn at h
                unfold Sm
                have h1 := absI_n i
                have : (2 : Nat) ^ 150 + 2 < 2 ^ 200 := by decide
                omega
              cases G
              all_goals
                simp only [Bool.true_and, Bool.false_and] at key1
                walk_at "go"
                refine ⟨.ref pa, y, xm, _, wtd rs us bd, cs, ps, rfl, hp16, hy12.kp0 kk16, hm12.kp0 kk16, hsm, s2, hps, fun H17 k17 => ?_⟩
                rw [hmk, key1, decide_eq_true rfl]
                have kk17 := kk16.trans k17
                have hB17 := hB16.kp0 k17
                have e17 := k17.at0 e16
                have hw17 := k17.at0 hw16
                walk_at "go"
                refine ifd (fun e => ?_) (fun e => ?_)
                · rw [List.length_map] at e
                  walk_at "go"
                  rw [List.length_map]
                  refine ⟨b, _, rfl, hB17, by omega, by omega, fun t H18 t0 t1 hB18 k18 => ?_⟩
                  obtain ⟨t, rfl⟩ := nat_of t0
                  have ht : t < us.length := by omega
                  have hg : (us.map V.str)[t]? = some (.str us[t]) := by rw [List.getElem?_map, List.getElem?_eq_getElem ht]; rfl
                  have hmem : us[t] ∈ us := List.getElem_mem ht
                  generalize us[t] = n at hg hmem
                  obtain ⟨v, hv, sv⟩ := hval n hmem
                  have hvv := (valv hv).2
                  have hw18 := k18.keep _ _ hw17 (nin1 nwdb)
                  refine v_ixL (SqL.of (k18.keep _ _ e17 (nin1 nunb))) (atI_nat hg) ?_
                  walk_at "go"
                  refine v_addS (pr_len n (hNu n hmem).len) ?_
                  have ea : Str.ofString "abs " ++ n = absN n := rfl
                  rw [ea]
                  walk_at "go"
                  refine ⟨wd, tw, rfl, hTw.at hw18, hTw.nd, by omega, fun nr tn H19 k19 nnr htn hpt hlt => ?_⟩
                  have hB19 := hB18.kp0 k19
                  have nnrb := hB18.ne nnr
                  have hlv : look tn (absN n) = some (absI v) := by rw [hlt, hA n hmem, hvv]
                  have hlv' : valV (tK tn) (Sum.inr (absN n)) = some (.int (absI v)) := by rw [valV_t, hlv]; rfl
                  have hndn : (tn.map (·.1)).Nodup := hpt.nodup_iff.mpr hTw.nd
                  have hlen2 : tn.length ≤ 10 + us.length := by
                    have := hpt.length_eq
                    rw [List.length_map, List.length_map] at this
                    omega
                  walk_at "go"
                  refine v_dgetS htn.1 hlv' ?_
                  walk_at "go"
                  refine v_dputS htn.1 (by unfold tK; rw [List.length_map]; exact szLt (by omega)) ?_
                  rw [putK_t]
                  have kk19 : Kp [b] H12 (upd H19 nr (.dK (tK (put tn (absN n) (absI v - 1))))) := (((kk17.of0.trans k18).trans k19.of0)).own ((kk17.of0.trans k18).free _ nnr)
                  have hB20 : BoxAt (upd H19 nr (.dK (tK (put tn (absN n) (absI v - 1))))) b := hB19.put nnrb
                  have e20 : (upd H19 nr (.dK (tK (put tn (absN n) (absI v - 1))))) nr = some (.dK (tK (put tn (absN n) (absI v - 1)))) := upd_same
                  have hp20 : Fz (upd H19 nr (.dK (tK (put tn (absN n) (absI v - 1))))) (.ref pa) (rowsD (wtd rs us bd)) := (((hp16.kp0 k17).kp k18 hB17.nt).kp0 k19).put htn.1 (by intro z q; cases q)
                  generalize upd H19 nr (.dK (tK (put tn (absN n) (absI v - 1)))) = H20 at *
                  have hs1 : ∀ p ∈ put tn (absN n) (absI v - 1), Sm p.2 := fun p hp => (put_mem hp).elim (htn.2 p) fun e => by rw [e]; exact (hsn sv).1
                  have hnd1 := put_nodup hndn (absN n) (absI v - 1)
                  have hl1 := put_len tn (absN n) (absI v - 1)
                  have hlook1 : ∀ m, look (put tn (absN n) (absI v - 1)) m = if absN n = m then some (absI v - 1) else look tw m := fun m => by rw [look_put, hlt]
                  generalize put tn (absN n) (absI v - 1) = t1 at *
                  have hO1 : ∀ m, (∀ n ∈ us, m ≠ absN n) → look t1 m = look tb m := fun m hm => by rw [hlook1, if_neg fun z => hm n hmem z.symm]; exact hO m hm
                  have key2 := key2 (rs := rs) (cs := cs) (b := bd) (n := n) hN hin o1 o2 hO1 hmem (by unfold val at hvv ⊢; rw [hlook1, if_pos rfl, hvv]; rfl)
                  walk_at "go"
                  refine ⟨nr, b, t1, rfl, ⟨e20, hs1⟩, hnd1, by omega, hB20, fun x2 ps2 H21 hB21 k21 hx2 hpn2 hpv2 hps2 => ?_⟩
                  have hmk2 : val (mk ps2) = val t1 := by rw [mk_nodup ps2 hpn2]; exact funext hpv2
                  have kk21 := kk19.trans k21
                  have e21 := k21.keep _ _ e20 (nin1 nnrb)
                  have hp21 := hp20.kp k21 hB20.nt
                  walk_at "go"
                  refine ⟨.ref pa, y, x2, _, wtd rs us bd, cs, ps2, rfl, hp21, hy12.kp kk21 hB12.nt, hx2, hsm, s2, hps2, fun H22 k22 => ?_⟩
                  rw [hmk2, key2, decide_eq_true rfl]
                  have kk22 := kk21.trans k22.of0
                  have e22 := k22.at0 e21
                  have hB22 := hB21.kp0 k22
                  have hlv2 : valV (tK t1) (Sum.inr (absN n)) = some (.int (absI v - 1)) := by rw [valV_t, hlook1, if_pos rfl]; rfl
                  walk_at "go"
                  refine v_dgetS e22 hlv2 ?_
                  walk_at "go"
                  refine v_dputS e22 (by unfold tK; rw [List.length_map]; exact szLt (by omega)) ?_
                  rw [putK_t]
                  have kk23 : Kp [b] H12 (upd H22 nr (.dK (tK (put t1 (absN n) (absI v - 1 + 2))))) := kk22.own ((kk17.of0.trans k18).free _ nnr)
                  have hB23 : BoxAt (upd H22 nr (.dK (tK (put t1 (absN n) (absI v - 1 + 2))))) b := hB22.put nnrb
                  have e23 : (upd H22 nr (.dK (tK (put t1 (absN n) (absI v - 1 + 2))))) nr = some (.dK (tK (put t1 (absN n) (absI v - 1 + 2)))) := upd_same
                  have hp23 : Fz (upd H22 nr (.dK (tK (put t1 (absN n) (absI v - 1 + 2))))) (.ref pa) (rowsD (wtd rs us bd)) := (hp21.kp0 k22).put e22 (by intro z q; cases q)
                  generalize upd H22 nr (.dK (tK (put t1 (absN n) (absI v - 1 + 2)))) = H23 at *
                  have hs2 : ∀ p ∈ put t1 (absN n) (absI v - 1 + 2), Sm p.2 := fun p hp => (put_mem hp).elim (hs1 p) fun e => by rw [e]; exact (hsn sv).2
                  have hnd2 := put_nodup hnd1 (absN n) (absI v - 1 + 2)
                  have hl2 := put_len t1 (absN n) (absI v - 1 + 2)
                  have hlook2 : ∀ m, look (put t1 (absN n) (absI v - 1 + 2)) m = if absN n = m then some (absI v - 1 + 2) else look tw m := fun m => by
                    rw [look_put, hlook1]
                    split <;> rfl
                  generalize put t1 (absN n) (absI v - 1 + 2) = t2 at *
                  have hO2 : ∀ m, (∀ n ∈ us, m ≠ absN n) → look t2 m = look tb m := fun m hm => by rw [hlook2, if_neg fun z => hm n hmem z.symm]; exact hO m hm
                  have key3 := key3 (rs := rs) (cs := cs) (b := bd) (n := n) hN hin o1 o2 hO2 hus hmem (by unfold val at hvv ⊢; rw [hlook2, if_pos rfl, hvv]; show absI v - 1 + 2 = _; omega) (fun m hm hne => by
                    have := hf0 m hm
                    unfold val at this ⊢
                    rw [hlook2, if_neg fun z => hne (abs_inj z).symm]
                    exact this) hW
                  rw [hG] at key3
                  simp only [Bool.true_and, Bool.false_and] at key3
                  walk_at "go"
                  refine ⟨nr, b, t2, rfl, ⟨e23, hs2⟩, hnd2, by omega, hB23, fun x3 ps3 H24 hB24 k24 hx3 hpn3 hpv3 hps3 => ?_⟩
                  have hmk3 : val (mk ps3) = val t2 := by rw [mk_nodup ps3 hpn3]; exact funext hpv3
                  have kk24 := kk23.trans k24
                  walk_at "go"
                  refine ⟨.ref pa, y, x3, _, wtd rs us bd, cs, ps3, rfl, hp23.kp k24 hB23.nt, hy12.kp kk24 hB12.nt, hx3, hsm, s2, hps3, fun H25 k25 => ?_⟩
                  rw [hmk3, key3, decide_eq_true rfl]
                  walk_at "go"
                  exact ⟨_, _, _, _, rfl, k12.trans (kk24.trans k25.of0), hB24.kp0 k25⟩
                · walk_at "go"
                  exact ⟨_, _, _, _, rfl, k12.trans kk17.of0, hB17⟩
          · rintro σ H12 ⟨v13, v14, v15, v16, rfl, k12, hB12⟩
            walk_at "go"
            exact k _ (Kp.box kk11 nb k12)
end
end K11

namespace K11
open PySem PySem.Spec L2 KV
local macro_rules | `(tactic| walk_at "side") => `(tactic| first | assumption | omega | decide)
local macro_rules | `(tactic| walk_at "at") => `(tactic| first | assumption | exact upd_same | (rw [upd_ne (by assumption)]; assumption))
local macro_rules | `(tactic| walk_at "st") => `(tactic| first
  | with_reducible refine r_seq ?_ | with_reducible refine r_asg ?_ | with_reducible refine r_ret ?_ | with_reducible refine r_ifS ?_ | with_reducible refine r_drop ?_
  | ((with_reducible refine r_var (v := ?v) ?e ?_); (case e => exact rfl))
  | with_reducible refine r_c ?_ | with_reducible refine r_op ?_ | with_reducible refine r_un ?_ | with_reducible refine r_name ?_ | with_reducible refine r_next ?_ | with_reducible refine r_brk ?_ | with_reducible refine r_cont ?_
  | with_reducible refine r_cb ?_ | with_reducible refine r_cons ?_ | with_reducible refine r_nil ?_ | with_reducible refine r_call ?_ | with_reducible refine r_test ?_ | with_reducible refine r_tru ?_ | with_reducible refine r_tB ?_
  | with_reducible refine r_exB ?_ | with_reducible refine r_truB ?_ | with_reducible refine r_truI ?_ | with_reducible refine r_and ?_ | with_reducible refine r_or ?_ | with_reducible refine r_not ?_ | with_reducible refine r_ifE ?_
  | with_reducible refine r_andV ?_ | with_reducible refine r_orV ?_ | with_reducible refine r_notV ?_ | with_reducible refine r_gsub ?_ | with_reducible refine r_tup ?_ | with_reducible refine r_lst ?_
  | with_reducible refine r_forL ?_ | with_reducible refine r_forT ?_ | with_reducible refine r_forR ?_ | with_reducible refine r_lcL ?_ | with_reducible refine r_lcT ?_ | with_reducible refine r_lcR ?_ | with_reducible refine r_yes ?_
  | with_reducible refine v_add ?_ | with_reducible refine v_sub ?_ | with_reducible refine v_lt ?_ | with_reducible refine v_le ?_ | with_reducible refine v_gt ?_ | with_reducible refine v_ge ?_ | with_reducible refine v_neg ?_
  | with_reducible refine v_eqI ?_ | with_reducible refine v_neI ?_ | with_reducible refine v_eqB ?_ | with_reducible refine v_int ?_ | with_reducible refine v_max ?_ | with_reducible refine v_min ?_ | with_reducible refine v_abs ?_
  | ((with_reducible refine v_mulL ?s ?_); (case s => walk_at "side"))
  | ((with_reducible refine v_mulR ?s ?_); (case s => walk_at "side"))
  | ((with_reducible refine v_mod ?s ?_); (case s => walk_at "side"))
  | ((with_reducible refine v_div ?s ?t ?_); (case s => walk_at "side"); (case t => walk_at "side"))
  | ((with_reducible refine v_powE (r := ?r) ?s ?e ?_); (case s => exact (by decide)); (case e => (conv => lhs; simp only [Int.reduceToNat, Int.reducePow])))
  | ((with_reducible refine v_ixL (xs := ?xs) (v := ?v) (SqL.of ?s) ?t ?_); (case s => walk_at "at"); (case t => exact rfl))
  | ((with_reducible refine v_ixT (xs := ?xs) (v := ?v) (SqT.of ?s) ?t ?_); (case s => walk_at "at"); (case t => exact rfl))
  | with_reducible refine r_dget2 ?_ | with_reducible refine r_dget ?_ | with_reducible refine r_dput ?_ | with_reducible refine r_dcT ?_ | with_reducible refine r_revL ?_ | with_reducible refine v_ltS ?_
  | ((with_reducible refine v_d2 (kvs := ?kvs) ?s ?_); (case s => walk_at "at")) | ((with_reducible refine v_dg2S (kvs := ?kvs) ?s ?_); (case s => walk_at "at"))
  | with_reducible refine r_gcons ?_ | with_reducible refine r_gnil ?_ | with_reducible refine r_slice ?_ | with_reducible refine r_noP ?_ | with_reducible refine r_part ?_ | with_reducible refine r_exI ?_ | with_reducible refine r_lstRg ?_ | with_reducible refine r_rg1 ?_ | with_reducible refine iteT ?_ | with_reducible refine iteF ?_ | with_reducible refine iteNF ?_ | with_reducible refine iteNT ?_
  | with_reducible refine r_bm ?_ | ((with_reducible refine r_bmL (xs := ?xs) ?s ?_); (case s => walk_at "at"))
  | ((with_reducible refine v_lenT (xs := ?xs) (SqT.of ?s) ?_); (case s => walk_at "at"))
  | ((with_reducible refine v_lenL (xs := ?xs) (SqL.of ?s) ?_); (case s => walk_at "at"))
  | ((with_reducible refine v_setL (xs := ?xs) (n := ?n) ?s ?t ?_); (case s => walk_at "at"); (case t => exact rfl)))
local macro_rules | `(tactic| walk_at "go") => `(tactic| repeat walk_at "st")

section
variable {P : Program} {w : World} {K : PySem.W.Frag} {mg : Str → Option Value} {base : Heap}
def spLaw (K : PySem.W.Frag) : Sp := fun vs H Q _ => ∃ (a : Addr) (ns : List Int), vs = [.ref a] ∧ SqF K H a (ns.map V.int) ∧ ∀ H', Q (.bl true) H'
theorem says_self {b : Bool} : decide (b = b) = true := decide_eq_true rfl
set_option maxHeartbeats 8000000 in
theorem ok_law {f : Addr} {fd : FuncData} (F : Fun K "law" "law" s_law f fd) (T : Bt mg) (C_box : Cal P w K mg base 1 "_law_box" ["script", "place"] (spBox K)) (C_take : Cal P w K mg base 1 "_law_take" ["box", "many"] spTake) (C_names : Cal P w K mg base 2 "_law_names" ["box", "many"] spNames) (C_number : Cal P w K mg base 2 "_law_number" ["box"] spNumber)
    (C_row : Cal P w K mg base 3 "_law_row" ["script", "place", "names", "table", "fails"] (spRow K)) (C_clause : Cal P w K mg base 4 "_law_clause" ["script", "place", "names", "table", "fails"] (spClause K)) (C_copy : Cal P w K mg base 1 "_law_copy" ["table"] spCopy) (C_model : Cal P w K mg base 2 "_law_model" ["table", "box"] spModel) (C_all_met : Cal P w K mg base 3 "_law_all_met" ["rows", "clauses", "table"] spAllMet)
    (C_says : Cal P w K mg base 5 "_law_says" ["rows", "clauses", "model", "due"] spSays) (C_denials : Cal P w K mg base 6 "_law_denials" ["rows", "model", "table"] spDenials) (C_weights : Cal P w K mg base 6 "_law_weights" ["script", "rows", "clauses", "names", "table"] (spWeights K)) : FnOk P w K mg base CX0 7 f fd ["script"] (spLaw K) := by
  refine F.ok sc_law (fun vs H Q E h => ?_) (fun cdv A outer s H vs Q E hr h => ?_)
  · obtain ⟨a, ns, rfl, _⟩ := h
    rfl
  · obtain ⟨sc, xs, rfl, hS, k⟩ := h
    refine ⟨_, (pss_cons (ps_set (i := 1) sc_law.nd rfl (Or.inl rfl) (p_cal C_box hr (pa_cons (pv 0) (pa_cons pe_int pa_nil))))
      (pss_cons (ps_set (i := 2) sc_law.nd rfl (Or.inr rfl) (p_cal C_names hr (pa_cons (pv 1) (pa_cons (p_cal C_take hr (pa_cons (pv 1) (pa_cons pe_int pa_nil))) pa_nil))))
      (pss_cons (ps_set (i := 3) sc_law.nd rfl (Or.inr rfl) pe_dnewK)
      (pss_cons (ps_for PassesOwn.never rfl (pi_list (pv 2)) (pg_name (i := 4) sc_law.nd rfl (Or.inl rfl)) (pss_cons (ps_dput (hu_of hr) (pv 3) (pv 4) (p_cal C_number hr (pa_cons (pv 1) pa_nil)) rfl)
      (pss_one (ps_if (pt_cmpR (o_eq hr.units) (p_cal C_take hr (pa_cons (pv 1) (pa_cons pe_int pa_nil))) pe_int (nomark _)) (pss_one (ps_dput (hu_of hr) (pv 3) (pv 4) pe_int rfl)) pss_nil))))
      (pss_cons (ps_set (i := 5) sc_law.nd rfl (Or.inr rfl) (p_cal C_take hr (pa_cons (pv 1) (pa_cons pe_int pa_nil))))
      (pss_cons (ps_set (i := 6) sc_law.nd rfl (Or.inl rfl) (p_cal C_take hr (pa_cons (pv 1) (pa_cons pe_int pa_nil))))
      (pss_cons (ps_set (i := 7) sc_law.nd rfl (Or.inr rfl) (p_cal C_take hr (pa_cons (pv 1) (pa_cons (pe_op o_add (pe_op o_mul pe_int (pe_op o_add (pv 5) (pv 6))) pe_int) pa_nil))))
      (pss_cons (ps_setLc (i := 8) (own := [("k", 13)]) (g := gName 13) (tt := tYes) rfl sc_law.nd rfl rfl (sw_true rfl rfl rfl (by decide +kernel)) (pi_range1 (by rfl) T.m_range (pa_cons (pv 5) pa_nil)) (blkOk_by (own := [("k", 13)]) (N := ["script", "box", "names", "table", "name", "many", "count", "fault", "rows", "clauses", "changed", "near", "lacking", "k"]) (sc := defScope s_law) (by decide +kernel)) (fun _ _ _ _ _ => (pg_name (i := 13) sc_law.nd rfl (Or.inl rfl))) (fun _ _ _ _ _ => pts_nil) (fun _ _ _ _ _ => (p_cal C_row hr (pa_cons (pv 0) (pa_cons (pe_op o_add pe_int (pv 13)) (pa_cons (pv 2) (pa_cons (pv 3) (pa_cons (pe_cmpR (eq_K (K := K) rfl hr.units) (pv 7) (pv 13) (nomark _)) pa_nil))))))))
      (Evl.pss_cut (ps_if (PW.pt (pw_and (pt_cmpR o_gt (pv 5) pe_int (nomark _)) (pw_and1 (pt_cmpR (o_eq hr.units) (p_cal C_take hr (pa_cons (pv 1) (pa_cons pe_int pa_nil))) pe_int (nomark _))))) (pss_one (ps_asg (pe_ix ix_list (pv 8) pe_int (fun _ _ => rfl)) (pg_sub (pv 8) (pe_op o_sub (pv 5) pe_int) set_list))) pss_nil)
      (pss_cons (ps_set (i := 8) sc_law.nd rfl (Or.inl rfl) (pe_callTy c_tuple (by rfl) T.m_tuple bt_tuple (pa_cons (pv 8) pa_nil)))
      (pss_cons (ps_set (i := 9) sc_law.nd rfl (Or.inl rfl) (pe_callTy c_tuple (by rfl) T.m_tuple bt_tuple (pa_cons (pe_lc (own := [("k", 13)]) (g := gName 13) (tt := tYes) rfl sc_law.nd (pi_range1 (by rfl) T.m_range (pa_cons (pv 6) pa_nil)) (blkOk_by (own := [("k", 13)]) (N := ["script", "box", "names", "table", "name", "many", "count", "fault", "rows", "clauses", "changed", "near", "lacking", "k"]) (sc := defScope s_law) (by decide +kernel)) (fun _ _ _ _ _ => (pg_name (i := 13) sc_law.nd rfl (Or.inl rfl))) (fun _ _ _ _ _ => pts_nil) (fun _ _ _ _ _ => (p_cal C_clause hr (pa_cons (pv 0) (pa_cons (pv 13) (pa_cons (pv 2) (pa_cons (pv 3) (pa_cons (pe_cmpR (eq_K (K := K) rfl hr.units) (pv 7) (pe_op o_add (pv 5) (pv 13)) (nomark _)) pa_nil)))))))) pa_nil)))
      (pss_cons (ps_if (pt_not (p_tru (p_cal C_says hr (pa_cons (pv 8) (pa_cons (pv 9) (pa_cons (p_cal C_model hr (pa_cons (pv 3) (pa_cons (pv 1) pa_nil))) (pa_cons (p_cal C_all_met hr (pa_cons (pv 8) (pa_cons (pv 9) (pa_cons (pv 3) pa_nil)))) pa_nil))))) (by intro _; rfl))) (pss_one (ps_ret pe_bl)) pss_nil)
      (pss_cons (ps_if (pt_not (p_tru (p_cal C_denials hr (pa_cons (pv 8) (pa_cons (p_cal C_model hr (pa_cons (pv 3) (pa_cons (pv 1) pa_nil))) (pa_cons (pv 3) pa_nil)))) (by intro _; rfl))) (pss_one (ps_ret pe_bl)) pss_nil)
      (Evl.pss_cut (ps_if (pt_cmpR o_gt (pe_callB c_len (by rfl) T.m_len bt_len (pa_cons (pv 2) pa_nil)) pe_int (nomark _)) (pss_cons (ps_set (i := 10) sc_law.nd rfl (Or.inr rfl) (pe_ix ix_list (pv 2) (p_cal C_take hr (pa_cons (pv 1) (pa_cons (pe_callB c_len (by rfl) T.m_len bt_len (pa_cons (pv 2) pa_nil)) pa_nil))) (fun _ _ => rfl)))
      (pss_cons (ps_set (i := 11) sc_law.nd rfl (Or.inr rfl) (p_cal C_copy hr (pa_cons (pv 3) pa_nil)))
      (pss_cons (ps_dput (hu_of hr) (pv 11) (pv 10) (pe_op o_sub (pe_op o_add (pe_dget (hu_of hr) (pv 11) (pv 10) (fun _ _ => rfl)) pe_int) (pe_op o_mul pe_int (p_cal C_take hr (pa_cons (pv 1) (pa_cons pe_int pa_nil))))) rfl)
      (pss_cons (ps_if (pt_not (p_tru (p_cal C_says hr (pa_cons (pv 8) (pa_cons (pv 9) (pa_cons (p_cal C_model hr (pa_cons (pv 11) (pa_cons (pv 1) pa_nil))) (pa_cons (p_cal C_all_met hr (pa_cons (pv 8) (pa_cons (pv 9) (pa_cons (pv 11) pa_nil)))) pa_nil))))) (by intro _; rfl))) (pss_one (ps_ret pe_bl)) pss_nil)
      (pss_cons (ps_dput (hu_of hr) (pv 11) (pv 10) pe_int rfl)
      (pss_cons (ps_set (i := 12) sc_law.nd rfl (Or.inl rfl) (pe_callTy c_tuple (by rfl) T.m_tuple bt_tuple (pa_cons (pe_lc (own := [("name", 4)]) (g := gName 4) rfl sc_law.nd (pi_list (pe_callB (c_sortDk rfl) (by rfl) T.m_sorted bt_sorted (pa_cons (pv 11) pa_nil))) (blkOk_by (own := [("name", 4)]) (N := ["script", "box", "names", "table", "name", "many", "count", "fault", "rows", "clauses", "changed", "near", "lacking", "k"]) (sc := defScope s_law) (by decide +kernel)) (fun _ _ _ _ _ => (pg_name (i := 4) sc_law.nd rfl (Or.inl rfl))) (fun _ _ _ _ _ => pts_one (pt_cmpR (ne_K (K := K) rfl hr.units) (pv 4) (pv 10) (nomark _))) (fun _ _ _ _ _ => (pe_tup (pa_cons (pv 4) (pa_cons (pe_dget (hu_of hr) (pv 11) (pv 4) (fun _ _ => rfl)) pa_nil))))) pa_nil)))
      (pss_one (ps_if (pt_not (p_tru (p_cal C_says hr (pa_cons (pv 8) (pa_cons (pv 9) (pa_cons (pv 12) (pa_cons (p_cal C_all_met hr (pa_cons (pv 8) (pa_cons (pv 9) (pa_cons (pv 11) pa_nil)))) pa_nil))))) (by intro _; rfl))) (pss_one (ps_ret pe_bl)) pss_nil)))))))) pss_nil)
      (pss_one (ps_ret (p_cal C_weights hr (pa_cons (pv 0) (pa_cons (pv 8) (pa_cons (pv 9) (pa_cons (pv 2) (pa_cons (pv 3) pa_nil)))))))))))))))))))))), ?_⟩
    walk_at "go"
    refine ⟨sc, 0, xs, rfl, hS, by decide, by decide, fun b H1 k1 nb hB1 => ?_⟩
    walk_at "go"
    refine ⟨b, _, rfl, hB1, by decide, by decide, fun m H2 m0 m1 hB2 k2 => ?_⟩
    walk_at "go"
    refine ⟨b, m, rfl, hB2, m0, by omega, fun nl ns H3 hB3 k3 nnl hnl hnd hN hnn => ?_⟩
    have kk3 := Kp.box (Kp.box k1 nb k2) nb k3
    have nnlb := hB2.ne nnl
    have hnn : ns.length ≤ 5 := by omega
    walk_at "go"
    refine r_dnewK (fun d ndd => ?_)
    generalize q4 : upd H3 d _ = H4
    obtain ⟨k4, e4⟩ := newQ ndd q4
    have nddb := hB3.ne ndd
    have nddH := kk3.free _ ndd
    have nddn : d ≠ nl := fun z => by rw [z, hnl] at ndd; cases ndd
    have hB4 := hB3.kp0 k4
    have hnl4 := k4.at0 hnl
    walk_at "go"
    refine lpL (SqL.of hnl4) (fun i σ H' => ∃ (v4 : Option V) (tb : Ad), σ = [some (.ref sc), some (.ref b), some (.ref nl), some (.ref d), v4, none, none, none, none, none, none, none, none, none] ∧ Kp [] H H' ∧ BoxAt H' b ∧ H' nl = some (.lst (ns.map V.str)) ∧ H' d = some (.dK (tK tb)) ∧ Tab tb i ∧ tb.map (·.1) = ns.take i) ?_ ?_ ?_ ?_
    · exact ⟨none, [], rfl, kk3.trans k4, hB4, hnl4, e4, ⟨List.nodup_nil, Nat.le_refl _, fun _ h => nomatch h⟩, rfl⟩
    · rintro i σ H' _ ⟨_, _, _, _, _, hnl, _⟩
      exact SqL.of hnl
    · rintro i z σ H5 hz ⟨v4, tb, rfl, k5, hB5, hnl5, hd5, hT5, hk5⟩
      obtain ⟨n, hn, rfl⟩ := str_get hz
      have hnot := take_not_mem hnd hn
      have hi := (List.getElem?_eq_some_iff.mp hn).1
      walk_at "go"
      refine ⟨b, rfl, hB5, fun r H6 sr hB6 k6 => ?_⟩
      have hd6 := k6.keep _ _ hd5 (nin1 nddb)
      have hnl6 := k6.keep _ _ hnl5 (nin1 nnlb)
      have kk6 := Kp.box k5 nb k6
      walk_at "go"
      refine v_dputS hd6 (by unfold tK; rw [List.length_map]; have := hT5.len; exact szLt (by omega)) ?_
      rw [putK_t]
      have hT6 := hT5.put n sr
      have hk6 : (put tb n r).map (·.1) = ns.take (i + 1) := by rw [put_new (by rw [hk5]; exact hnot), List.map_append, hk5, take_get hn]; rfl
      have kk7 : Kp [] H (upd H6 d (.dK (tK (put tb n r)))) := kk6.own nddH
      have hB7 : BoxAt (upd H6 d (.dK (tK (put tb n r)))) b := hB6.put nddb
      have hd7 : (upd H6 d (.dK (tK (put tb n r)))) d = some (.dK (tK (put tb n r))) := upd_same
      have hnl7 : (upd H6 d (.dK (tK (put tb n r)))) nl = some (.lst (ns.map V.str)) := by rw [upd_ne nddn.symm]; exact hnl6
      generalize upd H6 d (.dK (tK (put tb n r))) = H7 at *
      generalize put tb n r = tb2 at *
      walk_at "go"
      refine ⟨b, _, rfl, hB7, by decide, by decide, fun u H8 _ _ hB8 k8 => ?_⟩
      have hd8 := k8.keep _ _ hd7 (nin1 nddb)
      have hnl8 := k8.keep _ _ hnl7 (nin1 nnlb)
      have kk8 := Kp.box kk7 nb k8
      walk_at "go"
      refine ifd (fun e => ?_) (fun e => ?_)
      · walk_at "go"
        refine v_dputS hd8 (by unfold tK; rw [List.length_map]; have := hT6.len; exact szLt (by omega)) ?_
        rw [putK_t]
        have hmem : n ∈ tb2.map (·.1) := by rw [hk6, take_get hn]; simp
        refine ⟨_, put tb2 n 0, rfl, kk8.own nddH, hB8.put nddb, by rw [upd_ne nddn.symm]; exact hnl8, upd_same, ⟨put_nodup hT6.nd n 0, ?_, fun p hp => (put_mem hp).elim (hT6.sm p) fun e => by rw [e]; exact (show (0 : Int).natAbs < 2 ^ 150 by decide)⟩, by rw [put_keys hmem]; exact hk6⟩
        have := congrArg List.length (put_keys hmem 0)
        rw [List.length_map, List.length_map] at this
        rw [this]; exact hT6.len
      · walk_at "go"
        exact ⟨_, tb2, rfl, kk8, hB8, hnl8, hd8, hT6, hk6⟩
    · clear hB1 hB2 hB3 hB4 hnl4 e4 q4 k4 hnl ndd nnl
      rintro σ H5 ⟨v4, tb, rfl, k5, hB5, hnl5, hd5, hT5, hk5⟩
      rw [List.length_map, List.take_length] at hk5
      rw [List.length_map] at hT5
      have hTA : ∀ {H' : Hp}, H' d = some (.dK (tK tb)) → TbAt H' d tb := fun e => hT5.at e
      walk_at "go"
      refine ⟨b, _, rfl, hB5, by decide, by decide, fun many H6 y0 y1 hB6 k6 => ?_⟩
      walk_at "go"
      refine ⟨b, _, rfl, hB6, by decide, by decide, fun cnt H7 c0 c1 hB7 k7 => ?_⟩
      walk_at "go"
      refine ⟨b, _, rfl, hB7, by omega, by omega, fun flt H8 _ _ hB8 k8 => ?_⟩
      have kL : Kp [b] H5 H8 := (k6.trans k7).trans k8
      have kk8 : Kp [] H H8 := Kp.box (Kp.box (Kp.box k5 nb k6) nb k7) nb k8
      have hd8 := kL.keep _ _ hd5 (nin1 nddb)
      have hnl8 := kL.keep _ _ hnl5 (nin1 nnlb)
      clear kL hd5 hnl5 k6 k7 k8 hB5 hB6 hB7
      walk_at "go"
      refine lcR (by omega) (by omega) (fun D j H' => Kp [] H8 H' ∧ H8 D = none ∧ ∃ (zs : List V) (rs : List Row), H' D = some (.lst zs) ∧ FzAll H' zs (rs.map rowD) ∧ rs.length = j ∧ (∀ r ∈ rs, SmA r.1) ∧ OverA ns rs) ?_ ?_ ?_
      · exact fun D nD => ⟨Kp.new nD, nD, [], [], upd_same, .nil, rfl, (fun _ h => nomatch h), fun _ h => nomatch h⟩
      · rintro D j H9 hj ⟨k9, nD, zs, rs, hD, hzs, hrl, hrs, hov⟩
        have kk9 := kk8.trans k9
        walk_at "go"
        refine ⟨rfl, ?_⟩
        walk_at "go"
        refine ⟨sc, nl, d, _, _, xs, ns, tb, rfl, hS.kp0 kk9, by omega, by omega, k9.at0 hnl8, by omega, hTA (k9.at0 hd8), fun x r H10 k10 hx hsm hin => ?_⟩
        have hD10 := k10.at0 hD
        have hzl := hzs.len
        rw [List.length_map] at hzl
        refine ⟨zs, hD10, szLt (by omega), (k9.trans k10).own nD, nD, zs ++ [x], rs ++ [r], upd_same, ?_, by rw [List.length_append, hrl]; rfl, ?_, ?_⟩
        · rw [List.map_append]
          exact ((hzs.kp0 k10).snoc hx).put hD10 (by intro z q; cases q)
        · intro q hq
          rcases List.mem_append.mp hq with hq | hq
          · exact hrs q hq
          · rw [List.mem_singleton.mp hq]; exact hsm
        · intro q hq
          rcases List.mem_append.mp hq with hq | hq
          · exact hov q hq
          · rw [List.mem_singleton.mp hq]; exact hin
      · rintro D H9 ⟨k9, nD, zs, rs, hD, hzs, hrl, hrs, hov⟩
        have kk9 := kk8.trans k9
        have hB9 := hB8.kp0 k9
        have hd9 := k9.at0 hd8
        have hnl9 := k9.at0 hnl8
        have nDH := kk8.free _ nD
        have nDb := hB8.ne nD
        have nDd : D ≠ d := fun z => by rw [z, hd8] at nD; cases nD
        have nDn : D ≠ nl := fun z => by rw [z, hnl8] at nD; cases nD
        walk_at "go"
        refine r_cut (fun σ' H' => ∃ (zs : List V) (rs : List Row), σ' = [some (.ref sc), some (.ref b), some (.ref nl), some (.ref d), v4, some (.int many), some (.int cnt), some (.int flt), some (.ref D), none, none, none, none, none] ∧ Kp [] H H' ∧ BoxAt H' b ∧ H' d = some (.dK (tK tb)) ∧ H' nl = some (.lst (ns.map V.str)) ∧ H' D = some (.lst zs) ∧ FzAll H' zs (rs.map rowD) ∧ rs.length ≤ 5 ∧ (∀ r ∈ rs, SmA r.1) ∧ OverA ns rs) ?_ ?_
        · walk_at "go"
          refine ifd (fun e => ?_) (fun e => ?_)
          · walk_at "go"
            refine ⟨b, _, rfl, hB9, by decide, by decide, fun u H10 _ _ hB10 k10 => ?_⟩
            have hD10 := k10.keep _ _ hD (nin1 nDb)
            have hd10 := k10.keep _ _ hd9 (nin1 nddb)
            have hnl10 := k10.keep _ _ hnl9 (nin1 nnlb)
            have hzs10 := hzs.kp k10 hB9.nt
            have kk10 := Kp.box kk9 nb k10
            walk_at "go"
            refine ifd (fun e => ?_) (fun e => ?_)
            · have hzl := hzs10.len
              rw [List.length_map] at hzl
              obtain ⟨z0, hz0⟩ : ∃ z0, zs[0]? = some z0 := ⟨_, List.getElem?_eq_getElem (by omega)⟩
              obtain ⟨r0, hr0, hz0r⟩ := hzs10.map hz0
              walk_at "go"
              refine v_ixL (SqL.of hD10) (atI_nat (j := 0) hz0) ?_
              walk_at "go"
              obtain ⟨j, hj⟩ : ∃ j : Nat, many - 1 = j := nat_of (by omega)
              rw [hj]
              refine v_setL hD10 (ixn (by omega)) ?_
              refine ⟨zs.set j z0, rs.set j r0, rfl, kk10.own nDH, hB10.put nDb, by rw [upd_ne nDd.symm]; exact hd10, by rw [upd_ne nDn.symm]; exact hnl10, upd_same, ?_, by rw [List.length_set]; omega, ?_, ?_⟩
              · rw [List.map_set]
                exact (hzs10.set hz0r j).put hD10 (by intro z q; cases q)
              · intro q hq
                rcases List.mem_or_eq_of_mem_set hq with hq | hq
                · exact hrs q hq
                · rw [hq]; exact hrs r0 (List.mem_of_getElem? hr0)
              · intro q hq
                rcases List.mem_or_eq_of_mem_set hq with hq | hq
                · exact hov q hq
                · rw [hq]; exact hov r0 (List.mem_of_getElem? hr0)
            · walk_at "go"
              exact ⟨zs, rs, rfl, kk10, hB10, hd10, hnl10, hD10, hzs10, by omega, hrs, hov⟩
          · walk_at "go"
            exact ⟨zs, rs, rfl, kk9, hB9, hd9, hnl9, hD, hzs, by omega, hrs, hov⟩
        · clear hrl hrs hov hzs hD hB9 hd9 hnl9 kk9 k9 nD kk8 hd8 hnl8 hB8
          rintro σ' H10 ⟨zs, rs, rfl, kk10, hB10, hd10, hnl10, hD10, hzs10, hrl, hrs, hov⟩
          have s1 : SmR rs := ⟨hrs, by omega⟩
          walk_at "go"
          refine v_tupleL (SqL.of hD10) (fun rt nrt => ?_)
          generalize q11 : upd H10 rt _ = H11
          obtain ⟨k11, e11⟩ := newQ nrt q11
          have hx11 : Fz H11 (.ref rt) (rowsD rs) := .tup e11 (hzs10.kp0 k11)
          have kk11 := kk10.trans k11
          have hB11 := hB10.kp0 k11
          have hd11 := k11.at0 hd10
          have hnl11 := k11.at0 hnl10
          walk_at "go"
          refine lcR (by omega) (by omega) (fun D j H' => Kp [] H11 H' ∧ H11 D = none ∧ ∃ (zs : List V) (cs : List (List (List Row))), H' D = some (.lst zs) ∧ FzAll H' zs (cs.map clD) ∧ cs.length = j ∧ (∀ c ∈ cs, SmC c ∧ ∀ a ∈ c, OverA ns a)) ?_ ?_ ?_
          · exact fun D nD => ⟨Kp.new nD, nD, [], [], upd_same, .nil, rfl, fun _ h => nomatch h⟩
          · rintro D j H12 hj ⟨k12, nD, zs, cs, hD, hzs, hcl, hcs⟩
            have kk12 := kk11.trans k12
            walk_at "go"
            refine ⟨rfl, ?_⟩
            walk_at "go"
            refine ⟨sc, nl, d, _, _, xs, ns, tb, rfl, hS.kp0 kk12, by omega, by omega, k12.at0 hnl11, by omega, hTA (k12.at0 hd11), fun x c H13 k13 hx hsm hin => ?_⟩
            have hD13 := k13.at0 hD
            have hzl := hzs.len
            rw [List.length_map] at hzl
            refine ⟨zs, hD13, szLt (by omega), (k12.trans k13).own nD, nD, zs ++ [x], cs ++ [c], upd_same, ?_, by rw [List.length_append, hcl]; rfl, ?_⟩
            · rw [List.map_append]
              exact ((hzs.kp0 k13).snoc hx).put hD13 (by intro z q; cases q)
            · intro q hq
              rcases List.mem_append.mp hq with hq | hq
              · exact hcs q hq
              · rw [List.mem_singleton.mp hq]; exact ⟨hsm, hin⟩
          · rintro D2 H12 ⟨k12, nD2, zs2, cs, hD2, hzs2, hcl, hcs⟩
            have s2 : SmCs cs := ⟨fun c hc => (hcs c hc).1, by omega⟩
            have o2 : ∀ c ∈ cs, ∀ a ∈ c, OverA ns a := fun c hc => (hcs c hc).2
            walk_at "go"
            refine v_tupleL (SqL.of hD2) (fun ct nct => ?_)
            generalize q13 : upd H12 ct _ = H13
            obtain ⟨k13, e13⟩ := newQ nct q13
            have hy13 : Fz H13 (.ref ct) (clsD cs) := .tup e13 (hzs2.kp0 k13)
            have k113 := k12.trans k13
            have kk13 := kk11.trans k113
            have hx13 := hx11.kp0 k113
            have hB13 := hB11.kp0 k113
            have hd13 := k113.at0 hd11
            have hnl13 := k113.at0 hnl11
            clear q13 e13 hzs2 hD2 nD2 hcl q11 e11 hB11 hd11 hnl11 hx11 kk11 k11 hzs10 hB10 hd10 hnl10 kk10
            walk_at "go"
            refine ⟨d, b, tb, rfl, hTA hd13, hT5.nd, by have := hT5.len; omega, hB13, fun xm ps H14 hB14 k14 hxm hpn hpv hps => ?_⟩
            have hd14 := k14.keep _ _ hd13 (nin1 nddb)
            have hnl14 := k14.keep _ _ hnl13 (nin1 nnlb)
            have hx14 := hx13.kp k14 hB13.nt
            have hy14 := hy13.kp k14 hB13.nt
            have kk14 := Kp.box kk13 nb k14
            have hmk : val (mk ps) = val tb := by rw [mk_nodup ps hpn]; exact funext hpv
            walk_at "go"
            refine ⟨.ref rt, .ref ct, d, rs, cs, tb, rfl, hx14, hy14, s1, s2, hTA hd14, fun H15 k15 => ?_⟩
            walk_at "go"
            refine ⟨.ref rt, .ref ct, xm, _, rs, cs, ps, rfl, hx14.kp0 k15, hy14.kp0 k15, hxm.kp0 k15, s1, s2, hps, fun H16 k16 => ?_⟩
            rw [hmk, says_self]
            have k156 := k15.trans k16
            have hB16 := hB14.kp0 k156
            have hd16 := k156.at0 hd14
            walk_at "go"
            refine ⟨d, b, tb, rfl, hTA hd16, hT5.nd, by have := hT5.len; omega, hB16, fun xm2 ps2 H17 hB17 k17 hxm2 hpn2 hpv2 hps2 => ?_⟩
            have hd17 := k17.keep _ _ hd16 (nin1 nddb)
            have hnl17 := k17.keep _ _ (k156.at0 hnl14) (nin1 nnlb)
            have hx17 := (hx14.kp0 k156).kp k17 hB16.nt
            have hy17 := (hy14.kp0 k156).kp k17 hB16.nt
            have kk17 := Kp.box (kk14.trans k156) nb k17
            have hmk2 : val (mk ps2) = val tb := by rw [mk_nodup ps2 hpn2]; exact funext hpv2
            walk_at "go"
            refine ⟨.ref rt, xm2, d, rs, ps2, tb, rfl, hx17, s1, fun r hr p hp => (hN _ (hov r hr p hp)).ok, hxm2, hps2, fun n => by rw [hmk2], hTA hd17, fun H18 k18 => ?_⟩
            have hd18 := k18.at0 hd17
            have hnl18 := k18.at0 hnl17
            have hx18 := hx17.kp0 k18
            have hy18 := hy17.kp0 k18
            have hB18 := hB17.kp0 k18
            have kk18 := kk17.trans k18
            clear hd17 hnl17 hx17 hy17 hB17 kk17 k18 hxm2 hpv2 hpn2 hps2 hmk2 hd16 hB16 k156 k15 k16 hmk hxm hpn hpv hps hd14 hnl14 hx14 hy14 kk14 hB14 hd13 hnl13 hx13 hy13 hB13 kk13 k14 k17
            walk_at "go"
            refine r_cut (fun σ' H' => ∃ (v10 v11 v12 : Option V), σ' = [some (.ref sc), some (.ref b), some (.ref nl), some (.ref d), v4, some (.int many), some (.int cnt), some (.int flt), some (.ref rt), some (.ref ct), v10, v11, v12, none] ∧ Kp [] H H' ∧ H' d = some (.dK (tK tb)) ∧ H' nl = some (.lst (ns.map V.str)) ∧ Fz H' (.ref rt) (rowsD rs) ∧ Fz H' (.ref ct) (clsD cs)) ?_ ?_
            · walk_at "go"
              refine ifd (fun e => ?_) (fun e => ?_)
              · rw [List.length_map] at e
                walk_at "go"
                rw [List.length_map]
                refine ⟨b, _, rfl, hB18, by omega, by omega, fun t H19 t0 t1 hB19 k19 => ?_⟩
                obtain ⟨t, rfl⟩ := nat_of t0
                have ht : t < ns.length := by omega
                have hg : (ns.map V.str)[t]? = some (.str ns[t]) := by rw [List.getElem?_map, List.getElem?_eq_getElem ht]; rfl
                have hmem : ns[t] ∈ ns := List.getElem_mem ht
                generalize ns[t] = n at hg hmem
                obtain ⟨v, hv⟩ := look_some (tb := tb) (n := n) (by rw [hk5]; exact hmem)
                have sv : Sn v := hT5.sm _ (look_mem hv)
                have hd19 := k19.keep _ _ hd18 (nin1 nddb)
                have hnl19 := k19.keep _ _ hnl18 (nin1 nnlb)
                have hx19 := hx18.kp k19 hB18.nt
                have hy19 := hy18.kp k19 hB18.nt
                have kk19 := Kp.box kk18 nb k19
                refine v_ixL (SqL.of hnl19) (atI_nat hg) ?_
                walk_at "go"
                refine ⟨d, tb, rfl, hTA hd19, hT5.nd, by have := hT5.len; omega, fun nr tn H20 k20 nnr htn hpt hlt => ?_⟩
                have nnrb := hB19.ne nnr
                have nnrH := kk19.free _ nnr
                have nnrd : nr ≠ d := fun z => by rw [z, hd19] at nnr; cases nnr
                have nnrn : nr ≠ nl := fun z => by rw [z, hnl19] at nnr; cases nnr
                have hB20 := hB19.kp0 k20
                have hd20 := k20.at0 hd19
                have hnl20 := k20.at0 hnl19
                have hx20 := hx19.kp0 k20
                have hy20 := hy19.kp0 k20
                have kk20 := kk19.trans k20
                have hlv : valV (tK tn) (Sum.inr n) = some (.int v) := by rw [valV_t, hlt, hv]; rfl
                have hndn : (tn.map (·.1)).Nodup := hpt.nodup_iff.mpr hT5.nd
                have hnm : n ∈ tn.map (·.1) := hpt.mem_iff.mpr (by rw [hk5]; exact hmem)
                have hlen2 : tn.length ≤ 10 := by
                  have := hpt.length_eq
                  rw [List.length_map, List.length_map] at this
                  have := hT5.len
                  omega
                walk_at "go"
                refine v_dgetS htn.1 hlv ?_
                walk_at "go"
                refine ⟨b, _, rfl, hB20, by decide, by decide, fun u H21 u0 u1 hB21 k21 => ?_⟩
                walk_at "go"
                have hnr21 := k21.keep _ _ htn.1 (nin1 nnrb)
                have hd21 := k21.keep _ _ hd20 (nin1 nddb)
                have hnl21 := k21.keep _ _ hnl20 (nin1 nnlb)
                have hx21 := hx20.kp k21 hB20.nt
                have hy21 := hy20.kp k21 hB20.nt
                have kk21 := Kp.box kk20 nb k21
                refine v_dputS hnr21 (by unfold tK; rw [List.length_map]; exact szLt (by omega)) ?_
                rw [putK_t]
                have sm1 : Sm (v + 1 - 2 * u) := by
                  unfold Sn at sv
                  unfold Sm
                  have : (2 : Nat) ^ 150 + 2 < 2 ^ 200 := by decide
                  omega
                have hs1 : ∀ p ∈ put tn n (v + 1 - 2 * u), Sm p.2 := fun p hp => (put_mem hp).elim (htn.2 p) fun e => by rw [e]; exact sm1
                have hk1 := put_keys hnm (v + 1 - 2 * u)
                have kk22 := kk21.own (o := .dK (tK (put tn n (v + 1 - 2 * u)))) nnrH
                have hB22 := hB21.put (o := .dK (tK (put tn n (v + 1 - 2 * u)))) nnrb
                have hx22 := hx21.put (o := .dK (tK (put tn n (v + 1 - 2 * u)))) hnr21 (by intro z q; cases q)
                have hy22 := hy21.put (o := .dK (tK (put tn n (v + 1 - 2 * u)))) hnr21 (by intro z q; cases q)
                have e22 : (upd H21 nr (.dK (tK (put tn n (v + 1 - 2 * u))))) nr = some (.dK (tK (put tn n (v + 1 - 2 * u)))) := upd_same
                have hd22 : (upd H21 nr (.dK (tK (put tn n (v + 1 - 2 * u))))) d = some (.dK (tK tb)) := by rw [upd_ne nnrd.symm]; exact hd21
                have hnl22 : (upd H21 nr (.dK (tK (put tn n (v + 1 - 2 * u))))) nl = some (.lst (ns.map V.str)) := by rw [upd_ne nnrn.symm]; exact hnl21
                generalize upd H21 nr (.dK (tK (put tn n (v + 1 - 2 * u)))) = H22 at *
                generalize put tn n (v + 1 - 2 * u) = tm at *
                have hndm : (tm.map (·.1)).Nodup := by rw [hk1]; exact hndn
                have hlm : tm.length ≤ 10 := by
                  have := congrArg List.length hk1
                  rw [List.length_map, List.length_map] at this
                  omega
                walk_at "go"
                refine ⟨nr, b, tm, rfl, ⟨e22, hs1⟩, hndm, by omega, hB22, fun xm ps H23 hB23 k23 hxm hpn hpv hps => ?_⟩
                have hmk : val (mk ps) = val tm := by rw [mk_nodup ps hpn]; exact funext hpv
                have e23 := k23.keep _ _ e22 (nin1 nnrb)
                have hd23 := k23.keep _ _ hd22 (nin1 nddb)
                have hnl23 := k23.keep _ _ hnl22 (nin1 nnlb)
                have hx23 := hx22.kp k23 hB22.nt
                have hy23 := hy22.kp k23 hB22.nt
                have kk23 := Kp.box kk22 nb k23
                walk_at "go"
                refine ⟨.ref rt, .ref ct, nr, rs, cs, tm, rfl, hx23, hy23, s1, s2, ⟨e23, hs1⟩, fun H24 k24 => ?_⟩
                walk_at "go"
                refine ⟨.ref rt, .ref ct, xm, _, rs, cs, ps, rfl, hx23.kp0 k24, hy23.kp0 k24, hxm.kp0 k24, s1, s2, hps, fun H25 k25 => ?_⟩
                rw [hmk, says_self]
                have k245 := k24.trans k25
                have e25 := k245.at0 e23
                have hx25 := hx23.kp0 k245
                have hy25 := hy23.kp0 k245
                have hd25 := k245.at0 hd23
                have hnl25 := k245.at0 hnl23
                have kk25 := kk23.trans k245
                walk_at "go"
                refine v_dputS e25 (by unfold tK; rw [List.length_map]; exact szLt (by omega)) ?_
                rw [putK_t]
                have hnm1 : n ∈ tm.map (·.1) := by rw [hk1]; exact hnm
                have hs2 : ∀ p ∈ put tm n 0, Sm p.2 := fun p hp => (put_mem hp).elim (hs1 p) fun e => by rw [e]; exact (show (0 : Int).natAbs < 2 ^ 200 by decide)
                have hk2 := put_keys hnm1 0
                have hl0 : look (put tm n 0) n = some 0 := by rw [look_put, if_pos rfl]
                have kk26 := kk25.own (o := .dK (tK (put tm n 0))) nnrH
                have hx26 := hx25.put (o := .dK (tK (put tm n 0))) e25 (by intro z q; cases q)
                have hy26 := hy25.put (o := .dK (tK (put tm n 0))) e25 (by intro z q; cases q)
                have e26 : (upd H25 nr (.dK (tK (put tm n 0)))) nr = some (.dK (tK (put tm n 0))) := upd_same
                have hd26 : (upd H25 nr (.dK (tK (put tm n 0)))) d = some (.dK (tK tb)) := by rw [upd_ne nnrd.symm]; exact hd25
                have hnl26 : (upd H25 nr (.dK (tK (put tm n 0)))) nl = some (.lst (ns.map V.str)) := by rw [upd_ne nnrn.symm]; exact hnl25
                generalize upd H25 nr (.dK (tK (put tm n 0))) = H26 at *
                generalize put tm n 0 = tz at *
                have hndz : (tz.map (·.1)).Nodup := by rw [hk2]; exact hndm
                have hlz : tz.length ≤ 10 := by
                  have := congrArg List.length hk2
                  rw [List.length_map, List.length_map] at this
                  omega
                walk_at "go"
                refine v_sortDk (ks := tz.map (·.1)) e26 (tK_keys tz) (by rw [List.length_map]; omega) (fun ys so hperm nso => ?_)
                have ndy : ys.Nodup := hperm.nodup_iff.mpr hndz
                have hyl : ys.length = tz.length := by rw [hperm.length_eq, List.length_map]
                generalize q27 : upd H26 so _ = H27
                obtain ⟨k27, e27⟩ := newQ nso q27
                refine lcL (SqL.of e27) (fun D i H' => Kp [] H27 H' ∧ H27 D = none ∧ ∃ (zs : List V) (ps : Ad), H' D = some (.lst zs) ∧ FzAll H' zs (ps.map prD) ∧ ps.length ≤ i ∧ (∀ p ∈ ps, Sm p.2 ∧ p.1 ∈ ys.take i ∧ p.1 ≠ n) ∧ (ps.map (·.1)).Nodup ∧ (∀ m ∈ ys.take i, m ≠ n → look ps m = look tz m)) ?_ ?_ ?_ ?_
                · exact fun D nD => ⟨Kp.new nD, nD, [], [], upd_same, .nil, Nat.le_refl _, (fun _ h => nomatch h), List.nodup_nil, (fun m h => by simp at h)⟩
                · rintro D i H' _ ⟨k1, _⟩
                  exact SqL.of (k1.at0 e27)
                · rintro D i z H28 hz ⟨k28, nD, zs, ps, hD, hzs, hpl, hall, hndp, hlk⟩
                  obtain ⟨m, hm, rfl⟩ := str_get hz
                  have hi := (List.getElem?_eq_some_iff.mp hm).1
                  have hnot := take_not_mem ndy hm
                  have hmk' : m ∉ ps.map (·.1) := fun z => by
                    obtain ⟨p, hp, e⟩ := List.mem_map.mp z
                    exact hnot (by rw [← e]; exact (hall p hp).2.1)
                  obtain ⟨v2, hv2⟩ := look_some (hperm.mem_iff.mp (List.mem_of_getElem? hm))
                  have hv2' : valV (tK tz) (Sum.inr m) = some (.int v2) := by rw [valV_t, hv2]; rfl
                  walk_at "go"
                  refine ⟨rfl, ?_⟩
                  walk_at "go"
                  refine v_ne rfl ?_
                  walk_at "go"
                  refine ifn (fun e => ?_) (fun e => ?_)
                  · have hne : m ≠ n := fun z => e (by rw [z])
                    walk_at "go"
                    refine v_dgetS ((k27.trans k28).at0 e26) hv2' ?_
                    walk_at "go"
                    refine ⟨szOk (by simp), fun t nt => ?_⟩
                    obtain ⟨g1, g2⟩ := hzs.add nt hD (.cons (.str m) (.cons (.int v2) .nil))
                    have hzl := hzs.len
                    rw [List.length_map] at hzl
                    refine ⟨_, g1, szLt (by omega), (k28.trans (Kp.new nt)).own nD, nD, _, ps ++ [(m, v2)], upd_same, by rw [List.map_append]; exact g2, by rw [List.length_append]; show ps.length + 1 ≤ _; omega, ?_, snoc_nodup hndp hmk', ?_⟩
                    · intro q hq
                      rw [take_get hm]
                      rcases List.mem_append.mp hq with hq | hq
                      · exact ⟨(hall q hq).1, List.mem_append_left _ (hall q hq).2.1, (hall q hq).2.2⟩
                      · rw [List.mem_singleton.mp hq]
                        exact ⟨hs2 _ (look_mem hv2), by simp, hne⟩
                    · intro m' hm' hne'
                      rcases mem_take_snoc hm hm' with hm' | rfl
                      · rw [look_snoc_ne fun z => hnot (by rw [z]; exact hm')]
                        exact hlk m' hm' hne'
                      · rw [look_snoc_self hmk', hv2]
                  · have heq : m = n := by
                      injection e
                    refine ⟨k28, nD, zs, ps, hD, hzs, by omega, ?_, hndp, ?_⟩
                    · intro q hq
                      rw [take_get hm]
                      exact ⟨(hall q hq).1, List.mem_append_left _ (hall q hq).2.1, (hall q hq).2.2⟩
                    · intro m' hm' hne'
                      rcases mem_take_snoc hm hm' with hm' | rfl
                      · exact hlk m' hm' hne'
                      · exact absurd heq hne'
                · rintro D H28 ⟨k28, nD, zs, ps, hD, hzs, hpl, hall, hndp, hlk⟩
                  rw [List.length_map] at hpl hall hlk
                  rw [List.take_length] at hall hlk
                  have hmk3 : val (mk ps) = val tz := by
                    rw [mk_nodup ps hndp]
                    funext m
                    unfold val
                    by_cases hmn : m = n
                    · rw [hmn, hl0, look_none.mpr fun z => by
                        obtain ⟨p, hp, e⟩ := List.mem_map.mp z
                        exact (hall p hp).2.2 e]
                      rfl
                    · by_cases hm : m ∈ ys
                      · rw [hlk m hm hmn]
                      · rw [look_none.mpr fun z => hm (hperm.mem_iff.mpr z), look_none.mpr fun z => by
                          obtain ⟨p, hp, e⟩ := List.mem_map.mp z
                          exact hm (by rw [← e]; exact (hall p hp).2.1)]
                  have hps3 : SmA ps := ⟨fun p hp => (hall p hp).1, by omega⟩
                  walk_at "go"
                  refine v_tupleL (SqL.of hD) (fun t1 n1 => ?_)
                  generalize q29 : upd H28 t1 _ = H29
                  obtain ⟨k29, e29⟩ := newQ n1 q29
                  have k279 := (k27.trans k28).trans k29
                  have hx29 := hx26.kp0 k279
                  have hy29 := hy26.kp0 k279
                  have e29' := k279.at0 e26
                  have hz29 : Fz H29 (.ref t1) (adD ps) := .tup e29 (hzs.kp0 k29)
                  walk_at "go"
                  refine ⟨.ref rt, .ref ct, nr, rs, cs, tz, rfl, hx29, hy29, s1, s2, ⟨e29', hs2⟩, fun H30 k30 => ?_⟩
                  walk_at "go"
                  refine ⟨.ref rt, .ref ct, .ref t1, _, rs, cs, ps, rfl, hx29.kp0 k30, hy29.kp0 k30, hz29.kp0 k30, s1, s2, hps3, fun H31 k31 => ?_⟩
                  rw [hmk3, says_self]
                  have k2731 := (k279.trans k30).trans k31
                  walk_at "go"
                  exact ⟨_, _, _, rfl, kk26.trans k2731, k2731.at0 hd26, k2731.at0 hnl26, hx26.kp0 k2731, hy26.kp0 k2731⟩
              · walk_at "go"
                exact ⟨_, _, _, rfl, kk18, hd18, hnl18, hx18, hy18⟩
            · rintro σ' H19 ⟨v10, v11, v12, rfl, kk19, hd19, hnl19, hx19, hy19⟩
              walk_at "go"
              refine ⟨sc, nl, d, .ref rt, .ref ct, xs, ns, tb, rs, cs, rfl, hS.kp0 kk19, hx19, hy19, s1, by omega, s2, hov, o2, hnl19, hnd, hN, by omega, hd19, ⟨hT5.nd, by have := hT5.len; omega, hT5.sm⟩, fun n => by rw [hk5], fun H20 k20 => ?_⟩
              exact k _
end
end K11

namespace K11
open PySem PySem.Spec L2 KV
theorem all_mk {l : PySem.W.OpenLaw} {w : World} {K : PySem.W.Frag} {h : Heap} {mg : Str → Option Value} {fa f0 f1 f2 f3 f4 f5 f6 f7 f8 f9 f10 f11 f12 f13 f14 f15 f16 f17 f18 f19 f20 f21 f22 f23 f24 f25 f26 : Addr} (X : K.In h) (G : h.Ns mainGlobals mg) (hfa : mg "law" = some (.ref fa))
    {od0 an0 od1 an1 od2 an2 od3 an3 od4 an4 od5 an5 od6 an6 od7 an7 od8 an8 od9 an9 od10 an10 od11 an11 od12 an12 od13 an13 od14 an14 od15 an15 od16 an16 od17 an17 od18 an18 od19 an19 od20 an20 od21 an21 od22 an22 od23 an23 od24 an24 od25 an25 od26 an26 : Option Addr} {sl0 sl1 sl2 sl3 sl4 sl5 sl6 sl7 sl8 sl9 sl10 sl11 sl12 sl13 sl14 sl15 sl16 sl17 sl18 sl19 sl20 sl21 sl22 sl23 sl24 sl25 sl26 : Array (Option Value)} {oc0 kV0 dc0 pm0 cd0 ct0 oc1 kV1 dc1 pm1 cd1 ct1 oc2 kV2 dc2 pm2 cd2 ct2 oc3 kV3 dc3 pm3 cd3 ct3 oc4 kV4 dc4 pm4 cd4 ct4 oc5 kV5 dc5 pm5 cd5 ct5 oc6 kV6 dc6 pm6 cd6 ct6 oc7 kV7 dc7 pm7 cd7 ct7 oc8 kV8 dc8 pm8 cd8 ct8 oc9 kV9 dc9 pm9 cd9 ct9 oc10 kV10 dc10 pm10 cd10 ct10 oc11 kV11 dc11 pm11 cd11 ct11 oc12 kV12 dc12 pm12 cd12 ct12 oc13 kV13 dc13 pm13 cd13 ct13 oc14 kV14 dc14 pm14 cd14 ct14 oc15 kV15 dc15 pm15 cd15 ct15 oc16 kV16 dc16 pm16 cd16 ct16 oc17 kV17 dc17 pm17 cd17 ct17 oc18 kV18 dc18 pm18 cd18 ct18 oc19 kV19 dc19 pm19 cd19 ct19 oc20 kV20 dc20 pm20 cd20 ct20 oc21 kV21 dc21 pm21 cd21 ct21 oc22 kV22 dc22 pm22 cd22 ct22 oc23 kV23 dc23 pm23 cd23 ct23 oc24 kV24 dc24 pm24 cd24 ct24 oc25 kV25 dc25 pm25 cd25 ct25 oc26 kV26 dc26 pm26 cd26 ct26 : Value}
    (a0 : PySem.W.nsIn K mainGlobals "value_of" = some (some (.ref f0))) (l0 : K.lookup f0 = some ⟨oc0, od0, .func (PySem.W.fnOf "value_of" "value_of" (defArgs s_value_of) (defBody s_value_of) (defScope s_value_of) .none kV0 dc0 pm0 an0 cd0 ct0), sl0⟩) (c0 : PySem.W.codeIn K cd0 "value_of" = true) (k0 : PySem.W.keepIn K (.ref f0) = true)
    (a1 : PySem.W.nsIn K mainGlobals "meets_rows" = some (some (.ref f1))) (l1 : K.lookup f1 = some ⟨oc1, od1, .func (PySem.W.fnOf "meets_rows" "meets_rows" (defArgs s_meets_rows) (defBody s_meets_rows) (defScope s_meets_rows) .none kV1 dc1 pm1 an1 cd1 ct1), sl1⟩) (c1 : PySem.W.codeIn K cd1 "meets_rows" = true) (k1 : PySem.W.keepIn K (.ref f1) = true)
    (a2 : PySem.W.nsIn K mainGlobals "meets_clause" = some (some (.ref f2))) (l2 : K.lookup f2 = some ⟨oc2, od2, .func (PySem.W.fnOf "meets_clause" "meets_clause" (defArgs s_meets_clause) (defBody s_meets_clause) (defScope s_meets_clause) .none kV2 dc2 pm2 an2 cd2 ct2), sl2⟩) (c2 : PySem.W.codeIn K cd2 "meets_clause" = true) (k2 : PySem.W.keepIn K (.ref f2) = true)
    (a3 : PySem.W.nsIn K mainGlobals "meets" = some (some (.ref f3))) (l3 : K.lookup f3 = some ⟨oc3, od3, .func (PySem.W.fnOf "meets" "meets" (defArgs s_meets) (defBody s_meets) (defScope s_meets) .none kV3 dc3 pm3 an3 cd3 ct3), sl3⟩) (c3 : PySem.W.codeIn K cd3 "meets" = true) (k3 : PySem.W.keepIn K (.ref f3) = true)
    (a4 : PySem.W.nsIn K mainGlobals "denial" = some (some (.ref f4))) (l4 : K.lookup f4 = some ⟨oc4, od4, .func (PySem.W.fnOf "denial" "denial" (defArgs s_denial) (defBody s_denial) (defScope s_denial) .none kV4 dc4 pm4 an4 cd4 ct4), sl4⟩) (c4 : PySem.W.codeIn K cd4 "denial" = true) (k4 : PySem.W.keepIn K (.ref f4) = true)
    (a5 : PySem.W.nsIn K mainGlobals "weighted" = some (some (.ref f5))) (l5 : K.lookup f5 = some ⟨oc5, od5, .func (PySem.W.fnOf "weighted" "weighted" (defArgs s_weighted) (defBody s_weighted) (defScope s_weighted) .none kV5 dc5 pm5 an5 cd5 ct5), sl5⟩) (c5 : PySem.W.codeIn K cd5 "weighted" = true) (k5 : PySem.W.keepIn K (.ref f5) = true)
    (a6 : PySem.W.nsIn K mainGlobals "_law_integer" = some (some (.ref f6))) (l6 : K.lookup f6 = some ⟨oc6, od6, .func (PySem.W.fnOf "_law_integer" "_law_integer" (defArgs s_integer) (defBody s_integer) (defScope s_integer) .none kV6 dc6 pm6 an6 cd6 ct6), sl6⟩) (c6 : PySem.W.codeIn K cd6 "_law_integer" = true) (k6 : PySem.W.keepIn K (.ref f6) = true)
    (a7 : PySem.W.nsIn K mainGlobals "_law_box" = some (some (.ref f7))) (l7 : K.lookup f7 = some ⟨oc7, od7, .func (PySem.W.fnOf "_law_box" "_law_box" (defArgs s_box) (defBody s_box) (defScope s_box) .none kV7 dc7 pm7 an7 cd7 ct7), sl7⟩) (c7 : PySem.W.codeIn K cd7 "_law_box" = true) (k7 : PySem.W.keepIn K (.ref f7) = true)
    (a8 : PySem.W.nsIn K mainGlobals "_law_take" = some (some (.ref f8))) (l8 : K.lookup f8 = some ⟨oc8, od8, .func (PySem.W.fnOf "_law_take" "_law_take" (defArgs s_take) (defBody s_take) (defScope s_take) .none kV8 dc8 pm8 an8 cd8 ct8), sl8⟩) (c8 : PySem.W.codeIn K cd8 "_law_take" = true) (k8 : PySem.W.keepIn K (.ref f8) = true)
    (a9 : PySem.W.nsIn K mainGlobals "_law_text" = some (some (.ref f9))) (l9 : K.lookup f9 = some ⟨oc9, od9, .func (PySem.W.fnOf "_law_text" "_law_text" (defArgs s_text) (defBody s_text) (defScope s_text) .none kV9 dc9 pm9 an9 cd9 ct9), sl9⟩) (c9 : PySem.W.codeIn K cd9 "_law_text" = true) (k9 : PySem.W.keepIn K (.ref f9) = true)
    (a10 : PySem.W.nsIn K mainGlobals "_law_names" = some (some (.ref f10))) (l10 : K.lookup f10 = some ⟨oc10, od10, .func (PySem.W.fnOf "_law_names" "_law_names" (defArgs s_names) (defBody s_names) (defScope s_names) .none kV10 dc10 pm10 an10 cd10 ct10), sl10⟩) (c10 : PySem.W.codeIn K cd10 "_law_names" = true) (k10 : PySem.W.keepIn K (.ref f10) = true)
    (a11 : PySem.W.nsIn K mainGlobals "_law_number" = some (some (.ref f11))) (l11 : K.lookup f11 = some ⟨oc11, od11, .func (PySem.W.fnOf "_law_number" "_law_number" (defArgs s_number) (defBody s_number) (defScope s_number) .none kV11 dc11 pm11 an11 cd11 ct11), sl11⟩) (c11 : PySem.W.codeIn K cd11 "_law_number" = true) (k11 : PySem.W.keepIn K (.ref f11) = true)
    (a12 : PySem.W.nsIn K mainGlobals "_law_value" = some (some (.ref f12))) (l12 : K.lookup f12 = some ⟨oc12, od12, .func (PySem.W.fnOf "_law_value" "_law_value" (defArgs s_value) (defBody s_value) (defScope s_value) .none kV12 dc12 pm12 an12 cd12 ct12), sl12⟩) (c12 : PySem.W.codeIn K cd12 "_law_value" = true) (k12 : PySem.W.keepIn K (.ref f12) = true)
    (a13 : PySem.W.nsIn K mainGlobals "_law_met" = some (some (.ref f13))) (l13 : K.lookup f13 = some ⟨oc13, od13, .func (PySem.W.fnOf "_law_met" "_law_met" (defArgs s_met) (defBody s_met) (defScope s_met) .none kV13 dc13 pm13 an13 cd13 ct13), sl13⟩) (c13 : PySem.W.codeIn K cd13 "_law_met" = true) (k13 : PySem.W.keepIn K (.ref f13) = true)
    (a14 : PySem.W.nsIn K mainGlobals "_law_all_met" = some (some (.ref f14))) (l14 : K.lookup f14 = some ⟨oc14, od14, .func (PySem.W.fnOf "_law_all_met" "_law_all_met" (defArgs s_all_met) (defBody s_all_met) (defScope s_all_met) .none kV14 dc14 pm14 an14 cd14 ct14), sl14⟩) (c14 : PySem.W.codeIn K cd14 "_law_all_met" = true) (k14 : PySem.W.keepIn K (.ref f14) = true)
    (a15 : PySem.W.nsIn K mainGlobals "_law_row" = some (some (.ref f15))) (l15 : K.lookup f15 = some ⟨oc15, od15, .func (PySem.W.fnOf "_law_row" "_law_row" (defArgs s_row) (defBody s_row) (defScope s_row) .none kV15 dc15 pm15 an15 cd15 ct15), sl15⟩) (c15 : PySem.W.codeIn K cd15 "_law_row" = true) (k15 : PySem.W.keepIn K (.ref f15) = true)
    (a16 : PySem.W.nsIn K mainGlobals "_law_clause" = some (some (.ref f16))) (l16 : K.lookup f16 = some ⟨oc16, od16, .func (PySem.W.fnOf "_law_clause" "_law_clause" (defArgs s_clause) (defBody s_clause) (defScope s_clause) .none kV16 dc16 pm16 an16 cd16 ct16), sl16⟩) (c16 : PySem.W.codeIn K cd16 "_law_clause" = true) (k16 : PySem.W.keepIn K (.ref f16) = true)
    (a17 : PySem.W.nsIn K mainGlobals "_law_model" = some (some (.ref f17))) (l17 : K.lookup f17 = some ⟨oc17, od17, .func (PySem.W.fnOf "_law_model" "_law_model" (defArgs s_model) (defBody s_model) (defScope s_model) .none kV17 dc17 pm17 an17 cd17 ct17), sl17⟩) (c17 : PySem.W.codeIn K cd17 "_law_model" = true) (k17 : PySem.W.keepIn K (.ref f17) = true)
    (a18 : PySem.W.nsIn K mainGlobals "_law_copy" = some (some (.ref f18))) (l18 : K.lookup f18 = some ⟨oc18, od18, .func (PySem.W.fnOf "_law_copy" "_law_copy" (defArgs s_copy) (defBody s_copy) (defScope s_copy) .none kV18 dc18 pm18 an18 cd18 ct18), sl18⟩) (c18 : PySem.W.codeIn K cd18 "_law_copy" = true) (k18 : PySem.W.keepIn K (.ref f18) = true)
    (a19 : PySem.W.nsIn K mainGlobals "_law_denied" = some (some (.ref f19))) (l19 : K.lookup f19 = some ⟨oc19, od19, .func (PySem.W.fnOf "_law_denied" "_law_denied" (defArgs s_denied) (defBody s_denied) (defScope s_denied) .none kV19 dc19 pm19 an19 cd19 ct19), sl19⟩) (c19 : PySem.W.codeIn K cd19 "_law_denied" = true) (k19 : PySem.W.keepIn K (.ref f19) = true)
    (a20 : PySem.W.nsIn K mainGlobals "_law_pair" = some (some (.ref f20))) (l20 : K.lookup f20 = some ⟨oc20, od20, .func (PySem.W.fnOf "_law_pair" "_law_pair" (defArgs s_pair) (defBody s_pair) (defScope s_pair) .none kV20 dc20 pm20 an20 cd20 ct20), sl20⟩) (c20 : PySem.W.codeIn K cd20 "_law_pair" = true) (k20 : PySem.W.keepIn K (.ref f20) = true)
    (a21 : PySem.W.nsIn K mainGlobals "_law_weighted" = some (some (.ref f21))) (l21 : K.lookup f21 = some ⟨oc21, od21, .func (PySem.W.fnOf "_law_weighted" "_law_weighted" (defArgs s_l_weighted) (defBody s_l_weighted) (defScope s_l_weighted) .none kV21 dc21 pm21 an21 cd21 ct21), sl21⟩) (c21 : PySem.W.codeIn K cd21 "_law_weighted" = true) (k21 : PySem.W.keepIn K (.ref f21) = true)
    (a22 : PySem.W.nsIn K mainGlobals "_law_is_row" = some (some (.ref f22))) (l22 : K.lookup f22 = some ⟨oc22, od22, .func (PySem.W.fnOf "_law_is_row" "_law_is_row" (defArgs s_is_row) (defBody s_is_row) (defScope s_is_row) .none kV22 dc22 pm22 an22 cd22 ct22), sl22⟩) (c22 : PySem.W.codeIn K cd22 "_law_is_row" = true) (k22 : PySem.W.keepIn K (.ref f22) = true)
    (a23 : PySem.W.nsIn K mainGlobals "_law_says" = some (some (.ref f23))) (l23 : K.lookup f23 = some ⟨oc23, od23, .func (PySem.W.fnOf "_law_says" "_law_says" (defArgs s_says) (defBody s_says) (defScope s_says) .none kV23 dc23 pm23 an23 cd23 ct23), sl23⟩) (c23 : PySem.W.codeIn K cd23 "_law_says" = true) (k23 : PySem.W.keepIn K (.ref f23) = true)
    (a24 : PySem.W.nsIn K mainGlobals "_law_denials" = some (some (.ref f24))) (l24 : K.lookup f24 = some ⟨oc24, od24, .func (PySem.W.fnOf "_law_denials" "_law_denials" (defArgs s_denials) (defBody s_denials) (defScope s_denials) .none kV24 dc24 pm24 an24 cd24 ct24), sl24⟩) (c24 : PySem.W.codeIn K cd24 "_law_denials" = true) (k24 : PySem.W.keepIn K (.ref f24) = true)
    (a25 : PySem.W.nsIn K mainGlobals "_law_weights" = some (some (.ref f25))) (l25 : K.lookup f25 = some ⟨oc25, od25, .func (PySem.W.fnOf "_law_weights" "_law_weights" (defArgs s_weights) (defBody s_weights) (defScope s_weights) .none kV25 dc25 pm25 an25 cd25 ct25), sl25⟩) (c25 : PySem.W.codeIn K cd25 "_law_weights" = true) (k25 : PySem.W.keepIn K (.ref f25) = true)
    (a26 : PySem.W.nsIn K mainGlobals "law" = some (some (.ref f26))) (l26 : K.lookup f26 = some ⟨oc26, od26, .func (PySem.W.fnOf "law" "law" (defArgs s_law) (defBody s_law) (defScope s_law) .none kV26 dc26 pm26 an26 cd26 ct26), sl26⟩) (c26 : PySem.W.codeIn K cd26 "law" = true) (k26 : PySem.W.keepIn K (.ref f26) = true)
    {t_ABSOLUTE : _} (g_ABSOLUTE : PySem.W.nsIn K mainGlobals "ABSOLUTE" = some (some (.str "abs " t_ABSOLUTE)))
    (z_len : PySem.W.nsIn K mainGlobals "len" = some none)
    (z_int : PySem.W.nsIn K mainGlobals "int" = some none)
    (z_str : PySem.W.nsIn K mainGlobals "str" = some none)
    (z_range : PySem.W.nsIn K mainGlobals "range" = some none)
    (z_list : PySem.W.nsIn K mainGlobals "list" = some none)
    (z_tuple : PySem.W.nsIn K mainGlobals "tuple" = some none)
    (z_abs : PySem.W.nsIn K mainGlobals "abs" = some none)
    (z_sum : PySem.W.nsIn K mainGlobals "sum" = some none)
    (z_all : PySem.W.nsIn K mainGlobals "all" = some none)
    (z_any : PySem.W.nsIn K mainGlobals "any" = some none)
    (z_sorted : PySem.W.nsIn K mainGlobals "sorted" = some none)
    (z_isinstance : PySem.W.nsIn K mainGlobals "isinstance" = some none)
    (z_bool : PySem.W.nsIn K mainGlobals "bool" = some none)
    : ∃ fd : FuncData, (∀ (s : Shared) (v : Value), BindsTo s fd ⟨[v], []⟩ [("script", v)]) ∧ ∀ base : Heap, K.In base → base.Ns mainGlobals mg → FnOk l.prog w K mg base CX0 7 fa fd ["script"] (spLaw K) := by
  have e := hfa.symm.trans (PySem.W.mg_of X G a26)
  cases e
  have T : Bt mg := ⟨⟨_, PySem.W.mg_of X G g_ABSOLUTE⟩, PySem.W.mg_none_of X G z_len, PySem.W.mg_none_of X G z_int, PySem.W.mg_none_of X G z_str, PySem.W.mg_none_of X G z_range, PySem.W.mg_none_of X G z_list, PySem.W.mg_none_of X G z_tuple, PySem.W.mg_none_of X G z_abs, PySem.W.mg_none_of X G z_sum, PySem.W.mg_none_of X G z_all, PySem.W.mg_none_of X G z_any, PySem.W.mg_none_of X G z_sorted, PySem.W.mg_none_of X G z_isinstance, PySem.W.mg_none_of X G z_bool⟩
  have F0 := fun_mk (st := s_value_of) l0 c0 k0
  have D0 : DefAt K mg "value_of" s_value_of ["addends", "values"] := ⟨_, _, F0, F0.binds (ps := ["addends", "values"]) (fun _ _ _ _ _ _ us hl => match us, hl with | [_, _], _ => rfl), PySem.W.mg_of X G a0⟩
  have F1 := fun_mk (st := s_meets_rows) l1 c1 k1
  have D1 : DefAt K mg "meets_rows" s_meets_rows ["rows", "values"] := ⟨_, _, F1, F1.binds (ps := ["rows", "values"]) (fun _ _ _ _ _ _ us hl => match us, hl with | [_, _], _ => rfl), PySem.W.mg_of X G a1⟩
  have F2 := fun_mk (st := s_meets_clause) l2 c2 k2
  have D2 : DefAt K mg "meets_clause" s_meets_clause ["clause", "values"] := ⟨_, _, F2, F2.binds (ps := ["clause", "values"]) (fun _ _ _ _ _ _ us hl => match us, hl with | [_, _], _ => rfl), PySem.W.mg_of X G a2⟩
  have F3 := fun_mk (st := s_meets) l3 c3 k3
  have D3 : DefAt K mg "meets" s_meets ["rows", "clauses", "model"] := ⟨_, _, F3, F3.binds (ps := ["rows", "clauses", "model"]) (fun _ _ _ _ _ _ us hl => match us, hl with | [_, _, _], _ => rfl), PySem.W.mg_of X G a3⟩
  have F4 := fun_mk (st := s_denial) l4 c4 k4
  have D4 : DefAt K mg "denial" s_denial ["row"] := ⟨_, _, F4, F4.binds (ps := ["row"]) (fun _ _ _ _ _ _ us hl => match us, hl with | [_], _ => rfl), PySem.W.mg_of X G a4⟩
  have F5 := fun_mk (st := s_weighted) l5 c5 k5
  have D5 : DefAt K mg "weighted" s_weighted ["rows", "unknowns", "bound"] := ⟨_, _, F5, F5.binds (ps := ["rows", "unknowns", "bound"]) (fun _ _ _ _ _ _ us hl => match us, hl with | [_, _, _], _ => rfl), PySem.W.mg_of X G a5⟩
  have F6 := fun_mk (st := s_integer) l6 c6 k6
  have D6 : DefAt K mg "_law_integer" s_integer ["thing"] := ⟨_, _, F6, F6.binds (ps := ["thing"]) (fun _ _ _ _ _ _ us hl => match us, hl with | [_], _ => rfl), PySem.W.mg_of X G a6⟩
  have F7 := fun_mk (st := s_box) l7 c7 k7
  have D7 : DefAt K mg "_law_box" s_box ["script", "place"] := ⟨_, _, F7, F7.binds (ps := ["script", "place"]) (fun _ _ _ _ _ _ us hl => match us, hl with | [_, _], _ => rfl), PySem.W.mg_of X G a7⟩
  have F8 := fun_mk (st := s_take) l8 c8 k8
  have D8 : DefAt K mg "_law_take" s_take ["box", "many"] := ⟨_, _, F8, F8.binds (ps := ["box", "many"]) (fun _ _ _ _ _ _ us hl => match us, hl with | [_, _], _ => rfl), PySem.W.mg_of X G a8⟩
  have F9 := fun_mk (st := s_text) l9 c9 k9
  have D9 : DefAt K mg "_law_text" s_text ["letter", "form"] := ⟨_, _, F9, F9.binds (ps := ["letter", "form"]) (fun _ _ _ _ _ _ us hl => match us, hl with | [_, _], _ => rfl), PySem.W.mg_of X G a9⟩
  have F10 := fun_mk (st := s_names) l10 c10 k10
  have D10 : DefAt K mg "_law_names" s_names ["box", "many"] := ⟨_, _, F10, F10.binds (ps := ["box", "many"]) (fun _ _ _ _ _ _ us hl => match us, hl with | [_, _], _ => rfl), PySem.W.mg_of X G a10⟩
  have F11 := fun_mk (st := s_number) l11 c11 k11
  have D11 : DefAt K mg "_law_number" s_number ["box"] := ⟨_, _, F11, F11.binds (ps := ["box"]) (fun _ _ _ _ _ _ us hl => match us, hl with | [_], _ => rfl), PySem.W.mg_of X G a11⟩
  have F12 := fun_mk (st := s_value) l12 c12 k12
  have D12 : DefAt K mg "_law_value" s_value ["row", "table"] := ⟨_, _, F12, F12.binds (ps := ["row", "table"]) (fun _ _ _ _ _ _ us hl => match us, hl with | [_, _], _ => rfl), PySem.W.mg_of X G a12⟩
  have F13 := fun_mk (st := s_met) l13 c13 k13
  have D13 : DefAt K mg "_law_met" s_met ["row", "table"] := ⟨_, _, F13, F13.binds (ps := ["row", "table"]) (fun _ _ _ _ _ _ us hl => match us, hl with | [_, _], _ => rfl), PySem.W.mg_of X G a13⟩
  have F14 := fun_mk (st := s_all_met) l14 c14 k14
  have D14 : DefAt K mg "_law_all_met" s_all_met ["rows", "clauses", "table"] := ⟨_, _, F14, F14.binds (ps := ["rows", "clauses", "table"]) (fun _ _ _ _ _ _ us hl => match us, hl with | [_, _, _], _ => rfl), PySem.W.mg_of X G a14⟩
  have F15 := fun_mk (st := s_row) l15 c15 k15
  have D15 : DefAt K mg "_law_row" s_row ["script", "place", "names", "table", "fails"] := ⟨_, _, F15, F15.binds (ps := ["script", "place", "names", "table", "fails"]) (fun _ _ _ _ _ _ us hl => match us, hl with | [_, _, _, _, _], _ => rfl), PySem.W.mg_of X G a15⟩
  have F16 := fun_mk (st := s_clause) l16 c16 k16
  have D16 : DefAt K mg "_law_clause" s_clause ["script", "place", "names", "table", "fails"] := ⟨_, _, F16, F16.binds (ps := ["script", "place", "names", "table", "fails"]) (fun _ _ _ _ _ _ us hl => match us, hl with | [_, _, _, _, _], _ => rfl), PySem.W.mg_of X G a16⟩
  have F17 := fun_mk (st := s_model) l17 c17 k17
  have D17 : DefAt K mg "_law_model" s_model ["table", "box"] := ⟨_, _, F17, F17.binds (ps := ["table", "box"]) (fun _ _ _ _ _ _ us hl => match us, hl with | [_, _], _ => rfl), PySem.W.mg_of X G a17⟩
  have F18 := fun_mk (st := s_copy) l18 c18 k18
  have D18 : DefAt K mg "_law_copy" s_copy ["table"] := ⟨_, _, F18, F18.binds (ps := ["table"]) (fun _ _ _ _ _ _ us hl => match us, hl with | [_], _ => rfl), PySem.W.mg_of X G a18⟩
  have F19 := fun_mk (st := s_denied) l19 c19 k19
  have D19 : DefAt K mg "_law_denied" s_denied ["row"] := ⟨_, _, F19, F19.binds (ps := ["row"]) (fun _ _ _ _ _ _ us hl => match us, hl with | [_], _ => rfl), PySem.W.mg_of X G a19⟩
  have F20 := fun_mk (st := s_pair) l20 c20 k20
  have D20 : DefAt K mg "_law_pair" s_pair ["name", "times", "other", "more"] := ⟨_, _, F20, F20.binds (ps := ["name", "times", "other", "more"]) (fun _ _ _ _ _ _ us hl => match us, hl with | [_, _, _, _], _ => rfl), PySem.W.mg_of X G a20⟩
  have F21 := fun_mk (st := s_l_weighted) l21 c21 k21
  have D21 : DefAt K mg "_law_weighted" s_l_weighted ["rows", "unknowns", "bound"] := ⟨_, _, F21, F21.binds (ps := ["rows", "unknowns", "bound"]) (fun _ _ _ _ _ _ us hl => match us, hl with | [_, _, _], _ => rfl), PySem.W.mg_of X G a21⟩
  have F22 := fun_mk (st := s_is_row) l22 c22 k22
  have D22 : DefAt K mg "_law_is_row" s_is_row ["row"] := ⟨_, _, F22, F22.binds (ps := ["row"]) (fun _ _ _ _ _ _ us hl => match us, hl with | [_], _ => rfl), PySem.W.mg_of X G a22⟩
  have F23 := fun_mk (st := s_says) l23 c23 k23
  have D23 : DefAt K mg "_law_says" s_says ["rows", "clauses", "model", "due"] := ⟨_, _, F23, F23.binds (ps := ["rows", "clauses", "model", "due"]) (fun _ _ _ _ _ _ us hl => match us, hl with | [_, _, _, _], _ => rfl), PySem.W.mg_of X G a23⟩
  have F24 := fun_mk (st := s_denials) l24 c24 k24
  have D24 : DefAt K mg "_law_denials" s_denials ["rows", "model", "table"] := ⟨_, _, F24, F24.binds (ps := ["rows", "model", "table"]) (fun _ _ _ _ _ _ us hl => match us, hl with | [_, _, _], _ => rfl), PySem.W.mg_of X G a24⟩
  have F25 := fun_mk (st := s_weights) l25 c25 k25
  have D25 : DefAt K mg "_law_weights" s_weights ["script", "rows", "clauses", "names", "table"] := ⟨_, _, F25, F25.binds (ps := ["script", "rows", "clauses", "names", "table"]) (fun _ _ _ _ _ _ us hl => match us, hl with | [_, _, _, _, _], _ => rfl), PySem.W.mg_of X G a25⟩
  refine ⟨PySem.W.fnOf "law" "law" (defArgs s_law) (defBody s_law) (defScope s_law) .none kV26 dc26 pm26 an26 cd26 ct26, fun s v => .of_eq rfl, fun base _ _ => ?_⟩
  have C_value_of := ok_value_of (P := l.prog) (w := w) (base := base) D0 T
  have C_meets_rows := ok_meets_rows (P := l.prog) (w := w) (base := base) D1 T C_value_of
  have C_meets_clause := ok_meets_clause (P := l.prog) (w := w) (base := base) D2 T C_meets_rows
  have C_meets := ok_meets (P := l.prog) (w := w) (base := base) D3 T C_meets_rows C_meets_clause
  have C_denial := ok_denial (P := l.prog) (w := w) (base := base) D4 T
  have C_weighted := ok_weighted (P := l.prog) (w := w) (base := base) D5 T
  have C_integer := ok_integer (P := l.prog) (w := w) (base := base) D6 T
  have C_box := ok_box (P := l.prog) (w := w) (base := base) D7 T
  have C_take := ok_take (P := l.prog) (w := w) (base := base) D8 T
  have C_text := ok_text (P := l.prog) (w := w) (base := base) D9
  have C_names := ok_names (P := l.prog) (w := w) (base := base) D10 T C_take C_text
  have C_number := ok_number (P := l.prog) (w := w) (base := base) D11 C_take
  have C_value := ok_value (P := l.prog) (w := w) (base := base) D12
  have C_met := ok_met (P := l.prog) (w := w) (base := base) D13 C_value
  have C_all_met := ok_all_met (P := l.prog) (w := w) (base := base) D14 T C_met
  have C_row := ok_row (P := l.prog) (w := w) (base := base) D15 T C_box C_take C_number C_value
  have C_clause := ok_clause (P := l.prog) (w := w) (base := base) D16 T C_box C_take C_row
  have C_model := ok_model (P := l.prog) (w := w) (base := base) D17 T C_take
  have C_copy := ok_copy (P := l.prog) (w := w) (base := base) D18 T
  have C_denied := ok_denied (P := l.prog) (w := w) (base := base) D19 T
  have C_pair := ok_pair (P := l.prog) (w := w) (base := base) D20
  have C_l_weighted := ok_l_weighted (P := l.prog) (w := w) (base := base) D21 T C_pair
  have C_is_row := ok_is_row (P := l.prog) (w := w) (base := base) D22 T C_integer
  have C_says := ok_says (P := l.prog) (w := w) (base := base) D23 T C_meets
  have C_denials := ok_denials (P := l.prog) (w := w) (base := base) D24 C_denial C_is_row C_denied C_met C_says
  have C_weights := ok_weights (P := l.prog) (w := w) (base := base) D25 T C_box C_take C_number C_copy C_model C_all_met C_weighted C_l_weighted C_is_row C_says
  exact ok_law (fun_mk (st := s_law) l26 c26 k26) T C_box C_take C_names C_number C_row C_clause C_copy C_model C_all_met C_says C_denials C_weights
end K11
open PySem PySem.W PyProof.Rows
set_option maxHeartbeats 0 in
theorem PySem.Challenge.cw_kindvow_k11_rows_models_and_weights_holds : PySem.Challenge.rw_kindvow_k11_rows_models_and_weights.Holds := by
  w_on; o_law; k_head; (case hw => w_witness2)
  k_fill
  refine L2.walk_of (l := PySem.Challenge.rw_kindvow_k11_rows_models_and_weights) (n := 63) (k := 7) (x := "script") (CX := fun _ => L2.CX0) (sp := fun w => K11.spLaw _) rfl (by decide) rfl ⟨rfl, by decide, by decide⟩ (fun w h Y => PySem.W.kIn_of Y) ?F (fun _ _ a ns hl hO hS => ⟨a, ns, rfl, K11.SqF.of hS hO, fun _ => rfl⟩) (fun _ _ _ _ _ h => h)
  case F =>
    intro w mg fa h KX G hmg
    refine' K11.all_mk KX G hmg ?a0 ?l0 ?c0 ?k0 ?a1 ?l1 ?c1 ?k1 ?a2 ?l2 ?c2 ?k2 ?a3 ?l3 ?c3 ?k3 ?a4 ?l4 ?c4 ?k4 ?a5 ?l5 ?c5 ?k5 ?a6 ?l6 ?c6 ?k6 ?a7 ?l7 ?c7 ?k7 ?a8 ?l8 ?c8 ?k8 ?a9 ?l9 ?c9 ?k9 ?a10 ?l10 ?c10 ?k10 ?a11 ?l11 ?c11 ?k11 ?a12 ?l12 ?c12 ?k12 ?a13 ?l13 ?c13 ?k13 ?a14 ?l14 ?c14 ?k14 ?a15 ?l15 ?c15 ?k15 ?a16 ?l16 ?c16 ?k16 ?a17 ?l17 ?c17 ?k17 ?a18 ?l18 ?c18 ?k18 ?a19 ?l19 ?c19 ?k19 ?a20 ?l20 ?c20 ?k20 ?a21 ?l21 ?c21 ?k21 ?a22 ?l22 ?c22 ?k22 ?a23 ?l23 ?c23 ?k23 ?a24 ?l24 ?c24 ?k24 ?a25 ?l25 ?c25 ?k25 ?a26 ?l26 ?c26 ?k26 ?g_ABSOLUTE ?z_len ?z_int ?z_str ?z_range ?z_list ?z_tuple ?z_abs ?z_sum ?z_all ?z_any ?z_sorted ?z_isinstance ?z_bool
    (case a0 => k_is)
    (case l0 => k_is)
    (case c0 => k_is)
    (case k0 => k_is)
    (case a1 => k_is)
    (case l1 => k_is)
    (case c1 => k_is)
    (case k1 => k_is)
    (case a2 => k_is)
    (case l2 => k_is)
    (case c2 => k_is)
    (case k2 => k_is)
    (case a3 => k_is)
    (case l3 => k_is)
    (case c3 => k_is)
    (case k3 => k_is)
    (case a4 => k_is)
    (case l4 => k_is)
    (case c4 => k_is)
    (case k4 => k_is)
    (case a5 => k_is)
    (case l5 => k_is)
    (case c5 => k_is)
    (case k5 => k_is)
    (case a6 => k_is)
    (case l6 => k_is)
    (case c6 => k_is)
    (case k6 => k_is)
    (case a7 => k_is)
    (case l7 => k_is)
    (case c7 => k_is)
    (case k7 => k_is)
    (case a8 => k_is)
    (case l8 => k_is)
    (case c8 => k_is)
    (case k8 => k_is)
    (case a9 => k_is)
    (case l9 => k_is)
    (case c9 => k_is)
    (case k9 => k_is)
    (case a10 => k_is)
    (case l10 => k_is)
    (case c10 => k_is)
    (case k10 => k_is)
    (case a11 => k_is)
    (case l11 => k_is)
    (case c11 => k_is)
    (case k11 => k_is)
    (case a12 => k_is)
    (case l12 => k_is)
    (case c12 => k_is)
    (case k12 => k_is)
    (case a13 => k_is)
    (case l13 => k_is)
    (case c13 => k_is)
    (case k13 => k_is)
    (case a14 => k_is)
    (case l14 => k_is)
    (case c14 => k_is)
    (case k14 => k_is)
    (case a15 => k_is)
    (case l15 => k_is)
    (case c15 => k_is)
    (case k15 => k_is)
    (case a16 => k_is)
    (case l16 => k_is)
    (case c16 => k_is)
    (case k16 => k_is)
    (case a17 => k_is)
    (case l17 => k_is)
    (case c17 => k_is)
    (case k17 => k_is)
    (case a18 => k_is)
    (case l18 => k_is)
    (case c18 => k_is)
    (case k18 => k_is)
    (case a19 => k_is)
    (case l19 => k_is)
    (case c19 => k_is)
    (case k19 => k_is)
    (case a20 => k_is)
    (case l20 => k_is)
    (case c20 => k_is)
    (case k20 => k_is)
    (case a21 => k_is)
    (case l21 => k_is)
    (case c21 => k_is)
    (case k21 => k_is)
    (case a22 => k_is)
    (case l22 => k_is)
    (case c22 => k_is)
    (case k22 => k_is)
    (case a23 => k_is)
    (case l23 => k_is)
    (case c23 => k_is)
    (case k23 => k_is)
    (case a24 => k_is)
    (case l24 => k_is)
    (case c24 => k_is)
    (case k24 => k_is)
    (case a25 => k_is)
    (case l25 => k_is)
    (case c25 => k_is)
    (case k25 => k_is)
    (case a26 => k_is)
    (case l26 => k_is)
    (case c26 => k_is)
    (case k26 => k_is)
    (case g_ABSOLUTE => k_is)
    (case z_len => k_is)
    (case z_int => k_is)
    (case z_str => k_is)
    (case z_range => k_is)
    (case z_list => k_is)
    (case z_tuple => k_is)
    (case z_abs => k_is)
    (case z_sum => k_is)
    (case z_all => k_is)
    (case z_any => k_is)
    (case z_sorted => k_is)
    (case z_isinstance => k_is)
    (case z_bool => k_is)

