import PyProof.Rows.All
import Wide.All
import OpenK.AllK
import Wide.FinOn
import HandS.ForMost
import HandS.Wide
import HandS.WideBits
import HandS.Exc
import HandS.ExcOwn
import HandS.IsInst
import HandS.Style
import HandS.Flow
import HandS.More
import HandS.Conv
import HandS.Defaults
import HandS.NoneIn
import HandS.SortInts
import HandS.EndBits
import HandS.Finally
import HandS.ListItems
import HandS.Walk
import HandS.Steps
import HandS.TupAny
import HandS.DeepEq
import HandS.RaiseMore
import PySem.Challenge.RW_lastcopy_k85_uniform_weights
import PyProof.StrLawsRepr
import PyProof.FitsInt
set_option Elab.async false
set_option maxRecDepth 100000
set_option exponentiation.threshold 3000
/-! Pre: an own layer over HandS: readings step by step, the heap by what changes. -/
namespace U
open PySem PySem.Spec PyProof.Rows L2

/-- from H to H' all that is tracked stands, but for S -/
def Ch (S : List Addr) (H H' : Hp) : Prop := ∀ b o, H b = some o → b ∉ S → H' b = some o
theorem Ch.refl (S : List Addr) (H : Hp) : Ch S H H := fun _ _ h _ => h
theorem Ch.trans {S : List Addr} {H H1 H2 : Hp} (a : Ch S H H1) (b : Ch S H1 H2) : Ch S H H2 := fun c o h n => b c o (a c o h n) n
theorem Ch.mono {S T : List Addr} {H H' : Hp} (a : Ch S H H') (h : ∀ x ∈ S, x ∈ T) : Ch T H H' := fun c o e n => a c o e fun q => n (h c q)
theorem Ch.get {S : List Addr} {H H' : Hp} (c : Ch S H H') {b : Addr} {o : HO} (h : H b = some o) (n : b ∉ S) : H' b = some o := c b o h n
theorem Ch.get0 {H H' : Hp} (c : Ch [] H H') {b : Addr} {o : HO} (h : H b = some o) : H' b = some o := c b o h (by simp)
theorem Ch.get1 {H H' : Hp} {a : Addr} (c : Ch [a] H H') {b : Addr} {o : HO} (h : H b = some o) (n : b ≠ a) : H' b = some o := c b o h (by simpa using n)
theorem Ch.weak {H H' : Hp} (c : Ch [] H H') (S : List Addr) : Ch S H H' := c.mono (by simp)
theorem Ch.new {H : Hp} {p : Addr} {o : HO} (h : H p = none) : Ch [] H (upd H p o) := fun a u e _ => by
  rw [upd_ne (ne_of_none e h)]
  exact e
theorem Ch.put {H : Hp} {p : Addr} {o : HO} : Ch [p] H (upd H p o) := fun a u e n => by
  rw [upd_ne (by simpa using n)]
  exact e
/-- what was not there may change -/
theorem Ch.drop {S : List Addr} {p : Addr} {H H' : Hp} (c : Ch (p :: S) H H') (h : H p = none) : Ch S H H' := fun b o e n => c b o e (by
  simp only [List.mem_cons, not_or]
  exact ⟨ne_of_none e h, n⟩)
theorem Ch.free {H H' : Hp} (c : Ch [] H H') {p : Addr} (h : H' p = none) : H p = none := by
  cases e : H p with
  | none => rfl
  | some o => rw [c.get0 e] at h; cases h
theorem Ch.freeS {S : List Addr} {H H' : Hp} (c : Ch S H H') {p : Addr} (h : H' p = none) (n : p ∉ S) : H p = none := by
  cases e : H p with
  | none => rfl
  | some o => rw [c.get e n] at h; cases h
theorem seqC {K : PySem.W.Frag} {H H' : Hp} {a : Addr} {xs : List V} (c : Ch [] H H') (h : SqL K H a xs) : SqL K H' a xs := by
  rcases h with (h | ⟨o, h⟩) | h
  · exact .inl (.inl (c.get0 h))
  · exact .inl (.inr ⟨o, c.get0 h⟩)
  · exact .inr h
theorem tupC {K : PySem.W.Frag} {H H' : Hp} {a : Addr} {xs : List V} (c : Ch [] H H') (h : SqT K H a xs) : SqT K H' a xs := by
  rcases h with (h | ⟨o, h⟩) | h
  · exact .inl (.inl (c.get0 h))
  · exact .inl (.inr ⟨o, c.get0 h⟩)
  · exact .inr h

/-! ### universal operators -/
section
variable {X : Cx}
def rAddU : R2 := fun x y H Q => rI0 (fun i j => .int (i + j)) x y H Q ∨ rCat x y H Q ∨ (∃ i j, x = .str i ∧ y = .str j ∧ i.length + j.length ≤ sizeLine ∧ Q (.str (i ++ j)) H)
theorem op_addU : OpR X (binaryOp .Add) rAddU := OpR.or op_add (OpR.or op_cat op_add_str)
def CFd (i j : Int) : Prop := j ≠ 0 ∧ Builtin.divisionGoesByPylong i j = false
def rFdU : R2 := rI CFd fun i j => .int (i.fdiv j)
theorem op_fdU : OpR X (binaryOp .FloorDiv) rFdU := opI fun _ _ _ _ _ _ _ hc q => floordiv_int hc.1 q (.inl hc.2)
def rMdU : R2 := rI (fun _ j => j ≠ 0) fun i j => .int (i.fmod j)
theorem op_mdU : OpR X (binaryOp .Mod) rMdU := op_modN
def CPw (i j : Int) : Prop := 0 ≤ j ∧ (Builtin.Int.intBits i : Int) * j ≤ 2 ^ 27
def rPwU : R2 := rI CPw fun i j => .int (i ^ j.toNat)
theorem op_pwU : OpR X (binaryOp .Pow) rPwU := opI fun _ _ _ _ _ _ _ hc q => pow_int hc.1 hc.2 q
def rMulU : R2 := fun x y H Q => rI CMulX (fun i j => .int (i * j)) x y H Q ∨ rRep x y H Q
theorem op_mulU : OpR X (binaryOp .Mult) rMulU := OpR.or op_mulX op_rep
def rEqU (K : PySem.W.Frag) : R2 := fun x y H Q => rEq x y H Q ∨ rEqD K x y H Q
theorem op_eqU (hu : X.A.units + 64 < cLine) : OpR X (compareOp .Eq) (rEqU X.K) := OpR.or op_eq (op_eqD hu)
def rNeU (K : PySem.W.Frag) : R2 := fun x y H Q => rNe x y H Q ∨ rNeD K x y H Q
theorem op_neU (hu : X.A.units + 64 < cLine) : OpR X (compareOp .NotEq) (rNeU X.K) := OpR.or op_ne (op_neD hu)
end

/-! ### steps -/
section
variable {X : Cx} {K : PySem.W.Frag} {σ σ' : L2.St} {H : Hp} {t u : TS} {te ta tb tc : TE} {tt tu : TT} {Q : VK} {QB : Bool → Hp → Prop} {QA : List V → Hp → Prop} {f b c : L2.St → Hp → Prop} {r : VK} {g : TG} {v x y : V} {i : Nat} {D : Ends}
theorem x_seq (h : t ⟨u ⟨f, r, b, c⟩, r, b, c⟩ σ H) : tSeq t u ⟨f, r, b, c⟩ σ H := h
theorem x_next (h : f σ H) : tNext ⟨f, r, b, c⟩ σ H := h
theorem x_nx (h : f σ H) : Ends.nx ⟨f, r, b, c⟩ σ H := h
theorem x_rt (h : r v H) : Ends.rt ⟨f, r, b, c⟩ v H := h
theorem x_brk (h : b σ H) : tBreak ⟨f, r, b, c⟩ σ H := h
theorem x_ret (h : te σ H r) : tRet te ⟨f, r, b, c⟩ σ H := h
theorem x_retN (h : r .non H) : tRetN ⟨f, r, b, c⟩ σ H := h
theorem x_drop (h : te σ H fun _ H1 => f σ H1) : tDrop te ⟨f, r, b, c⟩ σ H := h
theorem x_asg (h : te σ H fun x H1 => g x σ H1 f) : tAsg te g ⟨f, r, b, c⟩ σ H := h
theorem x_gName {q : L2.St → Hp → Prop} {σ1 : L2.St} (e : σ.set i (some v) = σ1) (h : q σ1 H) : gName i v σ H q := by subst e; exact h
theorem x_if (h : tt σ H fun b' H1 => if b' = true then t ⟨f, r, b, c⟩ σ H1 else u ⟨f, r, b, c⟩ σ H1) : tIfS tt t u ⟨f, r, b, c⟩ σ H := h
def ParK (i j : Nat) (σ : L2.St) (f : L2.St → Hp → Prop) (vs : List V) (H1 : Hp) : Prop := ∃ v w, vs = [v, w] ∧ f ((σ.set i (some v)).set j (some w)) H1
theorem x_par {i j : Nat} {ta : TA} (h : ta σ H fun vs H1 => ParK i j σ f vs H1) : tPar i j ta ⟨f, r, b, c⟩ σ H := h
theorem v_par {i j : Nat} {σ1 : L2.St} (e : (σ.set i (some x)).set j (some y) = σ1) (h : f σ1 H) : ParK i j σ f [x, y] H := by subst e; exact ⟨_, _, rfl, h⟩
theorem x_var (h : σ[i]? = some (some v)) (q : Q v H) : tVar i σ H Q := ⟨v, h, q⟩
theorem x_c (q : Q v H) : tC v σ H Q := q
theorem x_op {rr : R2} (h : ta σ H fun x H1 => tb σ H1 fun y H2 => rr x y H2 Q) : tOp rr ta tb σ H Q := h
theorem x_un {rr : V → Hp → VK → Prop} (h : ta σ H fun x H1 => rr x H1 Q) : tUn rr ta σ H Q := h
theorem x_test (h : te σ H fun x H' => ∃ k, x = .bl k ∧ QB k H') : tTest te σ H QB := h
theorem x_tB (h : te σ H fun x H' => ∃ k, x = .bl k ∧ QB k H') : tB te σ H QB := h
theorem x_bl {k : Bool} (h : QB k H) : ∃ k', V.bl k = .bl k' ∧ QB k' H := ⟨k, rfl, h⟩
theorem x_chain {r1 r2 : R2} (h : ta σ H fun x H1 => tb σ H1 fun y H2 => r1 x y H2 fun z H3 => ∃ k, z = .bl k ∧ (if k = true then tc σ H3 fun w' H4 => r2 y w' H4 Q else Q (.bl false) H3)) : tChain r1 r2 ta tb tc σ H Q := h
theorem x_blk {k : Bool} {p : Bool → Prop} (h : p k) : ∃ k', V.bl k = .bl k' ∧ p k' := ⟨k, rfl, h⟩
theorem x_and (h : tt σ H fun c H1 => if c = true then tu σ H1 QB else QB false H1) : tAnd tt tu σ H QB := h
theorem x_or (h : tt σ H fun c H1 => if c = true then QB true H1 else tu σ H1 QB) : tOr tt tu σ H QB := h
theorem x_not (h : tt σ H fun c H1 => QB (!c) H1) : tNot tt σ H QB := h
theorem x_andV (h : ta σ H fun x H1 => ∃ c, x = .bl c ∧ if c = true then tb σ H1 Q else Q (.bl false) H1) : tAndV ta tb σ H Q := h
theorem x_orV (h : ta σ H fun x H1 => ∃ c, x = .bl c ∧ if c = true then Q (.bl true) H1 else tb σ H1 Q) : tOrV ta tb σ H Q := h
theorem x_notV (h : ta σ H fun x H1 => ∃ c, x = .bl c ∧ Q (.bl (!c)) H1) : tNotV ta σ H Q := h
theorem x_ifE (h : tt σ H fun c H1 => if c = true then ta σ H1 Q else tb σ H1 Q) : tIf tt ta tb σ H Q := h
theorem x_iteT {A B : Prop} (h : A) : if true = true then A else B := by rw [if_pos rfl]; exact h
theorem x_iteF {A B : Prop} (h : B) : if false = true then A else B := by rw [if_neg Bool.false_ne_true]; exact h
theorem x_iteD {A B p : Prop} [Decidable p] (h1 : p → A) (h2 : ¬ p → B) : if decide p = true then A else B := by
  by_cases h : p
  · rw [if_pos (decide_eq_true h)]; exact h1 h
  · rw [if_neg (by simp [h])]; exact h2 h
theorem x_iteN {A B p : Prop} [Decidable p] (h1 : ¬ p → A) (h2 : p → B) : if (!decide p) = true then A else B := by
  by_cases h : p
  · rw [if_neg (by simp [h])]; exact h2 h
  · rw [if_pos (by simp [h])]; exact h1 h
theorem x_iteB {A B : Prop} {k : Bool} (h1 : k = true → A) (h2 : k = false → B) : if k = true then A else B := by
  cases k with
  | true => exact x_iteT (h1 rfl)
  | false => exact x_iteF (h2 rfl)
theorem x_iteNB {A B : Prop} {k : Bool} (h1 : k = false → A) (h2 : k = true → B) : if (!k) = true then A else B := by
  cases k with
  | true => exact x_iteF (h2 rfl)
  | false => exact x_iteT (h1 rfl)
theorem x_call {sp : Sp} {dvs : List V} {E : XK} {ta : TA} (h : ta σ H fun vs H1 => sp (vs ++ dvs) H1 Q E) : tCall sp dvs E ta σ H Q := h
theorem x_nil (h : QA [] H) : tNil σ H QA := h
theorem x_cons {tr : TA} (h : ta σ H fun x H1 => tr σ H1 fun xs H2 => QA (x :: xs) H2) : tCons ta tr σ H QA := h
theorem x_cb {rr : List V → Hp → VK → Prop} {ta : TA} (h : ta σ H fun vs H1 => rr vs H1 Q) : tCB rr ta σ H Q := h
theorem x_bm {T : String} {rr : V → List V → Hp → VK → Prop} {ta : TA} (h : te σ H fun x H1 => tyV K T x H1 ∧ ta σ H1 fun xs H2 => rr x xs H2 Q) : tBM K T rr te ta σ H Q := h
theorem x_bm0 {T : String} {rr : V → List V → Hp → VK → Prop} (h : te σ H fun x H1 => tyV K T x H1 ∧ rr x [] H1 Q) : tBM0 K T rr te σ H Q := h
/-- a new object -/
theorem new_of {H1 : Hp} {o : HO} (h : ∀ p H', H1 p = none → Ch [] H1 H' → H' p = some o → Q (.ref p) H') : ∀ p, H1 p = none → Q (.ref p) (upd H1 p o) := fun p np => h p _ np (.new np) upd_same
/-- a new object is laid -/
def NewO (o : List V → HO) (Q : VK) (xs : List V) (H1 : Hp) : Prop := xs.length ≤ sizeLine ∧ ∀ p, H1 p = none → Q (.ref p) (upd H1 p (o xs))
theorem x_lstU {ta : TA} (h : ta σ H fun xs H1 => NewO .lst Q xs H1) : tLst ta σ H Q := h
theorem x_tupU {ta : TA} (h : ta σ H fun xs H1 => NewO .tup Q xs H1) : tTup ta σ H Q := h
theorem v_new {o : List V → HO} {xs : List V} {H1 : Hp} (h : ∀ p H', H1 p = none → Ch [] H1 H' → H' p = some (o xs) → Q (.ref p) H') (hn : xs.length ≤ sizeLine := by simp only [List.length_cons, List.length_nil]; decide) : NewO o Q xs H1 := ⟨hn, new_of h⟩
/-! values -/
variable {a p l : Addr} {n m : Int} {xs zs : List V} {k k' : Bool}
theorem v_add (q : Q (.int (n + m)) H) : rAddU (.int n) (.int m) H Q := .inl ⟨_, _, rfl, rfl, q⟩
theorem v_cat {l b : Addr} (hl : H l = some (.lst xs)) (hb : H b = some (.lst zs)) (hz : xs.length + zs.length ≤ sizeLine) (q : ∀ p H', H p = none → Ch [] H H' → H' p = some (.lst (xs ++ zs)) → Q (.ref p) H') : rAddU (.ref l) (.ref b) H Q :=
  .inr (.inl ⟨_, _, _, _, rfl, rfl, hl, hb, hz, new_of q⟩)
theorem v_sub (q : Q (.int (n - m)) H) : rI0 (fun i j => .int (i - j)) (.int n) (.int m) H Q := ⟨_, _, rfl, rfl, q⟩
theorem v_I0 {gg : Int → Int → V} (q : Q (gg n m) H) : rI0 gg (.int n) (.int m) H Q := ⟨_, _, rfl, rfl, q⟩
theorem v_mul (hc : CMulX n m) (q : Q (.int (n * m)) H) : rMulU (.int n) (.int m) H Q := .inl ⟨_, _, rfl, rfl, hc, q⟩
theorem v_fd (hc : CFd n m) (q : Q (.int (n.fdiv m)) H) : rFdU (.int n) (.int m) H Q := ⟨_, _, rfl, rfl, hc, q⟩
theorem v_md (hc : m ≠ 0) (q : Q (.int (n.fmod m)) H) : rMdU (.int n) (.int m) H Q := ⟨_, _, rfl, rfl, hc, q⟩
theorem v_pw (hc : CPw n m) (q : Q (.int (n ^ m.toNat)) H) : rPwU (.int n) (.int m) H Q := ⟨_, _, rfl, rfl, hc, q⟩
theorem v_neg {gg : Int → V} (q : Q (gg n) H) : rU gg (.int n) H Q := ⟨_, rfl, q⟩
theorem v_eqI (q : Q (.bl (decide (n = m))) H) : rEqU K (.int n) (.int m) H Q := .inl ⟨rfl, by rw [show decide (V.int n = V.int m) = decide (n = m) by simp]; exact q⟩
theorem v_neI (q : Q (.bl (!decide (n = m))) H) : rNeU K (.int n) (.int m) H Q := .inl ⟨rfl, by rw [show decide (V.int n = V.int m) = decide (n = m) by simp]; exact q⟩
theorem v_eqS {n m : Str} (q : Q (.bl (decide (n = m))) H) : rEqU K (.str n) (.str m) H Q := .inl ⟨rfl, by rw [show decide (V.str n = V.str m) = decide (n = m) by simp]; exact q⟩
theorem v_neS {n m : Str} (q : Q (.bl (!decide (n = m))) H) : rNeU K (.str n) (.str m) H Q := .inl ⟨rfl, by rw [show decide (V.str n = V.str m) = decide (n = m) by simp]; exact q⟩
theorem v_eqB (q : Q (.bl (decide (k = k'))) H) : rEqU K (.bl k) (.bl k') H Q := .inl ⟨rfl, by rw [show decide (V.bl k = V.bl k') = decide (k = k') by simp]; exact q⟩
theorem v_neB (q : Q (.bl (!decide (k = k'))) H) : rNeU K (.bl k) (.bl k') H Q := .inl ⟨rfl, by rw [show decide (V.bl k = V.bl k') = decide (k = k') by simp]; exact q⟩
theorem v_isN_non {rr : R2} (e : rr = fun x y H Q => y = .non ∧ Q (.bl (decide (x = .non))) H) (q : Q (.bl true) H) : rr .non .non H Q := by subst e; exact ⟨rfl, q⟩
theorem v_ixL {xs : List V} (h : SqL K H p xs) (e : atI xs n = some v) (q : Q v H) : rIx K (.ref p) (.int n) H Q := .inl ⟨p, xs, n, v, rfl, rfl, h, e, q⟩
theorem v_ixT {xs : List V} (h : SqT K H p xs) (e : atI xs n = some v) (q : Q v H) : rIx K (.ref p) (.int n) H Q := .inr (.inl ⟨p, xs, n, v, rfl, rfl, h, e, q⟩)
theorem v_ixL' {xs : List V} (h : H p = some (.lst xs)) (e : atI xs n = some v) (q : Q v H) : rIx K (.ref p) (.int n) H Q := v_ixL (.of h) e q
theorem v_ixT' {xs : List V} (h : H p = some (.tup xs)) (e : atI xs n = some v) (q : Q v H) : rIx K (.ref p) (.int n) H Q := v_ixT (.of h) e q
theorem v_setL {xs : List V} {j : Nat} {Qs : Hp → Prop} (h : H p = some (.lst xs)) (e : ixN xs.length n = some j) (q : ∀ H', Ch [p] H H' → H' p = some (.lst (xs.set j v)) → Qs H') : rSetL (.ref p) (.int n) v H Qs := ⟨p, xs, n, j, rfl, rfl, h, e, q _ .put upd_same⟩
theorem x_gSub {to ti : TE} {ts : TSet} {q : L2.St → Hp → Prop} (h : to σ H fun o H1 => ti σ H1 fun i H2 => ts o i v H2 fun H3 => q σ H3) : gSub to ti ts v σ H q := h
theorem v_append {y : V} (h : H p = some (.lst xs)) (hz : xs.length < sizeLine) (q : ∀ H', Ch [p] H H' → H' p = some (.lst (xs ++ [y])) → Q .non H') : rAppend (.ref p) [y] H Q := ⟨p, xs, y, rfl, rfl, h, hz, q _ .put upd_same⟩
theorem v_tyL {x : List V} (h : H p = some (.lst x)) : tyV K "list" (.ref p) H := .inl ⟨rfl, _, SqL.of h⟩
end

/-! ### defs, names -/
section
variable {X : Cx}
theorem pe_g {x : Str} {v : V} {pos : Pos} (h : ∃ u, X.mg x = some u ∧ RelV v u) (hg : Gl X x := by rfl) (hd : (x == ("__debug__" : Str)) = false := by decide) : PE X (.Name x pos) (tC v) := by
  obtain ⟨u, h1, h2⟩ := h
  exact pe_glob hg h1 h2 hd
theorem pe_callD {CX : CXT} {k : Nat} {f : Addr} {fd : FuncData} {ps : List Str} {sp : Sp} {x : Str} {p pos : Pos} {e : Expr} {es : List Expr} {dvs : List V} {E : XK} {t : TA} (F : FnOk X.prog X.w X.K X.mg X.base CX k f fd ps sp) (hr : Room k X.A) (hg : Gl X x) (hm : X.mg x = some (.ref f)) (hk : PySem.W.keepIn X.K (.ref f) = true)
    (hb : ∃ ds, Vals dvs ds ∧ Binds X.K fd ps ds) (hx : Passes CX X E) (ha : PA X (e :: es) t) (hdb : (x == ("__debug__" : Str)) = false := by decide) (he : starEach (e :: es) X.env = (false, eval e X.env) :: starEach es X.env := by rfl) (hpl : (backTo pos (starEach es X.env)).any (·.1) = false := by rfl) :
    PE X (.Call (.Name x p) (e :: es) [] pos) (tCall sp dvs E t) := by
  obtain ⟨ds, h1, h2⟩ := hb
  exact pe_call F hr hg hm hk h2 h1 hx ha hdb he hpl
end
section
variable {P : Program} {w : World} {K : PySem.W.Frag} {mg : Str → Option Value} {base : Heap} {x qual : Str} {st : Stmt} {dvs : List V} {kws : List (Str × V)} {f : Addr} {fd : FuncData}
theorem okD {N ps : List Str} {k : Nat} {sp : Sp} (F : FunD K x qual (defArgs st) (defBody st) (defScope st) dvs kws f fd) (S : FnScope N ps (defScope st)) (len : ∀ vs H Q E, sp vs H Q E → vs.length = ps.length)
    (hbody : ∀ (cdv : Value) (A : Around) (outer : List Env) (s : Shared) (H : Hp) (vs : List V) (Q : VK) (E : XK), Room k (A.deeper (envOfC qual (defScope st) s.heap.objs.size f cdv)) → sp vs H Q E →
      ∃ t, PSs (cxOf CX0 P w K mg base N qual (defScope st) f cdv A outer s H E).nox (defBody st) t ∧ t { nx := fun _ H' => Q .non H', rt := Q } (start N vs) H) : FnOk P w K mg base CX0 (k + 1) f fd ps sp :=
  F.ok S len fun cdv A outer s H vs Q E hr h => by
    obtain ⟨t, h1, h2⟩ := hbody cdv A outer s H vs Q E hr h
    exact ⟨t, h1.nox, h2⟩
end

/-! ### sizes -/
section
theorem sm_bits {x : Int} (h1 : -(10 ^ 200) ≤ x) (h2 : x ≤ 10 ^ 200) : Builtin.Int.intBits x ≤ 700 := by
  refine PyProof.Rows.intBits_le (Nat.lt_of_le_of_lt (m := 10 ^ 200) (by omega) (by decide +kernel))
theorem mulB {i j : Int} {a b : Nat} (hi : Builtin.Int.intBits i ≤ a) (hj : Builtin.Int.intBits j ≤ b) (h : a + b ≤ 134217728) : CMulX i j := by
  show (Builtin.Int.intBits i : Int) + (Builtin.Int.intBits j : Int) ≤ 134217728
  omega
theorem mulS {i j : Int} (h1 : -(10 ^ 200) ≤ i) (h2 : i ≤ 10 ^ 200) (h3 : -(10 ^ 200) ≤ j) (h4 : j ≤ 10 ^ 200) : CMulX i j := mulB (sm_bits h1 h2) (sm_bits h3 h4) (by decide)
theorem fdS {i j : Int} (h : j ≠ 0) (h3 : -(10 ^ 200) ≤ j) (h4 : j ≤ 10 ^ 200) : CFd i j := by
  refine ⟨h, PyProof.noPylong_of_log2 ?_⟩
  have b := sm_bits h3 h4
  unfold Builtin.Int.intBits at b
  split at b
  · rename_i e
    exact absurd (by simpa using e) h
  · omega
theorem fdB {i j : Int} {b : Nat} (h : j ≠ 0) (hb : Builtin.Int.intBits j ≤ b) (h9 : b ≤ 9000) : CFd i j := by
  refine ⟨h, PyProof.noPylong_of_log2 ?_⟩
  unfold Builtin.Int.intBits at hb
  split at hb
  · rename_i e
    exact absurd (by simpa using e) h
  · omega
theorem pwB {i j : Int} {a n : Nat} (h0 : 0 ≤ j) (hi : Builtin.Int.intBits i ≤ a) (hj : j ≤ n) (h : a * n ≤ 134217728) : CPw i j := by
  refine ⟨h0, ?_⟩
  have e : (2 : Int) ^ 27 = 134217728 := by decide
  rw [e]
  have h1 : (Builtin.Int.intBits i : Int) * j ≤ (a : Int) * (n : Int) := Int.mul_le_mul (by omega) hj h0 (by omega)
  have h2 : ((a * n : Nat) : Int) ≤ ((134217728 : Nat) : Int) := Int.ofNat_le.mpr h
  rw [Int.natCast_mul] at h2
  omega
end

/-! ### more steps -/
section
variable {X : Cx} {K : PySem.W.Frag} {σ σ' : L2.St} {H : Hp} {t u : TS} {te ta tb tc : TE} {tt tu : TT} {Q : VK} {f b c : L2.St → Hp → Prop} {r : VK} {g : TG} {gs : TGs} {v x y : V} {vs : List V} {n m : Int} {a : Addr} {xs : List V} {q : L2.St → Hp → Prop} {D : Ends}
def rAbsU : List V → Hp → VK → Prop := fun xs H Q => ∃ i, xs = [.int i] ∧ Q (.int (if i < 0 then -i else i)) H
theorem call_absU : CallR X (.builtin "abs") rAbsU := call_abs
theorem v_abs (q : Q (.int (n.natAbs : Int)) H) : rAbsU [.int n] H Q := ⟨n, rfl, by
  have e : (if n < 0 then -n else n) = (n.natAbs : Int) := by split <;> omega
  rw [e]
  exact q⟩
def rMaxU : List V → Hp → VK → Prop := fun xs H Q => ∃ i j, xs = [.int i, .int j] ∧ Q (.int (if j > i then j else i)) H
def rMinU : List V → Hp → VK → Prop := fun xs H Q => ∃ i j, xs = [.int i, .int j] ∧ Q (.int (if j < i then j else i)) H
theorem call_maxU (hc : X.calm = true) : CallR X (.builtin "max") rMaxU := call_max2 hc
theorem call_minU (hc : X.calm = true) : CallR X (.builtin "min") rMinU := call_min2 hc
theorem v_max (q : Q (.int (max n m)) H) : rMaxU [.int n, .int m] H Q := ⟨n, m, rfl, by
  have e : (if m > n then m else n) = max n m := by split <;> omega
  rw [e]
  exact q⟩
theorem v_min (q : Q (.int (min n m)) H) : rMinU [.int n, .int m] H Q := ⟨n, m, rfl, by
  have e : (if m < n then m else n) = min n m := by split <;> omega
  rw [e]
  exact q⟩
theorem v_gTup {k : Nat} {p : Addr} (h : H p = some (.tup xs)) (hl : xs.length = k) (h2 : gs xs σ H q) : gTup K k gs (.ref p) σ H q := ⟨p, xs, rfl, .of h, hl, h2⟩
theorem v_gTupS {k : Nat} {p : Addr} (h : SqT K H p xs) (hl : xs.length = k) (h2 : gs xs σ H q) : gTup K k gs (.ref p) σ H q := ⟨p, xs, rfl, h, hl, h2⟩
theorem v_gUnl {k : Nat} {p : Addr} (h : H p = some (.lst xs)) (hl : xs.length = k) (h2 : gs xs σ H q) : gUnl K k gs (.ref p) σ H q := ⟨p, xs, rfl, .of h, hl, h2⟩
theorem v_gCons (h : g v σ H fun σ' H' => gs vs σ' H' q) : gCons g gs (v :: vs) σ H q := ⟨v, vs, rfl, h⟩
theorem v_gNil (h : q σ H) : gNil [] σ H q := ⟨rfl, h⟩
/-! a while by a word that falls -/
def Nx (W : Nat → L2.St → Hp → Prop) (m : Nat) : L2.St → Hp → Prop := fun σ' H' => ∃ m', m' < m ∧ W m' σ' H'
theorem x_while (W : Nat → L2.St → Hp → Prop) (m0 : Nat) (h0 : W m0 σ H) (hs : ∀ m σ H, W m σ H → tt σ H fun k H1 => if k = true then ∃ N : L2.St → Hp → Prop, (∀ σ' H', N σ' H' → ∃ m', m' < m ∧ W m' σ' H') ∧ t ⟨N, r, f, N⟩ σ H1 else f σ H1) :
    tWhile tt t ⟨f, r, b, c⟩ σ H := ⟨W, ⟨m0, h0⟩, hs⟩
theorem x_N {W : Nat → L2.St → Hp → Prop} {m : Nat} (h : t ⟨Nx W m, r, f, Nx W m⟩ σ H) : ∃ N : L2.St → Hp → Prop, (∀ σ' H', N σ' H' → ∃ m', m' < m ∧ W m' σ' H') ∧ t ⟨N, r, f, N⟩ σ H := ⟨Nx W m, fun _ _ z => z, h⟩
/-! a for by a word of the turn -/
def ForB (J : It) (g : TG) (t : TS) (f : L2.St → Hp → Prop) (r : VK) (σ : L2.St) (H : Hp) : Prop := ∃ W : Nat → Nat → L2.St → Hp → Prop, (∃ m, W 0 m σ H) ∧ ∀ i m σ H, W i m σ H →
  (J.stop i H ∧ f σ H) ∨ (J.go i H ∧ ∃ N : L2.St → Hp → Prop, (∀ σ' H', N σ' H' → ∃ m', m' < m ∧ W (i + 1) m' σ' H') ∧ ∀ x H', J.yld i H x H' → g x σ H' fun σ2 H2 => t ⟨N, r, f, N⟩ σ2 H2)
theorem x_for {wi : TI} (h : wi σ H fun J H1 => ForB J g t f r σ H1) : tFor wi g t ⟨f, r, b, c⟩ σ H := h
theorem for_L {xs : List V} (Pv : Nat → L2.St → Hp → Prop) (h0 : Pv 0 σ H) (hl : ∀ i σ H, i ≤ xs.length → Pv i σ H → SqL K H a xs)
    (hs : ∀ i x σ H, xs[i]? = some x → Pv i σ H → g x σ H fun σ2 H2 => t ⟨Pv (i + 1), r, f, Pv (i + 1)⟩ σ2 H2) (hd : ∀ σ H, Pv xs.length σ H → f σ H) : ForB (Itl K a) g t f r σ H :=
  for_list (D := ⟨f, r, fun _ _ => False, fun _ _ => False⟩) Pv h0 hl hs hd
theorem for_T {xs : List V} (Pv : Nat → L2.St → Hp → Prop) (h0 : Pv 0 σ H) (hl : ∀ i σ H, i ≤ xs.length → Pv i σ H → SqT K H a xs)
    (hs : ∀ i x σ H, xs[i]? = some x → Pv i σ H → g x σ H fun σ2 H2 => t ⟨Pv (i + 1), r, f, Pv (i + 1)⟩ σ2 H2) (hd : ∀ σ H, Pv xs.length σ H → f σ H) : ForB (Itt K a) g t f r σ H :=
  for_tup (D := ⟨f, r, fun _ _ => False, fun _ _ => False⟩) Pv h0 hl hs hd
theorem for_R {lo : Int} {k : Nat} (Pv : Nat → L2.St → Hp → Prop) (h0 : Pv 0 σ H)
    (hs : ∀ i σ H, i < k → Pv i σ H → g (.int (lo + i)) σ H fun σ2 H2 => t ⟨Pv (i + 1), r, f, Pv (i + 1)⟩ σ2 H2) (hd : ∀ σ H, Pv k σ H → f σ H) : ForB (Itr lo k) g t f r σ H :=
  for_range (D := ⟨f, r, fun _ _ => False, fun _ _ => False⟩) Pv h0 hs hd
theorem x_iList {R : It → Hp → Prop} (h : te σ H fun x H1 => ∃ a, x = .ref a ∧ (∃ xs, SqL K H1 a xs) ∧ R (Itl K a) H1) : iList K te σ H R := h
theorem v_iList {p : Addr → Prop} (h : SqL K H a xs) (q : p a) : ∃ a', V.ref a = .ref a' ∧ (∃ xs, SqL K H a' xs) ∧ p a' := ⟨a, rfl, ⟨xs, h⟩, q⟩
theorem x_iTup {R : It → Hp → Prop} (h : te σ H fun x H1 => ∃ a, x = .ref a ∧ (∃ xs, SqT K H1 a xs) ∧ R (Itt K a) H1) : iTup K te σ H R := h
theorem v_iTup {p : Addr → Prop} (h : SqT K H a xs) (q : p a) : ∃ a', V.ref a = .ref a' ∧ (∃ xs, SqT K H a' xs) ∧ p a' := ⟨a, rfl, ⟨xs, h⟩, q⟩
theorem x_iR1 {R : It → Hp → Prop} {ta : TA} (h : ta σ H fun vs H1 => ∃ j : Int, vs = [.int j] ∧ -(2 ^ 62) ≤ j ∧ j < 2 ^ 62 ∧ R (Itr 0 j.toNat) H1) : iRng1 ta σ H R := h
theorem v_iR1 {p : Int → Prop} (h1 : -(10 ^ 18) ≤ n ∧ n ≤ 10 ^ 18) (q : p n) : ∃ j : Int, [V.int n] = [.int j] ∧ -(2 ^ 62) ≤ j ∧ j < 2 ^ 62 ∧ p j := ⟨n, rfl, by omega, by omega, q⟩
theorem x_iR2 {R : It → Hp → Prop} {ta : TA} (h : ta σ H fun vs H1 => ∃ i j : Int, vs = [.int i, .int j] ∧ (-(2 ^ 62) ≤ i ∧ i < 2 ^ 62 ∧ -(2 ^ 62) ≤ j ∧ j < 2 ^ 62) ∧ R (Itr i (j - i).toNat) H1) : iRng2 ta σ H R := h
theorem v_iR2 {p : Int → Int → Prop} (h1 : -(10 ^ 18) ≤ n ∧ n ≤ 10 ^ 18) (h2 : -(10 ^ 18) ≤ m ∧ m ≤ 10 ^ 18) (q : p n m) : ∃ i j : Int, [V.int n, V.int m] = [.int i, .int j] ∧ (-(2 ^ 62) ≤ i ∧ i < 2 ^ 62 ∧ -(2 ^ 62) ≤ j ∧ j < 2 ^ 62) ∧ p i j :=
  ⟨n, m, rfl, ⟨by omega, by omega, by omega, by omega⟩, q⟩
/-! a comprehension by a word of the turn -/
def LcB (J : It) (g : TG) (tt : TT) (te : TE) (vs : List Nat) (σ : L2.St) (H1 : Hp) (Dl : Addr) (Qd : Hp → Prop) : Prop := ∃ W : Nat → Nat → Hp → Prop, (∃ m, W 0 m (upd H1 Dl (.lst []))) ∧ ∀ i m H, W i m H →
  (J.stop i H ∧ Qd H) ∨ (J.go i H ∧ ∃ Nx : Hp → Prop, (∀ H', Nx H' → ∃ m', m' < m ∧ W (i + 1) m' H') ∧ ∀ x H', J.yld i H x H' → g x (wipe σ vs) H' fun σ2 H2 => wipe σ2 vs = wipe σ vs ∧ tt σ2 H2 fun b H3 =>
    if b = true then te σ2 H3 fun y H4 => ∃ acc, H4 Dl = some (.lst acc) ∧ acc.length < sizeLine ∧ Nx (upd H4 Dl (.lst (acc ++ [y]))) else Nx H3)
theorem x_lc {wi : TI} {vs : List Nat} (h : wi σ H fun J H1 => ∀ D, H1 D = none → LcB J g tt te vs σ H1 D fun H' => Q (.ref D) H') : tLc wi g tt te vs σ H Q := h
/-- what holds of the list so far: it stands at Dl, all of H1 but S stands -/
def LcW (S : List Addr) (H1 : Hp) (Dl : Addr) (R : Nat → List V → Hp → Prop) (i : Nat) (H : Hp) : Prop := ∃ acc, H Dl = some (.lst acc) ∧ acc.length ≤ i ∧ Ch S H1 H ∧ R i acc H
theorem lcW_next {S : List Addr} {H1 H4 : Hp} {Dl : Addr} {R : Nat → List V → Hp → Prop} {i : Nat} {acc : List V} {y : V} (hD : H1 Dl = none) (h : H4 Dl = some (.lst acc)) (hi : i < 1000000) (hl : acc.length ≤ i) (hc : Ch S H1 H4)
    (hR : ∀ H', Ch [Dl] H4 H' → H' Dl = some (.lst (acc ++ [y])) → R (i + 1) (acc ++ [y]) H') : ∃ acc, H4 Dl = some (.lst acc) ∧ acc.length < sizeLine ∧ LcW S H1 Dl R (i + 1) (upd H4 Dl (.lst (acc ++ [y]))) := by
  refine ⟨acc, h, Nat.lt_of_le_of_lt (m := 1000000) (by omega) (by decide), acc ++ [y], upd_same, by simp; omega, ?_, hR _ .put upd_same⟩
  intro p o e n
  rw [upd_ne (ne_of_none e hD)]
  exact hc.get e n
theorem lc_L {xs : List V} {vs : List Nat} {Dl : Addr} {H1 : Hp} {Qd : Hp → Prop} (S : List Addr) (R : Nat → List V → Hp → Prop) (hD : H1 Dl = none) (hx : ∀ H', Ch S H1 H' → SqL K H' a xs)
    (h0 : ∀ H', Ch [] H1 H' → R 0 [] H') (hs : ∀ i x acc H', xs[i]? = some x → H' Dl = some (.lst acc) → acc.length ≤ i → Ch S H1 H' → R i acc H' → g x (wipe σ vs) H' fun σ2 H2 => wipe σ2 vs = wipe σ vs ∧ tt σ2 H2 fun b H3 =>
      if b = true then te σ2 H3 fun y H4 => ∃ acc, H4 Dl = some (.lst acc) ∧ acc.length < sizeLine ∧ LcW S H1 Dl R (i + 1) (upd H4 Dl (.lst (acc ++ [y]))) else LcW S H1 Dl R (i + 1) H3)
    (hd : ∀ acc H', H' Dl = some (.lst acc) → acc.length ≤ xs.length → Ch S H1 H' → R xs.length acc H' → Qd H') : LcB (Itl K a) g tt te vs σ H1 Dl Qd := by
  refine lc_list (K := K) (a := a) (xs := xs) (LcW S H1 Dl R) ⟨[], upd_same, Nat.le_refl _, (Ch.new hD).weak S, h0 _ (.new hD)⟩ (fun i H' _ ⟨_, _, _, c, _⟩ => hx _ c) (fun i x H' e ⟨acc, h1, h2, h3, h4⟩ => hs i x acc H' e h1 h2 h3 h4) (fun H' ⟨acc, h1, h2, h3, h4⟩ => hd acc H' h1 h2 h3 h4)
theorem lc_R {lo : Int} {k : Nat} {vs : List Nat} {Dl : Addr} {H1 : Hp} {Qd : Hp → Prop} (S : List Addr) (R : Nat → List V → Hp → Prop) (hD : H1 Dl = none)
    (h0 : ∀ H', Ch [] H1 H' → R 0 [] H') (hs : ∀ i acc H', i < k → H' Dl = some (.lst acc) → acc.length ≤ i → Ch S H1 H' → R i acc H' → g (.int (lo + i)) (wipe σ vs) H' fun σ2 H2 => wipe σ2 vs = wipe σ vs ∧ tt σ2 H2 fun b H3 =>
      if b = true then te σ2 H3 fun y H4 => ∃ acc, H4 Dl = some (.lst acc) ∧ acc.length < sizeLine ∧ LcW S H1 Dl R (i + 1) (upd H4 Dl (.lst (acc ++ [y]))) else LcW S H1 Dl R (i + 1) H3)
    (hd : ∀ acc H', H' Dl = some (.lst acc) → acc.length ≤ k → Ch S H1 H' → R k acc H' → Qd H') : LcB (Itr lo k) g tt te vs σ H1 Dl Qd := by
  refine lc_range (lo := lo) (n := k) (LcW S H1 Dl R) ⟨[], upd_same, Nat.le_refl _, (Ch.new hD).weak S, h0 _ (.new hD)⟩ (fun i H' hi ⟨acc, h1, h2, h3, h4⟩ => hs i acc H' hi h1 h2 h3 h4) (fun H' ⟨acc, h1, h2, h3, h4⟩ => hd acc H' h1 h2 h3 h4)
theorem x_wipe {A B : L2.St} {p : Prop} (h : A = B) (q : p) : A = B ∧ p := ⟨h, q⟩
end

/-! ### walks of any kind, locks -/
section
variable {X : Cx} {K : PySem.W.Frag} {σ σ' : L2.St} {H : Hp} {t u : TS} {te ta tb tc td : TE} {tt tu : TT} {Q : VK} {f b c : L2.St → Hp → Prop} {r : VK} {g : TG} {gs : TGs} {v x y : V} {vs : List V} {n m : Int} {a : Addr} {xs : List V} {q : L2.St → Hp → Prop} {D : Ends} {J : It} {k : Nat} {G : Hp → Prop} {Y : Nat → Hp → V → Hp → Prop}
theorem for_W (w : Walk J k G Y) (Pv : Nat → L2.St → Hp → Prop) (h0 : Pv 0 σ H) (hG : ∀ i σ H, i ≤ k → Pv i σ H → G H)
    (hs : ∀ i x σ H H', i < k → Pv i σ H → Y i H x H' → g x σ H' fun σ2 H2 => t ⟨Pv (i + 1), r, f, Pv (i + 1)⟩ σ2 H2) (hd : ∀ σ H, Pv k σ H → f σ H) : ForB J g t f r σ H :=
  for_it (D := ⟨f, r, fun _ _ => False, fun _ _ => False⟩) w Pv h0 hG hs hd
theorem lc_W (w : Walk J k G Y) {vs : List Nat} {Dl : Addr} {H1 : Hp} {Qd : Hp → Prop} (S : List Addr) (R : Nat → List V → Hp → Prop) (hD : H1 Dl = none) (hG : ∀ H', Ch S H1 H' → G H')
    (h0 : ∀ H', Ch [] H1 H' → R 0 [] H') (hs : ∀ i x acc H' H2, i < k → H' Dl = some (.lst acc) → acc.length ≤ i → Ch S H1 H' → R i acc H' → Y i H' x H2 → g x (wipe σ vs) H2 fun σ2 H2 => wipe σ2 vs = wipe σ vs ∧ tt σ2 H2 fun b H3 =>
      if b = true then te σ2 H3 fun y H4 => ∃ acc, H4 Dl = some (.lst acc) ∧ acc.length < sizeLine ∧ LcW S H1 Dl R (i + 1) (upd H4 Dl (.lst (acc ++ [y]))) else LcW S H1 Dl R (i + 1) H3)
    (hd : ∀ acc H', H' Dl = some (.lst acc) → acc.length ≤ k → Ch S H1 H' → R k acc H' → Qd H') : LcB J g tt te vs σ H1 Dl Qd := by
  refine lc_it w (LcW S H1 Dl R) ⟨[], upd_same, Nat.le_refl _, (Ch.new hD).weak S, h0 _ (.new hD)⟩ (fun i H' _ ⟨_, _, _, c, _⟩ => hG _ c) (fun i x H' H2 e ⟨acc, h1, h2, h3, h4⟩ y => hs i x acc H' H2 e h1 h2 h3 h4 y) (fun H' ⟨acc, h1, h2, h3, h4⟩ => hd acc H' h1 h2 h3 h4)
theorem x_iStr {R : It → Hp → Prop} (h : te σ H fun v H1 => ∃ x, v = .str x ∧ R (Its x) H1) : iStr te σ H R := h
theorem v_iStr {z : Str} {p : Str → Prop} (h : p z) : ∃ x, V.str z = .str x ∧ p x := ⟨z, rfl, h⟩
theorem x_iKeys {R : It → Hp → Prop} (h : te σ H fun x H1 => ∃ d o, x = .ref d ∧ ((∃ kvs, H1 d = some (.frz o (.dK kvs)) ∧ R (Itk d o kvs) H1) ∨ ∃ kvs, H1 d = some (.frz o (.dT kvs)) ∧ R (Itkt d o kvs) H1)) : iKeys te σ H R := h
theorem v_iKeys {d : Addr} {o : Obj} {kvs : List (Key × V)} {p : Addr → Obj → List (Key × V) → Prop} {p2 : Addr → Obj → Prop} (hd : H d = some (.frz o (.dK kvs))) (h : p d o kvs) : ∃ d' o', V.ref d = .ref d' ∧ ((∃ kvs, H d' = some (.frz o' (.dK kvs)) ∧ p d' o' kvs) ∨ p2 d' o') := ⟨d, o, rfl, .inl ⟨kvs, hd, h⟩⟩
theorem x_iItems {R : It → Hp → Prop} (h : te σ H fun x H1 => ∃ d o kvs, x = .ref d ∧ H1 d = some (.frz o (.dK kvs)) ∧ R (Iti d o kvs) H1) : iItems te σ H R := h
theorem v_iItems {d : Addr} {o : Obj} {kvs : List (Key × V)} {p : Addr → Obj → List (Key × V) → Prop} (hd : H d = some (.frz o (.dK kvs))) (h : p d o kvs) : ∃ d' o' kvs', V.ref d = .ref d' ∧ H d' = some (.frz o' (.dK kvs')) ∧ p d' o' kvs' := ⟨d, o, kvs, rfl, hd, h⟩
/-! locks -/
def UnS (d : Addr) (od : Obj) (u : HO) (f : L2.St → Hp → Prop) : L2.St → Hp → Prop := fun σ' H' => H' d = some (.frz od u) ∧ f σ' (upd H' d u)
def UnV (d : Addr) (od : Obj) (u : HO) (r : VK) : VK := fun v H' => H' d = some (.frz od u) ∧ r v (upd H' d u)
theorem x_lock {d : Addr} {u : HO} (hd : H d = some u) (mu : Mut (some u)) (h : ∀ od Hl, Hl d = some (.frz od u) → Ch [d] H Hl → t ⟨UnS d od u f, UnV d od u r, UnS d od u b, UnS d od u c⟩ σ Hl) : tLock t ⟨f, r, b, c⟩ σ H :=
  ⟨d, u, hd, mu, fun od => h od _ upd_same .put⟩
theorem x_lockE {d : Addr} {u : HO} (hd : H d = some u) (mu : Mut (some u)) (h : ∀ od Hl, Hl d = some (.frz od u) → Ch [d] H Hl → te σ Hl (UnV d od u Q)) : tLockE te σ H Q :=
  ⟨d, u, hd, mu, fun od => h od _ upd_same .put⟩
theorem v_unS {d : Addr} {od : Obj} {u : HO} {H0 : Hp} {S : List Addr} (h0 : H0 d = some u) (c0 : Ch (d :: S) H0 H) (h : H d = some (.frz od u)) (q : ∀ H2, Ch S H0 H2 → Ch [d] H H2 → H2 d = some u → f σ H2) : UnS d od u f σ H := ⟨h, q _ (by
  intro p o e n
  by_cases hp : p = d
  · subst hp
    rw [h0] at e
    cases e
    exact upd_same
  · rw [upd_ne hp]
    exact c0.get e (by simp [hp, n])) .put upd_same⟩
theorem v_unV {d : Addr} {od : Obj} {u : HO} {H0 : Hp} {S : List Addr} (h0 : H0 d = some u) (c0 : Ch (d :: S) H0 H) (h : H d = some (.frz od u)) (q : ∀ H2, Ch S H0 H2 → Ch [d] H H2 → H2 d = some u → r v H2) : UnV d od u r v H := ⟨h, q _ (by
  intro p o e n
  by_cases hp : p = d
  · subst hp
    rw [h0] at e
    cases e
    exact upd_same
  · rw [upd_ne hp]
    exact c0.get e (by simp [hp, n])) .put upd_same⟩
/-! other values -/
def rSortD : List V → Hp → VK → Prop := fun xs H Q => ∃ (a : Addr) (kvs : List (Key × V)) (ks : List Str), xs = [.ref a] ∧ Rd H a (.dK kvs) ∧ kvs.map (·.1) = ks.map Sum.inr ∧ ks.length < 64 ∧
    ∀ ys p, ys.Perm ks → sortedS ys = true → H p = none → Q (.ref p) (upd H p (.lst (ys.map V.str)))
theorem call_sortD (hc : X.calm = true) : CallR X (.builtin "sorted") rSortD := call_sortedD hc
theorem v_sortD {kvs : List (Key × V)} (ks : List Str) (h : Rd H a (.dK kvs)) (e : kvs.map (·.1) = ks.map Sum.inr) (l : ks.length < 64) (q : ∀ ys p H', ys.Perm ks → sortedS ys = true → H p = none → Ch [] H H' → H' p = some (.lst (ys.map V.str)) → Q (.ref p) H') : rSortD [.ref a] H Q :=
  ⟨a, kvs, ks, rfl, h, e, l, fun ys p h1 h2 h3 => q ys p _ h1 h2 h3 (.new h3) upd_same⟩
def rLenU (K : PySem.W.Frag) : List V → Hp → VK → Prop := fun xs H Q => ∃ x n, xs = [x] ∧ LenV K x H n ∧ Q (.int n) H
theorem call_lenU : CallR X (.builtin "len") (rLenU X.K) := call_len
theorem v_lenL (h : SqL K H a xs) (q : Q (.int xs.length) H) : rLenU K [.ref a] H Q := ⟨.ref a, _, rfl, .inl ⟨xs, h, rfl⟩, q⟩
theorem v_lenT (h : SqT K H a xs) (q : Q (.int xs.length) H) : rLenU K [.ref a] H Q := ⟨.ref a, _, rfl, .inr ⟨xs, h, rfl⟩, q⟩
theorem v_lenS {z : Str} (h : z.length ≤ sizeLine) (q : Q (.int z.length) H) : rLenU K [.str z] H Q := ⟨.str z, _, rfl, ⟨h, rfl⟩, q⟩
def rLenDU : List V → Hp → VK → Prop := fun xs H Q => ∃ a kvs, xs = [V.ref a] ∧ H a = some (.dK kvs) ∧ Q (.int kvs.length) H
theorem call_lenDU : CallR X (.builtin "len") rLenDU := call_lenD
theorem v_lenD {kvs : List (Key × V)} (h : H a = some (.dK kvs)) (q : Q (.int kvs.length) H) : rLenDU [.ref a] H Q := ⟨a, kvs, rfl, h, q⟩
def rAllU (K : PySem.W.Frag) : List V → Hp → VK → Prop := fun vs H Q => ∃ (a : Addr) (bs : List Bool), vs = [V.ref a] ∧ SqL K H a (bs.map V.bl) ∧ Q (.bl (bs.all id)) H
theorem v_all (bs : List Bool) (h : H a = some (.lst (bs.map V.bl))) (q : Q (.bl (bs.all id)) H) : rAll K [.ref a] H Q := ⟨a, bs, rfl, .of h, q⟩
theorem v_sum (ns : List Int) (h : H a = some (.lst (ns.map V.int))) (q : Q (.int ns.sum) H) : rSum K [.ref a] H Q := ⟨a, ns, rfl, .of h, q⟩
theorem x_dget (h : td σ H fun x H1 => te σ H1 fun y H2 => ∃ a v, x = .ref a ∧ DGet H2 a y (some v) ∧ Q v H2) : tDGet td te σ H Q := h
theorem v_dgetS {kvs : List (Key × V)} {z : Str} {p : V → Prop} (h : Rd H a (.dK kvs)) (e : valV kvs (Sum.inr z) = some v) (q : p v) : ∃ a' v', V.ref a = .ref a' ∧ DGet H a' (.str z) (some v') ∧ p v' := ⟨a, v, rfl, .inl ⟨kvs, .inr z, h, rfl, e.symm⟩, q⟩
theorem v_dgetI {kvs : List (Key × V)} {z : Int} {p : V → Prop} (h : Rd H a (.dK kvs)) (e : valV kvs (Sum.inl z) = some v) (q : p v) : ∃ a' v', V.ref a = .ref a' ∧ DGet H a' (.int z) (some v') ∧ p v' := ⟨a, v, rfl, .inl ⟨kvs, .inl z, h, rfl, e.symm⟩, q⟩
theorem x_din (h : te σ H fun y H1 => td σ H1 fun x H2 => ∃ a o, x = .ref a ∧ DGet H2 a y o ∧ Q (.bl o.isSome) H2) : tDIn te td σ H Q := h
theorem x_dnin (h : te σ H fun y H1 => td σ H1 fun x H2 => ∃ a o, x = .ref a ∧ DGet H2 a y o ∧ Q (.bl (!o.isSome)) H2) : tDNotIn te td σ H Q := h
theorem v_dinS {kvs : List (Key × V)} {z : Str} {p : Option V → Prop} (h : Rd H a (.dK kvs)) (q : p (valV kvs (Sum.inr z))) : ∃ a' o, V.ref a = .ref a' ∧ DGet H a' (.str z) o ∧ p o := ⟨a, _, rfl, .inl ⟨kvs, .inr z, h, rfl, rfl⟩, q⟩
/-- d[k] = v -/
theorem x_dput (h : te σ H fun v H1 => td σ H1 fun x H2 => ta σ H2 fun y H3 => ∃ a H4, x = .ref a ∧ DPut H3 a y v H4 ∧ f σ H4) : sDPut td ta te ⟨f, r, b, c⟩ σ H := h
theorem v_dputS {kvs : List (Key × V)} {z : Str} (h : H a = some (.dK kvs)) (l : kvs.length < sizeLine) (q : ∀ H', Ch [a] H H' → H' a = some (.dK (putK kvs (Sum.inr z) v)) → f σ H') : ∃ a' H4, V.ref a = .ref a' ∧ DPut H a' (.str z) v H4 ∧ f σ H4 :=
  ⟨a, _, rfl, .inl ⟨kvs, .inr z, h, rfl, l, rfl⟩, q _ .put upd_same⟩
theorem x_dnew (h : ∀ p H', H p = none → Ch [] H H' → H' p = some (.dK []) → Q (.ref p) H') : tDNewK σ H Q := new_of h
/-! isinstance -/
theorem v_isi {x : V} {n : String} {tv : Value} {k : Bool} (ty : TyX K H x tv) (e : PySem.W.kitOne K tv (.type n) = some k) (q : Q (.bl k) H) : rIsi K [x, .ty n] H Q := ⟨x, .ty n, tv, .type n, k, rfl, .ty n, ty, e, q⟩
end

/-! isinstance by the kind of value -/
section
variable {K : PySem.W.Frag} {H : Hp} {Q : VK} {a : Addr} {n : String} {k : Bool}
theorem isi_non (e : kitB "NoneType" n = some k) (q : Q (.bl k) H) : rIsi K [.non, .ty n] H Q := v_isi (.base .non) (kit_ty e) q
theorem isi_bl {i : Bool} (e : kitB "bool" n = some k) (q : Q (.bl k) H) : rIsi K [.bl i, .ty n] H Q := v_isi (.base (.bl _)) (kit_ty e) q
theorem isi_int {i : Int} (e : kitB "int" n = some k) (q : Q (.bl k) H) : rIsi K [.int i, .ty n] H Q := v_isi (.base (.int _)) (kit_ty e) q
theorem isi_str {i : Str} (e : kitB "str" n = some k) (q : Q (.bl k) H) : rIsi K [.str i, .ty n] H Q := v_isi (.base (.str _)) (kit_ty e) q
theorem isi_tup {xs : List V} (h : H a = some (.tup xs)) (e : kitB "tuple" n = some k) (q : Q (.bl k) H) : rIsi K [.ref a, .ty n] H Q := v_isi (.base (.tup h)) (kit_ty e) q
theorem isi_lst {xs : List V} (h : H a = some (.lst xs)) (e : kitB "list" n = some k) (q : Q (.bl k) H) : rIsi K [.ref a, .ty n] H Q := v_isi (.base (.lst h)) (kit_ty e) q
theorem isi_dK {xs : List (Key × V)} (h : H a = some (.dK xs)) (e : kitB "dict" n = some k) (q : Q (.bl k) H) : rIsi K [.ref a, .ty n] H Q := v_isi (.base (.dK h)) (kit_ty e) q
end

section
variable {X : Cx} {K : PySem.W.Frag} {H : Hp} {Q : VK} {a b : Addr} {n : Int} {z z' : Str} {k : Bool}
theorem x_iteT2 {A B : Prop} (h : A) : if (!false) = true then A else B := by rw [if_pos (by decide)]; exact h
theorem x_iteF2 {A B : Prop} (h : B) : if (!true) = true then A else B := by rw [if_neg (by decide)]; exact h
theorem v_isN0 (q : Q (.bl true) H) : rIsN .non .non H Q := ⟨rfl, q⟩
theorem v_isNI (q : Q (.bl false) H) : rIsN (.int n) .non H Q := ⟨rfl, q⟩
theorem v_isNS (q : Q (.bl false) H) : rIsN (.str z) .non H Q := ⟨rfl, q⟩
theorem v_isNB (q : Q (.bl false) H) : rIsN (.bl k) .non H Q := ⟨rfl, q⟩
theorem v_isNR (q : Q (.bl false) H) : rIsN (.ref a) .non H Q := ⟨rfl, q⟩
theorem v_noN0 (q : Q (.bl false) H) : rNotN .non .non H Q := ⟨rfl, q⟩
theorem v_noNI (q : Q (.bl true) H) : rNotN (.int n) .non H Q := ⟨rfl, q⟩
theorem v_noNS (q : Q (.bl true) H) : rNotN (.str z) .non H Q := ⟨rfl, q⟩
theorem v_noNB (q : Q (.bl true) H) : rNotN (.bl k) .non H Q := ⟨rfl, q⟩
theorem v_noNR (q : Q (.bl true) H) : rNotN (.ref a) .non H Q := ⟨rfl, q⟩
theorem v_inS {c : Nat} (q : Q (.bl (decide (c ∈ z.cps.toList))) H) : rInS (.str ⟨#[c]⟩) (.str z) H Q := ⟨c, z, rfl, rfl, q⟩
theorem v_isB {k k' : Bool} (q : Q (.bl (decide (k = k'))) H) : rIsB (.bl k) (.bl k') H Q := ⟨k, k', rfl, rfl, q⟩
theorem v_noB {k k' : Bool} (q : Q (.bl (!decide (k = k'))) H) : rNotB (.bl k) (.bl k') H Q := ⟨k, k', rfl, rfl, q⟩
theorem x_iteBD {A B : Prop} {k k' : Bool} (e : k = k') (h : A) : if decide (k = k') = true then A else B := by rw [if_pos (decide_eq_true e)]; exact h
end

section
variable {X : Cx} {K : PySem.W.Frag} {σ : L2.St} {H : Hp} {QB : Bool → Hp → Prop}
theorem x_yes (h : QB true H) : tYes σ H QB := h
theorem x_iteP {A B p : Prop} [Decidable p] (e : p) (h : A) : if decide p = true then A else B := by rw [if_pos (decide_eq_true e)]; exact h
theorem x_iteNP {A B p : Prop} [Decidable p] (e : ¬ p) (h : B) : if decide p = true then A else B := by rw [if_neg (by simp [e])]; exact h
theorem x_iteQ {A B p : Prop} [Decidable p] (e : p) (h : B) : if (!decide p) = true then A else B := by rw [if_neg (by simp [e])]; exact h
theorem x_iteNQ {A B p : Prop} [Decidable p] (e : ¬ p) (h : A) : if (!decide p) = true then A else B := by rw [if_pos (by simp [e])]; exact h
end

/-! walks that lay tuples: what is known of them -/
def YTup (f g : Nat → Option V) : Nat → Hp → V → Hp → Prop := fun i H v H' => ∃ T x y, v = .ref T ∧ H T = none ∧ Ch [] H H' ∧ H' T = some (.tup [x, y]) ∧ f i = some x ∧ g i = some y
theorem yTup_of {f g : Nat → Option V} {i : Nat} {H H' : Hp} {v : V} (h : YPair f g i H v H') : YTup f g i H v H' := by
  obtain ⟨T, x, y, e, n, rfl, h1, h2⟩ := h
  exact ⟨T, x, y, e, n, .new n, upd_same, h1, h2⟩
theorem walk_itemsT {d : Addr} {o : Obj} {kvs : List (Key × V)} : Walk (Iti d o kvs) kvs.length (fun H => H d = some (.frz o (.dK kvs))) (YTup (fun i => kvs[i]?.map fun kv => kV kv.1) (fun i => kvs[i]?.map Prod.snd)) :=
  walk_items.mono (fun _ h => h) fun _ _ _ _ _ _ y => yTup_of y
theorem walk_zipT {K : PySem.W.Frag} {a b : Addr} {xs ys : List V} {n : Nat} (hn : n = min xs.length ys.length) : Walk (Itz K a b) n (fun H => SqL K H a xs ∧ SqL K H b ys) (YTup (fun i => xs[i]?) (fun i => ys[i]?)) :=
  (walk_zip hn).mono (fun _ h => h) fun _ _ _ _ _ _ y => yTup_of y
theorem walk_enumT {K : PySem.W.Frag} {a : Addr} {xs : List V} : Walk (Ite K a) xs.length (fun H => SqL K H a xs) (YTup (fun i => some (.int (i : Nat))) (fun i => xs[i]?)) :=
  walk_enum.mono (fun _ h => h) fun _ _ _ _ _ _ y => yTup_of y
section
variable {K : PySem.W.Frag} {H : Hp} {Q : VK} {a : Addr} {xs : List V}
theorem v_lenT' {n : Int} (h : H a = some (.tup xs)) (e : (xs.length : Int) = n) (q : Q (.int n) H) : rLenU K [.ref a] H Q := v_lenT (.of h) (by rw [e]; exact q)
theorem v_lenL' {n : Int} (h : H a = some (.lst xs)) (e : (xs.length : Int) = n) (q : Q (.int n) H) : rLenU K [.ref a] H Q := v_lenL (.of h) (by rw [e]; exact q)
end
/-! ### data that == tells apart: None, ints, texts, lists and tuples of such -/
def tm : Nat → PyData → Prop
  | _, .none => True
  | _, .int _ => True
  | _, .str x => PyData.strOk x = true
  | n + 1, .list xs => ∀ x ∈ xs, tm n x
  | n + 1, .tuple xs => ∀ x ∈ xs, tm n x
  | _, _ => False
theorem canLayAll_of {xs : List PyData} (h : ∀ x ∈ xs, PyData.canLay0 x = true) : PyData.canLayAll0 xs = true := by
  induction xs with
  | nil => rfl
  | cons x xs ih =>
    simp only [PyData.canLayAll0, Bool.and_eq_true]
    exact ⟨h x (by simp), ih fun y hy => h y (by simp [hy])⟩
theorem depthAll_of {xs : List PyData} {n : Nat} (h : ∀ x ∈ xs, PyData.depth x ≤ n) : PyData.depthAll xs ≤ n := by
  induction xs with
  | nil => exact Nat.zero_le _
  | cons x xs ih =>
    simp only [PyData.depthAll]
    exact Nat.max_le.mpr ⟨h x (by simp), ih fun y hy => h y (by simp [hy])⟩
theorem tm_lay : ∀ (n : Nat) (d : PyData), tm n d → PyData.canLay0 d = true ∧ PyData.depth d ≤ n
  | _, .none, _ => ⟨rfl, by simp [PyData.depth]⟩
  | _, .int _, _ => ⟨rfl, by simp [PyData.depth]⟩
  | _, .str x, h => ⟨by unfold tm at h; simpa [PyData.canLay0] using h, by simp [PyData.depth]⟩
  | n + 1, .list xs, h => by
    unfold tm at h
    refine ⟨?_, ?_⟩
    · simp only [PyData.canLay0]
      exact canLayAll_of fun x hx => (tm_lay n x (h x hx)).1
    · simp only [PyData.depth]
      exact Nat.succ_le_succ (depthAll_of fun x hx => (tm_lay n x (h x hx)).2)
  | n + 1, .tuple xs, h => by
    unfold tm at h
    refine ⟨?_, ?_⟩
    · simp only [PyData.canLay0]
      exact canLayAll_of fun x hx => (tm_lay n x (h x hx)).1
    · simp only [PyData.depth]
      exact Nat.succ_le_succ (depthAll_of fun x hx => (tm_lay n x (h x hx)).2)
  | 0, .list _, h => by unfold tm at h; exact h.elim
  | 0, .tuple _, h => by unfold tm at h; exact h.elim
  | 0, .bool _, h => by unfold tm at h; exact h.elim
  | n + 1, .bool _, h => by unfold tm at h; exact h.elim
  | 0, .dict _, h => by unfold tm at h; exact h.elim
  | n + 1, .dict _, h => by unfold tm at h; exact h.elim
theorem eqvAll_iff {n m : Nat} : ∀ {xs ys : List PyData}, (∀ x ∈ xs, ∀ y ∈ ys, (PyData.eqv x y = true ↔ x = y)) → (PyData.eqvAll xs ys = true ↔ xs = ys)
  | [], [], _ => by simp [PyData.eqvAll]
  | [], _ :: _, _ => by simp [PyData.eqvAll]
  | _ :: _, [], _ => by simp [PyData.eqvAll]
  | x :: xs, y :: ys, h => by
    simp only [PyData.eqvAll, Bool.and_eq_true, List.cons.injEq]
    rw [h x (by simp) y (by simp), eqvAll_iff (n := n) (m := m) fun a ha b hb => h a (by simp [ha]) b (by simp [hb])]
theorem tm_eqv : ∀ (n m : Nat) (d e : PyData), tm n d → tm m e → (PyData.eqv d e = true ↔ d = e)
  | n + 1, m + 1, .list xs, .list ys, h, h' => by
    unfold tm at h h'
    simp only [PyData.eqv, PyData.list.injEq]
    exact eqvAll_iff (n := n) (m := m) fun x hx y hy => tm_eqv n m x y (h x hx) (h' y hy)
  | n + 1, m + 1, .tuple xs, .tuple ys, h, h' => by
    unfold tm at h h'
    simp only [PyData.eqv, PyData.tuple.injEq]
    exact eqvAll_iff (n := n) (m := m) fun x hx y hy => tm_eqv n m x y (h x hx) (h' y hy)
  | n, m, d, e, h, h' => by
    cases n <;> cases m <;> cases d <;> cases e <;> simp only [tm] at h h' <;> first | exact h.elim | exact h'.elim | simp [PyData.eqv] | skip
    · rename_i n m xs ys
      exact eqvAll_iff (n := n) (m := m) fun x hx y hy => tm_eqv n m x y (h x hx) (h' y hy)
    · rename_i n m xs ys
      exact eqvAll_iff (n := n) (m := m) fun x hx y hy => tm_eqv n m x y (h x hx) (h' y hy)
theorem tm_shaped {n : Nat} {d : PyData} (h : tm n d) (hn : n ≤ 64) : SeqAt.shaped d = true := by
  obtain ⟨h1, h2⟩ := tm_lay n d h
  unfold SeqAt.shaped
  rw [h1, decide_eq_true (Nat.le_trans h2 hn)]
  rfl
section
variable {X : Cx} {K : PySem.W.Frag} {H : Hp} {Q : VK} {x y : V} {d e : PyData}
theorem v_eqD (n : Nat) (hd : Dp K H x d) (he : Dp K H y e) (sd : tm n d) (se : tm n e) (h1 : d = e → Q (.bl true) H) (h2 : d ≠ e → Q (.bl false) H) (hn : n ≤ 64 := by decide) : rEqU K x y H Q := by
  refine .inr ⟨d, e, hd, he, tm_shaped sd hn, tm_shaped se hn, ?_⟩
  by_cases h : d = e
  · rw [(tm_eqv n n d e sd se).mpr h]
    exact h1 h
  · rw [show PyData.eqv d e = false from by
      cases q : PyData.eqv d e with
      | false => rfl
      | true => exact absurd ((tm_eqv n n d e sd se).mp q) h]
    exact h2 h
theorem v_neD (n : Nat) (hd : Dp K H x d) (he : Dp K H y e) (sd : tm n d) (se : tm n e) (h1 : d = e → Q (.bl false) H) (h2 : d ≠ e → Q (.bl true) H) (hn : n ≤ 64 := by decide) : rNeU K x y H Q := by
  refine .inr ⟨d, e, hd, he, tm_shaped sd hn, tm_shaped se hn, ?_⟩
  by_cases h : d = e
  · rw [(tm_eqv n n d e sd se).mpr h]
    exact h1 h
  · rw [show PyData.eqv d e = false from by
      cases q : PyData.eqv d e with
      | false => rfl
      | true => exact absurd ((tm_eqv n n d e sd se).mp q) h]
    exact h2 h
theorem dpAll_map {α : Type} {f : α → V} {g : α → PyData} {xs : List α} (h : ∀ x ∈ xs, Dp K H (f x) (g x)) : DpAll K H (xs.map f) (xs.map g) := by
  induction xs with
  | nil => exact .nil
  | cons x xs ih => exact .cons (h x (by simp)) (ih fun y hy => h y (by simp [hy]))
theorem dp_strs {a : Addr} {ss : List Str} (h : H a = some (.lst (ss.map V.str))) : Dp K H (.ref a) (.list (ss.map .str)) := .lst (.of h) (dpAll_map fun _ _ => .str _)
theorem tm_strs {ss : List Str} (h : ∀ z ∈ ss, PyData.strOk z = true) : tm 1 (.list (ss.map .str)) := by
  unfold tm
  intro x hx
  obtain ⟨z, hz, rfl⟩ := List.mem_map.mp hx
  unfold tm
  exact h z hz
theorem dp_nil {a : Addr} (h : H a = some (.lst [])) : Dp K H (.ref a) (.list []) := .lst (.of h) .nil
theorem tm_nil {n : Nat} : tm (n + 1) (.list []) := by unfold tm; intro x hx; cases hx
/-! a displayed dict -/
variable {σ : L2.St} {tk tv : TE} {trs : List (TE × TE)} {QP : List (V × V) → Hp → Prop}
def DispE (p : Addr) (Q : VK) (ps : List (V × V)) (H2 : Hp) : Prop := H2 p = some (.dK []) ∧ ∃ kvs : List (Key × V), ps = kvs.map (fun kv => (kV kv.1, kv.2)) ∧ kvs.length ≤ 15 ∧ Q (.ref p) (upd H2 p (.dK (mergeK [] kvs)))
theorem x_disp (h : ∀ p H', H p = none → Ch [] H H' → H' p = some (.dK []) → tPairs trs σ H' (DispE p Q)) : tDisp trs σ H Q := fun p np => h p _ np (.new np) upd_same
theorem x_pnil (h : QP [] H) : tPairs [] σ H QP := h
theorem x_pcons (h : tk σ H fun x H1 => tv σ H1 fun y H2 => tPairs trs σ H2 fun ps H3 => QP ((x, y) :: ps) H3) : tPairs ((tk, tv) :: trs) σ H QP := h
theorem v_dispE {p : Addr} {kvs : List (Key × V)} {ps : List (V × V)} (h : H p = some (.dK [])) (e : ps = kvs.map fun kv => (kV kv.1, kv.2)) (l : kvs.length ≤ 15) (q : ∀ H', Ch [p] H H' → H' p = some (.dK (mergeK [] kvs)) → Q (.ref p) H') : DispE p Q ps H := ⟨h, kvs, e, l, q _ .put upd_same⟩
end

/-! ### the rules with the written part named -/
section
variable {X : Cx} {K : PySem.W.Frag} {pos : Pos} {te to tl : TE} {t : TA} {e o : Expr} {es : List Expr} {T : String} {r : V → List V → Hp → VK → Prop} {name : Str} {id : String}
theorem ix_seqK (h : X.K = K) : IxR X (rIx K) := h ▸ ix_seq
theorem op_eqK (h : X.K = K) (hu : X.A.units + 64 < cLine) : OpR X (compareOp .Eq) (rEqU K) := h ▸ op_eqU hu
theorem op_neK (h : X.K = K) (hu : X.A.units + 64 < cLine) : OpR X (compareOp .NotEq) (rNeU K) := h ▸ op_neU hu
theorem op_inK (h : X.K = K) : OpR X (compareOp .In) (rIn K false) := h ▸ op_in_seq
theorem op_notInK (h : X.K = K) : OpR X (compareOp .NotIn) (rIn K true) := h ▸ op_notIn_seq
theorem isiK (h : X.K = K) : CallR X (.builtin "isinstance") (rIsi K) := h ▸ call_isi
theorem lenK (h : X.K = K) : CallR X (.builtin "len") (rLenU K) := h ▸ call_lenU
theorem sumK (h : X.K = K) (hc : X.calm = true) : CallR X (.builtin "sum") (rSum K) := h ▸ cr_sum hc
theorem allK (h : X.K = K) (hc : X.calm = true) : CallR X (.builtin "all") (rAll K) := h ▸ cr_all hc
theorem anyK (h : X.K = K) (hc : X.calm = true) : CallR X (.builtin "any") (rAny K) := h ▸ cr_any hc
theorem maxK (h : X.K = K) (hc : X.calm = true) : CallR X (.builtin "max") (rMax K) := h ▸ cr_max hc
theorem minK (h : X.K = K) (hc : X.calm = true) : CallR X (.builtin "min") (rMin K) := h ▸ cr_min hc
theorem sl_listK (h : X.K = K) : SlR X (rSlL K) := h ▸ sl_list
theorem sl_tupK (h : X.K = K) : SlR X (rSlA K) := h ▸ sl_tupA
theorem pi_listK {tg l : Expr} (h : X.K = K) (hl : PE X l tl) : PI X tg l (iList K tl) := h ▸ pi_list hl
theorem pi_tupK {tg l : Expr} (h : X.K = K) (hl : PE X l tl) : PI X tg l (iTup K tl) := h ▸ pi_tup hl
theorem pg_tupK {es : List Expr} {k : Nat} {t : TGs} {n : Nat} (hK : X.K = K) (hc : X.calm = true) (h : PGs X es t) (hn : (assignEach es X.env).length = n) (hst : (assignEach es X.env).findIdx? (·.1) = none) : PG X (.Tuple es k pos) (gTup K n t) := hK ▸ pg_tup hc h hn hst
theorem pg_unlK {es : List Expr} {k : Nat} {t : TGs} {n : Nat} (hK : X.K = K) (hc : X.calm = true) (h : PGs X es t) (hn : (assignEach es X.env).length = n) (hst : (assignEach es X.env).findIdx? (·.1) = none) : PG X (.Tuple es k pos) (gUnl K n t) := hK ▸ pg_unl hc h hn hst
theorem pe_revK {k : Nat} {p1 p2 p3 : Pos} (hK : X.K = K) (he : PE X e te) : PE X (.Subscript e (.Slice none none (some (.UnaryOp .USub (.Constant (.int 1) k p1) p2)) p3) pos) (tRevL K te) := hK ▸ pe_revL he
end

section
variable {H : Hp} {Q : VK} {n m : Int}
/-- a power whose value is written -/
theorem v_pwE {w : Int} (hc : CPw n m) (e : n ^ m.toNat = w) (q : Q (.int w) H) : rPwU (.int n) (.int m) H Q := v_pw hc (by rw [e]; exact q)
/-- 10 ** m, m written -/
theorem v_pw10 {w : Int} (e : (10 : Int) ^ m.toNat = w) (h : 0 ≤ m ∧ m ≤ 1000) (q : Q (.int w) H) : rPwU (.int 10) (.int m) H Q :=
  v_pwE (pwB (a := 4) (n := 1000) h.1 (PyProof.Rows.intBits_le (by decide)) (by omega) (by decide)) e q
/-- a cube -/
theorem v_cube (h1 : -(10 ^ 200) ≤ n) (h2 : n ≤ 10 ^ 200) (q : Q (.int (n ^ 3)) H) : rPwU (.int n) (.int 3) H Q :=
  v_pwE (pwB (a := 700) (n := 3) (by decide) (sm_bits h1 h2) (by decide) (by decide)) rfl q
end

section
variable {K : PySem.W.Frag} {H : Hp} {Q : VK} {l : Addr} {xs : List V} {y : V} {n : Int}
theorem v_popAt (h : H l = some (.lst xs)) (h0 : 0 ≤ n) (h1 : n < 2 ^ 62) (hy : xs[n.toNat]? = some y) (q : ∀ H', Ch [l] H H' → H' l = some (.lst (xs.eraseIdx n.toNat)) → Q y H') : rPopAt (.ref l) [.int n] H Q := by
  have hl : n.toNat < xs.length := (List.getElem?_eq_some_iff.mp hy).1
  refine ⟨l, xs, n, n.toNat, y, rfl, rfl, h, by omega, by omega, ?_, hy, q _ .put upd_same⟩
  unfold seqIndex?
  simp only [h0, if_true]
  first
    | (rw [if_pos (by omega)])
    | (simp; omega)
    | (split <;> first | rfl | omega)
theorem x_and1 {A B : Prop} (a : A) (b : B) : A ∧ B := ⟨a, b⟩
end
end U

set_option Elab.async false
set_option maxRecDepth 100000
set_option exponentiation.threshold 3000
namespace U
open PySem PySem.Spec PyProof.Rows L2
section
variable {X : Cx} {K : PySem.W.Frag} {o e : Expr} {es : List Expr} {name : Str} {apos cpos : Pos} {T id : String} {r : V → List V → Hp → VK → Prop} {to : TE} {t : TA}
theorem pe_bmK (hK : X.K = K) (pa : PlainAttrs T) (slot : Slot T name id) (hty : typeOf (.builtin id) = pure (.type "method_descriptor")) (hm : MtR X id r) (ho : PE X o to) (ha : PA X (e :: es) t)
    (hbase : attributeBase o name X.env (eval o X.env) = eval o X.env := by rfl)
    (hfew : ((backTo cpos (starEach (e :: es) X.env)).all (fun x => !x.1) && (backToKw cpos (keywordEach [] X.env)).all (fun x => x.1.isSome)
      && decide ((e :: es).length + ([] : List Keyword).length + (if ([] : List Keyword).isEmpty then 0 else 1) < 30)) = true := by rfl)
    (hline : (apos.endLine == cpos.line) = true := by rfl) (hs : starEach (e :: es) X.env = (false, eval e X.env) :: starEach es X.env := by rfl) (hplain : (backTo cpos (starEach es X.env)).any (·.1) = false := by rfl) :
    PE X (.Call (.Attribute o name apos) (e :: es) [] cpos) (tBM K T r to t) := hK ▸ pe_bm pa slot hty hm ho ha hbase hfew hline hs hplain
theorem pe_bm0K (hK : X.K = K) (pa : PlainAttrs T) (slot : Slot T name id) (hty : typeOf (.builtin id) = pure (.type "method_descriptor")) (hm : MtR X id r) (ho : PE X o to)
    (hbase : attributeBase o name X.env (eval o X.env) = eval o X.env := by rfl) (hline : (apos.endLine == cpos.line) = true := by rfl) : PE X (.Call (.Attribute o name apos) [] [] cpos) (tBM0 K T r to) := hK ▸ pe_bm0 pa slot hty hm ho hbase hline
end
end U

set_option Elab.async false
set_option maxRecDepth 100000
set_option exponentiation.threshold 3000
/-! Gd: promises of defs that want to know that no repr is under way. -/
namespace U
open PySem PySem.Spec PyProof.Rows L2
/-- a def's promise where no guard stands on the stack -/
structure FnG (P : Program) (w : World) (K : PySem.W.Frag) (mg : Str → Option Value) (base : Heap) (CX : CXT) (k : Nat) (f : Addr) (fd : FuncData) (ps : List Str) (sp : Sp) : Prop where
  len : ∀ vs H Q E, sp vs H Q E → vs.length = ps.length
  run : ∀ (A : Around), A.guards = some [] → Room k A → ∀ (outer : List Env) (s : Shared) (H : Hp) (args : Args) (us : List Value) (vs : List V) (Q : VK) (E : XK),
    Env0 P w K mg base A outer s H → BindsTo s fd args (ps.zip us) → Vals vs us → sp vs H Q E → codeAny (model P w) A (.call (.ref f) args) (CR CX outer P w H s Q E) s
section
variable {P : Program} {w : World} {K : PySem.W.Frag} {mg : Str → Option Value} {base : Heap} {CX : CXT} {k : Nat} {f : Addr} {fd : FuncData} {ps : List Str} {sp : Sp}
theorem FnG.of (F : FnOk P w K mg base CX k f fd ps sp) : FnG P w K mg base CX k f fd ps sp := ⟨F.len, fun A _ hr outer s H args us vs Q E => F.run A outer s H args us vs Q E hr⟩
/-- from the body -/
theorem funG {x qual : Str} {st : Stmt} {N : List Str} (F : Fun K x qual st f fd) (S : FnScope N ps (defScope st)) (len : ∀ vs H Q E, sp vs H Q E → vs.length = ps.length)
    (body : ∀ (cdv : Value) (A : Around), A.guards = some [] → ∀ (outer : List Env) (s : Shared) (H : Hp) (vs : List V) (Q : VK) (E : XK), Room k (A.deeper (envOfC qual (defScope st) s.heap.objs.size f cdv)) → sp vs H Q E →
      ∃ t, PSs (cxOf CX0 P w K mg base N qual (defScope st) f cdv A outer s H E).nox (defBody st) t ∧ t { nx := fun _ H' => Q .non H', rt := Q } (start N vs) H) : FnG P w K mg base CX0 (k + 1) f fd ps sp := by
  obtain ⟨oc, od, kV, doc, pm, an, cdv, ct, osl, efd, lk, hcd⟩ := F.ex
  subst efd
  constructor
  · exact len
  intro A hG hr outer s H args us vs Q E e0 bd rv hsp
  have n0 : vs.length = ps.length := len _ _ _ _ hsp
  have kin := e0.mod.kin.keeps (fun b o e => And.left (e0.bs b o e))
  have nol := e0.mod.nolimit.keeps (fun b o e => And.left (e0.bs b o e))
  refine codeAny_call_function hr.depth (kin _ _ lk) rfl S.co S.gen rfl (PySem.W.codeRec_of kin hcd) (bd _ _ _ _ (wpAny_newFunctionEnv_cells S.kind ?_ ?_))
  · rintro ⟨n, v⟩ hy
    exact (S.par n (List.of_mem_zip hy).1).elim .inl fun q => .inr ⟨q, PySem.W.cellsFrom_some _ _ _ (.inl q)⟩
  · intro env he s1 x
    subst he
    obtain ⟨t, hp, ht⟩ := body cdv A hG outer s H vs Q E (hr.deeper _) hsp
    have I0 := inv_start (CX := CX0) (E := E) S hr.hd e0 n0 rv x
    have done : ∀ (σ' : L2.St) (H' : Hp) (v : V) (u : Value) (s' : Shared), Inv (cxOf CX0 P w K mg base N qual (defScope st) f cdv A outer s H E) [] σ' H' s' → RelV v u → Q v H' → CE outer P w H s Q u s' := by
      intro σ' H' v u s' J r q
      exact ⟨v, H', J.os, J.bare, J.base, J.hok, r, q⟩
    refine ⟨nol.keeps x.toInCall.keep, codeAny_func (wpAny_mono (hp.nox.run [] s1 (start N vs) H _ I0 ht) ?_ fun e s' hs => hs)⟩
    intro fl s' hs
    match fl, hs with
    | .ret u, hs => exact hs.elim fun v hs => hs.elim fun σ' hs => hs.elim fun H' hs => done σ' H' v u s' hs.1 hs.2.1 hs.2.2
    | .next, hs => exact hs.elim fun σ' hs => hs.elim fun H' hs => done σ' H' .non .none s' hs.1 rfl hs.2
    | .brk, hs => exact hs.elim fun _ hs => hs.elim fun _ hs => hs.2.elim
    | .cont, hs => exact hs.elim fun _ hs => hs.elim fun _ hs => hs.2.elim
end
section
variable {X : Cx} {CX : CXT} {k : Nat} {f : Addr} {fd : FuncData} {ps : List Str} {sp : Sp} {dvs : List V} {ds : List Value} {E : XK} {x : Str} {p pos : Pos} {e : Expr} {es : List Expr} {t : TA}
theorem goG {pins : List (Addr × Obj)} {σ : L2.St} {H : Hp} {s : Shared} {Q : VK} {us : List Value} {vs : List V} (F : FnG X.prog X.w X.K X.mg X.base CX k f fd ps sp) (hG : X.A.guards = some []) (hr : Room k X.A) (hb : Binds X.K fd ps ds) (hd : Vals dvs ds)
    (hx : Passes CX X E) (I : Inv X pins σ H s) (r : Vals vs us) (h : sp (vs ++ dvs) H Q E) : wpAny (model X.prog X.w) X.A (call (.ref f) us) (EP X pins σ Q) X.xe s := by
  have rr := r.append hd
  have n0 : (us ++ ds).length = ps.length := rr.length.symm.trans (F.len _ _ _ _ h)
  refine wpAny_call (codeAny_mono (F.run X.A hG hr X.stack s H ⟨us, []⟩ _ _ Q E I.env0 (hb s us I.kIn n0) rr h) ?_)
  rintro (e | fl) s' hq
  · exact hx pins σ H s e s' I hq
  · match fl, hq with
    | .ret u, hq => exact I.after hq
theorem pe_callG (F : FnG X.prog X.w X.K X.mg X.base CX k f fd ps sp) (hG : X.A.guards = some []) (hr : Room k X.A) (hg : Gl X x) (hm : X.mg x = some (.ref f)) (hk : PySem.W.keepIn X.K (.ref f) = true) (hb : Binds X.K fd ps ds) (hd : Vals dvs ds) (hx : Passes CX X E)
    (ha : PA X (e :: es) t) (hdb : (x == ("__debug__" : Str)) = false := by decide) (he : starEach (e :: es) X.env = (false, eval e X.env) :: starEach es X.env := by rfl) (hpl : (backTo pos (starEach es X.env)).any (·.1) = false := by rfl) :
    PE X (.Call (.Name x p) (e :: es) [] pos) (tCall sp dvs E t) :=
  ⟨fun pins s σ H _ I h => wpAny_Call_Name_kw (ld_glob I hg hm (PySem.W.callWith_K (h₀ := X.base) I.ok.mod.kin hk (thn (ha.run pos pins s σ H _ I h) fun _ _ ⟨_, _, I1, r, q⟩ => ⟨I1.kIn, goG F hG hr hb hd hx I1 r q⟩) he hpl) hdb)⟩
theorem pe_callG0 (F : FnG X.prog X.w X.K X.mg X.base CX k f fd ps sp) (hG : X.A.guards = some []) (hr : Room k X.A) (hg : Gl X x) (hm : X.mg x = some (.ref f)) (hk : PySem.W.keepIn X.K (.ref f) = true) (hb : Binds X.K fd ps ds) (hd : Vals dvs ds) (hx : Passes CX X E)
    (hdb : (x == ("__debug__" : Str)) = false := by decide) : PE X (.Call (.Name x p) [] [] pos) (tCall sp dvs E tNil) :=
  ⟨fun _ _ _ _ _ I h => wpAny_Call_Name_kw (ld_glob I hg hm (PySem.W.callWith_K0 I.kIn hk (goG (us := []) F hG hr hb hd hx I .nil h)) hdb)⟩
end
end U

set_option Elab.async false
set_option maxRecDepth 100000
set_option exponentiation.threshold 3000
namespace U
open PySem PySem.Spec PyProof.Rows L2
section
variable {P : Program} {w : World} {K : PySem.W.Frag} {mg mb : Str → Option Value} {CX : CXT} {k : Nat} {fa a : Addr} {fd : FuncData} {x : Str} {sp : Sp} {s₁ : Shared} {vs : List Value} {ns : List Int}
/-- the top's answer -/
def TopR (s₁ : Shared) (r : Result) (s' : Shared) : Prop := r = .ok (.ret (.bool true)) ∧ OldK s₁.heap s'.heap ∧ s'.os = s₁.os ∧ AllBare s'.gens
/-- the script alone may be tracked -/
structure Alone (P : Program) (w : World) (K : PySem.W.Frag) (s₁ : Shared) (a : Addr) (ns : List Int) (H : Hp) : Prop where
  only : Only H
  seq : SqL K H a (ns.map V.int)
  ok : HOk P w H s₁.heap
  at' : ∀ b, H b ≠ none → b = a
  out : H a ≠ none → K.lookup a = none
theorem topH (KX : K.In s₁.heap) (hns : s₁.heap.Ns mainGlobals mg) (hb : s₁.heap.Ns builtinsNs mb) (hbb : ∀ x : Str, x ≠ "__name__" → mb x = bootBuiltins x) (hlim : s₁.heap.NoLimit) (hg : s₁.gens = #[])
    (ha : s₁.heap.get? a = some { cls := .type "list", data := .seq vs.toArray }) (hr : Room k callerA)
    (F : ∀ base : Heap, K.In base → base.Ns mainGlobals mg → FnG P w K mg base CX k fa fd [x] sp) (hbind : ∀ (s : Shared) (u : Value), BindsTo s fd ⟨[u], []⟩ [(x, u)])
    (hCX : ∀ H e s', CX [] H s₁ (fun _ _ _ => False) e s' → False) {H : Hp} (L : Alone P w K s₁ a ns H) (hsp : sp [.ref a] H (fun v _ => v = .bl true) fun _ _ _ => False) :
    codeAny (model P w) callerA (.call (.ref fa) ⟨[.ref a], []⟩) (TopR s₁) s₁ := by
  have noD : ∀ {b : Addr} {o : Obj} {es : Array DictEntry} {ep : Nat}, s₁.heap.get? b = some o → o.data = .dict es ep → H b = none := by
    intro b o es ep e d
    by_cases q : H b = none
    · exact q
    · rw [L.at' b q, ha] at e
      obtain rfl := Option.some.inj e
      exact Data.noConfusion d
  have sub : ∀ {b : Addr} {m : Str → Option Value}, s₁.heap.Ns b m → (hidT s₁.heap H).Ns b m := fun ⟨o, es, ep, e, d, r⟩ => ⟨o, es, ep, hidT_get e (noD e d), d, r⟩
  have kin : K.In (hidT s₁.heap H) := by
    intro b o e
    refine hidT_get (KX b o e) ?_
    by_cases q : H b = none
    · exact q
    · have eb := L.at' b q
      rw [eb] at q e
      rw [L.out q] at e
      cases e
  obtain ⟨mc, l1, l2⟩ := hlim
  have M : Mod K mg (hidT s₁.heap H) := ⟨kin, sub hns, ⟨mb, sub hb, hbb⟩, ⟨mc, sub l1, l2⟩⟩
  have E0 : Env0 P w K mg (hidT s₁.heap H) callerA [] s₁ H := ⟨rfl, M, fun _ _ e => of_hidT e, Nat.le_of_eq (hidT_size _ _), trivial, fun b hb => (List.not_mem_nil (show b ∈ ([] : List Addr) from hb)).elim, L.ok, .of_eq hg⟩
  refine codeAny_mono ((F _ kin (sub hns)).run callerA rfl hr [] s₁ H ⟨[.ref a], []⟩ [.ref a] [.ref a] _ _ E0 (hbind s₁ _) (.cons rfl .nil) hsp) ?_
  rintro (e | fl) s' h
  · exact (hCX H e s' h).elim
  · match fl, h with
    | .ret u, h =>
      obtain ⟨v, H', os, bare, un, hok', r', q⟩ := h
      obtain rfl : v = .bl true := q
      obtain rfl : u = Value.bool true := r'
      refine ⟨rfl, .of_keep ?_, os, bare⟩
      intro b o e
      rcases L.only b with q | ⟨ob, xs, q⟩
      · exact un.keep b o e q (fun z => (List.not_mem_nil (show b ∈ ([] : List Addr) from z)).elim) (by simp)
      · have e1 := (L.ok b _ q).1
        rw [e] at e1
        obtain rfl := Option.some.inj e1
        exact (hok' b _ (un.frzs b _ _ q)).1
/-- the law's promise, at the heap behind the top -/
theorem topG (KX : K.In s₁.heap) (hns : s₁.heap.Ns mainGlobals mg) (hb : s₁.heap.Ns builtinsNs mb) (hbb : ∀ x : Str, x ≠ "__name__" → mb x = bootBuiltins x) (hlim : s₁.heap.NoLimit) (hg : s₁.gens = #[])
    (ha : s₁.heap.get? a = some { cls := .type "list", data := .seq vs.toArray }) (hi : IntsAre vs ns) (hl : ns.length ≤ sizeLine) (hr : Room k callerA)
    (F : ∀ base : Heap, K.In base → base.Ns mainGlobals mg → FnG P w K mg base CX k fa fd [x] sp) (hbind : ∀ (s : Shared) (u : Value), BindsTo s fd ⟨[u], []⟩ [(x, u)])
    (hsp : ∀ H : Hp, Only H → SqL K H a (ns.map V.int) → sp [.ref a] H (fun v _ => v = .bl true) fun _ _ _ => False) (hCX : ∀ H e s', CX [] H s₁ (fun _ _ _ => False) e s' → False) :
    codeAny (model P w) callerA (.call (.ref fa) ⟨[.ref a], []⟩) (TopR s₁) s₁ := by
  have rv : Vals (ns.map V.int) vs := vals_ints hi
  have n0 : vs.length = ns.length := hi.length
  have go : ∀ H, Alone P w K s₁ a ns H → _ := fun H L => topH KX hns hb hbb hlim hg ha hr F hbind hCX L (hsp H L.only L.seq)
  by_cases hk : K.lookup a = none
  · refine go (fun b => if b = a then some (.frz { cls := .type "list", data := .seq vs.toArray } (.lst (ns.map V.int))) else none) ⟨fun b => ?_, .inl (.inr ⟨_, if_pos rfl⟩), fun b u z => ?_, fun b z => ?_, fun _ => hk⟩
    · by_cases e : b = a
      · exact .inr ⟨_, _, if_pos e⟩
      · exact .inl (if_neg e)
    · by_cases e : b = a
      · subst e
        rw [if_pos rfl] at z
        obtain rfl := Option.some.inj z
        exact ⟨ha, Nat.le_trans (Nat.le_of_eq (List.length_map _)) hl, vs, _, rv, ha⟩
      · rw [if_neg e] at z
        cases z
    · by_cases e : b = a
      · exact e
      · exact (z (if_neg e)).elim
  · obtain ⟨o, ho⟩ := Option.ne_none_iff_exists'.mp hk
    have e := KX a o ho
    rw [ha] at e
    obtain rfl := Option.some.inj e
    refine go (fun _ => none) ⟨fun _ => .inl rfl, .inr ⟨_, vs.toArray, _, ho, rfl, rfl, rfl, ?_, ?_⟩, fun _ _ z => (by cases z), fun _ z => (z rfl).elim, fun z => (z rfl).elim⟩
    · rw [List.size_toArray, n0]
      exact hl
    · simpa using rv
end
/-- the head of a law row whose def wants that no repr is under way -/
theorem walk_G {l : PySem.W.OpenLaw} {n k : Nat} {q : Program} {loose : List Str} {XP : (Str → Option Value) → Heap → Prop} {YP : World → Heap → Prop} {d : DefRec} {K : Params → PySem.W.Frag} {CX : World → CXT} {sp : World → Sp} {x : Str}
    (hn : l.most = some n) (hn2 : n ≤ sizeLine) (hdf : d.params.defaults = []) (hr : Room k callerA) (hY : ∀ (w : World) (h : Heap), YP w h → (K w.params).In h)
    (F : ∀ (w : World) (mg : Str → Option Value) (fa : Addr) (h : Heap), (K w.params).In h → h.Ns mainGlobals mg → mg d.name = some (.ref fa) →
      ∃ fd : FuncData, (∀ (s : Shared) (u : Value), BindsTo s fd ⟨[u], []⟩ [(x, u)]) ∧ ∀ base : Heap, (K w.params).In base → base.Ns mainGlobals mg → FnG l.prog w (K w.params) mg base (CX w) k fa fd [x] (sp w))
    (hsp : ∀ (w : World) (H : Hp) (a : Addr) (ns : List Int), ns.length ≤ n → (∀ z ∈ ns, Builtin.Int.intBits z ≤ 1048576) → Only H → SqL (K w.params) H a (ns.map V.int) → sp w [.ref a] H (fun v _ => v = .bl true) fun _ _ _ => False)
    (hCX : ∀ (w : World) (H : Hp) (s : Shared) (e : Value) (s' : Shared), CX w [] H s (fun _ _ _ => False) e s' → False) : PySem.W.WalkO q loose XP YP l.row.toRowW d [] (fun f vs => PySem.call f vs) :=
  Att.attach_callB hn hdf fun w _ s₁ mg _ fa _ _ _ _ a vs ns G Y _ _ _ hmg hobj hints hlen hbits hg => by
    obtain ⟨fd, hb, hF⟩ := F w mg fa _ (hY w _ Y) G.T.g hmg
    exact topG (hY w _ Y) G.T.g G.T.b G.T.builtins G.T.nolimit hg hobj hints (Nat.le_trans hlen hn2) hr hF hb (fun H hO hS => hsp w H a ns hlen hbits hO hS) fun H e s' => hCX w H s₁ e s'
end U

set_option Elab.async false
set_option maxRecDepth 100000
set_option exponentiation.threshold 3000
/-! Ru: rules: repr of data, sum(d.values()), == of dicts of data. -/
namespace U
open PySem PySem.Spec PyProof.Rows L2

/-! ### repr -/
mutual
/-- no list, no dict -/
def noAd : PyData → Bool
  | .list _ | .dict _ => false
  | .tuple xs => noAdAll xs
  | _ => true
def noAdAll : List PyData → Bool
  | [] => true
  | x :: xs => noAd x && noAdAll xs
end
mutual
theorem noAd_nil {h : Heap} : ∀ (d : PyData) (v : Value) (as : List Addr), noAd d = true → Reads h v d as → as = []
  | .none, _, _, _, r => by cases r; rfl
  | .bool _, _, _, _, r => by cases r; rfl
  | .int _, _, _, _, r => by cases r; rfl
  | .str _, _, _, _, r => by cases r; rfl
  | .list _, _, _, n, _ => by simp [noAd] at n
  | .dict _, _, _, n, _ => by simp [noAd] at n
  | .tuple ds, _, _, n, r => by
    cases r with
    | tuple _ _ _ h4 => exact noAdAll_nil ds _ _ (by simpa only [noAd] using n) h4
theorem noAdAll_nil {h : Heap} : ∀ (ds : List PyData) (vs : List Value) (as : List Addr), noAdAll ds = true → ReadsAll h vs ds as → as = []
  | [], _, _, _, r => by cases r; rfl
  | d :: ds, _, _, n, r => by
    simp only [noAdAll, Bool.and_eq_true] at n
    cases r with
    | cons h1 h2 =>
      rw [noAd_nil d _ _ n.1 h1, noAdAll_nil ds _ _ n.2 h2]
      rfl
end
def keyD : Key → PyData
  | .inl i => .int i
  | .inr x => .str x
section
variable {X : Cx} {pins : List (Addr × Obj)} {σ : L2.St} {H : Hp} {s : Shared}
/-- a dict's values read as data -/
inductive DpKv (K : PySem.W.Frag) (H : Hp) : List (Key × V) → List (PyData × PyData) → Prop where
  | nil : DpKv K H [] []
  | cons {k : Key} {v : V} {d : PyData} {kvs : List (Key × V)} {ds : List (PyData × PyData)} : Dp K H v d → DpKv K H kvs ds → DpKv K H ((k, v) :: kvs) ((keyD k, d) :: ds)
theorem dict_reads (I : Inv X pins σ H s) {kvs : List (Key × V)} {ds : List (PyData × PyData)} (hp : DpKv X.K H kvs ds) (hn : ∀ p ∈ ds, noAd p.2 = true) {vs : List (Key × Value)} (rel : KV kvs vs) :
    ∀ {es : List DictEntry}, PySem.Pairs (mixKind X.prog X.w) es vs → ReadsAll s.heap (es.map (·.key)) (ds.map (·.1)) [] ∧ ReadsAll s.heap (es.map (·.val)) (ds.map (·.2)) [] := by
  unfold KV at rel
  induction hp generalizing vs with
  | nil =>
    cases rel
    intro es hpr
    cases hpr
    exact ⟨.nil, .nil⟩
  | @cons k v d kvs ds hv _ ih =>
    cases rel with
    | @cons p q _ qs r1 r2 =>
      intro es hpr
      cases hpr with
      | @cons e kv es' _ k1 k2 k3 =>
        obtain ⟨a1, a2⟩ := ih (fun p hp => hn p (List.mem_cons_of_mem _ hp)) r2 k3
        obtain ⟨as, rd⟩ := Dp.reads I d v q.2 hv r1.2
        have e0 := noAd_nil d _ _ (hn (keyD k, d) (List.mem_cons_self ..)) rd
        subst e0
        have rk : Reads s.heap e.key (keyD k) [] := by
          have k1' : keyIs q.1 e.key = true := k1
          rw [show q.1 = k from r1.1.symm] at k1'
          rcases keyIs_shape k1' with ⟨i, t, rfl, z⟩ | ⟨x, t, rfl, z⟩
          · rw [z]; exact .int i t
          · rw [z]; exact .str x t
        refine ⟨.cons (as := []) rk a1, .cons (as := []) ?_ a2⟩
        show Reads s.heap e.val d []
        rw [k2]
        exact rd
/-- repr(d), d a dict of data without lists and dicts -/
def rReprD (K : PySem.W.Frag) : List V → Hp → VK → Prop := fun xs H Q => ∃ (a : Addr) (kvs : List (Key × V)) (ds : List (PyData × PyData)), xs = [.ref a] ∧ H a = some (.dK kvs) ∧ DpKv K H kvs ds ∧ (∀ p ∈ ds, noAd p.2 = true) ∧
  (PyData.dict ds).showable = true ∧ (PyData.dict ds).shown.length ≤ sizeLine ∧ (PyData.dict ds).depth ≤ 60 ∧ Q (.str (PyData.dict ds).shown) H
theorem call_reprD (hG : X.A.guards = some []) (hu : X.A.units + 64 < cLine) : CallR X (.builtin "repr") (rReprD X.K) := by
  intro pins s σ H xs us Q I r h
  obtain ⟨a, kvs, ds, rfl, ha, hp, hn, hs, hl, hd, q⟩ := h
  obtain ⟨u, rfl, rx⟩ := vals1 r
  obtain rfl : u = Value.ref a := rx
  obtain ⟨_, hsys, vs, rel, o, es, ep, ho, ex, hdat, _, hpr, _⟩ := dk_of I.hok ha
  obtain ⟨r1, r2⟩ := dict_reads I hp hn rel hpr
  have rd : Reads s.heap (.ref a) (.dict ds) (a :: [] ++ []) := .dict ho ex.1 hdat r1 r2
  refine repr_of_reads' (prog := X.prog) (w := X.w) rd hs (fun _ hm => ?_) hG (by omega) (fun _ _ e => e) (fun h' u tk hk => ⟨.str _, H, I.kept hk, ⟨_, rfl⟩, q⟩) hl
  have e : sysModules = a := by simpa using hm
  rw [e] at hsys
  simp at hsys
theorem reprDK {K : PySem.W.Frag} (hK : X.K = K) (hG : X.A.guards = some []) (hu : X.A.units + 64 < cLine) : CallR X (.builtin "repr") (rReprD K) := hK ▸ call_reprD hG hu
/-- repr(b) of a bool, of None -/
def shB : V → Str
  | .bl b => if b then "True" else "False"
  | _ => "None"
def rReprB : List V → Hp → VK → Prop := fun xs H Q => ∃ x, xs = [x] ∧ ((∃ b, x = .bl b) ∨ x = .non) ∧ Q (.str (shB x)) H
theorem call_reprB : CallR X (.builtin "repr") rReprB := by
  intro pins s σ H xs us Q I r h
  obtain ⟨x, rfl, hx, q⟩ := h
  obtain ⟨u, rfl, rx⟩ := vals1 r
  rcases hx with ⟨b, rfl⟩ | rfl
  · obtain rfl : u = Value.bool b := rx
    exact PySem.P.repr_of_bool ⟨.str _, H, I.tok _, ⟨_, rfl⟩, q⟩
  · obtain rfl : u = Value.none := rx
    exact PySem.P.repr_of_none ⟨.str _, H, I.tok _, ⟨_, rfl⟩, q⟩
end
section
variable {K : PySem.W.Frag} {H : Hp} {Q : VK}
theorem v_reprB {b : Bool} (q : Q (.str (shB (.bl b))) H) : rReprB [.bl b] H Q := ⟨_, rfl, .inl ⟨b, rfl⟩, q⟩
theorem v_reprD {a : Addr} {kvs : List (Key × V)} {ds : List (PyData × PyData)} (ha : H a = some (.dK kvs)) (hp : DpKv K H kvs ds) (hn : ∀ p ∈ ds, noAd p.2 = true) (hs : (PyData.dict ds).showable = true) (hl : (PyData.dict ds).shown.length ≤ sizeLine)
    (hd : (PyData.dict ds).depth ≤ 60) (q : Q (.str (PyData.dict ds).shown) H) : rReprD K [.ref a] H Q := ⟨a, kvs, ds, rfl, ha, hp, hn, hs, hl, hd, q⟩
end

/-! ### sum(d.values()) -/
section
variable {X : Cx} {o : Expr} {p pos apos mpos : Pos} {td : TE}
def tSumVals (td : TE) : TE := fun σ H Q => td σ H fun x H1 => ∃ (a : Addr) (kvs : List (Key × V)) (is : List Int), x = V.ref a ∧ H1 a = some (.dK kvs) ∧ kvs.map (·.2) = is.map V.int ∧ Q (.int is.sum) H1
theorem preSum_val (is : List Int) : ∀ n, n ≤ is.length → preSum (fun i => is.getD i 0) n = (is.take n).sum
  | 0, _ => rfl
  | n + 1, h => by
    have e : is[n]? = some is[n] := List.getElem?_eq_getElem h
    rw [List.take_add_one, e, List.sum_append, ← preSum_val is n (Nat.le_of_succ_le h)]
    simp [preSum, List.getD_eq_getElem?_getD, e]
theorem pe_sumVals (hc : X.calm = true) (hg : Gl X "sum") (hm : X.mg "sum" = none) (hd : PE X o td) (hbase : attributeBase o "values" X.env (eval o X.env) = eval o X.env := by rfl) (hline : (apos.endLine == mpos.line) = true := by rfl)
    (hse : starEach [Expr.Call (.Attribute o "values" apos) [] [] mpos] X.env = [(false, eval (Expr.Call (.Attribute o "values" apos) [] [] mpos) X.env)] := by rfl) :
    PE X (.Call (.Name "sum" p) [.Call (.Attribute o "values" apos) [] [] mpos] [] pos) (tSumVals td) := by
  constructor
  intro pins s σ H Q I h
  refine wpAny_Call_Name_kw (ld_blt I hg hm (u := .builtin "sum") (by first | rfl | decide +kernel) ?_ (by first | decide +kernel | decide) (by first | decide +kernel | decide))
  rw [hse]
  refine PySem.callWith_builtin1 (wpAny_Call_method0_late hbase hline (thn (hd.run pins s σ H _ I h) ?_))
  rintro v s1 ⟨x, H1, I1, r1, a, kvs, is, rfl, ha, hv, q⟩
  obtain rfl : v = Value.ref a := r1
  obtain ⟨_, hsys, vs, rel, dof⟩ := dk_of I1.hok ha
  obtain ⟨ep, dat⟩ := dof.dictAt
  obtain ⟨ob, es, ho, ex, hdat, hko, hpr, hnd⟩ := id dat
  refine ⟨"dict", "dict.values", F.plainAttrs_dict, F.slot_dict_values, F.type_dict_values, ⟨ob, ho, ex.1⟩, fun b e => by cases e; exact ⟨ob, ho, ex.2.1⟩, Calls.callWith_builtin rfl (PySem.evalArgs_none ?_)⟩
  refine call_meetsIn F.slot_dict_values ⟨ob, ho, ex.1⟩ F.entry_dict_values (F.args_dict_values_1 _) (meets_dict_values (mixKind X.prog X.w) a hsys) ⟨⟨vs, dof⟩, ?_⟩
  generalize hvw : ({ cls := .type "dict_values", data := .fields #[.ref a] } : Obj) = vw
  have c1 : vw.cls = .type "dict_values" := by rw [← hvw]
  have c2 : vw.data = .fields #[.ref a] := by rw [← hvw]
  have c3 : vw.isFreed = false := by rw [← hvw]; rfl
  have k1 : ∀ b u, s1.heap.get? b = some u → (s1.heap.push vw).get? b = some u := fun b u e => Heap.get?_push_of_some _ e
  have dat1 := dat.keep k1
  have nv : vs.length = is.length := by
    have z := congrArg List.length hv
    simp only [List.length_map] at z
    exact (KV.length rel).symm.trans z
  have val : ∀ (i : Nat) (v : Value), (∃ k, vs[i]? = some (k, v)) → ∃ t, v = Value.int (is.getD i 0) t := by
    rintro i v ⟨k, hk⟩
    obtain ⟨x, h1, h2⟩ := KV.at' rel hk
    have e1 : (kvs.map (·.2))[i]? = some x := by rw [List.getElem?_map, h1]; rfl
    rw [hv, List.getElem?_map] at e1
    obtain ⟨j, hj, rfl⟩ := Option.map_eq_some_iff.mp e1
    obtain ⟨t, e3⟩ := h2
    exact ⟨t, by rw [e3, List.getD_eq_getElem?_getD, hj]; rfl⟩
  have lt : a < s1.heap.objs.size := Heap.lt_size ho
  have sz : (s1.heap.push vw).objs.size = s1.heap.objs.size + 1 := Heap.size_push _ _
  refine call_sum_walkG (wpAny_pyIter_values (v := s1.heap.objs.size) (d := a) ⟨vw, Heap.get?_push_size _ c3, c1, c2⟩ dat1 ?_)
  refine ⟨_, _, _, _, _, _, fun i => is.getD i 0, rfl, Walks.dictValues (knd := mixKind X.prog X.w) (A := X.A.in1) (I.ok.hd hc) (s1.heap.push vw).objs.size a (Nat.ne_of_lt (sz.symm ▸ Nat.lt_succ_of_lt lt)) vs ep, ⟨⟨_, Heap.get?_push_size _ rfl, rfl, rfl⟩, dat1.keep fun b u e => Heap.get?_push_of_some _ e⟩, ?_, val, ?_⟩
  · intro b hb
    show b < ((s1.heap.push _).push _).objs.size
    rw [Heap.size_push, Heap.size_push]
    rcases List.mem_cons.mp hb with e | hb
    · rw [e, sz]
      exact Nat.lt_succ_self _
    · obtain rfl := List.mem_singleton.mp hb
      exact Nat.lt_succ_of_lt (Nat.lt_succ_of_lt lt)
  · intro h' tk t' hk
    rw [nv, preSum_val is _ (Nat.le_refl _), List.take_length]
    refine ⟨.int _, H1, I1.kept (t' := tk) fun b u e => hk b u (fun hmem => ?_) (Heap.get?_push_of_some _ (k1 b u e)), ⟨t', rfl⟩, q⟩
    have z := Heap.lt_size e
    rw [List.mem_singleton.mp hmem, sz] at z
    exact Nat.lt_irrefl _ (Nat.lt_of_succ_lt z)
theorem x_sumVals {σ : L2.St} {H : Hp} {Q : VK} (h : td σ H fun x H1 => ∃ (a : Addr) (kvs : List (Key × V)) (is : List Int), x = V.ref a ∧ H1 a = some (.dK kvs) ∧ kvs.map (·.2) = is.map V.int ∧ Q (.int is.sum) H1) : tSumVals td σ H Q := h
theorem v_sumVals {H : Hp} {a : Addr} {kvs : List (Key × V)} {p : List Int → Prop} (is : List Int) (h : H a = some (.dK kvs)) (e : kvs.map (·.2) = is.map V.int) (q : p is) : ∃ (a' : Addr) (kvs : List (Key × V)) (is : List Int), V.ref a = V.ref a' ∧ H a' = some (.dK kvs) ∧ kvs.map (·.2) = is.map V.int ∧ p is := ⟨a, kvs, is, rfl, h, e, q⟩
end

/-! ### != of dicts of data that are equal -/
section
variable {X : Cx}
/-- a != b, two dicts of the same keys, their values equal data -/
def rNeDs (K : PySem.W.Frag) : R2 := fun x y H Q => ∃ a b ka kb, x = .ref a ∧ y = .ref b ∧ H a = some (.dK ka) ∧ H b = some (.dK kb) ∧ ka.length = kb.length ∧
  (∀ p ∈ ka, ∃ u d, valV kb p.1 = some u ∧ Dp K H p.2 d ∧ Dp K H u d ∧ SeqAt.shaped d = true ∧ PyData.eqv d d = true) ∧ Q (.bl false) H
theorem hits_same {pins : List (Addr × Obj)} {σ : L2.St} {H : Hp} {s : Shared} (I : Inv X pins σ H s) {A : Around} (hu : A.in1.units + 64 < cLine) {kb : List (Key × V)} {vb : List (Key × Value)} (rb : KV kb vb) {ka : List (Key × V)} {va : List (Key × Value)} (ra : KV ka va) :
    (∀ p ∈ ka, ∃ u d, valV kb p.1 = some u ∧ Dp X.K H p.2 d ∧ Dp X.K H u d ∧ SeqAt.shaped d = true ∧ PyData.eqv d d = true) → PySem.W.KeqHits A.in1 s vb va true := by
  unfold KV at ra
  induction ra with
  | nil => exact fun _ => .nil
  | @cons p q ps qs h _ ih =>
    intro hp
    obtain ⟨u, d, e1, e2, e3, e4, e5⟩ := hp p (List.mem_cons_self ..)
    have z : RelO (some u) (valueAt vb p.1) := by rw [← e1]; exact rb.val p.1
    obtain ⟨y, hy, ry⟩ := z.some_of
    obtain ⟨as, r1⟩ := Dp.reads I d _ _ e2 h.2
    obtain ⟨bs, r2⟩ := Dp.reads I d _ _ e3 ry
    obtain ⟨qk, qv⟩ := q
    rw [show p.1 = qk from h.1] at hy
    have w := PySem.W.keq_at r1 r2 e4 e4 hu
    rw [e5] at w
    exact .hit hy w (ih fun p' hm => hp p' (List.mem_cons_of_mem _ hm))
theorem op_neDs (hu : X.A.units + 66 < cLine) : OpR X (compareOp .NotEq) (rNeDs X.K) := by
  intro pins s σ H x y v u Q I rx ry h
  obtain ⟨a, b, ka, kb, rfl, rfl, ha, hb, hl, hp, q⟩ := h
  obtain rfl : v = Value.ref a := rx
  obtain rfl : u = Value.ref b := ry
  obtain ⟨_, ya, va, ra, da⟩ := dk_of I.hok ha
  obtain ⟨_, yb, vb, rb, db⟩ := dk_of I.hok hb
  have hn : va.length = vb.length := ra.length.symm.trans (hl.trans rb.length)
  refine PySem.W.keq_ne (knd := mixKind X.prog X.w) (r := true) ya yb da db (by omega) (fun _ => hits_same I (by show X.A.units + 1 + 64 < cLine; omega) rb ra hp) ?_
  rw [hn]
  exact ⟨.bl _, H, I, rfl, by simpa using q⟩
def rNeX (K : PySem.W.Frag) : R2 := fun x y H Q => rNeU K x y H Q ∨ rNeDs K x y H Q
theorem op_neX {K : PySem.W.Frag} (hK : X.K = K) (hu : X.A.units + 66 < cLine) : OpR X (compareOp .NotEq) (rNeX K) := hK ▸ OpR.or (op_neU (by omega)) (op_neDs hu)
end
theorem hu66 {A : Around} {k : Nat} (hr : Room k A) : A.units + 66 < cLine := by have := hr.un; omega
end U

set_option Elab.async false
set_option maxRecDepth 100000
set_option exponentiation.threshold 3000
namespace U
open PySem PySem.Spec PyProof.Rows L2
section
variable {X : Cx} {K : PySem.W.Frag} {σ : L2.St} {H : Hp} {Q : VK} {a p l b : Addr} {xs zs : List V} {n : Int} {v x y : V} {te td ty tx : TE}
theorem v_extend {Q : VK} (h : H l = some (.lst xs)) (hb : H b = some (.lst zs)) (hz : xs.length + zs.length ≤ sizeLine) (q : ∀ H', Ch [l] H H' → H' l = some (.lst (xs ++ zs)) → Q .non H') : rExtend (.ref l) [.ref b] H Q := ⟨l, b, xs, zs, rfl, rfl, h, hb, hz, q _ .put upd_same⟩
theorem v_rep (h : H l = some (.lst xs)) (h0 : 0 ≤ n) (h1 : n ≤ 1000000) (hx : xs.length ≤ 16) (q : ∀ p H', H p = none → Ch [] H H' → H' p = some (.lst (List.replicate n.toNat xs).flatten) → Q (.ref p) H') : rMulU (.ref l) (.int n) H Q := by
  refine .inr ⟨l, n, xs, rfl, rfl, h, by omega, by omega, ?_, new_of q⟩
  rw [PySem.sizeLine_eq]
  have := Nat.mul_le_mul hx (show n.toNat ≤ 1000000 by omega)
  omega
/-- [x] * int(k), k a bool -/
theorem v_repB {k : Bool} (h : H l = some (.lst [x])) (q : ∀ p H', H p = none → Ch [] H H' → H' p = some (.lst (if k then [x] else [])) → Q (.ref p) H') : rMulU (.ref l) (.int (if k then 1 else 0)) H Q := by
  refine v_rep h (by cases k <;> decide) (by cases k <;> decide) (by simp) fun p H' np c hp => q p H' np c ?_
  rw [hp]
  cases k <;> rfl
def rInt1 : List V → Hp → VK → Prop := fun xs H Q => (∃ i, xs = [.int i] ∧ Q (.int i) H) ∨ ∃ k, xs = [.bl k] ∧ Q (.int (if k then 1 else 0)) H
theorem call_int1U : CallR X (.type "int") rInt1 := call_int1
theorem v_int1B {k : Bool} (q : Q (.int (if k then 1 else 0)) H) : rInt1 [.bl k] H Q := .inr ⟨k, rfl, q⟩
theorem v_int1I (q : Q (.int n) H) : rInt1 [.int n] H Q := .inl ⟨n, rfl, q⟩
/-- dict(pairs) -/
def rDictP (K : PySem.W.Frag) : List V → Hp → VK → Prop := fun xs H Q => ∃ (a : Addr) (ps : List Addr) (kvs : List (Key × V)), xs = [.ref a] ∧ SqL K H a (ps.map V.ref) ∧ Paired (fun p kv => SqT K H p [kV kv.1, kv.2]) ps kvs ∧
    ∀ p, H p = none → Q (.ref p) (upd H p (.dK (mergeK [] kvs)))
theorem dictPK (hK : X.K = K) (hc : X.calm = true) : CallR X (.type "dict") (rDictP K) := hK ▸ call_dictP hc
theorem v_dictP (ps : List Addr) (kvs : List (Key × V)) (h : SqL K H a (ps.map V.ref)) (hp : Paired (fun p kv => SqT K H p [kV kv.1, kv.2]) ps kvs) (q : ∀ p H', H p = none → Ch [] H H' → H' p = some (.dK (mergeK [] kvs)) → Q (.ref p) H') : rDictP K [.ref a] H Q := ⟨a, ps, kvs, rfl, h, hp, new_of q⟩
theorem mergeK_nd : ∀ (kvs acc : List (Key × V)), ((acc ++ kvs).map (·.1)).Nodup → mergeK acc kvs = acc ++ kvs
  | [], acc, _ => by simp [mergeK]
  | kv :: kvs, acc, h => by
    have h2 : ((acc ++ [kv]) ++ kvs).map (·.1) = (acc ++ kv :: kvs).map (·.1) := by simp
    have e : putK acc kv.1 kv.2 = acc ++ [kv] := by
      have hn : ∀ q ∈ acc, q.1 ≠ kv.1 := by
        intro q hq z
        rw [List.map_append, List.nodup_append] at h
        exact h.2.2 q.1 (List.mem_map_of_mem hq) kv.1 (by simp) z
      have : acc.any (fun q => decide (q.1 = kv.1)) = false := by
        rw [List.any_eq_false]
        intro q hq
        simpa using hn q hq
      unfold putK
      first
        | (rw [this]; rfl)
        | (simp only [this]; rfl)
        | simp [hn]
    show mergeK (putK acc kv.1 kv.2) kvs = _
    rw [e, mergeK_nd kvs (acc ++ [kv]) (by rw [h2]; exact h), List.append_assoc]
    rfl
/-- d.clear() -/
theorem dclearK {o : Expr} {to : TE} {apos cpos : Pos} (hK : X.K = K) (ho : PE X o to) (hbase : attributeBase o "clear" X.env (eval o X.env) = eval o X.env := by rfl) (hline : (apos.endLine == cpos.line) = true := by rfl) : PE X (.Call (.Attribute o "clear" apos) [] [] cpos) (tBM0 K "dict" rDClear to) := hK ▸ pe_dclear ho hbase hline
theorem v_tyD {kvs : List (Key × V)} (h : H a = some (.dK kvs)) : tyV K "dict" (.ref a) H := .inr (.inr (.inl ⟨rfl, .inl ⟨_, h⟩⟩))
theorem v_clear {kvs : List (Key × V)} (h : H a = some (.dK kvs)) (q : ∀ H', Ch [a] H H' → H' a = some (.dK []) → Q .non H') : rDClear (.ref a) [] H Q := ⟨a, kvs, rfl, rfl, h, q _ .put upd_same⟩
/-- d.get(k, x) -/
theorem x_dget2 (h : td σ H fun x H1 => ∃ a, x = .ref a ∧ IsD H1 a ∧ ty σ H1 fun y H2 => tx σ H2 fun z H3 => ∃ o, DGet H3 a y o ∧ Q (o.getD z) H3) : tDGet2 td ty tx σ H Q := h
theorem v_isD {kvs : List (Key × V)} {p : Addr → Prop} (h : H a = some (.dK kvs)) (q : p a) : ∃ a', V.ref a = .ref a' ∧ IsD H a' ∧ p a' := ⟨a, rfl, .inl ⟨kvs, .of h⟩, q⟩
theorem v_dgetO {kvs : List (Key × V)} {z : Str} {p : Option V → Prop} (h : H a = some (.dK kvs)) (q : p (valV kvs (Sum.inr z))) : ∃ o, DGet H a (.str z) o ∧ p o := ⟨_, .inl ⟨kvs, .inr z, .of h, rfl, rfl⟩, q⟩
/-- list(d.items()): a new list of new tuples -/
theorem x_listItems (h : te σ H fun x H1 => LiI.rItemsL x H1 Q) : LiI.tListItems te σ H Q := h
theorem v_listItems {kvs : List (Key × V)} (h : H a = some (.dK kvs)) (q : ∀ (H' : Hp) (p : Addr) (ts : List Addr), Ch [] H H' → H p = none → H' p = some (.lst (ts.map V.ref)) → Paired (fun (t : Addr) (q : Key × V) => H' t = some (.tup [kV q.1, q.2])) ts kvs → Q (.ref p) H') : LiI.rItemsL (.ref a) H Q :=
  ⟨a, kvs, rfl, h, fun H' p ts c np _ _ hp hts => q H' p ts (fun b o e _ => c b o e) np hp hts⟩
def RevO (K : PySem.W.Frag) (Q : VK) (x : V) (H1 : Hp) : Prop := ∃ a xs, x = .ref a ∧ SqL K H1 a xs ∧ ∀ p, H1 p = none → Q (.ref p) (upd H1 p (.lst xs.reverse))
theorem x_rev (h : te σ H fun x H1 => RevO K Q x H1) : tRevL K te σ H Q := h
theorem v_rev (h : SqL K H a xs) (q : ∀ p H', H p = none → Ch [] H H' → H' p = some (.lst xs.reverse) → Q (.ref p) H') : RevO K Q (.ref a) H := ⟨a, xs, rfl, h, new_of q⟩
theorem paired_rev {α β : Type} {F : α → β → Prop} {as : List α} {bs : List β} (h : Paired F as bs) : Paired F as.reverse bs.reverse := by
  have app : ∀ {as : List α} {bs : List β} {a : α} {b : β}, Paired F as bs → F a b → Paired F (as ++ [a]) (bs ++ [b]) := by
    intro as bs a b h1 h2
    induction h1 with
    | nil => exact .cons h2 .nil
    | cons r _ ih => exact .cons r ih
  induction h with
  | nil => exact .nil
  | cons r _ ih =>
    rw [List.reverse_cons, List.reverse_cons]
    exact app ih r
theorem paired_imp {α β : Type} {F G : α → β → Prop} {as : List α} {bs : List β} (h : Paired F as bs) (i : ∀ a b, F a b → G a b) : Paired G as bs := by
  induction h with
  | nil => exact .nil
  | cons r _ ih => exact .cons (i _ _ r) ih
end
end U
namespace U
open PySem PySem.Spec PyProof.Rows L2
section
variable {X : Cx} {K : PySem.W.Frag} {σ : L2.St} {H : Hp} {Q : VK} {x y : V} {d e : PyData} {t : TS} {f b c : L2.St → Hp → Prop} {r : VK}
/-- what follows, once -/
theorem x_join (Pj : Hp → Prop) (h1 : ∀ H', Pj H' → f σ H') (h2 : ∀ f' : L2.St → Hp → Prop, (∀ H', Pj H' → f' σ H') → t ⟨f', r, b, c⟩ σ H) : t ⟨f, r, b, c⟩ σ H := h2 f h1
theorem v_eqK {k : Bool} (n : Nat) (hd : Dp K H x d) (he : Dp K H y e) (sd : tm n d) (se : tm n e) (hk : k = true ↔ d = e) (q : Q (.bl k) H) (hn : n ≤ 64 := by decide) : rEqU K x y H Q :=
  v_eqD n hd he sd se (fun h => by rw [← hk.mpr h]; exact q) (fun h => by
    have z : k = false := by
      cases k with
      | false => rfl
      | true => exact absurd (hk.mp rfl) h
    rw [← z]
    exact q) hn
theorem dp_prs {a : Addr} {ts : List Addr} {zs : List (Str × Int)} (h : H a = some (.lst (ts.map V.ref))) (hp : Paired (fun (t : Addr) (z : Str × Int) => H t = some (.tup [.str z.1, .int z.2])) ts zs) : Dp K H (.ref a) (.list (zs.map fun z => .tuple [.str z.1, .int z.2])) := by
  refine .lst (.of h) ?_
  clear h
  induction hp with
  | nil => exact .nil
  | cons r _ ih => exact .cons (.tup (.of r) (.cons (.str _) (.cons (.int _) .nil))) ih
theorem tm_prs {zs : List (Str × Int)} (h : ∀ z ∈ zs, PyData.strOk z.1 = true) : tm 2 (.list (zs.map fun z => .tuple [.str z.1, .int z.2])) := by
  unfold tm
  intro x hx
  obtain ⟨z, hz, rfl⟩ := List.mem_map.mp hx
  unfold tm
  intro y hy
  simp only [List.mem_cons, List.not_mem_nil, or_false] at hy
  rcases hy with rfl | rfl
  · unfold tm
    exact h z hz
  · unfold tm
    trivial
theorem dp_qs {a : Addr} {ps : List (Addr × Int × Int)} (h : H a = some (.lst (ps.map fun q => V.ref q.1))) (ht : ∀ q ∈ ps, H q.1 = some (.tup [.int q.2.1, .int q.2.2])) : Dp K H (.ref a) (.list (ps.map fun q => .tuple [.int q.2.1, .int q.2.2])) :=
  .lst (.of h) (dpAll_map fun q hq => .tup (.of (ht q hq)) (.cons (.int _) (.cons (.int _) .nil)))
theorem tm_qs {ps : List (Addr × Int × Int)} : tm 2 (.list (ps.map fun q => .tuple [.int q.2.1, .int q.2.2])) := by
  unfold tm
  intro x hx
  obtain ⟨z, hz, rfl⟩ := List.mem_map.mp hx
  unfold tm
  intro y hy
  simp only [List.mem_cons, List.not_mem_nil, or_false] at hy
  rcases hy with rfl | rfl <;> (unfold tm; trivial)
theorem prs_inj {zs ys : List (Str × Int)} (h : (PyData.list (zs.map fun z => .tuple [.str z.1, .int z.2])) = .list (ys.map fun z => .tuple [.str z.1, .int z.2])) : zs = ys := by
  have h := PyData.list.inj h
  induction zs generalizing ys with
  | nil => cases ys with
    | nil => rfl
    | cons y ys => simp at h
  | cons z zs ih => cases ys with
    | nil => simp at h
    | cons y ys =>
      simp only [List.map_cons, List.cons.injEq, PyData.tuple.injEq, PyData.str.injEq, PyData.int.injEq, and_true] at h
      rw [ih (congrArg PyData.list h.2) h.2, Prod.ext h.1.1 h.1.2]
end
end U

set_option Elab.async false
set_option maxRecDepth 100000
set_option maxHeartbeats 4000000
namespace U
open PySem PySem.Spec PyProof.Rows L2
/-! ### the text by places -/
def top (i : Nat) : Stmt := PySem.Challenge.pw_lastcopy_k85_uniform_weights.main.body.getD i (.Pass ⟨0, 0, 0, 0⟩)
abbrev s_is_integer : Stmt := top 8
abbrev N_is_integer : List Str := ["value", "minimum", "maximum"]
theorem sc_is_integer : FnScope N_is_integer ["value", "minimum", "maximum"] (defScope s_is_integer) := ⟨rfl, rfl, rfl, by decide +kernel, rfl, by decide +kernel, by decide +kernel⟩
abbrev s_is_writer : Stmt := top 9
abbrev N_is_writer : List Str := ["value", "letter"]
theorem sc_is_writer : FnScope N_is_writer ["value"] (defScope s_is_writer) := ⟨rfl, rfl, rfl, by decide +kernel, rfl, by decide +kernel, by decide +kernel⟩
abbrev s_is_any_integer : Stmt := top 12
abbrev N_is_any_integer : List Str := ["value"]
theorem sc_is_any_integer : FnScope N_is_any_integer ["value"] (defScope s_is_any_integer) := ⟨rfl, rfl, rfl, by decide +kernel, rfl, by decide +kernel, by decide +kernel⟩
abbrev s_is_uniform : Stmt := top 13
abbrev N_is_uniform : List Str := ["value", "writer", "pair"]
theorem sc_is_uniform : FnScope N_is_uniform ["value"] (defScope s_is_uniform) := ⟨rfl, rfl, rfl, by decide +kernel, rfl, by decide +kernel, by decide +kernel⟩
abbrev s_require_uniform : Stmt := top 14
abbrev N_require_uniform : List Str := ["uniform", "total"]
theorem sc_require_uniform : FnScope N_require_uniform ["uniform", "total"] (defScope s_require_uniform) := ⟨rfl, rfl, rfl, by decide +kernel, rfl, by decide +kernel, by decide +kernel⟩
abbrev s_gcd_with_factor : Stmt := top 15
abbrev N_gcd_with_factor : List Str := ["one", "other", "rest", "later", "factor", "next_factor", "quotient"]
theorem sc_gcd_with_factor : FnScope N_gcd_with_factor ["one", "other"] (defScope s_gcd_with_factor) := ⟨rfl, rfl, rfl, by decide +kernel, rfl, by decide +kernel, by decide +kernel⟩
abbrev s_min_steps : Stmt := top 16
abbrev N_min_steps : List Str := ["least", "start", "step"]
theorem sc_min_steps : FnScope N_min_steps ["least", "start", "step"] (defScope s_min_steps) := ⟨rfl, rfl, rfl, by decide +kernel, rfl, by decide +kernel, by decide +kernel⟩
abbrev s_find_counts : Stmt := top 17
abbrev N_find_counts : List Str := ["one", "other", "total", "limit", "weight", "other_limit", "other_weight", "count", "divisor", "factor", "period", "rest", "change", "low", "high"]
theorem sc_find_counts : FnScope N_find_counts ["one", "other", "total"] (defScope s_find_counts) := ⟨rfl, rfl, rfl, by decide +kernel, rfl, by decide +kernel, by decide +kernel⟩
abbrev s_lines_with_weight : Stmt := top 18
abbrev N_lines_with_weight : List Str := ["uniform", "total", "writers", "writer", "one", "other", "counts", "limit"]
theorem sc_lines_with_weight : FnScope N_lines_with_weight ["uniform", "total"] (defScope s_lines_with_weight) := ⟨rfl, rfl, rfl, by decide +kernel, rfl, by decide +kernel, by decide +kernel⟩
abbrev s_is_reachable_weight : Stmt := top 19
abbrev N_is_reachable_weight : List Str := ["uniform", "total"]
theorem sc_is_reachable_weight : FnScope N_is_reachable_weight ["uniform", "total"] (defScope s_is_reachable_weight) := ⟨rfl, rfl, rfl, by decide +kernel, rfl, by decide +kernel, by decide +kernel⟩
abbrev s_law_source : Stmt := top 21
abbrev N_law_source : List Str := ["script", "k", "cell"]
theorem sc_law_source : FnScope N_law_source ["script", "k"] (defScope s_law_source) := ⟨rfl, rfl, rfl, by decide +kernel, rfl, by decide +kernel, by decide +kernel⟩
abbrev s_law_draw : Stmt := top 22
abbrev N_law_draw : List Str := ["source", "limit", "found", "mixed"]
theorem sc_law_draw : FnScope N_law_draw ["source", "limit"] (defScope s_law_draw) := ⟨rfl, rfl, rfl, by decide +kernel, rfl, by decide +kernel, by decide +kernel⟩
abbrev s_law_writers : Stmt := top 23
abbrev N_law_writers : List Str := ["source", "number", "left", "turn"]
theorem sc_law_writers : FnScope N_law_writers ["source", "number"] (defScope s_law_writers) := ⟨rfl, rfl, rfl, by decide +kernel, rfl, by decide +kernel, by decide +kernel⟩
abbrev s_law_lost : Stmt := top 24
abbrev N_law_lost : List Str := ["total", "intervals", "found", "least", "first", "last"]
theorem sc_law_lost : FnScope N_law_lost ["total", "intervals"] (defScope s_law_lost) := ⟨rfl, rfl, rfl, by decide +kernel, rfl, by decide +kernel, by decide +kernel⟩
abbrev s_law_obstructions : Stmt := top 25
abbrev N_law_obstructions : List Str := ["line_counts", "line_set", "sizes", "total", "names", "starts", "ends", "found", "writer", "lost", "one", "first", "last"]
theorem sc_law_obstructions : FnScope N_law_obstructions ["line_counts", "line_set"] (defScope s_law_obstructions) := ⟨rfl, rfl, rfl, by decide +kernel, rfl, by decide +kernel, by decide +kernel⟩
abbrev s_law_is_valid : Stmt := top 26
abbrev N_law_is_valid : List Str := ["uniform", "total", "value", "line_counts", "weight", "writer", "covered", "first", "last"]
theorem sc_law_is_valid : FnScope N_law_is_valid ["uniform", "total", "value"] (defScope s_law_is_valid) := ⟨rfl, rfl, rfl, by decide +kernel, rfl, by decide +kernel, by decide +kernel⟩
abbrev s_law_result : Stmt := top 27
abbrev N_law_result : List Str := ["uniform", "total", "before", "possible", "line_set"]
theorem sc_law_result : FnScope N_law_result ["uniform", "total"] (defScope s_law_result) := ⟨rfl, rfl, rfl, by decide +kernel, rfl, by decide +kernel, by decide +kernel⟩
abbrev s_law_small_right : Stmt := top 28
abbrev N_law_small_right : List Str := ["source", "number", "uniform", "writer", "names", "expected", "first", "other", "count", "total", "k"]
theorem sc_law_small_right : FnScope N_law_small_right ["source", "number"] (defScope s_law_small_right) := ⟨rfl, rfl, rfl, by decide +kernel, rfl, by decide +kernel, by decide +kernel⟩
abbrev s_law_large_right : Stmt := top 29
abbrev N_law_large_right : List Str := ["source", "style", "wide", "great", "divisor", "one", "other", "uniform", "writer", "worth", "counts", "ends", "pair", "wholes", "odd", "beyond", "total"]
theorem sc_law_large_right : FnScope N_law_large_right ["source"] (defScope s_law_large_right) := ⟨rfl, rfl, rfl, by decide +kernel, rfl, by decide +kernel, by decide +kernel⟩
abbrev s_law : Stmt := top 30
abbrev N_law : List Str := ["script", "k", "source", "uniform"]
theorem sc_law : FnScope N_law ["script"] (defScope s_law) := ⟨rfl, rfl, rfl, by decide +kernel, rfl, by decide +kernel, by decide +kernel⟩
theorem st_is_integer {v0 v1 v2 : V} : L2.start N_is_integer [v0, v1, v2] = [some v0, some v1, some v2] := rfl
theorem st_is_writer {v0 : V} : L2.start N_is_writer [v0] = [some v0, none] := rfl
theorem st_is_any_integer {v0 : V} : L2.start N_is_any_integer [v0] = [some v0] := rfl
theorem st_is_uniform {v0 : V} : L2.start N_is_uniform [v0] = [some v0, none, none] := rfl
theorem st_require_uniform {v0 v1 : V} : L2.start N_require_uniform [v0, v1] = [some v0, some v1] := rfl
theorem st_gcd_with_factor {v0 v1 : V} : L2.start N_gcd_with_factor [v0, v1] = [some v0, some v1, none, none, none, none, none] := rfl
theorem st_min_steps {v0 v1 v2 : V} : L2.start N_min_steps [v0, v1, v2] = [some v0, some v1, some v2] := rfl
theorem st_find_counts {v0 v1 v2 : V} : L2.start N_find_counts [v0, v1, v2] = [some v0, some v1, some v2, none, none, none, none, none, none, none, none, none, none, none, none] := rfl
theorem st_lines_with_weight {v0 v1 : V} : L2.start N_lines_with_weight [v0, v1] = [some v0, some v1, none, none, none, none, none, none] := rfl
theorem st_is_reachable_weight {v0 v1 : V} : L2.start N_is_reachable_weight [v0, v1] = [some v0, some v1] := rfl
theorem st_law_source {v0 v1 : V} : L2.start N_law_source [v0, v1] = [some v0, some v1, none] := rfl
theorem st_law_draw {v0 v1 : V} : L2.start N_law_draw [v0, v1] = [some v0, some v1, none, none] := rfl
theorem st_law_writers {v0 v1 : V} : L2.start N_law_writers [v0, v1] = [some v0, some v1, none, none] := rfl
theorem st_law_lost {v0 v1 : V} : L2.start N_law_lost [v0, v1] = [some v0, some v1, none, none, none, none] := rfl
theorem st_law_obstructions {v0 v1 : V} : L2.start N_law_obstructions [v0, v1] = [some v0, some v1, none, none, none, none, none, none, none, none, none, none, none] := rfl
theorem st_law_is_valid {v0 v1 v2 : V} : L2.start N_law_is_valid [v0, v1, v2] = [some v0, some v1, some v2, none, none, none, none, none, none] := rfl
theorem st_law_result {v0 v1 : V} : L2.start N_law_result [v0, v1] = [some v0, some v1, none, none, none] := rfl
theorem st_law_small_right {v0 v1 : V} : L2.start N_law_small_right [v0, v1] = [some v0, some v1, none, none, none, none, none, none, none, none, none] := rfl
theorem st_law_large_right {v0 : V} : L2.start N_law_large_right [v0] = [some v0, none, none, none, none, none, none, none, none, none, none, none, none, none, none, none, none] := rfl
theorem st_law {v0 : V} : L2.start N_law [v0] = [some v0, none, none, none] := rfl
/-- the addresses of the defs and their data -/
structure Ad where
  a_is_integer : Addr
  d_is_integer : FuncData
  a_is_writer : Addr
  d_is_writer : FuncData
  a_is_any_integer : Addr
  d_is_any_integer : FuncData
  a_is_uniform : Addr
  d_is_uniform : FuncData
  a_require_uniform : Addr
  d_require_uniform : FuncData
  a_gcd_with_factor : Addr
  d_gcd_with_factor : FuncData
  a_min_steps : Addr
  d_min_steps : FuncData
  a_find_counts : Addr
  d_find_counts : FuncData
  a_lines_with_weight : Addr
  d_lines_with_weight : FuncData
  a_is_reachable_weight : Addr
  d_is_reachable_weight : FuncData
  a_law_source : Addr
  d_law_source : FuncData
  a_law_draw : Addr
  d_law_draw : FuncData
  a_law_writers : Addr
  d_law_writers : FuncData
  a_law_lost : Addr
  d_law_lost : FuncData
  a_law_obstructions : Addr
  d_law_obstructions : FuncData
  a_law_is_valid : Addr
  d_law_is_valid : FuncData
  a_law_result : Addr
  d_law_result : FuncData
  a_law_small_right : Addr
  d_law_small_right : FuncData
  a_law_large_right : Addr
  d_law_large_right : FuncData
  a_law : Addr
  d_law : FuncData
/-- what the walk asks of the top -/
structure Txt (K : PySem.W.Frag) (mg : Str → Option Value) (Z : Ad) : Prop where
  F_is_integer : FunD K "is_integer" "is_integer" (defArgs s_is_integer) (defBody s_is_integer) (defScope s_is_integer) [.non] [] Z.a_is_integer Z.d_is_integer
  m_is_integer : mg "is_integer" = some (.ref Z.a_is_integer)
  F_is_writer : Fun K "is_writer" "is_writer" s_is_writer Z.a_is_writer Z.d_is_writer
  m_is_writer : mg "is_writer" = some (.ref Z.a_is_writer)
  F_is_any_integer : Fun K "is_any_integer" "is_any_integer" s_is_any_integer Z.a_is_any_integer Z.d_is_any_integer
  m_is_any_integer : mg "is_any_integer" = some (.ref Z.a_is_any_integer)
  F_is_uniform : Fun K "is_uniform" "is_uniform" s_is_uniform Z.a_is_uniform Z.d_is_uniform
  m_is_uniform : mg "is_uniform" = some (.ref Z.a_is_uniform)
  F_require_uniform : Fun K "require_uniform" "require_uniform" s_require_uniform Z.a_require_uniform Z.d_require_uniform
  m_require_uniform : mg "require_uniform" = some (.ref Z.a_require_uniform)
  F_gcd_with_factor : Fun K "gcd_with_factor" "gcd_with_factor" s_gcd_with_factor Z.a_gcd_with_factor Z.d_gcd_with_factor
  m_gcd_with_factor : mg "gcd_with_factor" = some (.ref Z.a_gcd_with_factor)
  F_min_steps : Fun K "min_steps" "min_steps" s_min_steps Z.a_min_steps Z.d_min_steps
  m_min_steps : mg "min_steps" = some (.ref Z.a_min_steps)
  F_find_counts : Fun K "find_counts" "find_counts" s_find_counts Z.a_find_counts Z.d_find_counts
  m_find_counts : mg "find_counts" = some (.ref Z.a_find_counts)
  F_lines_with_weight : Fun K "lines_with_weight" "lines_with_weight" s_lines_with_weight Z.a_lines_with_weight Z.d_lines_with_weight
  m_lines_with_weight : mg "lines_with_weight" = some (.ref Z.a_lines_with_weight)
  F_is_reachable_weight : Fun K "is_reachable_weight" "is_reachable_weight" s_is_reachable_weight Z.a_is_reachable_weight Z.d_is_reachable_weight
  m_is_reachable_weight : mg "is_reachable_weight" = some (.ref Z.a_is_reachable_weight)
  F_law_source : Fun K "_law_source" "_law_source" s_law_source Z.a_law_source Z.d_law_source
  m_law_source : mg "_law_source" = some (.ref Z.a_law_source)
  F_law_draw : Fun K "_law_draw" "_law_draw" s_law_draw Z.a_law_draw Z.d_law_draw
  m_law_draw : mg "_law_draw" = some (.ref Z.a_law_draw)
  F_law_writers : Fun K "_law_writers" "_law_writers" s_law_writers Z.a_law_writers Z.d_law_writers
  m_law_writers : mg "_law_writers" = some (.ref Z.a_law_writers)
  F_law_lost : Fun K "_law_lost" "_law_lost" s_law_lost Z.a_law_lost Z.d_law_lost
  m_law_lost : mg "_law_lost" = some (.ref Z.a_law_lost)
  F_law_obstructions : Fun K "_law_obstructions" "_law_obstructions" s_law_obstructions Z.a_law_obstructions Z.d_law_obstructions
  m_law_obstructions : mg "_law_obstructions" = some (.ref Z.a_law_obstructions)
  F_law_is_valid : Fun K "_law_is_valid" "_law_is_valid" s_law_is_valid Z.a_law_is_valid Z.d_law_is_valid
  m_law_is_valid : mg "_law_is_valid" = some (.ref Z.a_law_is_valid)
  F_law_result : Fun K "_law_result" "_law_result" s_law_result Z.a_law_result Z.d_law_result
  m_law_result : mg "_law_result" = some (.ref Z.a_law_result)
  F_law_small_right : Fun K "_law_small_right" "_law_small_right" s_law_small_right Z.a_law_small_right Z.d_law_small_right
  m_law_small_right : mg "_law_small_right" = some (.ref Z.a_law_small_right)
  F_law_large_right : Fun K "_law_large_right" "_law_large_right" s_law_large_right Z.a_law_large_right Z.d_law_large_right
  m_law_large_right : mg "_law_large_right" = some (.ref Z.a_law_large_right)
  F_law : Fun K "law" "law" s_law Z.a_law Z.d_law
  m_law : mg "law" = some (.ref Z.a_law)
  b_abs : mg "abs" = none
  b_all : mg "all" = none
  b_bool : mg "bool" = none
  b_dict : mg "dict" = none
  b_int : mg "int" = none
  b_isinstance : mg "isinstance" = none
  b_len : mg "len" = none
  b_list : mg "list" = none
  b_max : mg "max" = none
  b_min : mg "min" = none
  b_range : mg "range" = none
  b_repr : mg "repr" = none
  b_sorted : mg "sorted" = none
  b_str : mg "str" = none
  b_sum : mg "sum" = none
  b_tuple : mg "tuple" = none
  g_LETTERS : ∃ u, mg "LETTERS" = some u ∧ RelV (.str "abcdefghijklmnopqrstuvwxyz") u
  g_MOST_LETTERS : ∃ u, mg "MOST_LETTERS" = some u ∧ RelV (.int 8) u
  g_MOST_LINES : ∃ u, mg "MOST_LINES" = some u ∧ RelV (.int 1000000000000000000000000000000) u
  g_MOST_UNIFORM_WRITERS : ∃ u, mg "MOST_UNIFORM_WRITERS" = some u ∧ RelV (.int 2) u
section
variable {K : PySem.W.Frag} {mg : Str → Option Value} {Z : Ad}
theorem bd_is_integer0 (T : Txt K mg Z) : ∃ ds, Vals ([.non].drop 1) ds ∧ Binds K Z.d_is_integer ["value", "minimum", "maximum"] ds := by
  have h := T.F_is_integer.binds1 (ps := ["value", "minimum", "maximum"]) 3 1 (by decide) (by decide) (fun T0 kV doc pm an cdv ct us its h1 h2 => ?_)
  · exact h
  · match us, its, h1, h2 with
    | [_, _, _], [_], _, _ => exact ⟨_, rfl, rfl⟩
theorem bd_is_integer1 (T : Txt K mg Z) : ∃ ds, Vals ([.non].drop 0) ds ∧ Binds K Z.d_is_integer ["value", "minimum", "maximum"] ds := by
  have h := T.F_is_integer.binds1 (ps := ["value", "minimum", "maximum"]) 2 0 (by decide) (by decide) (fun T0 kV doc pm an cdv ct us its h1 h2 => ?_)
  · exact h
  · match us, its, h1, h2 with
    | [_, _], [_], _, _ => exact ⟨_, rfl, rfl⟩
theorem bd_is_writer (T : Txt K mg Z) : Binds K Z.d_is_writer ["value"] [] := T.F_is_writer.binds (ps := ["value"]) fun _ _ _ _ _ _ us hl => match us, hl with | [_], _ => rfl
theorem bd_is_any_integer (T : Txt K mg Z) : Binds K Z.d_is_any_integer ["value"] [] := T.F_is_any_integer.binds (ps := ["value"]) fun _ _ _ _ _ _ us hl => match us, hl with | [_], _ => rfl
theorem bd_is_uniform (T : Txt K mg Z) : Binds K Z.d_is_uniform ["value"] [] := T.F_is_uniform.binds (ps := ["value"]) fun _ _ _ _ _ _ us hl => match us, hl with | [_], _ => rfl
theorem bd_require_uniform (T : Txt K mg Z) : Binds K Z.d_require_uniform ["uniform", "total"] [] := T.F_require_uniform.binds (ps := ["uniform", "total"]) fun _ _ _ _ _ _ us hl => match us, hl with | [_, _], _ => rfl
theorem bd_gcd_with_factor (T : Txt K mg Z) : Binds K Z.d_gcd_with_factor ["one", "other"] [] := T.F_gcd_with_factor.binds (ps := ["one", "other"]) fun _ _ _ _ _ _ us hl => match us, hl with | [_, _], _ => rfl
theorem bd_min_steps (T : Txt K mg Z) : Binds K Z.d_min_steps ["least", "start", "step"] [] := T.F_min_steps.binds (ps := ["least", "start", "step"]) fun _ _ _ _ _ _ us hl => match us, hl with | [_, _, _], _ => rfl
theorem bd_find_counts (T : Txt K mg Z) : Binds K Z.d_find_counts ["one", "other", "total"] [] := T.F_find_counts.binds (ps := ["one", "other", "total"]) fun _ _ _ _ _ _ us hl => match us, hl with | [_, _, _], _ => rfl
theorem bd_lines_with_weight (T : Txt K mg Z) : Binds K Z.d_lines_with_weight ["uniform", "total"] [] := T.F_lines_with_weight.binds (ps := ["uniform", "total"]) fun _ _ _ _ _ _ us hl => match us, hl with | [_, _], _ => rfl
theorem bd_is_reachable_weight (T : Txt K mg Z) : Binds K Z.d_is_reachable_weight ["uniform", "total"] [] := T.F_is_reachable_weight.binds (ps := ["uniform", "total"]) fun _ _ _ _ _ _ us hl => match us, hl with | [_, _], _ => rfl
theorem bd_law_source (T : Txt K mg Z) : Binds K Z.d_law_source ["script", "k"] [] := T.F_law_source.binds (ps := ["script", "k"]) fun _ _ _ _ _ _ us hl => match us, hl with | [_, _], _ => rfl
theorem bd_law_draw (T : Txt K mg Z) : Binds K Z.d_law_draw ["source", "limit"] [] := T.F_law_draw.binds (ps := ["source", "limit"]) fun _ _ _ _ _ _ us hl => match us, hl with | [_, _], _ => rfl
theorem bd_law_writers (T : Txt K mg Z) : Binds K Z.d_law_writers ["source", "number"] [] := T.F_law_writers.binds (ps := ["source", "number"]) fun _ _ _ _ _ _ us hl => match us, hl with | [_, _], _ => rfl
theorem bd_law_lost (T : Txt K mg Z) : Binds K Z.d_law_lost ["total", "intervals"] [] := T.F_law_lost.binds (ps := ["total", "intervals"]) fun _ _ _ _ _ _ us hl => match us, hl with | [_, _], _ => rfl
theorem bd_law_obstructions (T : Txt K mg Z) : Binds K Z.d_law_obstructions ["line_counts", "line_set"] [] := T.F_law_obstructions.binds (ps := ["line_counts", "line_set"]) fun _ _ _ _ _ _ us hl => match us, hl with | [_, _], _ => rfl
theorem bd_law_is_valid (T : Txt K mg Z) : Binds K Z.d_law_is_valid ["uniform", "total", "value"] [] := T.F_law_is_valid.binds (ps := ["uniform", "total", "value"]) fun _ _ _ _ _ _ us hl => match us, hl with | [_, _, _], _ => rfl
theorem bd_law_result (T : Txt K mg Z) : Binds K Z.d_law_result ["uniform", "total"] [] := T.F_law_result.binds (ps := ["uniform", "total"]) fun _ _ _ _ _ _ us hl => match us, hl with | [_, _], _ => rfl
theorem bd_law_small_right (T : Txt K mg Z) : Binds K Z.d_law_small_right ["source", "number"] [] := T.F_law_small_right.binds (ps := ["source", "number"]) fun _ _ _ _ _ _ us hl => match us, hl with | [_, _], _ => rfl
theorem bd_law_large_right (T : Txt K mg Z) : Binds K Z.d_law_large_right ["source"] [] := T.F_law_large_right.binds (ps := ["source"]) fun _ _ _ _ _ _ us hl => match us, hl with | [_], _ => rfl
theorem bd_law (T : Txt K mg Z) : Binds K Z.d_law ["script"] [] := T.F_law.binds (ps := ["script"]) fun _ _ _ _ _ _ us hl => match us, hl with | [_], _ => rfl
end
end U

set_option Elab.async false
set_option maxRecDepth 100000
set_option linter.all false
set_option maxHeartbeats 4000000
namespace U
/-! ### the extended algorithm of Euclid, as the loop keeps it -/
structure EI (A B r l f n : Int) : Prop where
  r0 : 0 ≤ r
  l0 : 0 ≤ l
  g : Int.gcd r l = Int.gcd A B
  c1 : ∃ s, f * A + s * B = r
  c2 : ∃ s, n * A + s * B = l
  sg : (0 ≤ f ∧ n ≤ 0 ∧ (-n) * r + f * l = B) ∨ (f ≤ 0 ∧ 0 ≤ n ∧ n * r + (-f) * l = B)
  fb : -(B + 1) ≤ f ∧ f ≤ B + 1
  nb : -B ≤ n ∧ n ≤ B
theorem EI.start {A B : Int} (hA : 0 ≤ A) (hB : 0 ≤ B) : EI A B A B 1 0 where
  r0 := hA
  l0 := hB
  g := rfl
  c1 := ⟨0, by omega⟩
  c2 := ⟨1, by omega⟩
  sg := .inl ⟨by omega, by omega, by omega⟩
  fb := ⟨by omega, by omega⟩
  nb := ⟨by omega, by omega⟩
theorem EI.q {A B r l f n : Int} (h : EI A B r l f n) (hl : l ≠ 0) : r.fdiv l = r / l ∧ 0 ≤ r / l ∧ r / l ≤ r ∧ r - r / l * l = r % l ∧ 0 ≤ r % l ∧ r % l < l := by
  have hl' : 0 < l := by have := h.l0; omega
  have e := Int.emod_add_mul_ediv r l
  refine ⟨Int.fdiv_eq_ediv_of_nonneg _ h.l0, Int.ediv_nonneg h.r0 h.l0, ?_, by rw [Int.mul_comm]; omega, Int.emod_nonneg _ hl, Int.emod_lt_of_pos _ hl'⟩
  exact Int.ediv_le_self _ h.r0
theorem EI.step {A B r l f n : Int} (h : EI A B r l f n) (hl : l ≠ 0) : EI A B l (r - r.fdiv l * l) n (f - r.fdiv l * n) := by
  obtain ⟨e0, q0, q1, e1, m0, m1⟩ := h.q hl
  have hl' : 0 < l := by have := h.l0; omega
  rw [e0]
  generalize hq : r / l = q at *
  obtain ⟨s, hs⟩ := h.c1
  obtain ⟨t, ht⟩ := h.c2
  have nn : ∀ x y : Int, 0 ≤ x → 0 ≤ y → 0 ≤ x * y := fun x y hx hy => Int.mul_nonneg hx hy
  have key : ∀ x : Int, 0 ≤ x → x * l ≤ B → x ≤ B := fun x hx hxl => by
    have : x * 1 ≤ x * l := Int.mul_le_mul_of_nonneg_left (by omega) hx
    omega
  have hfr : -(B + 1) ≤ n ∧ n ≤ B + 1 := by have := h.nb; omega
  refine ⟨h.l0, by rw [e1]; exact m0, ?_, ⟨t, ht⟩, ⟨s - q * t, by grind⟩, ?_, hfr, ?_⟩
  · rw [Int.gcd_sub_mul_right_right, Int.gcd_comm]
    exact h.g
  · rcases h.sg with ⟨a, b, c⟩ | ⟨a, b, c⟩
    · refine .inr ⟨b, ?_, by grind⟩
      have := nn q (-n) q0 (by omega)
      rw [Int.mul_neg] at this
      omega
    · refine .inl ⟨b, ?_, by grind⟩
      have := nn q n q0 b
      omega
  · rcases h.sg with ⟨a, b, c⟩ | ⟨a, b, c⟩
    · have h2 := nn q (-n) q0 (by omega)
      have h3 : 0 ≤ f - q * n := by rw [Int.mul_neg] at h2; omega
      have h4 := key (f - q * n) h3 (by
        have : 0 ≤ (-n) * (r - q * l) := nn _ _ (by omega) (by rw [e1]; exact m0)
        grind)
      have := h.nb
      omega
    · have h2 := nn q n q0 b
      have h3 : 0 ≤ -(f - q * n) := by omega
      have h4 := key (-(f - q * n)) h3 (by
        have : 0 ≤ n * (r - q * l) := nn _ _ b (by rw [e1]; exact m0)
        grind)
      have := h.nb
      omega
theorem EI.done {A B r f n : Int} (h : EI A B r 0 f n) : r = (Int.gcd A B : Int) := by
  rw [← h.g, Int.gcd_zero_right]
  have := h.r0
  omega
/-! ### two numbers of lines with a total -/
theorem fmod_pos {x k : Int} (h : 0 < k) : 0 ≤ x.fmod k ∧ x.fmod k < k ∧ x = x.fmod k + k * x.fdiv k := by
  refine ⟨Int.fmod_nonneg_of_pos _ h, Int.fmod_lt_of_pos _ h, (Int.fmod_add_mul_fdiv x k).symm⟩
theorem le_fdiv {s x k : Int} (h : 0 < k) : s ≤ x.fdiv k ↔ s * k ≤ x := by
  rw [Int.fdiv_eq_ediv_of_nonneg _ (by omega)]
  exact Int.le_ediv_iff_mul_le h
theorem ge_fdiv {s x k : Int} (h : 0 < k) : 0 - (x.fdiv k) ≤ s ↔ -x ≤ s * k := by
  have e : 0 - (x.fdiv k) ≤ s ↔ -s ≤ x.fdiv k := by omega
  rw [e, le_fdiv h, Int.neg_mul]
  omega
structure FC (a b total d f : Int) (p count rest change : Int) : Prop where
  d0 : 0 < d
  dle : d ≤ b.natAbs
  p0 : 0 < p
  ple : p ≤ b.natAbs
  c0 : 0 ≤ count
  cp : count < p
  eq : count * a + rest * b = total
  ch : change * b = p * a
  all : ∀ x y : Int, x * a + y * b = total → ∃ s, x = count + s * p ∧ y = rest - s * change
theorem fc_core {a b total d f c0 : Int} (hb : b ≠ 0) (hd : d = (Int.gcd a b : Int)) (hf : f * a + c0 * b = d) (hm : total.fmod d = 0) :
    FC a b total d f ((b.natAbs : Int).fdiv d) ((total.fdiv d * f).fmod ((b.natAbs : Int).fdiv d)) ((total - (total.fdiv d * f).fmod ((b.natAbs : Int).fdiv d) * a).fdiv b) (((b.natAbs : Int).fdiv d * a).fdiv b) := by
  have d0 : 0 < d := by
    have := Int.gcd_pos_of_ne_zero_right a hb
    omega
  obtain ⟨a1, ha1⟩ : d ∣ a := hd ▸ Int.gcd_dvd_left a b
  obtain ⟨b1, hb1⟩ : d ∣ b := hd ▸ Int.gcd_dvd_right a b
  have hT : d * total.fdiv d = total := Int.mul_fdiv_cancel_of_fmod_eq_zero hm
  generalize total.fdiv d = T at *
  have hb1n : b1 ≠ 0 := by
    rintro rfl
    rw [Int.mul_zero] at hb1
    exact hb hb1
  obtain ⟨e, he, hee, hep⟩ : ∃ e : Int, (b1.natAbs : Int) = e * b1 ∧ e * e = 1 ∧ 0 < e * b1 := by
    by_cases h : 0 ≤ b1
    · exact ⟨1, by omega, by omega, by omega⟩
    · exact ⟨-1, by omega, by omega, by omega⟩
  have hp : (b.natAbs : Int).fdiv d = e * b1 := by
    have e1 : (b.natAbs : Int) = d * (e * b1) := by
      rw [← he, hb1, Int.natAbs_mul, Int.natCast_mul]
      congr 1
      omega
    rw [e1, Int.mul_fdiv_cancel_left _ (by omega)]
  have hbz : f * a1 + c0 * b1 = 1 := by
    have e1 : d * (f * a1 + c0 * b1) = d * 1 := by grind
    exact Int.eq_of_mul_eq_mul_left (by omega) e1
  rw [hp]
  obtain ⟨m0, m1, m2⟩ := fmod_pos (x := T * f) hep
  generalize hc : (T * f).fmod (e * b1) = count at *
  generalize (T * f).fdiv (e * b1) = z at *
  have hrest : total - count * a = (T * c0 + e * z * a1) * b := by grind
  have hch : e * b1 * a = (e * a1) * b := by grind
  rw [hrest, hch, Int.mul_fdiv_cancel _ hb, Int.mul_fdiv_cancel _ hb]
  have hle : e * b1 ≤ b.natAbs := by
    have e1 : (b.natAbs : Int) = d * (e * b1) := by
      rw [← he, hb1, Int.natAbs_mul, Int.natCast_mul]
      congr 1
      omega
    rw [e1]
    have : 1 * (e * b1) ≤ d * (e * b1) := Int.mul_le_mul_of_nonneg_right (by omega) (by omega)
    omega
  have hdle : d ≤ b.natAbs := by
    have e1 : (b.natAbs : Int) = d * (e * b1) := by
      rw [← he, hb1, Int.natAbs_mul, Int.natCast_mul]
      congr 1
      omega
    rw [e1]
    have : d * 1 ≤ d * (e * b1) := Int.mul_le_mul_of_nonneg_left (by omega) (by omega)
    omega
  refine ⟨d0, hdle, hep, hle, m0, m1, by grind, by grind, fun x y hxy => ?_⟩
  have h1 : (x - count) * a1 + (y - (T * c0 + e * z * a1)) * b1 = 0 := by
    have e1 : d * ((x - count) * a1 + (y - (T * c0 + e * z * a1)) * b1) = d * 0 := by grind
    exact Int.eq_of_mul_eq_mul_left (by omega) e1
  have h2 : x - count = b1 * ((x - count) * c0 - f * (y - (T * c0 + e * z * a1))) := by grind
  generalize hw : (x - count) * c0 - f * (y - (T * c0 + e * z * a1)) = w' at *
  have h3 : y - (T * c0 + e * z * a1) = -(w' * a1) := by
    have e1 : b1 * (y - (T * c0 + e * z * a1)) = b1 * (-(w' * a1)) := by grind
    exact Int.eq_of_mul_eq_mul_left hb1n e1
  refine ⟨e * w', ?_, ?_⟩
  · have : e * w' * (e * b1) = (e * e) * (b1 * w') := by grind
    rw [this, hee]
    omega
  · have : e * w' * (e * a1) = (e * e) * (w' * a1) := by grind
    rw [this, hee]
    omega
theorem FC.sol {a b total d f p cn rs ch : Int} (F : FC a b total d f p cn rs ch) (s : Int) : (cn + s * p) * a + (rs - s * ch) * b = total := by
  have h1 := F.eq
  have h2 := F.ch
  grind
theorem FC.x_rg {a b total d f p cn rs ch l : Int} (F : FC a b total d f p cn rs ch) (s : Int) : (0 - (cn - 1).fdiv p ≤ s ∧ s ≤ (l - cn).fdiv p) ↔ (1 ≤ cn + s * p ∧ cn + s * p ≤ l) := by
  rw [ge_fdiv F.p0, le_fdiv F.p0]
  omega
theorem y_pos {rs ch l2 : Int} (h : 0 < ch) (s : Int) : (0 - (0 - (rs - l2)).fdiv ch ≤ s ∧ s ≤ (rs - 1).fdiv ch) ↔ (1 ≤ rs - s * ch ∧ rs - s * ch ≤ l2) := by
  rw [ge_fdiv h, le_fdiv h]
  omega
theorem y_neg {rs ch l2 : Int} (h : ch < 0) (s : Int) : (0 - (rs - 1).fdiv (0 - ch) ≤ s ∧ s ≤ (l2 - rs).fdiv (0 - ch)) ↔ (1 ≤ rs - s * ch ∧ rs - s * ch ≤ l2) := by
  rw [ge_fdiv (by omega), le_fdiv (by omega), Int.zero_sub, Int.mul_neg]
  omega
theorem FC.bounds {a b total d f p cn rs ch : Int} (F : FC a b total d f p cn rs ch) (hb : b ≠ 0) (ha : -(10 ^ 40) ≤ a ∧ a ≤ 10 ^ 40) (hbb : -(10 ^ 40) ≤ b ∧ b ≤ 10 ^ 40) (ht : -(10 ^ 80) ≤ total ∧ total ≤ 10 ^ 80) :
    (-(10 ^ 81) ≤ rs ∧ rs ≤ 10 ^ 81) ∧ (-(10 ^ 81) ≤ ch ∧ ch ≤ 10 ^ 81) := by
  have m : ∀ x y M N : Int, 0 ≤ M → -M ≤ x → x ≤ M → -N ≤ y → y ≤ N → x * y ≤ M * N ∧ -(M * N) ≤ x * y := fun x y M N h0 h1 h2 h3 h4 => by
    have e : (x * y).natAbs ≤ M.natAbs * N.natAbs := by
      rw [Int.natAbs_mul]
      exact Nat.mul_le_mul (by omega) (by omega)
    have e2 : ((M.natAbs * N.natAbs : Nat) : Int) = M * N := by
      rw [Int.natCast_mul]
      congr 1 <;> omega
    omega
  have one : ∀ x : Int, (x.natAbs : Int) ≤ (x * b).natAbs := fun x => by
    rw [Int.natAbs_mul, Int.natCast_mul]
    have : (x.natAbs : Int) * 1 ≤ (x.natAbs : Int) * (b.natAbs : Int) := Int.mul_le_mul_of_nonneg_left (by omega) (by omega)
    omega
  have fp0 := F.p0
  have fple := F.ple
  have fc0 := F.c0
  have fcp := F.cp
  have h1 := F.eq
  have h2 := F.ch
  have m1 := m cn a (10 ^ 40) (10 ^ 40) (by omega) (by omega) (by omega) ha.1 ha.2
  have m2 := m p a (10 ^ 40) (10 ^ 40) (by omega) (by omega) (by omega) ha.1 ha.2
  have o1 := one rs
  have o2 := one ch
  constructor <;> constructor <;> omega
/-- numbers of lines that have the total; the least such -/
def Sol (l a l2 b t c k : Int) : Prop := 1 ≤ c ∧ c ≤ l ∧ 1 ≤ k ∧ k ≤ l2 ∧ c * a + k * b = t
def Least (l a l2 b t c k : Int) : Prop := Sol l a l2 b t c k ∧ ∀ c' k', Sol l a l2 b t c' k' → c ≤ c' ∧ (c = c' → k ≤ k')
theorem Least.uniq {l a l2 b t c k c' k' : Int} (h : Least l a l2 b t c k) (h' : Least l a l2 b t c' k') : c = c' ∧ k = k' := by
  have h1 := h.2 c' k' h'.1
  have h2 := h'.2 c k h.1
  constructor <;> omega
theorem FC.least {a b t d f p cn rs ch l l2 s : Int} (F : FC a b t d f p cn rs ch) (h : Sol l a l2 b t (cn + s * p) (rs - s * ch)) (hs : ∀ s1, (1 ≤ cn + s1 * p ∧ cn + s1 * p ≤ l) → (1 ≤ rs - s1 * ch ∧ rs - s1 * ch ≤ l2) → s ≤ s1) : Least l a l2 b t (cn + s * p) (rs - s * ch) := by
  refine ⟨h, fun c' k' ⟨h1, h2, h3, h4, h5⟩ => ?_⟩
  obtain ⟨s1, rfl, rfl⟩ := F.all c' k' h5
  have h6 := hs s1 ⟨h1, h2⟩ ⟨h3, h4⟩
  have hp := F.p0
  have h7 : s * p ≤ s1 * p := Int.mul_le_mul_of_nonneg_right h6 (by omega)
  refine ⟨by omega, fun e => ?_⟩
  have h8 : s * p = s1 * p := by omega
  have h9 : s = s1 := Int.eq_of_mul_eq_mul_right (by omega) h8
  subst h9
  exact Int.le_refl _
end U

set_option Elab.async false
set_option maxRecDepth 100000
set_option linter.all false
set_option pp.maxSteps 600
set_option pp.deepTerms false
set_option maxHeartbeats 4000000
namespace U
open PySem PySem.Spec PyProof.Rows L2
local macro_rules | `(tactic| walk_at "ne") => `(tactic| first | assumption | (refine Ne.symm ?_; assumption) | (refine' ne_of_none ?h (by assumption); (case h => walk_at "hp")) | (refine' Ne.symm (ne_of_none ?h (by assumption)); (case h => walk_at "hp")))
local macro_rules | `(tactic| walk_at "hp") => `(tactic| first | assumption | (refine' Ch.get0 (by assumption) ?h; (case h => walk_at "hp")) | (refine' Ch.get1 (by assumption) ?h ?n; (case h => walk_at "hp"); (case n => walk_at "ne")))
local macro_rules | `(tactic| walk_at "x") => `(tactic| first
  | with_reducible refine x_seq ?_ | with_reducible refine x_nx ?_ | with_reducible refine x_rt ?_ | with_reducible refine x_next ?_
  | with_reducible refine x_asg ?_ | ((with_reducible refine' x_gName ?e ?_); (case e => (simp only [wipe, List.map_cons, List.map_nil, List.set_cons_zero, List.set_cons_succ] <;> exact rfl))) | with_reducible refine x_par ?_ | ((with_reducible refine' v_par ?e ?_); (case e => (simp only [wipe, List.map_cons, List.map_nil, List.set_cons_zero, List.set_cons_succ] <;> exact rfl))) | with_reducible refine x_if ?_ | with_reducible refine x_ret ?_ | with_reducible refine x_retN ?_ | with_reducible refine x_drop ?_ | with_reducible refine x_brk ?_
  | with_reducible refine x_var (by with_unfolding_all rfl) ?_ | with_reducible refine x_c ?_ | with_reducible refine x_op ?_ | with_reducible refine x_un ?_
  | with_reducible refine x_test ?_ | with_reducible refine x_tB ?_ | with_reducible refine x_bl ?_ | with_reducible refine x_blk ?_ | with_reducible refine x_chain ?_
  | with_reducible refine x_and ?_ | with_reducible refine x_or ?_ | with_reducible refine x_not ?_ | with_reducible refine x_andV ?_ | with_reducible refine x_orV ?_ | with_reducible refine x_notV ?_ | with_reducible refine x_ifE ?_
  | with_reducible refine x_iteT ?_ | with_reducible refine x_iteF ?_ | with_reducible refine x_iteT2 ?_ | with_reducible refine x_iteF2 ?_
  | with_reducible refine x_call ?_ | with_reducible refine x_nil ?_ | with_reducible refine x_cons ?_ | with_reducible refine x_cb ?_ | with_reducible refine x_bm ?_ | with_reducible refine x_bm0 ?_ | with_reducible refine x_lstU ?_ | with_reducible refine x_tupU ?_ | with_reducible refine x_gSub ?_
  | with_reducible refine v_add ?_ | with_reducible refine v_I0 ?_ | with_reducible refine v_neg ?_ | with_reducible refine v_eqI ?_ | with_reducible refine v_neI ?_ | with_reducible refine v_eqS ?_ | with_reducible refine v_neS ?_ | with_reducible refine v_eqB ?_ | with_reducible refine v_neB ?_
  | with_reducible refine v_isN0 ?_ | with_reducible refine v_isNI ?_ | with_reducible refine v_isNS ?_ | with_reducible refine v_isNB ?_ | with_reducible refine v_isNR ?_ | with_reducible refine v_noN0 ?_ | with_reducible refine v_noNI ?_ | with_reducible refine v_noNS ?_ | with_reducible refine v_noNB ?_ | with_reducible refine v_noNR ?_ | with_reducible refine v_inS ?_ | with_reducible refine v_isB ?_ | with_reducible refine v_noB ?_
  | with_reducible refine x_pnil ?_ | with_reducible refine x_pcons ?_
  | with_reducible refine x_yes ?_ | ((with_reducible refine' x_wipe ?e ?_); (case e => rfl))
  | with_reducible refine v_abs ?_ | with_reducible refine v_max ?_ | with_reducible refine v_min ?_ | with_reducible refine v_gCons ?_ | with_reducible refine v_gNil ?_ | with_reducible refine x_for ?_ | with_reducible refine x_iList ?_ | with_reducible refine x_iTup ?_ | with_reducible refine x_iR1 ?_ | with_reducible refine x_iR2 ?_ | with_reducible refine x_lc ?_
  | with_reducible refine x_iStr ?_ | with_reducible refine v_iStr ?_ | with_reducible refine x_iKeys ?_ | with_reducible refine x_iItems ?_ | with_reducible refine x_dget ?_ | with_reducible refine x_din ?_ | with_reducible refine x_dnin ?_ | with_reducible refine x_dput ?_
  | ((with_reducible refine' isi_int ?k ?_); (case k => first | exact (show _ = some true by decide +kernel) | exact (show _ = some false by decide +kernel))) | ((with_reducible refine' isi_str ?k ?_); (case k => first | exact (show _ = some true by decide +kernel) | exact (show _ = some false by decide +kernel))) | ((with_reducible refine' isi_bl ?k ?_); (case k => first | exact (show _ = some true by decide +kernel) | exact (show _ = some false by decide +kernel))) | ((with_reducible refine' isi_non ?k ?_); (case k => first | exact (show _ = some true by decide +kernel) | exact (show _ = some false by decide +kernel)))
  | ((with_reducible refine' isi_tup ?h ?k ?_); (case h => walk_at "hp"); (case k => first | exact (show _ = some true by decide +kernel) | exact (show _ = some false by decide +kernel))) | ((with_reducible refine' isi_lst ?h ?k ?_); (case h => walk_at "hp"); (case k => first | exact (show _ = some true by decide +kernel) | exact (show _ = some false by decide +kernel))) | ((with_reducible refine' isi_dK ?h ?k ?_); (case h => walk_at "hp"); (case k => first | exact (show _ = some true by decide +kernel) | exact (show _ = some false by decide +kernel)))
  | ((with_reducible refine' v_gTup ?h ?l ?_); (case h => walk_at "hp"); (case l => rfl))
  | ((with_reducible refine' v_gUnl ?h ?l ?_); (case h => walk_at "hp"); (case l => rfl))
  | ((with_reducible refine' v_ixT' ?h ?l ?_); (case h => walk_at "hp"); (case l => with_unfolding_all rfl))
  | ((with_reducible refine' v_ixL' ?h ?l ?_); (case h => walk_at "hp"); (case l => with_unfolding_all rfl)))
local macro_rules | `(tactic| walk_at "X") => `(tactic| repeat walk_at "x")


/-- the letters a to z -/
def letC : List Nat := ("abcdefghijklmnopqrstuvwxyz" : Str).cps.toList
/-- a writer's name -/
def IsW (z : Str) : Prop := 1 ≤ z.length ∧ z.length ≤ 8 ∧ ∀ c ∈ z.cps.toList, c ∈ letC
def sp_is_integer (_ : PySem.W.Frag) : Sp := fun vs H Q _ => ∃ v lo hi : Int, vs = [.int v, .int lo, .int hi] ∧ (lo ≤ v ∧ v ≤ hi) ∧ Q (.bl true) H
theorem ok_is_integer {P : Program} {w : World} {K : PySem.W.Frag} {mg : Str → Option Value} {base : Heap} {Z : Ad} (T : Txt K mg Z) : FnOk P w K mg base CX0 1 Z.a_is_integer Z.d_is_integer ["value", "minimum", "maximum"] (sp_is_integer K) := by
  refine okD T.F_is_integer sc_is_integer (fun vs H Q E h => ?_) (fun cdv A outer s H vs Q E hr h => ?_)
  · obtain ⟨v, lo, hi, rfl, _⟩ := h
    rfl
  · have nd := sc_is_integer.nd
    obtain ⟨v, lo, hi, rfl, hb, q⟩ := h
    refine ⟨_, (pss_cons (ps_if (PW.pt (pw_or (pt_not (pt_val (pe_callB (isiK (K := K) rfl) (by rfl) T.b_isinstance (by decide +kernel) (pa_cons (pv 0) (pa_cons (pe_bltn (v := .ty "int") (u := .type "int") rfl T.b_int (by decide +kernel) rfl) pa_nil))))) (pw_or (pt_val (pe_callB (isiK (K := K) rfl) (by rfl) T.b_isinstance (by decide +kernel) (pa_cons (pv 0) (pa_cons (pe_bltn (v := .ty "bool") (u := .type "bool") rfl T.b_bool (by decide +kernel) rfl) pa_nil)))) (pw_or1 (pt_cmpR op_lt (pv 0) (pv 1) (nomark _))))))
      (pss_one (ps_ret pe_bl))
      pss_nil)
    (pss_one (ps_ret (pe_or (pe_cmpR op_isN1 (pv 2) pe_non (nomark _)) (pe_one (pe_cmpR op_le (pv 0) (pv 2) (nomark _))))))), ?_⟩
    rw [st_is_integer]
    walk_at "X"
    refine x_iteD (fun h => by omega) (fun h => ?_)
    walk_at "X"
    rw [decide_eq_true hb.2]
    exact q
def sp_is_any_integer (_ : PySem.W.Frag) : Sp := fun vs H Q _ => ∃ v : Int, vs = [.int v] ∧ Q (.bl true) H
theorem ok_is_any_integer {P : Program} {w : World} {K : PySem.W.Frag} {mg : Str → Option Value} {base : Heap} {Z : Ad} (T : Txt K mg Z) : FnOk P w K mg base CX0 1 Z.a_is_any_integer Z.d_is_any_integer ["value"] (sp_is_any_integer K) := by
  refine T.F_is_any_integer.ok sc_is_any_integer (fun vs H Q E h => ?_) (fun cdv A outer s H vs Q E hr h => ?_)
  · obtain ⟨v, rfl, _⟩ := h
    rfl
  · have nd := sc_is_any_integer.nd
    obtain ⟨v, rfl, q⟩ := h
    refine ⟨_, (pss_one (ps_ret (pe_and (pe_callB (isiK (K := K) rfl) (by rfl) T.b_isinstance (by decide +kernel) (pa_cons (pv 0) (pa_cons (pe_bltn (v := .ty "int") (u := .type "int") rfl T.b_int (by decide +kernel) rfl) pa_nil))) (pe_one (pe_not (pe_callB (isiK (K := K) rfl) (by rfl) T.b_isinstance (by decide +kernel) (pa_cons (pv 0) (pa_cons (pe_bltn (v := .ty "bool") (u := .type "bool") rfl T.b_bool (by decide +kernel) rfl) pa_nil)))))))), ?_⟩
    rw [st_is_any_integer]
    walk_at "X"
    exact q
def sp_is_writer (_ : PySem.W.Frag) : Sp := fun vs H Q _ => ∃ z : Str, vs = [.str z] ∧ IsW z ∧ ∀ H', Ch [] H H' → Q (.bl true) H'
theorem ok_is_writer {P : Program} {w : World} {K : PySem.W.Frag} {mg : Str → Option Value} {base : Heap} {Z : Ad} (T : Txt K mg Z) : FnOk P w K mg base CX0 1 Z.a_is_writer Z.d_is_writer ["value"] (sp_is_writer K) := by
  refine T.F_is_writer.ok sc_is_writer (fun vs H Q E h => ?_) (fun cdv A outer s H vs Q E hr h => ?_)
  · obtain ⟨z, rfl, _⟩ := h
    rfl
  · have nd := sc_is_writer.nd
    obtain ⟨z, rfl, hz, q⟩ := h
    refine ⟨_, (pss_cons (ps_if (PW.pt (pw_or (pt_not (pt_val (pe_callB (isiK (K := K) rfl) (by rfl) T.b_isinstance (by decide +kernel) (pa_cons (pv 0) (pa_cons (pe_bltn (v := .ty "str") (u := .type "str") rfl T.b_str (by decide +kernel) rfl) pa_nil))))) (pw_or1 (pt_not (pt_chain op_le op_le pe_int (pe_callB (lenK (K := K) rfl) (by rfl) T.b_len (by decide +kernel) (pa_cons (pv 0) pa_nil)) (pe_g T.g_MOST_LETTERS))))))
      (pss_one (ps_ret pe_bl))
      pss_nil)
    (pss_one (ps_ret (pe_callB (allK (K := K) rfl rfl) (by rfl) T.b_all (by decide +kernel) (pa_cons (pe_lc (own := [("letter", 1)]) (g := gName 1) (by rfl) nd (pi_str (pv 0)) (blkOk_by (own := [("letter", 1)]) (N := N_is_writer) (sc := defScope s_is_writer) (by decide +kernel)) (fun _ _ _ _ _ => pg_name (i := 1) nd rfl (by first | exact Or.inl rfl | exact Or.inr rfl)) (fun _ _ _ _ _ => pts_nil) (fun _ _ _ _ _ => (pe_cmpR op_inS (pv 1) (pe_g T.g_LETTERS) (by with_unfolding_all rfl)))) pa_nil))))), ?_⟩
    rw [st_is_writer]
    walk_at "X"
    obtain ⟨h1, h2, h3⟩ := hz
    refine v_lenS (Nat.le_trans h2 (by decide)) ?_
    walk_at "X"
    refine x_iteP (by omega) ?_
    walk_at "X"
    refine x_iteQ (by omega) ?_
    walk_at "X"
    intro D hD
    refine lc_W (vs := [1]) walk_str [] (fun i acc H' => acc = (List.replicate i true).map V.bl) hD (fun _ _ => trivial) (fun _ _ => rfl) ?_ ?_
    · rintro i x acc H' H2 hi hl hle hc rfl ⟨rfl, c, hc', rfl⟩
      walk_at "X"
      have hm : c ∈ letC := h3 c (by
        rw [← Array.mem_def]
        exact Array.mem_of_getElem? hc')
      rw [show decide (c ∈ ("abcdefghijklmnopqrstuvwxyz" : Str).cps.toList) = true from decide_eq_true hm]
      refine lcW_next hD hl (by have : z.length = z.cps.size := rfl; omega) hle hc fun H3 _ _ => ?_
      rw [List.replicate_succ', List.map_append]
      rfl
    · rintro acc H' hl hle hc rfl
      walk_at "X"
      refine v_all _ hl ?_
      rw [show ((List.replicate z.cps.size true).all id) = true by simp]
      exact q H' hc
end U

set_option Elab.async false
set_option maxRecDepth 100000
set_option linter.all false
set_option maxHeartbeats 4000000
namespace U
open PySem PySem.Spec PyProof.Rows L2
local macro_rules | `(tactic| walk_at "ne") => `(tactic| first | assumption | (refine Ne.symm ?_; assumption) | (refine' ne_of_none ?h (by assumption); (case h => walk_at "hp")) | (refine' Ne.symm (ne_of_none ?h (by assumption)); (case h => walk_at "hp")))
local macro_rules | `(tactic| walk_at "hp") => `(tactic| first | assumption | (refine' Ch.get0 (by assumption) ?h; (case h => walk_at "hp")) | (refine' Ch.get1 (by assumption) ?h ?n; (case h => walk_at "hp"); (case n => walk_at "ne")))
local macro_rules | `(tactic| walk_at "x") => `(tactic| first
  | with_reducible refine x_seq ?_ | with_reducible refine x_nx ?_ | with_reducible refine x_rt ?_ | with_reducible refine x_next ?_
  | with_reducible refine x_asg ?_ | ((with_reducible refine' x_gName ?e ?_); (case e => (simp only [wipe, List.map_cons, List.map_nil, List.set_cons_zero, List.set_cons_succ] <;> exact rfl))) | with_reducible refine x_par ?_ | ((with_reducible refine' v_par ?e ?_); (case e => (simp only [wipe, List.map_cons, List.map_nil, List.set_cons_zero, List.set_cons_succ] <;> exact rfl))) | with_reducible refine x_if ?_ | with_reducible refine x_ret ?_ | with_reducible refine x_retN ?_ | with_reducible refine x_drop ?_ | with_reducible refine x_brk ?_
  | with_reducible refine x_var (by with_unfolding_all rfl) ?_ | with_reducible refine x_c ?_ | with_reducible refine x_op ?_ | with_reducible refine x_un ?_
  | with_reducible refine x_test ?_ | with_reducible refine x_tB ?_ | with_reducible refine x_bl ?_ | with_reducible refine x_blk ?_ | with_reducible refine x_chain ?_
  | with_reducible refine x_and ?_ | with_reducible refine x_or ?_ | with_reducible refine x_not ?_ | with_reducible refine x_andV ?_ | with_reducible refine x_orV ?_ | with_reducible refine x_notV ?_ | with_reducible refine x_ifE ?_
  | with_reducible refine x_iteT ?_ | with_reducible refine x_iteF ?_ | with_reducible refine x_iteT2 ?_ | with_reducible refine x_iteF2 ?_
  | with_reducible refine x_call ?_ | with_reducible refine x_nil ?_ | with_reducible refine x_cons ?_ | with_reducible refine x_cb ?_ | with_reducible refine x_bm ?_ | with_reducible refine x_bm0 ?_ | with_reducible refine x_lstU ?_ | with_reducible refine x_tupU ?_ | with_reducible refine x_gSub ?_
  | with_reducible refine v_add ?_ | with_reducible refine v_I0 ?_ | with_reducible refine v_neg ?_ | with_reducible refine v_eqI ?_ | with_reducible refine v_neI ?_ | with_reducible refine v_eqS ?_ | with_reducible refine v_neS ?_ | with_reducible refine v_eqB ?_ | with_reducible refine v_neB ?_
  | with_reducible refine v_isN0 ?_ | with_reducible refine v_isNI ?_ | with_reducible refine v_isNS ?_ | with_reducible refine v_isNB ?_ | with_reducible refine v_isNR ?_ | with_reducible refine v_noN0 ?_ | with_reducible refine v_noNI ?_ | with_reducible refine v_noNS ?_ | with_reducible refine v_noNB ?_ | with_reducible refine v_noNR ?_ | with_reducible refine v_inS ?_ | with_reducible refine v_isB ?_ | with_reducible refine v_noB ?_
  | with_reducible refine x_pnil ?_ | with_reducible refine x_pcons ?_
  | with_reducible refine x_yes ?_ | ((with_reducible refine' x_wipe ?e ?_); (case e => rfl))
  | with_reducible refine v_abs ?_ | with_reducible refine v_max ?_ | with_reducible refine v_min ?_ | with_reducible refine v_gCons ?_ | with_reducible refine v_gNil ?_ | with_reducible refine x_for ?_ | with_reducible refine x_iList ?_ | with_reducible refine x_iTup ?_ | with_reducible refine x_iR1 ?_ | with_reducible refine x_iR2 ?_ | with_reducible refine x_lc ?_
  | with_reducible refine x_iStr ?_ | with_reducible refine v_iStr ?_ | with_reducible refine x_iKeys ?_ | with_reducible refine x_iItems ?_ | with_reducible refine x_dget ?_ | with_reducible refine x_din ?_ | with_reducible refine x_dnin ?_ | with_reducible refine x_dput ?_
  | ((with_reducible refine' isi_int ?k ?_); (case k => first | exact (show _ = some true by decide +kernel) | exact (show _ = some false by decide +kernel))) | ((with_reducible refine' isi_str ?k ?_); (case k => first | exact (show _ = some true by decide +kernel) | exact (show _ = some false by decide +kernel))) | ((with_reducible refine' isi_bl ?k ?_); (case k => first | exact (show _ = some true by decide +kernel) | exact (show _ = some false by decide +kernel))) | ((with_reducible refine' isi_non ?k ?_); (case k => first | exact (show _ = some true by decide +kernel) | exact (show _ = some false by decide +kernel)))
  | ((with_reducible refine' isi_tup ?h ?k ?_); (case h => walk_at "hp"); (case k => first | exact (show _ = some true by decide +kernel) | exact (show _ = some false by decide +kernel))) | ((with_reducible refine' isi_lst ?h ?k ?_); (case h => walk_at "hp"); (case k => first | exact (show _ = some true by decide +kernel) | exact (show _ = some false by decide +kernel))) | ((with_reducible refine' isi_dK ?h ?k ?_); (case h => walk_at "hp"); (case k => first | exact (show _ = some true by decide +kernel) | exact (show _ = some false by decide +kernel)))
  | ((with_reducible refine' v_gTup ?h ?l ?_); (case h => walk_at "hp"); (case l => rfl))
  | ((with_reducible refine' v_gUnl ?h ?l ?_); (case h => walk_at "hp"); (case l => rfl))
  | ((with_reducible refine' v_ixT' ?h ?l ?_); (case h => walk_at "hp"); (case l => with_unfolding_all rfl))
  | ((with_reducible refine' v_ixL' ?h ?l ?_); (case h => walk_at "hp"); (case l => with_unfolding_all rfl)))
local macro_rules | `(tactic| walk_at "X") => `(tactic| repeat walk_at "x")

def sp_gcd_with_factor (K : PySem.W.Frag) : Sp := fun vs H Q _ => ∃ one other : Int, vs = [.int one, .int other] ∧ (-(10 ^ 40) ≤ one ∧ one ≤ 10 ^ 40) ∧ (-(10 ^ 40) ≤ other ∧ other ≤ 10 ^ 40) ∧
  ∀ g f c : Int, g = (Int.gcd one other : Int) → f * one + c * other = g → (-(10 ^ 41) ≤ f ∧ f ≤ 10 ^ 41) → ∀ p H', H p = none → Ch [] H H' → H' p = some (.tup [.int g, .int f]) → Q (.ref p) H'
theorem ok_gcd_with_factor {P : Program} {w : World} {K : PySem.W.Frag} {mg : Str → Option Value} {base : Heap} {Z : Ad} (T : Txt K mg Z) : FnOk P w K mg base CX0 1 Z.a_gcd_with_factor Z.d_gcd_with_factor ["one", "other"] (sp_gcd_with_factor K) := by
  refine T.F_gcd_with_factor.ok sc_gcd_with_factor (fun vs H Q E h => ?_) (fun cdv A outer s H vs Q E hr h => ?_)
  · obtain ⟨one, other, rfl, _⟩ := h
    rfl
  · have nd := sc_gcd_with_factor.nd
    obtain ⟨one, other, rfl, h1, h2, q⟩ := h
    refine ⟨_, (pss_cons (ps_par (i := 2) (j := 3) rfl nd rfl rfl (by decide) rfl rfl (pa_cons (pe_callB call_absU (by rfl) T.b_abs (by decide +kernel) (pa_cons (pv 0) pa_nil)) (pa_cons (pe_callB call_absU (by rfl) T.b_abs (by decide +kernel) (pa_cons (pv 1) pa_nil)) pa_nil)) (by rfl))
    (pss_cons (ps_asg (pe_tup (pa_cons pe_int (pa_cons pe_int pa_nil))) (pg_tupK (K := K) (n := 2) rfl rfl (pgs_cons (pg_name (i := 4) nd rfl (by first | exact Or.inl rfl | exact Or.inr rfl)) (pgs_cons (pg_name (i := 5) nd rfl (by first | exact Or.inl rfl | exact Or.inr rfl)) pgs_nil)) rfl rfl))
    (pss_cons (ps_while PassesOwn.never (pt_cmpR (op_neK (K := K) rfl hr.units) (pv 3) pe_int (nomark _))
      (pss_cons (ps_set (i := 6) nd rfl (by first | exact Or.inl rfl | exact Or.inr rfl) (pe_op op_fdU (pv 2) (pv 3)))
      (pss_cons (ps_par (i := 2) (j := 3) rfl nd rfl rfl (by decide) rfl rfl (pa_cons (pv 3) (pa_cons (pe_op op_sub (pv 2) (pe_op op_mulU (pv 6) (pv 3))) pa_nil)) (by rfl))
      (pss_one (ps_par (i := 4) (j := 5) rfl nd rfl rfl (by decide) rfl rfl (pa_cons (pv 5) (pa_cons (pe_op op_sub (pv 4) (pe_op op_mulU (pv 6) (pv 5))) pa_nil)) (by rfl))))))
    (pss_one (ps_ret (pe_tup (pa_cons (pv 2) (pa_cons (pe_ifExp (pt_cmpR op_ge (pv 0) pe_int (nomark _)) (pv 4) (pe_op op_sub pe_int (pv 4))) pa_nil)))))))), ?_⟩
    rw [st_gcd_with_factor]
    walk_at "X"
    refine v_new fun p1 H1 np1 c1 hp1 => ?_
    walk_at "X"
    refine x_while (fun m σ H' => ∃ r l f n w, σ = [some (.int one), some (.int other), some (.int r), some (.int l), some (.int f), some (.int n), w] ∧ Ch [] H H' ∧ m = l.toNat ∧ (r ≤ 10 ^ 40 ∧ l ≤ 10 ^ 40) ∧ EI one.natAbs other.natAbs r l f n) _ ⟨_, _, _, _, _, rfl, c1, rfl, ⟨by omega, by omega⟩, EI.start (by omega) (by omega)⟩ ?_
    rintro m σ H2 ⟨r, l, f, n, w, rfl, c2, rfl, hb, I⟩
    have hr0 := I.r0
    have hl0 := I.l0
    have hfb := I.fb
    have hnb := I.nb
    walk_at "X"
    refine x_iteN (fun hl => ?_) (fun hl => ?_)
    · obtain ⟨e0, q0, q1, e1, m0, m1⟩ := I.q hl
      have I2 := I.step hl
      have hl2 := I2.l0
      refine x_N ?_
      walk_at "X"
      refine v_fd (fdS hl (by omega) (by omega)) ?_
      walk_at "X"
      refine v_mul (mulS (by omega) (by omega) (by omega) (by omega)) ?_
      walk_at "X"
      refine v_mul (mulS (by omega) (by omega) (by omega) (by omega)) ?_
      walk_at "X"
      exact ⟨_, by rw [e0]; omega, l, _, n, _, _, rfl, c2, rfl, ⟨by omega, by rw [e0]; omega⟩, I2⟩
    · subst hl
      have hg := I.done
      obtain ⟨s1, hs1⟩ := I.c1
      walk_at "X"
      refine x_iteD (fun ho => ?_) (fun ho => ?_)
      · walk_at "X"
        refine v_new fun p H3 np c3 hp => ?_
        refine q r f (if 0 ≤ other then s1 else -s1) hg ?_ ⟨by omega, by omega⟩ p H3 (c2.free np) (c2.trans c3) hp
        have e1 : ((one.natAbs : Nat) : Int) = one := by omega
        rw [e1] at hs1
        split
        · have e2 : ((other.natAbs : Nat) : Int) = other := by omega
          rw [e2] at hs1
          exact hs1
        · have e2 : ((other.natAbs : Nat) : Int) = -other := by omega
          rw [e2] at hs1
          grind
      · walk_at "X"
        refine v_new fun p H3 np c3 hp => ?_
        refine q r (0 - f) (if 0 ≤ other then s1 else -s1) hg ?_ ⟨by omega, by omega⟩ p H3 (c2.free np) (c2.trans c3) hp
        have e1 : ((one.natAbs : Nat) : Int) = -one := by omega
        rw [e1] at hs1
        split
        · have e2 : ((other.natAbs : Nat) : Int) = other := by omega
          rw [e2] at hs1
          grind
        · have e2 : ((other.natAbs : Nat) : Int) = -other := by omega
          rw [e2] at hs1
          grind
end U

set_option Elab.async false
set_option maxRecDepth 100000
set_option linter.all false
set_option pp.maxSteps 600
set_option pp.deepTerms false
set_option maxHeartbeats 4000000
namespace U
open PySem PySem.Spec PyProof.Rows L2
local macro_rules | `(tactic| walk_at "ne") => `(tactic| first | assumption | (refine Ne.symm ?_; assumption) | (refine' ne_of_none ?h (by assumption); (case h => walk_at "hp")) | (refine' Ne.symm (ne_of_none ?h (by assumption)); (case h => walk_at "hp")))
local macro_rules | `(tactic| walk_at "hp") => `(tactic| first | assumption | (refine' Ch.get0 (by assumption) ?h; (case h => walk_at "hp")) | (refine' Ch.get1 (by assumption) ?h ?n; (case h => walk_at "hp"); (case n => walk_at "ne")))
local macro_rules | `(tactic| walk_at "x") => `(tactic| first
  | with_reducible refine x_seq ?_ | with_reducible refine x_nx ?_ | with_reducible refine x_rt ?_ | with_reducible refine x_next ?_
  | with_reducible refine x_asg ?_ | ((with_reducible refine' x_gName ?e ?_); (case e => (simp only [wipe, List.map_cons, List.map_nil, List.set_cons_zero, List.set_cons_succ] <;> exact rfl))) | with_reducible refine x_par ?_ | ((with_reducible refine' v_par ?e ?_); (case e => (simp only [wipe, List.map_cons, List.map_nil, List.set_cons_zero, List.set_cons_succ] <;> exact rfl))) | with_reducible refine x_if ?_ | with_reducible refine x_ret ?_ | with_reducible refine x_retN ?_ | with_reducible refine x_drop ?_ | with_reducible refine x_brk ?_
  | with_reducible refine x_var (by with_unfolding_all rfl) ?_ | with_reducible refine x_c ?_ | with_reducible refine x_op ?_ | with_reducible refine x_un ?_
  | with_reducible refine x_test ?_ | with_reducible refine x_tB ?_ | with_reducible refine x_bl ?_ | with_reducible refine x_blk ?_ | with_reducible refine x_chain ?_
  | with_reducible refine x_and ?_ | with_reducible refine x_or ?_ | with_reducible refine x_not ?_ | with_reducible refine x_andV ?_ | with_reducible refine x_orV ?_ | with_reducible refine x_notV ?_ | with_reducible refine x_ifE ?_
  | with_reducible refine x_iteT ?_ | with_reducible refine x_iteF ?_ | with_reducible refine x_iteT2 ?_ | with_reducible refine x_iteF2 ?_
  | with_reducible refine x_call ?_ | with_reducible refine x_nil ?_ | with_reducible refine x_cons ?_ | with_reducible refine x_cb ?_ | with_reducible refine x_bm ?_ | with_reducible refine x_bm0 ?_ | with_reducible refine x_lstU ?_ | with_reducible refine x_tupU ?_ | with_reducible refine x_gSub ?_
  | with_reducible refine v_add ?_ | with_reducible refine v_I0 ?_ | with_reducible refine v_neg ?_ | with_reducible refine v_eqI ?_ | with_reducible refine v_neI ?_ | with_reducible refine v_eqS ?_ | with_reducible refine v_neS ?_ | with_reducible refine v_eqB ?_ | with_reducible refine v_neB ?_
  | with_reducible refine v_isN0 ?_ | with_reducible refine v_isNI ?_ | with_reducible refine v_isNS ?_ | with_reducible refine v_isNB ?_ | with_reducible refine v_isNR ?_ | with_reducible refine v_noN0 ?_ | with_reducible refine v_noNI ?_ | with_reducible refine v_noNS ?_ | with_reducible refine v_noNB ?_ | with_reducible refine v_noNR ?_ | with_reducible refine v_inS ?_ | with_reducible refine v_isB ?_ | with_reducible refine v_noB ?_
  | with_reducible refine x_pnil ?_ | with_reducible refine x_pcons ?_
  | with_reducible refine x_yes ?_ | ((with_reducible refine' x_wipe ?e ?_); (case e => rfl))
  | with_reducible refine v_abs ?_ | with_reducible refine v_max ?_ | with_reducible refine v_min ?_ | with_reducible refine v_gCons ?_ | with_reducible refine v_gNil ?_ | with_reducible refine x_for ?_ | with_reducible refine x_iList ?_ | with_reducible refine x_iTup ?_ | with_reducible refine x_iR1 ?_ | with_reducible refine x_iR2 ?_ | with_reducible refine x_lc ?_
  | with_reducible refine x_iStr ?_ | with_reducible refine v_iStr ?_ | with_reducible refine x_iKeys ?_ | with_reducible refine x_iItems ?_ | with_reducible refine x_dget ?_ | with_reducible refine x_din ?_ | with_reducible refine x_dnin ?_ | with_reducible refine x_dput ?_
  | ((with_reducible refine' isi_int ?k ?_); (case k => first | exact (show _ = some true by decide +kernel) | exact (show _ = some false by decide +kernel))) | ((with_reducible refine' isi_str ?k ?_); (case k => first | exact (show _ = some true by decide +kernel) | exact (show _ = some false by decide +kernel))) | ((with_reducible refine' isi_bl ?k ?_); (case k => first | exact (show _ = some true by decide +kernel) | exact (show _ = some false by decide +kernel))) | ((with_reducible refine' isi_non ?k ?_); (case k => first | exact (show _ = some true by decide +kernel) | exact (show _ = some false by decide +kernel)))
  | ((with_reducible refine' isi_tup ?h ?k ?_); (case h => walk_at "hp"); (case k => first | exact (show _ = some true by decide +kernel) | exact (show _ = some false by decide +kernel))) | ((with_reducible refine' isi_lst ?h ?k ?_); (case h => walk_at "hp"); (case k => first | exact (show _ = some true by decide +kernel) | exact (show _ = some false by decide +kernel))) | ((with_reducible refine' isi_dK ?h ?k ?_); (case h => walk_at "hp"); (case k => first | exact (show _ = some true by decide +kernel) | exact (show _ = some false by decide +kernel)))
  | ((with_reducible refine' v_gTup ?h ?l ?_); (case h => walk_at "hp"); (case l => rfl))
  | ((with_reducible refine' v_gUnl ?h ?l ?_); (case h => walk_at "hp"); (case l => rfl))
  | ((with_reducible refine' v_ixT' ?h ?l ?_); (case h => walk_at "hp"); (case l => with_unfolding_all rfl))
  | ((with_reducible refine' v_ixL' ?h ?l ?_); (case h => walk_at "hp"); (case l => with_unfolding_all rfl)))
local macro_rules | `(tactic| walk_at "X") => `(tactic| repeat walk_at "x")


def sp_min_steps (_ : PySem.W.Frag) : Sp := fun vs H Q _ => ∃ l s st : Int, vs = [.int l, .int s, .int st] ∧ (0 < st ∧ st ≤ 10 ^ 200) ∧ Q (.int (0 - (s - l).fdiv st)) H
theorem ok_min_steps {P : Program} {w : World} {K : PySem.W.Frag} {mg : Str → Option Value} {base : Heap} {Z : Ad} (T : Txt K mg Z) : FnOk P w K mg base CX0 1 Z.a_min_steps Z.d_min_steps ["least", "start", "step"] (sp_min_steps K) := by
  refine T.F_min_steps.ok sc_min_steps (fun vs H Q E h => ?_) (fun cdv A outer s H vs Q E hr h => ?_)
  · obtain ⟨l, s, st, rfl, _⟩ := h
    rfl
  · obtain ⟨l, s, st, rfl, hb, q⟩ := h
    refine ⟨_, (pss_one (ps_ret (pe_op op_sub pe_int (pe_op op_fdU (pe_op op_sub (pv 1) (pv 0)) (pv 2))))), ?_⟩
    rw [st_min_steps]
    walk_at "X"
    refine v_fd (fdS (by omega) (by omega) (by omega)) ?_
    walk_at "X"
    exact q
/-- a total of two writers: some numbers of lines, or none -/
def sp_find_counts (_ : PySem.W.Frag) : Sp := fun vs H Q _ => ∃ (p1 p2 : Addr) (l a l2 b t : Int), vs = [.ref p1, .ref p2, .int t] ∧ H p1 = some (.tup [.int l, .int a]) ∧ H p2 = some (.tup [.int l2, .int b]) ∧
  (1 ≤ l ∧ l ≤ 10 ^ 40 ∧ 1 ≤ l2 ∧ l2 ≤ 10 ^ 40) ∧ (-(10 ^ 40) ≤ a ∧ a ≤ 10 ^ 40 ∧ -(10 ^ 40) ≤ b ∧ b ≤ 10 ^ 40) ∧ (-(10 ^ 80) ≤ t ∧ t ≤ 10 ^ 80) ∧
  (∀ c k p H', Least l a l2 b t c k → H p = none → Ch [] H H' → H' p = some (.tup [.int c, .int k]) → Q (.ref p) H') ∧
  ((∀ c k, 1 ≤ c → c ≤ l → 1 ≤ k → k ≤ l2 → c * a + k * b ≠ t) → ∀ H', Ch [] H H' → Q .non H')
theorem ok_find_counts {P : Program} {w : World} {K : PySem.W.Frag} {mg : Str → Option Value} {base : Heap} {Z : Ad} (T : Txt K mg Z) : FnOk P w K mg base CX0 2 Z.a_find_counts Z.d_find_counts ["one", "other", "total"] (sp_find_counts K) := by
  refine T.F_find_counts.ok sc_find_counts (fun vs H Q E h => ?_) (fun cdv A outer s H vs Q E hr h => ?_)
  · obtain ⟨p1, p2, l, a, l2, b, t, rfl, _⟩ := h
    rfl
  · have nd := sc_find_counts.nd
    obtain ⟨p1, p2, l, a, l2, b, t, rfl, h1, h2, hl, hab, ht, qs, qn⟩ := h
    refine ⟨_, (pss_cons (ps_asg (pe_tup (pa_cons (pv 0) (pa_cons (pv 1) pa_nil))) (pg_tupK (K := K) (n := 2) rfl rfl (pgs_cons (pg_tupK (K := K) (n := 2) rfl rfl (pgs_cons (pg_name (i := 3) nd rfl (by first | exact Or.inl rfl | exact Or.inr rfl)) (pgs_cons (pg_name (i := 4) nd rfl (by first | exact Or.inl rfl | exact Or.inr rfl)) pgs_nil)) rfl rfl) (pgs_cons (pg_tupK (K := K) (n := 2) rfl rfl (pgs_cons (pg_name (i := 5) nd rfl (by first | exact Or.inl rfl | exact Or.inr rfl)) (pgs_cons (pg_name (i := 6) nd rfl (by first | exact Or.inl rfl | exact Or.inr rfl)) pgs_nil)) rfl rfl) pgs_nil)) rfl rfl))
    (pss_cons (ps_if (pt_cmpR (op_eqK (K := K) rfl hr.units) (pv 6) pe_int (nomark _))
      (pss_cons (ps_if (pt_cmpR (op_eqK (K := K) rfl hr.units) (pv 4) pe_int (nomark _))
        (pss_one (ps_ret (pe_ifExp (pt_cmpR (op_eqK (K := K) rfl hr.units) (pv 2) pe_int (nomark _)) (pe_tup (pa_cons pe_int (pa_cons pe_int pa_nil))) pe_non)))
        pss_nil)
      (pss_cons (ps_set (i := 7) nd rfl (by first | exact Or.inl rfl | exact Or.inr rfl) (pe_op op_fdU (pv 2) (pv 4)))
      (pss_one (ps_ret (pe_ifExp (PW.pt (pw_and (pt_cmpR (op_eqK (K := K) rfl hr.units) (pe_op op_mulU (pv 7) (pv 4)) (pv 2) (nomark _)) (pw_and1 (pt_chain op_le op_le pe_int (pv 7) (pv 3))))) (pe_tup (pa_cons (pv 7) (pa_cons pe_int pa_nil))) pe_non)))))
      pss_nil)
    (pss_cons (ps_asg (pe_call (ok_gcd_with_factor T) (hr.mono (by decide)) rfl T.m_gcd_with_factor T.F_gcd_with_factor.kp (bd_gcd_with_factor T) .nil pass0 (pa_cons (pv 4) (pa_cons (pv 6) pa_nil))) (pg_tupK (K := K) (n := 2) rfl rfl (pgs_cons (pg_name (i := 8) nd rfl (by first | exact Or.inl rfl | exact Or.inr rfl)) (pgs_cons (pg_name (i := 9) nd rfl (by first | exact Or.inl rfl | exact Or.inr rfl)) pgs_nil)) rfl rfl))
    (pss_cons (ps_if (pt_cmpR (op_neK (K := K) rfl hr.units) (pe_op op_mdU (pv 2) (pv 8)) pe_int (nomark _))
      (pss_one (ps_ret pe_non))
      pss_nil)
    (pss_cons (ps_set (i := 10) nd rfl (by first | exact Or.inl rfl | exact Or.inr rfl) (pe_op op_fdU (pe_callB call_absU (by rfl) T.b_abs (by decide +kernel) (pa_cons (pv 6) pa_nil)) (pv 8)))
    (pss_cons (ps_set (i := 7) nd rfl (by first | exact Or.inl rfl | exact Or.inr rfl) (pe_op op_mdU (pe_op op_mulU (pe_op op_fdU (pv 2) (pv 8)) (pv 9)) (pv 10)))
    (pss_cons (ps_set (i := 11) nd rfl (by first | exact Or.inl rfl | exact Or.inr rfl) (pe_op op_fdU (pe_op op_sub (pv 2) (pe_op op_mulU (pv 7) (pv 4))) (pv 6)))
    (pss_cons (ps_set (i := 12) nd rfl (by first | exact Or.inl rfl | exact Or.inr rfl) (pe_op op_fdU (pe_op op_mulU (pv 10) (pv 4)) (pv 6)))
    (pss_cons (ps_par (i := 13) (j := 14) rfl nd rfl rfl (by decide) rfl rfl (pa_cons (pe_call (ok_min_steps T) (hr.mono (by decide)) rfl T.m_min_steps T.F_min_steps.kp (bd_min_steps T) .nil pass0 (pa_cons pe_int (pa_cons (pv 7) (pa_cons (pv 10) pa_nil)))) (pa_cons (pe_op op_fdU (pe_op op_sub (pv 3) (pv 7)) (pv 10)) pa_nil)) (by rfl))
    (pss_cons (ps_if (pt_cmpR op_gt (pv 12) pe_int (nomark _))
      (pss_one (ps_par (i := 13) (j := 14) rfl nd rfl rfl (by decide) rfl rfl (pa_cons (pe_callB (call_maxU rfl) (by rfl) T.b_max (by decide +kernel) (pa_cons (pv 13) (pa_cons (pe_call (ok_min_steps T) (hr.mono (by decide)) rfl T.m_min_steps T.F_min_steps.kp (bd_min_steps T) .nil pass0 (pa_cons (pe_op op_sub (pv 11) (pv 5)) (pa_cons pe_int (pa_cons (pv 12) pa_nil)))) pa_nil))) (pa_cons (pe_callB (call_minU rfl) (by rfl) T.b_min (by decide +kernel) (pa_cons (pv 14) (pa_cons (pe_op op_fdU (pe_op op_sub (pv 11) pe_int) (pv 12)) pa_nil))) pa_nil)) (by rfl)))
      (pss_one (ps_if (pt_cmpR op_lt (pv 12) pe_int (nomark _))
        (pss_one (ps_par (i := 13) (j := 14) rfl nd rfl rfl (by decide) rfl rfl (pa_cons (pe_callB (call_maxU rfl) (by rfl) T.b_max (by decide +kernel) (pa_cons (pv 13) (pa_cons (pe_call (ok_min_steps T) (hr.mono (by decide)) rfl T.m_min_steps T.F_min_steps.kp (bd_min_steps T) .nil pass0 (pa_cons pe_int (pa_cons (pv 11) (pa_cons (pe_op op_sub pe_int (pv 12)) pa_nil)))) pa_nil))) (pa_cons (pe_callB (call_minU rfl) (by rfl) T.b_min (by decide +kernel) (pa_cons (pv 14) (pa_cons (pe_op op_fdU (pe_op op_sub (pv 5) (pv 11)) (pe_op op_sub pe_int (pv 12))) pa_nil))) pa_nil)) (by rfl)))
        (pss_one (ps_if (pt_not (pt_chain op_le op_le pe_int (pv 11) (pv 5)))
          (pss_one (ps_ret pe_non))
          pss_nil)))))
    (pss_one (ps_ret (pe_ifExp (pt_cmpR op_le (pv 13) (pv 14) (nomark _)) (pe_tup (pa_cons (pe_op op_addU (pv 7) (pe_op op_mulU (pv 13) (pv 10))) (pa_cons (pe_op op_sub (pv 11) (pe_op op_mulU (pv 13) (pv 12))) pa_nil))) pe_non))))))))))))), ?_⟩
    rw [st_find_counts]
    walk_at "X"
    refine v_new fun p H1 np c1 hp => ?_
    walk_at "X"
    refine x_iteD (fun hb => ?_) (fun hb => ?_)
    · subst hb
      walk_at "X"
      refine x_iteD (fun ha => ?_) (fun ha => ?_)
      · subst ha
        walk_at "X"
        refine x_iteD (fun h0 => ?_) (fun h0 => ?_)
        · walk_at "X"
          refine v_new fun p3 H3 np3 c3 hp3 => ?_
          walk_at "X"
          exact qs 1 1 p3 H3 ⟨⟨by omega, by omega, by omega, by omega, by omega⟩, fun c' k' z => ⟨z.1, fun _ => z.2.2.1⟩⟩ (c1.free np3) (c1.trans c3) hp3
        · walk_at "X"
          exact qn (fun c k _ _ _ _ => by omega) H1 c1
      · walk_at "X"
        refine v_fd (fdS ha (by omega) (by omega)) ?_
        walk_at "X"
        refine v_mul (mulS (by have := Int.natAbs_fdiv_le_natAbs t a; omega) (by have := Int.natAbs_fdiv_le_natAbs t a; omega) (by omega) (by omega)) ?_
        have none_of : (t.fdiv a * a = t → 1 ≤ t.fdiv a → t.fdiv a ≤ l → False) → ∀ c k, 1 ≤ c → c ≤ l → 1 ≤ k → k ≤ l2 → c * a + k * 0 ≠ t := fun h c k c1 c2 _ _ e => by
          have e1 : c * a = t := by omega
          have e2 : t.fdiv a = c := by rw [← e1, Int.mul_fdiv_cancel _ ha]
          rw [e2] at h
          exact h e1 c1 c2
        walk_at "X"
        refine x_iteD (fun e1 => ?_) (fun e1 => ?_)
        · walk_at "X"
          refine x_iteD (fun e2 => ?_) (fun e2 => ?_)
          · walk_at "X"
            refine x_iteD (fun e3 => ?_) (fun e3 => ?_)
            · walk_at "X"
              refine v_new fun p3 H3 np3 c3 hp3 => ?_
              walk_at "X"
              exact qs _ 1 p3 H3 ⟨⟨by omega, by omega, by omega, by omega, by omega⟩, fun c' k' z => ⟨by { have e1 : c' * a = t := (by have := z.2.2.2.2; omega); have e2 : t.fdiv a = c' := (by rw [← e1, Int.mul_fdiv_cancel _ ha]); omega }, fun _ => z.2.2.1⟩⟩ (c1.free np3) (c1.trans c3) hp3
            · walk_at "X"
              exact qn (none_of fun _ _ z => e3 z) H1 c1
          · walk_at "X"
            exact qn (none_of fun _ z _ => e2 z) H1 c1
        · walk_at "X"
          exact qn (none_of fun z _ _ => e1 z) H1 c1
    · walk_at "X"
      refine ⟨a, b, rfl, by omega, by omega, fun d f c0 hd hf hfb p2' H2 np2 c2 hp2 => ?_⟩
      walk_at "X"
      refine v_md (by have := Int.gcd_pos_of_ne_zero_right a hb; omega) ?_
      walk_at "X"
      refine x_iteN (fun hm => ?_) (fun hm => ?_)
      · walk_at "X"
        refine qn (fun c k _ _ _ _ e => hm ?_) H2 (c1.trans c2)
        rw [← e]
        apply Int.fmod_eq_zero_of_dvd
        rw [hd]
        exact Int.dvd_add (Int.dvd_mul_of_dvd_right (Int.gcd_dvd_left a b)) (Int.dvd_mul_of_dvd_right (Int.gcd_dvd_right a b))
      · have F := fc_core hb hd hf hm
        have hTb := Int.natAbs_fdiv_le_natAbs t d
        generalize hpd : ((b.natAbs : Int).fdiv d) = pd at *
        have fd0 := F.d0
        have fdle := F.dle
        have fp0 := F.p0
        have fple := F.ple
        have fc0 := F.c0
        have fcp := F.cp
        walk_at "X"
        refine v_fd (fdS (by omega) (by omega) (by omega)) ?_
        rw [hpd]
        walk_at "X"
        refine v_fd (fdS (by omega) (by omega) (by omega)) ?_
        walk_at "X"
        refine v_mul (mulS (by omega) (by omega) (by omega) (by omega)) ?_
        walk_at "X"
        refine v_md (by omega) ?_
        generalize hcn : (t.fdiv d * f).fmod pd = cn at *
        walk_at "X"
        refine v_mul (mulS (by omega) (by omega) (by omega) (by omega)) ?_
        walk_at "X"
        refine v_fd (fdS (by omega) (by omega) (by omega)) ?_
        generalize hrs : (t - cn * a).fdiv b = rs at *
        walk_at "X"
        refine v_mul (mulS (by omega) (by omega) (by omega) (by omega)) ?_
        walk_at "X"
        refine v_fd (fdS (by omega) (by omega) (by omega)) ?_
        generalize hch : (pd * a).fdiv b = ch at *
        walk_at "X"
        refine ⟨1, cn, pd, rfl, by omega, ?_⟩
        walk_at "X"
        refine v_fd (fdS (by omega) (by omega) (by omega)) ?_
        walk_at "X"
        have hbd := F.bounds hb ⟨hab.1, hab.2.1⟩ ⟨hab.2.2.1, hab.2.2.2⟩ ht
        have n1 := Int.natAbs_fdiv_le_natAbs (cn - 1) pd
        refine x_iteD (fun hc => ?_) (fun hc => ?_)
        · have n2 := Int.natAbs_fdiv_le_natAbs (0 - (rs - l2)) ch
          walk_at "X"
          refine ⟨rs - l2, 0, ch, rfl, by omega, ?_⟩
          walk_at "X"
          refine v_fd (fdS (by omega) (by omega) (by omega)) ?_
          walk_at "X"
          refine x_iteD (fun hle => ?_) (fun hle => ?_)
          · have hx := (F.x_rg (l := l) (max (0 - (cn - 1).fdiv pd) (0 - (0 - (rs - l2)).fdiv ch))).mp ⟨by omega, by omega⟩
            have hy := (y_pos (l2 := l2) (rs := rs) hc (max (0 - (cn - 1).fdiv pd) (0 - (0 - (rs - l2)).fdiv ch))).mp ⟨by omega, by omega⟩
            walk_at "X"
            refine v_mul (mulS (by omega) (by omega) (by omega) (by omega)) ?_
            walk_at "X"
            refine v_mul (mulS (by omega) (by omega) (by omega) (by omega)) ?_
            walk_at "X"
            refine v_new fun p3 H3 np3 c3 hp3 => ?_
            walk_at "X"
            refine qs _ _ p3 H3 (F.least ⟨hx.1, hx.2, hy.1, hy.2, F.sol _⟩ fun s1 z1 z2 => ?_) ((c1.trans c2).free np3) ((c1.trans c2).trans c3) hp3
            have w1 := (F.x_rg (l := l) s1).mpr z1
            have w2 := (y_pos (l2 := l2) (rs := rs) hc s1).mpr z2
            omega
          · walk_at "X"
            refine qn (fun c k k1 k2 k3 k4 e => ?_) H2 (c1.trans c2)
            obtain ⟨s1, e1, e2⟩ := F.all c k e
            have hx := (F.x_rg (l := l) s1).mpr ⟨by omega, by omega⟩
            have hy := (y_pos (l2 := l2) (rs := rs) hc (s1)).mpr ⟨by omega, by omega⟩
            omega
        · walk_at "X"
          refine x_iteD (fun hc2 => ?_) (fun hc2 => ?_)
          · have n2 := Int.natAbs_fdiv_le_natAbs (rs - 1) (0 - ch)
            walk_at "X"
            refine ⟨1, rs, 0 - ch, rfl, by omega, ?_⟩
            walk_at "X"
            refine v_fd (fdS (by omega) (by omega) (by omega)) ?_
            walk_at "X"
            refine x_iteD (fun hle => ?_) (fun hle => ?_)
            · have hx := (F.x_rg (l := l) (max (0 - (cn - 1).fdiv pd) (0 - (rs - 1).fdiv (0 - ch)))).mp ⟨by omega, by omega⟩
              have hy := (y_neg (l2 := l2) (rs := rs) hc2 (max (0 - (cn - 1).fdiv pd) (0 - (rs - 1).fdiv (0 - ch)))).mp ⟨by omega, by omega⟩
              walk_at "X"
              refine v_mul (mulS (by omega) (by omega) (by omega) (by omega)) ?_
              walk_at "X"
              refine v_mul (mulS (by omega) (by omega) (by omega) (by omega)) ?_
              walk_at "X"
              refine v_new fun p3 H3 np3 c3 hp3 => ?_
              walk_at "X"
              refine qs _ _ p3 H3 (F.least ⟨hx.1, hx.2, hy.1, hy.2, F.sol _⟩ fun s1 z1 z2 => ?_) ((c1.trans c2).free np3) ((c1.trans c2).trans c3) hp3
              have w1 := (F.x_rg (l := l) s1).mpr z1
              have w2 := (y_neg (l2 := l2) (rs := rs) hc2 s1).mpr z2
              omega
            · walk_at "X"
              refine qn (fun c k k1 k2 k3 k4 e => ?_) H2 (c1.trans c2)
              obtain ⟨s1, e1, e2⟩ := F.all c k e
              have hx := (F.x_rg (l := l) s1).mpr ⟨by omega, by omega⟩
              have hy := (y_neg (l2 := l2) (rs := rs) hc2 (s1)).mpr ⟨by omega, by omega⟩
              omega
          · obtain rfl : ch = 0 := by omega
            have hno : (1 ≤ rs ∧ rs ≤ l2 → False) → ∀ c k, 1 ≤ c → c ≤ l → 1 ≤ k → k ≤ l2 → c * a + k * b ≠ t := fun h c k k1 k2 k3 k4 e => by
              obtain ⟨s1, e1, e2⟩ := F.all c k e
              exact h ⟨by omega, by omega⟩
            walk_at "X"
            refine x_iteD (fun h3 => ?_) (fun h3 => ?_)
            · walk_at "X"
              refine x_iteNB (fun h4 => ?_) (fun h4 => ?_)
              · walk_at "X"
                exact qn (hno fun z => by simp at h4; omega) H2 (c1.trans c2)
              · have h4' : rs ≤ l2 := by simpa using h4
                walk_at "X"
                refine x_iteD (fun hle => ?_) (fun hle => ?_)
                · have hx := (F.x_rg (l := l) (0 - (cn - 1).fdiv pd)).mp ⟨by omega, by omega⟩
                  walk_at "X"
                  refine v_mul (mulS (by omega) (by omega) (by omega) (by omega)) ?_
                  walk_at "X"
                  refine v_mul (mulS (by omega) (by omega) (by omega) (by omega)) ?_
                  walk_at "X"
                  refine v_new fun p3 H3 np3 c3 hp3 => ?_
                  walk_at "X"
                  refine qs _ _ p3 H3 (F.least ⟨hx.1, hx.2, by omega, by omega, F.sol _⟩ fun s1 z1 z2 => by have := (F.x_rg (l := l) s1).mpr z1; omega) ((c1.trans c2).free np3) ((c1.trans c2).trans c3) hp3
                · walk_at "X"
                  refine qn (fun c k k1 k2 k3 k4 e => ?_) H2 (c1.trans c2)
                  obtain ⟨s1, e1, e2⟩ := F.all c k e
                  have hx := (F.x_rg (l := l) s1).mpr ⟨by omega, by omega⟩
                  omega
            · walk_at "X"
              exact qn (hno fun z => by omega) H2 (c1.trans c2)
end U

set_option Elab.async false
set_option maxRecDepth 100000
set_option linter.all false
set_option pp.maxSteps 600
set_option pp.deepTerms false
set_option maxHeartbeats 4000000
namespace U
open PySem PySem.Spec PyProof.Rows L2
local macro_rules | `(tactic| walk_at "ne") => `(tactic| first | assumption | (refine Ne.symm ?_; assumption) | (refine' ne_of_none ?h (by assumption); (case h => walk_at "hp")) | (refine' Ne.symm (ne_of_none ?h (by assumption)); (case h => walk_at "hp")))
local macro_rules | `(tactic| walk_at "hp") => `(tactic| first | assumption | (refine' Ch.get0 (by assumption) ?h; (case h => walk_at "hp")) | (refine' Ch.get1 (by assumption) ?h ?n; (case h => walk_at "hp"); (case n => walk_at "ne")))
local macro_rules | `(tactic| walk_at "x") => `(tactic| first
  | with_reducible refine x_seq ?_ | with_reducible refine x_nx ?_ | with_reducible refine x_rt ?_ | with_reducible refine x_next ?_
  | with_reducible refine x_asg ?_ | ((with_reducible refine' x_gName ?e ?_); (case e => (simp only [wipe, List.map_cons, List.map_nil, List.set_cons_zero, List.set_cons_succ] <;> exact rfl))) | with_reducible refine x_par ?_ | ((with_reducible refine' v_par ?e ?_); (case e => (simp only [wipe, List.map_cons, List.map_nil, List.set_cons_zero, List.set_cons_succ] <;> exact rfl))) | with_reducible refine x_if ?_ | with_reducible refine x_ret ?_ | with_reducible refine x_retN ?_ | with_reducible refine x_drop ?_ | with_reducible refine x_brk ?_
  | with_reducible refine x_var (by with_unfolding_all rfl) ?_ | with_reducible refine x_c ?_ | with_reducible refine x_op ?_ | with_reducible refine x_un ?_
  | with_reducible refine x_test ?_ | with_reducible refine x_tB ?_ | with_reducible refine x_bl ?_ | with_reducible refine x_blk ?_ | with_reducible refine x_chain ?_
  | with_reducible refine x_and ?_ | with_reducible refine x_or ?_ | with_reducible refine x_not ?_ | with_reducible refine x_andV ?_ | with_reducible refine x_orV ?_ | with_reducible refine x_notV ?_ | with_reducible refine x_ifE ?_
  | with_reducible refine x_iteT ?_ | with_reducible refine x_iteF ?_ | with_reducible refine x_iteT2 ?_ | with_reducible refine x_iteF2 ?_
  | with_reducible refine x_call ?_ | with_reducible refine x_nil ?_ | with_reducible refine x_cons ?_ | with_reducible refine x_cb ?_ | with_reducible refine x_bm ?_ | with_reducible refine x_bm0 ?_ | with_reducible refine x_lstU ?_ | with_reducible refine x_tupU ?_ | with_reducible refine x_gSub ?_
  | with_reducible refine v_add ?_ | with_reducible refine v_I0 ?_ | with_reducible refine v_neg ?_ | with_reducible refine v_eqI ?_ | with_reducible refine v_neI ?_ | with_reducible refine v_eqS ?_ | with_reducible refine v_neS ?_ | with_reducible refine v_eqB ?_ | with_reducible refine v_neB ?_
  | with_reducible refine v_isN0 ?_ | with_reducible refine v_isNI ?_ | with_reducible refine v_isNS ?_ | with_reducible refine v_isNB ?_ | with_reducible refine v_isNR ?_ | with_reducible refine v_noN0 ?_ | with_reducible refine v_noNI ?_ | with_reducible refine v_noNS ?_ | with_reducible refine v_noNB ?_ | with_reducible refine v_noNR ?_ | with_reducible refine v_inS ?_ | with_reducible refine v_isB ?_ | with_reducible refine v_noB ?_
  | with_reducible refine x_pnil ?_ | with_reducible refine x_pcons ?_
  | with_reducible refine x_yes ?_ | ((with_reducible refine' x_wipe ?e ?_); (case e => rfl))
  | with_reducible refine v_abs ?_ | with_reducible refine v_max ?_ | with_reducible refine v_min ?_ | with_reducible refine v_gCons ?_ | with_reducible refine v_gNil ?_ | with_reducible refine x_for ?_ | with_reducible refine x_iList ?_ | with_reducible refine x_iTup ?_ | with_reducible refine x_iR1 ?_ | with_reducible refine x_iR2 ?_ | with_reducible refine x_lc ?_
  | with_reducible refine x_iStr ?_ | with_reducible refine v_iStr ?_ | with_reducible refine x_iKeys ?_ | with_reducible refine x_iItems ?_ | with_reducible refine x_dget ?_ | with_reducible refine x_din ?_ | with_reducible refine x_dnin ?_ | with_reducible refine x_dput ?_
  | ((with_reducible refine' isi_int ?k ?_); (case k => first | exact (show _ = some true by decide +kernel) | exact (show _ = some false by decide +kernel))) | ((with_reducible refine' isi_str ?k ?_); (case k => first | exact (show _ = some true by decide +kernel) | exact (show _ = some false by decide +kernel))) | ((with_reducible refine' isi_bl ?k ?_); (case k => first | exact (show _ = some true by decide +kernel) | exact (show _ = some false by decide +kernel))) | ((with_reducible refine' isi_non ?k ?_); (case k => first | exact (show _ = some true by decide +kernel) | exact (show _ = some false by decide +kernel)))
  | ((with_reducible refine' isi_tup ?h ?k ?_); (case h => walk_at "hp"); (case k => first | exact (show _ = some true by decide +kernel) | exact (show _ = some false by decide +kernel))) | ((with_reducible refine' isi_lst ?h ?k ?_); (case h => walk_at "hp"); (case k => first | exact (show _ = some true by decide +kernel) | exact (show _ = some false by decide +kernel))) | ((with_reducible refine' isi_dK ?h ?k ?_); (case h => walk_at "hp"); (case k => first | exact (show _ = some true by decide +kernel) | exact (show _ = some false by decide +kernel)))
  | ((with_reducible refine' v_gTup ?h ?l ?_); (case h => walk_at "hp"); (case l => rfl))
  | ((with_reducible refine' v_gUnl ?h ?l ?_); (case h => walk_at "hp"); (case l => rfl))
  | ((with_reducible refine' v_ixT' ?h ?l ?_); (case h => walk_at "hp"); (case l => with_unfolding_all rfl))
  | ((with_reducible refine' v_ixL' ?h ?l ?_); (case h => walk_at "hp"); (case l => with_unfolding_all rfl)))
local macro_rules | `(tactic| walk_at "X") => `(tactic| repeat walk_at "x")


/-- a writer, where its tuple stands, its count, its weight -/
abbrev UE := Str × Addr × Int × Int
def uK (us : List UE) : List (Key × V) := us.map fun x => (Sum.inr x.1, V.ref x.2.1)
/-- uniform weights at u -/
structure UniAt (H : Hp) (u : Addr) (us : List UE) : Prop where
  d : H u = some (.dK (uK us))
  t : ∀ x ∈ us, H x.2.1 = some (.tup [.int x.2.2.1, .int x.2.2.2])
  nd : (us.map (·.1)).Nodup
  wr : ∀ x ∈ us, IsW x.1
  b : ∀ x ∈ us, (0 ≤ x.2.2.1 ∧ x.2.2.1 ≤ 10 ^ 30) ∧ (-(10 ^ 32) ≤ x.2.2.2 ∧ x.2.2.2 ≤ 10 ^ 32)
  l : 1 ≤ us.length ∧ us.length ≤ 2
theorem UniAt.to {H H' : Hp} {u : Addr} {us : List UE} (h : UniAt H u us) (c : Ch [] H H') : UniAt H' u us := ⟨c.get0 h.d, fun x hx => c.get0 (h.t x hx), h.nd, h.wr, h.b, h.l⟩
theorem uK_len (us : List UE) : (uK us).length = us.length := by simp [uK]
theorem uK_get {us : List UE} {i : Nat} {x y : V} (h1 : (uK us)[i]?.map (fun kv => kV kv.1) = some x) (h2 : (uK us)[i]?.map Prod.snd = some y) : ∃ e, us[i]? = some e ∧ x = .str e.1 ∧ y = .ref e.2.1 := by
  simp only [uK, List.getElem?_map] at h1 h2
  cases e : us[i]? with
  | none => rw [e] at h1; cases h1
  | some z =>
    rw [e] at h1 h2
    exact ⟨z, rfl, (Option.some.inj h1).symm, (Option.some.inj h2).symm⟩
theorem UniAt.ne {H : Hp} {u : Addr} {us : List UE} (h : UniAt H u us) {x : UE} (hx : x ∈ us) : x.2.1 ≠ u := ne_of (h.t x hx) h.d (by intro z; cases z)
def sp_is_uniform (_ : PySem.W.Frag) : Sp := fun vs H Q _ => ∃ (u : Addr) (us : List UE), vs = [.ref u] ∧ UniAt H u us ∧ ∀ H', Ch [] H H' → Q (.bl true) H'
theorem ok_is_uniform {P : Program} {w : World} {K : PySem.W.Frag} {mg : Str → Option Value} {base : Heap} {Z : Ad} (T : Txt K mg Z) : FnOk P w K mg base CX0 2 Z.a_is_uniform Z.d_is_uniform ["value"] (sp_is_uniform K) := by
  refine T.F_is_uniform.ok sc_is_uniform (fun vs H Q E h => ?_) (fun cdv A outer s H vs Q E hr h => ?_)
  · obtain ⟨u, us, rfl, _⟩ := h
    rfl
  · have nd := sc_is_uniform.nd
    obtain ⟨u, us, rfl, U, q⟩ := h
    have hl := U.l
    have hd := U.d
    refine ⟨_, (pss_cons (ps_if (PW.pt (pw_or (pt_not (pt_val (pe_callB (isiK (K := K) rfl) (by rfl) T.b_isinstance (by decide +kernel) (pa_cons (pv 0) (pa_cons (pe_bltn (v := .ty "dict") (u := .type "dict") rfl T.b_dict (by decide +kernel) rfl) pa_nil))))) (pw_or1 (pt_not (pt_chain op_le op_le pe_int (pe_callB call_lenDU (by rfl) T.b_len (by decide +kernel) (pa_cons (pv 0) pa_nil)) (pe_g T.g_MOST_UNIFORM_WRITERS))))))
      (pss_one (ps_ret pe_bl))
      pss_nil)
    (pss_cons (ps_lock (ps_for PassesOwn.never rfl (pi_items (pv 0)) (pg_tupK (K := K) (n := 2) rfl rfl (pgs_cons (pg_name (i := 1) nd rfl (by first | exact Or.inl rfl | exact Or.inr rfl)) (pgs_cons (pg_name (i := 2) nd rfl (by first | exact Or.inl rfl | exact Or.inr rfl)) pgs_nil)) rfl rfl)
      (pss_cons (ps_if (PW.pt (pw_or (pt_not (pt_val (pe_call (ok_is_writer T) (hr.mono (by decide)) rfl T.m_is_writer T.F_is_writer.kp (bd_is_writer T) .nil pass0 (pa_cons (pv 1) pa_nil)))) (pw_or (pt_not (pt_val (pe_callB (isiK (K := K) rfl) (by rfl) T.b_isinstance (by decide +kernel) (pa_cons (pv 2) (pa_cons (pe_bltn (v := .ty "tuple") (u := .type "tuple") rfl T.b_tuple (by decide +kernel) rfl) pa_nil))))) (pw_or1 (pt_cmpR (op_neK (K := K) rfl hr.units) (pe_callB (lenK (K := K) rfl) (by rfl) T.b_len (by decide +kernel) (pa_cons (pv 2) pa_nil)) pe_int (nomark _))))))
        (pss_one (ps_ret pe_bl))
        pss_nil)
      (pss_one (ps_if (PW.pt (pw_or (pt_not (pt_val (pe_callD (ok_is_integer T) (hr.mono (by decide)) rfl T.m_is_integer T.F_is_integer.kp (bd_is_integer0 T) pass0 (pa_cons (pe_ix (ix_seqK (K := K) rfl) (pv 2) pe_int (fun _ _ => rfl)) (pa_cons pe_int (pa_cons (pe_g T.g_MOST_LINES) pa_nil)))))) (pw_or1 (pt_not (pt_val (pe_call (ok_is_any_integer T) (hr.mono (by decide)) rfl T.m_is_any_integer T.F_is_any_integer.kp (bd_is_any_integer T) .nil pass0 (pa_cons (pe_ix (ix_seqK (K := K) rfl) (pv 2) pe_int (fun _ _ => rfl)) pa_nil)))))))
        (pss_one (ps_ret pe_bl))
        pss_nil)))))
    (pss_one (ps_ret pe_bl)))), ?_⟩
    rw [st_is_uniform]
    walk_at "X"
    refine v_lenD hd ?_
    rw [uK_len]
    walk_at "X"
    refine x_iteP (by omega) ?_
    walk_at "X"
    refine x_iteQ (by omega) ?_
    walk_at "X"
    refine x_lock hd trivial fun od Hl hll cl => ?_
    walk_at "X"
    refine v_iItems hll ?_
    refine for_W walk_itemsT (fun i σ H' => ∃ w p, σ = [some (.ref u), w, p] ∧ H' u = some (.frz od (.dK (uK us))) ∧ Ch [u] H H') ⟨_, _, rfl, hll, cl⟩ (fun i σ H' _ ⟨_, _, _, h, _⟩ => h) ?_ ?_
    · rintro i x σ H1 H2 hi ⟨w0, p0, rfl, hu1, c1⟩ ⟨T0, x1, y1, rfl, hT, c2, h2, e1, e2⟩
      obtain ⟨e, he, rfl, rfl⟩ := uK_get e1 e2
      have hm : e ∈ us := List.mem_of_getElem? he
      have ht : H1 e.2.1 = some (.tup [.int e.2.2.1, .int e.2.2.2]) := c1.get1 (U.t e hm) (U.ne hm)
      have hb := U.b e hm
      walk_at "X"
      refine ⟨e.1, rfl, U.wr e hm, fun H3 c3 => ?_⟩
      walk_at "X"
      refine v_lenT' (n := 2) (by walk_at "hp") (by rfl) ?_
      walk_at "X"
      refine x_iteQ rfl ?_
      walk_at "X"
      refine ⟨_, _, _, rfl, by omega, ?_⟩
      walk_at "X"
      refine ⟨_, rfl, ?_⟩
      walk_at "X"
      exact ⟨_, _, rfl, c3.get0 (c2.get0 hu1), (c1.trans (c2.weak _)).trans (c3.weak _)⟩
    · rintro σ H1 ⟨w0, p0, rfl, hu1, c1⟩
      refine v_unS (S := []) hd c1 hu1 fun H2 c2 _ _ => ?_
      walk_at "X"
      exact q H2 c2
def sp_require_uniform (_ : PySem.W.Frag) : Sp := fun vs H Q _ => ∃ (u : Addr) (us : List UE) (t : Int), vs = [.ref u, .int t] ∧ UniAt H u us ∧ ∀ H', Ch [] H H' → Q .non H'
theorem ok_require_uniform {P : Program} {w : World} {K : PySem.W.Frag} {mg : Str → Option Value} {base : Heap} {Z : Ad} (T : Txt K mg Z) : FnOk P w K mg base CX0 3 Z.a_require_uniform Z.d_require_uniform ["uniform", "total"] (sp_require_uniform K) := by
  refine T.F_require_uniform.ok sc_require_uniform (fun vs H Q E h => ?_) (fun cdv A outer s H vs Q E hr h => ?_)
  · obtain ⟨u, us, t, rfl, _⟩ := h
    rfl
  · have nd := sc_require_uniform.nd
    obtain ⟨u, us, t, rfl, U, q⟩ := h
    refine ⟨_, (pss_cons (ps_if (pt_not (pt_val (pe_call (ok_is_uniform T) (hr.mono (by decide)) rfl T.m_is_uniform T.F_is_uniform.kp (bd_is_uniform T) .nil pass0 (pa_cons (pv 0) pa_nil))))
      (pss_one ps_never)
      pss_nil)
    (pss_one (ps_if (pt_not (pt_val (pe_call (ok_is_any_integer T) (hr.mono (by decide)) rfl T.m_is_any_integer T.F_is_any_integer.kp (bd_is_any_integer T) .nil pass0 (pa_cons (pv 1) pa_nil))))
      (pss_one ps_never)
      pss_nil))), ?_⟩
    rw [st_require_uniform]
    walk_at "X"
    refine ⟨u, us, rfl, U, fun H1 c1 => ?_⟩
    walk_at "X"
    refine ⟨t, rfl, ?_⟩
    walk_at "X"
    exact q H1 c1
end U

set_option Elab.async false
set_option maxRecDepth 100000
set_option linter.all false
set_option pp.maxSteps 600
set_option pp.deepTerms false
set_option maxHeartbeats 4000000
namespace U
open PySem PySem.Spec PyProof.Rows L2
local macro_rules | `(tactic| walk_at "ne") => `(tactic| first | assumption | (refine Ne.symm ?_; assumption) | (refine' ne_of_none ?h (by assumption); (case h => walk_at "hp")) | (refine' Ne.symm (ne_of_none ?h (by assumption)); (case h => walk_at "hp")))
local macro_rules | `(tactic| walk_at "hp") => `(tactic| first | assumption | (refine' Ch.get0 (by assumption) ?h; (case h => walk_at "hp")) | (refine' Ch.get1 (by assumption) ?h ?n; (case h => walk_at "hp"); (case n => walk_at "ne")))
local macro_rules | `(tactic| walk_at "x") => `(tactic| first
  | with_reducible refine x_seq ?_ | with_reducible refine x_nx ?_ | with_reducible refine x_rt ?_ | with_reducible refine x_next ?_
  | with_reducible refine x_asg ?_ | ((with_reducible refine' x_gName ?e ?_); (case e => (simp only [wipe, List.map_cons, List.map_nil, List.set_cons_zero, List.set_cons_succ] <;> exact rfl))) | with_reducible refine x_par ?_ | ((with_reducible refine' v_par ?e ?_); (case e => (simp only [wipe, List.map_cons, List.map_nil, List.set_cons_zero, List.set_cons_succ] <;> exact rfl))) | with_reducible refine x_if ?_ | with_reducible refine x_ret ?_ | with_reducible refine x_retN ?_ | with_reducible refine x_drop ?_ | with_reducible refine x_brk ?_
  | with_reducible refine x_var (by with_unfolding_all rfl) ?_ | with_reducible refine x_c ?_ | with_reducible refine x_op ?_ | with_reducible refine x_un ?_
  | with_reducible refine x_test ?_ | with_reducible refine x_tB ?_ | with_reducible refine x_bl ?_ | with_reducible refine x_blk ?_ | with_reducible refine x_chain ?_
  | with_reducible refine x_and ?_ | with_reducible refine x_or ?_ | with_reducible refine x_not ?_ | with_reducible refine x_andV ?_ | with_reducible refine x_orV ?_ | with_reducible refine x_notV ?_ | with_reducible refine x_ifE ?_
  | with_reducible refine x_iteT ?_ | with_reducible refine x_iteF ?_ | with_reducible refine x_iteT2 ?_ | with_reducible refine x_iteF2 ?_
  | with_reducible refine x_call ?_ | with_reducible refine x_nil ?_ | with_reducible refine x_cons ?_ | with_reducible refine x_cb ?_ | with_reducible refine x_bm ?_ | with_reducible refine x_bm0 ?_ | with_reducible refine x_lstU ?_ | with_reducible refine x_tupU ?_ | with_reducible refine x_gSub ?_
  | with_reducible refine v_add ?_ | with_reducible refine v_I0 ?_ | with_reducible refine v_neg ?_ | with_reducible refine v_eqI ?_ | with_reducible refine v_neI ?_ | with_reducible refine v_eqS ?_ | with_reducible refine v_neS ?_ | with_reducible refine v_eqB ?_ | with_reducible refine v_neB ?_
  | with_reducible refine v_isN0 ?_ | with_reducible refine v_isNI ?_ | with_reducible refine v_isNS ?_ | with_reducible refine v_isNB ?_ | with_reducible refine v_isNR ?_ | with_reducible refine v_noN0 ?_ | with_reducible refine v_noNI ?_ | with_reducible refine v_noNS ?_ | with_reducible refine v_noNB ?_ | with_reducible refine v_noNR ?_ | with_reducible refine v_inS ?_ | with_reducible refine v_isB ?_ | with_reducible refine v_noB ?_
  | with_reducible refine x_pnil ?_ | with_reducible refine x_pcons ?_
  | with_reducible refine x_yes ?_ | ((with_reducible refine' x_wipe ?e ?_); (case e => rfl))
  | with_reducible refine v_abs ?_ | with_reducible refine v_max ?_ | with_reducible refine v_min ?_ | with_reducible refine v_gCons ?_ | with_reducible refine v_gNil ?_ | with_reducible refine x_for ?_ | with_reducible refine x_iList ?_ | with_reducible refine x_iTup ?_ | with_reducible refine x_iR1 ?_ | with_reducible refine x_iR2 ?_ | with_reducible refine x_lc ?_
  | with_reducible refine x_iStr ?_ | with_reducible refine v_iStr ?_ | with_reducible refine x_iKeys ?_ | with_reducible refine x_iItems ?_ | with_reducible refine x_dget ?_ | with_reducible refine x_din ?_ | with_reducible refine x_dnin ?_ | with_reducible refine x_dput ?_
  | ((with_reducible refine' isi_int ?k ?_); (case k => first | exact (show _ = some true by decide +kernel) | exact (show _ = some false by decide +kernel))) | ((with_reducible refine' isi_str ?k ?_); (case k => first | exact (show _ = some true by decide +kernel) | exact (show _ = some false by decide +kernel))) | ((with_reducible refine' isi_bl ?k ?_); (case k => first | exact (show _ = some true by decide +kernel) | exact (show _ = some false by decide +kernel))) | ((with_reducible refine' isi_non ?k ?_); (case k => first | exact (show _ = some true by decide +kernel) | exact (show _ = some false by decide +kernel)))
  | ((with_reducible refine' isi_tup ?h ?k ?_); (case h => walk_at "hp"); (case k => first | exact (show _ = some true by decide +kernel) | exact (show _ = some false by decide +kernel))) | ((with_reducible refine' isi_lst ?h ?k ?_); (case h => walk_at "hp"); (case k => first | exact (show _ = some true by decide +kernel) | exact (show _ = some false by decide +kernel))) | ((with_reducible refine' isi_dK ?h ?k ?_); (case h => walk_at "hp"); (case k => first | exact (show _ = some true by decide +kernel) | exact (show _ = some false by decide +kernel)))
  | ((with_reducible refine' v_gTup ?h ?l ?_); (case h => walk_at "hp"); (case l => rfl))
  | ((with_reducible refine' v_gUnl ?h ?l ?_); (case h => walk_at "hp"); (case l => rfl))
  | ((with_reducible refine' v_ixT' ?h ?l ?_); (case h => walk_at "hp"); (case l => with_unfolding_all rfl))
  | ((with_reducible refine' v_ixL' ?h ?l ?_); (case h => walk_at "hp"); (case l => with_unfolding_all rfl)))
local macro_rules | `(tactic| walk_at "X") => `(tactic| repeat walk_at "x")


theorem strOk_W {z : Str} (h : IsW z) : PyData.strOk z = true := by
  unfold PyData.strOk
  rw [Array.all_eq_true']
  intro c hc
  have h1 := h.2.2 c (Array.mem_def.mp hc)
  have h2 : ∀ c ∈ letC, c < 0x110000 := by decide +kernel
  exact decide_eq_true (h2 c h1)
/-- a writer's count and weight -/
def valOf (us : List UE) (z : Str) : Int × Int := match us.find? (fun e => decide (e.1 = z)) with
  | some e => e.2.2
  | none => (0, 0)
theorem find_nd {α : Type} {us : List α} {g : α → Str} (hn : (us.map g).Nodup) {e : α} (he : e ∈ us) : us.find? (fun x => decide (g x = g e)) = some e := by
  induction us with
  | nil => cases he
  | cons x us ih =>
    rw [List.map_cons, List.nodup_cons] at hn
    rw [List.find?_cons]
    rcases List.mem_cons.mp he with rfl | he
    · simp
    · have : g x ≠ g e := fun z => hn.1 (z ▸ List.mem_map_of_mem he)
      simp only [this, decide_false]
      exact ih hn.2 he
theorem valOf_of {us : List UE} (hn : (us.map (·.1)).Nodup) {e : UE} (he : e ∈ us) : valOf us e.1 = e.2.2 := by
  unfold valOf
  rw [find_nd (g := fun x : UE => x.1) hn he]
theorem valV_of {us : List UE} (hn : (us.map (·.1)).Nodup) {e : UE} (he : e ∈ us) : valV (uK us) (Sum.inr e.1 : Key) = some (.ref e.2.1) := by
  unfold valV uK
  rw [List.find?_map]
  have : ((fun kv : Key × V => decide (kv.1 = (Sum.inr e.1 : Key))) ∘ fun x : UE => ((Sum.inr x.1 : Key), V.ref x.2.1)) = fun x : UE => decide (x.1 = e.1) := by
    funext x
    simp
  rw [this, find_nd (g := fun x : UE => x.1) hn he]
  rfl
/-- what comes back: None, or writers with their intervals -/
def wsOf (val : Str → Int × Int) (ys : List Str) : List Str := ys.filter fun z => decide (0 < (val z).1)
inductive Res (val : Str → Int × Int) (ys : List Str) (t : Int) : Option (List (Str × List (Int × Int))) → Prop where
  | e0 (h : wsOf val ys = []) (ht : t = 0) : Res val ys t (some [])
  | eN (h : wsOf val ys = []) (ht : t ≠ 0) : Res val ys t none
  | whole (z : Str) (h : (wsOf val ys).find? (fun z => decide ((val z).1 * (val z).2 = t)) = some z) : Res val ys t (some [(z, [(1, (val z).1)])])
  | one (x : Str) (h0 : (wsOf val ys).find? (fun z => decide ((val z).1 * (val z).2 = t)) = none) (h : wsOf val ys = [x]) : Res val ys t none
  | two (x y : Str) (c k : Int) (h0 : (wsOf val ys).find? (fun z => decide ((val z).1 * (val z).2 = t)) = none) (h : wsOf val ys = [x, y]) (hl : Least (val x).1 (val x).2 (val y).1 (val y).2 t c k) :
      Res val ys t (some [(x, [(1, c)]), (y, [((val y).1 - k + 1, (val y).1)])])
  | twoN (x y : Str) (h0 : (wsOf val ys).find? (fun z => decide ((val z).1 * (val z).2 = t)) = none) (h : wsOf val ys = [x, y]) (hn : ∀ c k, ¬ Sol (val x).1 (val x).2 (val y).1 (val y).2 t c k) : Res val ys t none
/-- a line set: a writer, where its list stands, its intervals with their tuples' places -/
abbrev LE := Str × Addr × List (Addr × Int × Int)
def lK (ls : List LE) : List (Key × V) := ls.map fun e => (Sum.inr e.1, V.ref e.2.1)
structure LsAt (H : Hp) (d : Addr) (ls : List LE) : Prop where
  d : H d = some (.dK (lK ls))
  l : ∀ e ∈ ls, H e.2.1 = some (.lst (e.2.2.map fun q => V.ref q.1))
  t : ∀ e ∈ ls, ∀ q ∈ e.2.2, H q.1 = some (.tup [.int q.2.1, .int q.2.2])
def erL (ls : List LE) : List (Str × List (Int × Int)) := ls.map fun e => (e.1, e.2.2.map (·.2))
theorem LsAt.to {H H' : Hp} {d : Addr} {ls : List LE} (h : LsAt H d ls) (c : Ch [] H H') : LsAt H' d ls := ⟨c.get0 h.d, fun e he => c.get0 (h.l e he), fun e he q hq => c.get0 (h.t e he q hq)⟩
/-- a result: None, or a new line set -/
def RAt (H H' : Hp) (v : V) (r : Option (List (Str × List (Int × Int)))) : Prop := (v = .non ∧ r = none) ∨ ∃ d ls, v = .ref d ∧ H d = none ∧ LsAt H' d ls ∧ r = some (erL ls) ∧ ∀ e ∈ ls, H e.2.1 = none
def sp_lines_with_weight (_ : PySem.W.Frag) : Sp := fun vs H Q _ => ∃ (u : Addr) (us : List UE) (t : Int), vs = [.ref u, .int t] ∧ UniAt H u us ∧ (-(10 ^ 80) ≤ t ∧ t ≤ 10 ^ 80) ∧
  ∀ ys r v H', ys.Perm (us.map (·.1)) → sortedS ys = true → Res (valOf us) ys t r → Ch [] H H' → RAt H H' v r → Q v H'
theorem ok_lines_with_weight {P : Program} {w : World} {K : PySem.W.Frag} {mg : Str → Option Value} {base : Heap} {Z : Ad} (T : Txt K mg Z) : FnOk P w K mg base CX0 4 Z.a_lines_with_weight Z.d_lines_with_weight ["uniform", "total"] (sp_lines_with_weight K) := by
  refine T.F_lines_with_weight.ok sc_lines_with_weight (fun vs H Q E h => ?_) (fun cdv A outer s H vs Q E hr h => ?_)
  · obtain ⟨u, us, t, rfl, _⟩ := h
    rfl
  · have nd := sc_lines_with_weight.nd
    have hu := hu_of hr
    obtain ⟨u, us, t, rfl, U, ht, q⟩ := h
    refine ⟨_, (pss_cons (ps_expr (pe_call (ok_require_uniform T) (hr.mono (by decide)) rfl T.m_require_uniform T.F_require_uniform.kp (bd_require_uniform T) .nil pass0 (pa_cons (pv 0) (pa_cons (pv 1) pa_nil))))
    (pss_cons (ps_setLc (i := 2) (own := [("writer", 3)]) (g := gName 3) (by rfl) nd rfl rfl (sw_true rfl rfl rfl (by decide +kernel)) (pi_listK (K := K) rfl (pe_callB (call_sortD rfl) (by rfl) T.b_sorted (by decide +kernel) (pa_cons (pv 0) pa_nil))) (blkOk_by (own := [("writer", 3)]) (N := N_lines_with_weight) (sc := defScope s_lines_with_weight) (by decide +kernel)) (fun _ _ _ _ _ => pg_name (i := 3) nd rfl (by first | exact Or.inl rfl | exact Or.inr rfl)) (fun _ _ _ _ _ => (pts_one (pt_cmpR op_gt (pe_ix (ix_seqK (K := K) rfl) (pe_dget hu (pv 0) (pv 3) (fun _ _ => rfl)) pe_int (fun _ _ => rfl)) pe_int (nomark _)))) (fun _ _ _ _ _ => (pv 3)))
    (pss_cons (ps_if (pt_cmpR (op_eqK (K := K) rfl hr.units) (pv 2) (pe_lst pa_nil) (nomark _))
      (pss_one (ps_ret (pe_ifExp (pt_cmpR (op_eqK (K := K) rfl hr.units) (pv 1) pe_int (nomark _)) pe_dnewK pe_non)))
      pss_nil)
    (pss_cons (ps_for PassesOwn.never rfl (pi_listK (K := K) rfl (pv 2)) (pg_name (i := 3) nd rfl (by first | exact Or.inl rfl | exact Or.inr rfl))
      (pss_one (ps_if (pt_cmpR (op_eqK (K := K) rfl hr.units) (pe_op op_mulU (pe_ix (ix_seqK (K := K) rfl) (pe_dget hu (pv 0) (pv 3) (fun _ _ => rfl)) pe_int (fun _ _ => rfl)) (pe_ix (ix_seqK (K := K) rfl) (pe_dget hu (pv 0) (pv 3) (fun _ _ => rfl)) pe_int (fun _ _ => rfl))) (pv 1) (nomark _))
        (pss_one (ps_ret (pe_disp (pps_cons (pv 3) (pe_lst (pa_cons (pe_tup (pa_cons pe_int (pa_cons (pe_ix (ix_seqK (K := K) rfl) (pe_dget hu (pv 0) (pv 3) (fun _ _ => rfl)) pe_int (fun _ _ => rfl)) pa_nil))) pa_nil)) pps_nil) (by rfl) (by rfl) (fun z => by cases z) (by decide))))
        pss_nil)))
    (pss_cons (ps_if (pt_cmpR (op_eqK (K := K) rfl hr.units) (pe_callB (lenK (K := K) rfl) (by rfl) T.b_len (by decide +kernel) (pa_cons (pv 2) pa_nil)) pe_int (nomark _))
      (pss_one (ps_ret pe_non))
      pss_nil)
    (pss_cons (ps_asg (pv 2) (pg_unlK (K := K) (n := 2) rfl rfl (pgs_cons (pg_name (i := 4) nd rfl (by first | exact Or.inl rfl | exact Or.inr rfl)) (pgs_cons (pg_name (i := 5) nd rfl (by first | exact Or.inl rfl | exact Or.inr rfl)) pgs_nil)) rfl rfl))
    (pss_cons (ps_set (i := 6) nd rfl (by first | exact Or.inl rfl | exact Or.inr rfl) (pe_call (ok_find_counts T) (hr.mono (by decide)) rfl T.m_find_counts T.F_find_counts.kp (bd_find_counts T) .nil pass0 (pa_cons (pe_dget hu (pv 0) (pv 4) (fun _ _ => rfl)) (pa_cons (pe_dget hu (pv 0) (pv 5) (fun _ _ => rfl)) (pa_cons (pv 1) pa_nil)))))
    (pss_cons (ps_if (pt_cmpR op_isN1 (pv 6) pe_non (nomark _))
      (pss_one (ps_ret pe_non))
      pss_nil)
    (pss_cons (ps_set (i := 7) nd rfl (by first | exact Or.inl rfl | exact Or.inr rfl) (pe_ix (ix_seqK (K := K) rfl) (pe_dget hu (pv 0) (pv 5) (fun _ _ => rfl)) pe_int (fun _ _ => rfl)))
    (pss_one (ps_ret (pe_disp (pps_cons (pv 4) (pe_lst (pa_cons (pe_tup (pa_cons pe_int (pa_cons (pe_ix (ix_seqK (K := K) rfl) (pv 6) pe_int (fun _ _ => rfl)) pa_nil))) pa_nil)) (pps_cons (pv 5) (pe_lst (pa_cons (pe_tup (pa_cons (pe_op op_addU (pe_op op_sub (pv 7) (pe_ix (ix_seqK (K := K) rfl) (pv 6) pe_int (fun _ _ => rfl))) pe_int) (pa_cons (pv 7) pa_nil))) pa_nil)) pps_nil)) (by rfl) (by rfl) (fun z => by cases z) (by decide))))))))))))), ?_⟩
    rw [st_lines_with_weight]
    walk_at "X"
    refine ⟨u, us, t, rfl, U, fun H1 c1 => ?_⟩
    have U1 := U.to c1
    walk_at "X"
    refine v_sortD (us.map (·.1)) (.of U1.d) (by simp [uK]) (by rw [List.length_map]; have := U.l; omega) fun ys p H2 hperm hsort np c2 hp => ?_
    have U2 := U1.to c2
    refine v_iList (.of hp) ?_
    intro D hD
    have of_y : ∀ z ∈ ys, ∃ e ∈ us, e.1 = z := fun z hz => by
      have := hperm.mem_iff.mp hz
      obtain ⟨e, he, h⟩ := List.mem_map.mp this
      exact ⟨e, he, h⟩
    have lenY : ys.length ≤ 2 := by
      rw [hperm.length_eq, List.length_map]
      exact U.l.2
    refine lc_W (vs := [3]) walk_list [] (fun i acc H' => acc = (wsOf (valOf us) (ys.take i)).map V.str) hD (fun H' c => seqC c (.of hp)) (fun _ _ => rfl) ?_ ?_
    · rintro i x acc H' H3 hi hl hle hc rfl ⟨rfl, hx⟩
      rw [List.getElem?_map] at hx
      obtain ⟨z, hz, rfl⟩ := Option.map_eq_some_iff.mp hx
      obtain ⟨e, he, rfl⟩ := of_y z (List.mem_of_getElem? hz)
      have U3 := U2.to hc
      walk_at "X"
      refine v_dgetS (.of U3.d) (valV_of U.nd he) ?_
      have ht3 := U3.t e he
      walk_at "X"
      have ev := valOf_of U.nd he
      have etake : ys.take (i + 1) = ys.take i ++ [e.1] := by
        rw [List.take_add_one, hz]
        rfl
      refine x_iteD (fun h0 => ?_) (fun h0 => ?_)
      · walk_at "X"
        refine lcW_next hD hl (by have := lenY; rw [List.length_map] at hi; omega) hle hc fun H4 _ _ => ?_
        rw [etake]
        unfold wsOf
        rw [List.filter_append, List.map_append]
        simp [ev, h0]
      · refine ⟨_, hl, by omega, hc, ?_⟩
        show List.map V.str _ = List.map V.str (wsOf (valOf us) (ys.take (i + 1)))
        rw [etake]
        unfold wsOf
        rw [List.filter_append, List.map_append]
        simp [ev, h0]
    · rintro acc H3 hl hle hc rfl
      rw [List.length_map, List.take_length] at hl
      walk_at "X"
      have wlen : (wsOf (valOf us) ys).length ≤ 2 := Nat.le_trans (List.length_filter_le _ _) lenY
      have of_w : ∀ z ∈ wsOf (valOf us) ys, ∃ e ∈ us, e.1 = z ∧ 0 < e.2.2.1 := fun z hz => by
        obtain ⟨h1, h2⟩ := List.mem_filter.mp hz
        obtain ⟨e, he, rfl⟩ := of_y z h1
        rw [valOf_of U.nd he] at h2
        exact ⟨e, he, rfl, of_decide_eq_true h2⟩
      have nodupY : ys.Nodup := hperm.nodup_iff.mpr U.nd
      have nodupW : (wsOf (valOf us) ys).Nodup := nodupY.filter _
      generalize hws : wsOf (valOf us) ys = ws at *
      have c3 : Ch [] H H3 := (c1.trans c2).trans hc
      have U3 := U2.to hc
      refine v_new fun p4 H4 np4 c4 hp4 => ?_
      have hD4 : H4 D = some (.lst (ws.map V.str)) := c4.get0 hl
      have U4 := U3.to c4
      refine v_eqD 1 (dp_strs hD4) (dp_nil hp4) (tm_strs fun z hz => ?_) tm_nil (fun he => ?_) (fun he => ?_)
      · obtain ⟨e, he, rfl, _⟩ := of_w z hz
        exact strOk_W (U.wr e he)
      · have hw0 : ws = [] := by simpa using he
        walk_at "X"
        refine x_iteD (fun h0 => ?_) (fun h0 => ?_)
        · refine x_dnew fun p5 H5 np5 c5 hp5 => ?_
          exact q ys _ _ H5 hperm hsort (.e0 (hws.trans hw0) h0) ((c3.trans c4).trans c5) (.inr ⟨p5, [], rfl, (c3.trans c4).free np5, ⟨hp5, by simp, by simp⟩, rfl, by simp⟩)
        · walk_at "X"
          exact q ys _ _ H4 hperm hsort (.eN (hws.trans hw0) h0) (c3.trans c4) (.inl ⟨rfl, rfl⟩)
      · have hw0 : ws ≠ [] := fun z => he (by rw [z]; rfl)
        walk_at "X"
        refine v_iList (.of hD4) ?_
        refine for_W walk_list (fun i σ H' => ∃ wv, σ = [some (.ref u), some (.int t), some (.ref D), wv, none, none, none, none] ∧ Ch [] H4 H' ∧ ∀ j z, j < i → ws[j]? = some z → (valOf us z).1 * (valOf us z).2 ≠ t) ⟨_, rfl, .refl _ _, fun j z h => by omega⟩ (fun i σ H' _ ⟨_, _, c, _⟩ => seqC c (.of hD4)) ?_ ?_
        · rintro i x σ H5b H5 hi ⟨wv, rfl, c5, hno⟩ ⟨rfl, hx⟩
          rw [List.getElem?_map] at hx
          obtain ⟨z, hz, rfl⟩ := Option.map_eq_some_iff.mp hx
          obtain ⟨e, he, rfl, hpos⟩ := of_w z (List.mem_of_getElem? hz)
          have U5 := U4.to c5
          have ht5 := U5.t e he
          have hb := U.b e he
          have ev := valOf_of U.nd he
          walk_at "X"
          refine v_dgetS (.of U5.d) (valV_of U.nd he) ?_
          walk_at "X"
          refine v_dgetS (.of U5.d) (valV_of U.nd he) ?_
          walk_at "X"
          refine v_mul (mulS (by omega) (by omega) (by omega) (by omega)) ?_
          walk_at "X"
          refine x_iteD (fun h1 => ?_) (fun h1 => ?_)
          · walk_at "X"
            refine x_disp fun d6 H6 nd6 c6 hd6 => ?_
            walk_at "X"
            refine v_dgetS (.of (U5.to c6).d) (valV_of U.nd he) ?_
            have ht6 := (U5.to c6).t e he
            walk_at "X"
            refine v_new fun t7 H7 nt7 c7 ht7 => ?_
            walk_at "X"
            refine v_new fun l8 H8 nl8 c8 hl8 => ?_
            walk_at "X"
            refine v_dispE (kvs := [(Sum.inr e.1, .ref l8)]) (by walk_at "hp") rfl (by simp) fun H9 c9 hd9 => ?_
            have f5 : Ch [] H H5 := (c3.trans c4).trans c5
            have f9 : Ch [d6] H5 H9 := (((c6.trans c7).trans c8).weak [d6]).trans c9
            refine q ys _ _ H9 hperm hsort (.whole e.1 ?_) (f5.trans (f9.drop nd6)) (.inr ⟨d6, [(e.1, l8, [(t7, 1, e.2.2.1)])], rfl, f5.free nd6, ⟨hd9, ?_, ?_⟩, ?_, ?_⟩)
            · rw [hws, List.find?_eq_some_iff_getElem]
              have hi' : i < ws.length := by simpa using hi
              refine ⟨by simp only [ev]; exact decide_eq_true h1, i, hi', ?_, fun j hj => ?_⟩
              · have := List.getElem?_eq_getElem hi'
                rw [hz] at this
                exact (Option.some.inj this).symm
              · have := hno j ws[j] hj (List.getElem?_eq_getElem (by omega))
                simp [this]
            · intro x hx
              obtain rfl := List.mem_singleton.mp hx
              exact c9.get1 hl8 (by walk_at "ne")
            · intro x hx y hy
              obtain rfl := List.mem_singleton.mp hx
              obtain rfl := List.mem_singleton.mp hy
              exact c9.get1 (c8.get0 ht7) (by walk_at "ne")
            · rw [ev]
              rfl
            · intro x hx
              obtain rfl := List.mem_singleton.mp hx
              exact (f5.trans (c6.trans c7)).free nl8
          · walk_at "X"
            refine ⟨_, rfl, c5, fun j z hj hz' => ?_⟩
            rcases Nat.lt_succ_iff_lt_or_eq.mp hj with hj | rfl
            · exact hno j z hj hz'
            · rw [hz] at hz'
              cases hz'
              rw [ev]
              exact h1
        · rintro σ H5 ⟨wv, rfl, c5, hno⟩
          have h0 : ws.find? (fun z => decide ((valOf us z).1 * (valOf us z).2 = t)) = none := by
            rw [List.find?_eq_none]
            intro z hz
            obtain ⟨j, hj, rfl⟩ := List.getElem_of_mem hz
            have := hno j ws[j] (by rw [List.length_map]; exact hj) (List.getElem?_eq_getElem hj)
            simp [this]
          have hD5 := c5.get0 hD4
          have U5 := U4.to c5
          have f5 : Ch [] H H5 := (c3.trans c4).trans c5
          walk_at "X"
          refine v_lenL' (n := ws.length) hD5 (by rw [List.length_map]) ?_
          walk_at "X"
          refine x_iteD (fun h1 => ?_) (fun h1 => ?_)
          · obtain ⟨x, hx⟩ := List.length_eq_one_iff.mp (show ws.length = 1 by omega)
            walk_at "X"
            exact q ys _ _ H5 hperm hsort (.one x (by rw [hws]; exact h0) (hws.trans hx)) f5 (.inl ⟨rfl, rfl⟩)
          · obtain ⟨x, y, hxy⟩ : ∃ x y, ws = [x, y] := by
              match ws, hw0, wlen, h1 with
              | [x, y], _, _, _ => exact ⟨x, y, rfl⟩
              | [x], _, _, h1 => exact absurd rfl h1
              | [], h, _, _ => exact absurd rfl h
            subst hxy
            obtain ⟨ex, hex, rfl, hpx⟩ := of_w x (by simp)
            obtain ⟨ey, hey, rfl, hpy⟩ := of_w y (by simp)
            have hxne : ex.1 ≠ ey.1 := by
              have := nodupW
              simp only [List.nodup_cons, List.mem_singleton] at this
              exact this.1
            have hbx := U.b ex hex
            have hby := U.b ey hey
            have evx := valOf_of U.nd hex
            have evy := valOf_of U.nd hey
            have htx := U5.t ex hex
            have hty := U5.t ey hey
            have hD5' : H5 D = some (.lst [V.str ex.1, V.str ey.1]) := hD5
            walk_at "X"
            refine v_dgetS (.of U5.d) (valV_of U.nd hex) ?_
            walk_at "X"
            refine v_dgetS (.of U5.d) (valV_of U.nd hey) ?_
            walk_at "X"
            refine ⟨_, _, _, _, _, _, _, rfl, htx, hty, ⟨by omega, by omega, by omega, by omega⟩, ⟨by omega, by omega, by omega, by omega⟩, ht, fun c k p6 H6 hL np6 c6 hp6 => ?_, fun hn H6 c6 => ?_⟩
            · walk_at "X"
              have U6 := U5.to c6
              refine v_dgetS (.of U6.d) (valV_of U.nd hey) ?_
              have hty6 := U6.t ey hey
              walk_at "X"
              refine x_disp fun d7 H7 nd7 c7 hd7 => ?_
              walk_at "X"
              refine v_new fun t8 H8 nt8 c8 ht8 => ?_
              walk_at "X"
              refine v_new fun l9 H9 nl9 c9 hl9 => ?_
              walk_at "X"
              refine v_new fun t10 H10 nt10 c10 ht10 => ?_
              walk_at "X"
              refine v_new fun l11 H11 nl11 c11 hl11 => ?_
              walk_at "X"
              refine v_dispE (kvs := [(Sum.inr ex.1, .ref l9), (Sum.inr ey.1, .ref l11)]) (by walk_at "hp") rfl (by simp) fun H12 c12 hd12 => ?_
              have f6 : Ch [] H H6 := f5.trans c6
              have f12 : Ch [d7] H6 H12 := (((((c7.trans c8).trans c9).trans c10).trans c11).weak [d7]).trans c12
              have hm : mergeK [] [((Sum.inr ex.1 : Key), V.ref l9), (Sum.inr ey.1, V.ref l11)] = [(Sum.inr ex.1, .ref l9), (Sum.inr ey.1, .ref l11)] := by
                have : (Sum.inr ex.1 : Key) ≠ Sum.inr ey.1 := fun z => hxne (Sum.inr.inj z)
                simp [mergeK, putK, this]
              rw [hm] at hd12
              refine q ys _ _ H12 hperm hsort (.two ex.1 ey.1 c k (by rw [hws]; exact h0) hws (by rw [evx, evy]; exact hL)) (f6.trans (f12.drop nd7))
                (.inr ⟨d7, [(ex.1, l9, [(t8, 1, c)]), (ey.1, l11, [(t10, ey.2.2.1 - k + 1, ey.2.2.1)])], rfl, f6.free nd7, ⟨hd12, ?_, ?_⟩, ?_, ?_⟩)
              · intro x hx
                rcases List.mem_cons.mp hx with rfl | hx
                · exact c12.get1 (by walk_at "hp") (by walk_at "ne")
                · obtain rfl := List.mem_singleton.mp hx
                  exact c12.get1 (by walk_at "hp") (by walk_at "ne")
              · intro x hx z hz
                rcases List.mem_cons.mp hx with rfl | hx
                · obtain rfl := List.mem_singleton.mp hz
                  exact c12.get1 (by walk_at "hp") (by walk_at "ne")
                · obtain rfl := List.mem_singleton.mp hx
                  obtain rfl := List.mem_singleton.mp hz
                  exact c12.get1 (by walk_at "hp") (by walk_at "ne")
              · rw [evy]
                rfl
              · intro x hx
                rcases List.mem_cons.mp hx with rfl | hx
                · exact (f6.trans (c7.trans c8)).free nl9
                · obtain rfl := List.mem_singleton.mp hx
                  exact (f6.trans (((c7.trans c8).trans c9).trans c10)).free nl11
            · walk_at "X"
              exact q ys _ _ H6 hperm hsort (.twoN ex.1 ey.1 (by rw [hws]; exact h0) hws (fun c k z => by rw [evx, evy] at z; exact hn c k z.1 z.2.1 z.2.2.1 z.2.2.2.1 z.2.2.2.2)) (f5.trans c6) (.inl ⟨rfl, rfl⟩)

def sp_is_reachable_weight (_ : PySem.W.Frag) : Sp := fun vs H Q _ => ∃ (u : Addr) (us : List UE) (t : Int), vs = [.ref u, .int t] ∧ UniAt H u us ∧ (-(10 ^ 80) ≤ t ∧ t ≤ 10 ^ 80) ∧
  ∀ ys r H', ys.Perm (us.map (·.1)) → sortedS ys = true → Res (valOf us) ys t r → Ch [] H H' → Q (.bl r.isSome) H'
theorem ok_is_reachable_weight {P : Program} {w : World} {K : PySem.W.Frag} {mg : Str → Option Value} {base : Heap} {Z : Ad} (T : Txt K mg Z) : FnOk P w K mg base CX0 5 Z.a_is_reachable_weight Z.d_is_reachable_weight ["uniform", "total"] (sp_is_reachable_weight K) := by
  refine T.F_is_reachable_weight.ok sc_is_reachable_weight (fun vs H Q E h => ?_) (fun cdv A outer s H vs Q E hr h => ?_)
  · obtain ⟨u, us, t, rfl, _⟩ := h
    rfl
  · obtain ⟨u, us, t, rfl, U, ht, q⟩ := h
    refine ⟨_, (pss_one (ps_ret (pe_cmpR op_notN1 (pe_call (ok_lines_with_weight T) (hr.mono (by decide)) rfl T.m_lines_with_weight T.F_lines_with_weight.kp (bd_lines_with_weight T) .nil pass0 (pa_cons (pv 0) (pa_cons (pv 1) pa_nil))) pe_non (nomark _)))), ?_⟩
    rw [st_is_reachable_weight]
    walk_at "X"
    refine ⟨u, us, t, rfl, U, ht, fun ys r v H1 h1 h2 h3 c1 h4 => ?_⟩
    rcases h4 with ⟨rfl, rfl⟩ | ⟨d, ls, rfl, _, _, rfl, _⟩
    · walk_at "X"
      exact q ys _ H1 h1 h2 h3 c1
    · walk_at "X"
      exact q ys _ H1 h1 h2 h3 c1
end U

set_option Elab.async false
set_option maxRecDepth 100000
set_option linter.all false
set_option exponentiation.threshold 3000
set_option pp.maxSteps 600
set_option pp.deepTerms false
set_option maxHeartbeats 4000000
namespace U
open PySem PySem.Spec PyProof.Rows L2
local macro_rules | `(tactic| walk_at "ne") => `(tactic| first | assumption | (refine Ne.symm ?_; assumption) | (refine' ne_of_none ?h (by assumption); (case h => walk_at "hp")) | (refine' Ne.symm (ne_of_none ?h (by assumption)); (case h => walk_at "hp")))
local macro_rules | `(tactic| walk_at "hp") => `(tactic| first | assumption | (refine' Ch.get0 (by assumption) ?h; (case h => walk_at "hp")) | (refine' Ch.get1 (by assumption) ?h ?n; (case h => walk_at "hp"); (case n => walk_at "ne")))
local macro_rules | `(tactic| walk_at "x") => `(tactic| first
  | with_reducible refine x_seq ?_ | with_reducible refine x_nx ?_ | with_reducible refine x_rt ?_ | with_reducible refine x_next ?_
  | with_reducible refine x_asg ?_ | ((with_reducible refine' x_gName ?e ?_); (case e => (simp only [wipe, List.map_cons, List.map_nil, List.set_cons_zero, List.set_cons_succ] <;> exact rfl))) | with_reducible refine x_par ?_ | ((with_reducible refine' v_par ?e ?_); (case e => (simp only [wipe, List.map_cons, List.map_nil, List.set_cons_zero, List.set_cons_succ] <;> exact rfl))) | with_reducible refine x_if ?_ | with_reducible refine x_ret ?_ | with_reducible refine x_retN ?_ | with_reducible refine x_drop ?_ | with_reducible refine x_brk ?_
  | with_reducible refine x_var (by with_unfolding_all rfl) ?_ | with_reducible refine x_c ?_ | with_reducible refine x_op ?_ | with_reducible refine x_un ?_
  | with_reducible refine x_test ?_ | with_reducible refine x_tB ?_ | with_reducible refine x_bl ?_ | with_reducible refine x_blk ?_ | with_reducible refine x_chain ?_
  | with_reducible refine x_and ?_ | with_reducible refine x_or ?_ | with_reducible refine x_not ?_ | with_reducible refine x_andV ?_ | with_reducible refine x_orV ?_ | with_reducible refine x_notV ?_ | with_reducible refine x_ifE ?_
  | with_reducible refine x_iteT ?_ | with_reducible refine x_iteF ?_ | with_reducible refine x_iteS1 ?_ | with_reducible refine x_iteS2 ?_ | with_reducible refine x_iteS3 ?_ | with_reducible refine x_iteS4 ?_ | with_reducible refine x_iteT2 ?_ | with_reducible refine x_iteF2 ?_
  | with_reducible refine x_call ?_ | with_reducible refine x_nil ?_ | with_reducible refine x_cons ?_ | with_reducible refine x_cb ?_ | with_reducible refine x_bm ?_ | with_reducible refine x_bm0 ?_ | with_reducible refine x_lstU ?_ | with_reducible refine x_tupU ?_ | with_reducible refine x_gSub ?_
  | with_reducible refine v_add ?_ | with_reducible refine v_I0 ?_ | with_reducible refine v_neg ?_ | with_reducible refine v_eqI ?_ | with_reducible refine v_neI ?_ | with_reducible refine v_eqS ?_ | with_reducible refine v_neS ?_ | with_reducible refine v_eqB ?_ | with_reducible refine v_neB ?_
  | with_reducible refine v_isN0 ?_ | with_reducible refine v_isNI ?_ | with_reducible refine v_isNS ?_ | with_reducible refine v_isNB ?_ | with_reducible refine v_isNR ?_ | with_reducible refine v_noN0 ?_ | with_reducible refine v_noNI ?_ | with_reducible refine v_noNS ?_ | with_reducible refine v_noNB ?_ | with_reducible refine v_noNR ?_ | with_reducible refine v_inS ?_ | with_reducible refine v_isB ?_ | with_reducible refine v_noB ?_
  | ((with_reducible refine' x_and1 (v_tyL ?h) ?_); (case h => walk_at "hp"))
  | with_reducible refine x_pnil ?_ | with_reducible refine x_pcons ?_
  | with_reducible refine x_sumVals ?_ | with_reducible refine x_dget2 ?_ | with_reducible refine x_listItems ?_ | with_reducible refine x_rev ?_ | with_reducible refine v_int1B ?_ | with_reducible refine v_int1I ?_ | with_reducible refine v_reprB ?_
  | with_reducible refine x_yes ?_ | ((with_reducible refine' x_wipe ?e ?_); (case e => rfl))
  | with_reducible refine v_abs ?_ | with_reducible refine v_max ?_ | with_reducible refine v_min ?_ | with_reducible refine v_gCons ?_ | with_reducible refine v_gNil ?_ | with_reducible refine x_for ?_ | with_reducible refine x_iList ?_ | with_reducible refine x_iTup ?_ | with_reducible refine x_iR1 ?_ | with_reducible refine x_iR2 ?_ | with_reducible refine x_lc ?_
  | with_reducible refine x_iStr ?_ | with_reducible refine v_iStr ?_ | with_reducible refine x_iKeys ?_ | with_reducible refine x_iItems ?_ | with_reducible refine x_dget ?_ | with_reducible refine x_din ?_ | with_reducible refine x_dnin ?_ | with_reducible refine x_dput ?_
  | ((with_reducible refine' isi_int ?k ?_); (case k => first | exact (show _ = some true by decide +kernel) | exact (show _ = some false by decide +kernel))) | ((with_reducible refine' isi_str ?k ?_); (case k => first | exact (show _ = some true by decide +kernel) | exact (show _ = some false by decide +kernel))) | ((with_reducible refine' isi_bl ?k ?_); (case k => first | exact (show _ = some true by decide +kernel) | exact (show _ = some false by decide +kernel))) | ((with_reducible refine' isi_non ?k ?_); (case k => first | exact (show _ = some true by decide +kernel) | exact (show _ = some false by decide +kernel)))
  | ((with_reducible refine' isi_tup ?h ?k ?_); (case h => walk_at "hp"); (case k => first | exact (show _ = some true by decide +kernel) | exact (show _ = some false by decide +kernel))) | ((with_reducible refine' isi_lst ?h ?k ?_); (case h => walk_at "hp"); (case k => first | exact (show _ = some true by decide +kernel) | exact (show _ = some false by decide +kernel))) | ((with_reducible refine' isi_dK ?h ?k ?_); (case h => walk_at "hp"); (case k => first | exact (show _ = some true by decide +kernel) | exact (show _ = some false by decide +kernel)))
  | ((with_reducible refine' v_gTup ?h ?l ?_); (case h => walk_at "hp"); (case l => rfl))
  | ((with_reducible refine' v_gUnl ?h ?l ?_); (case h => walk_at "hp"); (case l => rfl))
  | ((with_reducible refine' v_ixT' ?h ?l ?_); (case h => walk_at "hp"); (case l => with_unfolding_all rfl))
  | ((with_reducible refine' v_ixL' ?h ?l ?_); (case h => walk_at "hp"); (case l => with_unfolding_all rfl)))
local macro_rules | `(tactic| walk_at "X") => `(tactic| repeat walk_at "x")


/-- how many gaps: those from least on -/
def lostN (tot : Int) : Int → List (Int × Int) → Nat
  | least, [] => if least ≤ tot then 1 else 0
  | least, q :: r => (if q.1 > least then 1 else 0) + lostN tot (q.2 + 1) r
def sp_law_lost (K : PySem.W.Frag) : Sp := fun vs H Q _ => ∃ (tot : Int) (a : Addr) (ps : List (Addr × Int × Int)), vs = [.int tot, .ref a] ∧ H a = some (.lst (ps.map fun q => V.ref q.1)) ∧ (∀ q ∈ ps, H q.1 = some (.tup [.int q.2.1, .int q.2.2])) ∧ ps.length ≤ 1000 ∧
  ∀ p xs H', xs.length = lostN tot 1 (ps.map (·.2)) → H p = none → Ch [] H H' → H' p = some (.lst xs) → Q (.ref p) H'
theorem ok_law_lost {P : Program} {w : World} {K : PySem.W.Frag} {mg : Str → Option Value} {base : Heap} {Z : Ad} (T : Txt K mg Z) : FnOk P w K mg base CX0 1 Z.a_law_lost Z.d_law_lost ["total", "intervals"] (sp_law_lost K) := by
  refine T.F_law_lost.ok sc_law_lost (fun vs H Q E h => ?_) (fun cdv A outer s H vs Q E hr h => ?_)
  · obtain ⟨tot, a, ps, rfl, _⟩ := h
    rfl
  · have nd := sc_law_lost.nd
    obtain ⟨tot, a, ps, rfl, ha, ht, hlen, q⟩ := h
    refine ⟨_, (pss_cons (ps_set (i := 2) nd rfl (by first | exact Or.inl rfl | exact Or.inr rfl) (pe_lst pa_nil))
    (pss_cons (ps_set (i := 3) nd rfl (by first | exact Or.inl rfl | exact Or.inr rfl) pe_int)
    (pss_cons (ps_for PassesOwn.never rfl (pi_listK (K := K) rfl (pv 1)) (pg_tupK (K := K) (n := 2) rfl rfl (pgs_cons (pg_name (i := 4) nd rfl (by first | exact Or.inl rfl | exact Or.inr rfl)) (pgs_cons (pg_name (i := 5) nd rfl (by first | exact Or.inl rfl | exact Or.inr rfl)) pgs_nil)) rfl rfl)
      (pss_cons (ps_if (pt_cmpR op_gt (pv 4) (pv 3) (nomark _))
        (pss_one (ps_expr (pe_bmK (K := K) rfl PySem.F.plainAttrs_list PySem.F.slot_list_append PySem.F.type_list_append mt_append (pv 2) (pa_cons (pe_tup (pa_cons (pv 3) (pa_cons (pe_op op_sub (pv 4) pe_int) pa_nil))) pa_nil))))
        pss_nil)
      (pss_one (ps_set (i := 3) nd rfl (by first | exact Or.inl rfl | exact Or.inr rfl) (pe_op op_addU (pv 5) pe_int)))))
    (pss_one (ps_ret (pe_op op_addU (pv 2) (pe_op op_mulU (pe_lst (pa_cons (pe_tup (pa_cons (pv 3) (pa_cons (pv 0) pa_nil))) pa_nil)) (pe_callTy call_int1U (by rfl) T.b_int (by decide +kernel) (pa_cons (pe_cmpR op_le (pv 3) (pv 0) (nomark _)) pa_nil))))))))), ?_⟩
    rw [st_law_lost]
    walk_at "X"
    refine v_new fun l H1 nl c1 hl => ?_
    walk_at "X"
    refine v_iList (.of (c1.get0 ha)) ?_
    have la : a ≠ l := ne_of_none ha nl
    refine for_W walk_list (fun i σ H' => ∃ xs least w4 w5, σ = [some (.int tot), some (.ref a), some (.ref l), some (.int least), w4, w5] ∧ Ch [l] H1 H' ∧ H' l = some (.lst xs) ∧ xs.length ≤ i ∧ xs.length + lostN tot least ((ps.map (·.2)).drop i) = lostN tot 1 (ps.map (·.2)))
      ⟨[], 1, _, _, rfl, .refl _ _, hl, Nat.le_refl _, by simp⟩ (fun i σ H' _ ⟨_, _, _, _, _, c, _⟩ => .of (c.get1 (c1.get0 ha) la)) ?_ ?_
    · rintro i x σ H2a H2 hi ⟨xs, least, w4, w5, rfl, c2, hl2, hn, hN⟩ ⟨rfl, hx⟩
      rw [List.getElem?_map] at hx
      obtain ⟨z, hz, rfl⟩ := Option.map_eq_some_iff.mp hx
      obtain ⟨zt, za, zb⟩ := z
      have htz := ht _ (List.mem_of_getElem? hz)
      have htz2 := c2.get1 (c1.get0 htz) (ne_of_none htz nl)
      have e2 : (ps.map (·.2)).drop i = (za, zb) :: (ps.map (·.2)).drop (i + 1) := by
        have e1 : (ps.map (·.2))[i]? = some (za, zb) := by rw [List.getElem?_map, hz]; rfl
        obtain ⟨hb, e1⟩ := List.getElem?_eq_some_iff.mp e1
        rw [List.drop_eq_getElem_cons hb, e1]
      rw [e2] at hN
      simp only [lostN] at hN
      have hi2 : i ≤ 1000 := by rw [List.length_map] at hi; omega
      walk_at "X"
      refine x_iteD (fun h0 => ?_) (fun h0 => ?_)
      · rw [if_pos h0] at hN
        walk_at "X"
        refine v_new fun t H3 nt c3 ht3 => ?_
        have hl3 := c3.get0 hl2
        walk_at "X"
        refine v_append hl3 (Nat.lt_of_le_of_lt (m := 1000) (by omega) (by decide)) fun H4 c4 hl4 => ?_
        walk_at "X"
        exact ⟨_, _, _, _, rfl, (c2.trans (c3.weak [l])).trans c4, hl4, by simp; omega, by simp; omega⟩
      · rw [if_neg h0] at hN
        walk_at "X"
        exact ⟨_, _, _, _, rfl, c2, hl2, by omega, by omega⟩
    · rintro σ H2 ⟨xs, least, w4, w5, rfl, c2, hl2, hn, hN⟩
      rw [List.length_map] at hN hn
      rw [List.drop_of_length_le (by simp)] at hN
      simp only [lostN] at hN
      walk_at "X"
      refine v_new fun t H3 nt c3 ht3 => ?_
      walk_at "X"
      refine v_new fun m H4 nm c4 hm4 => ?_
      walk_at "X"
      refine v_repB hm4 fun p5 H5 np5 c5 hp5 => ?_
      have f5 : Ch [] H H5 := ((((c1.weak [l]).trans (c2.trans (c3.weak _))).drop nl).trans c4).trans c5
      refine v_cat ((c4.trans c5).get0 (c3.get0 hl2)) hp5 ?_ fun p6 H6 np6 c6 hp6 => ?_
      · by_cases h0 : least ≤ tot
        · simp [h0]
          exact Nat.le_trans (Nat.succ_le_succ (Nat.le_trans hn hlen)) (by decide)
        · simp [h0]
          exact Nat.le_trans (Nat.le_trans hn hlen) (by decide)
      · refine q p6 _ H6 ?_ (f5.free np6) (f5.trans c6) hp6
        rw [List.length_append, ← hN]
        by_cases h0 : least ≤ tot <;> simp [h0]
end U

set_option Elab.async false
set_option maxRecDepth 100000
set_option linter.all false
set_option exponentiation.threshold 3000
set_option pp.maxSteps 600
set_option pp.deepTerms false
set_option maxHeartbeats 4000000
namespace U
open PySem PySem.Spec PyProof.Rows L2
local macro_rules | `(tactic| walk_at "ne") => `(tactic| first | assumption | (refine Ne.symm ?_; assumption) | (refine' ne_of_none ?h (by assumption); (case h => walk_at "hp")) | (refine' Ne.symm (ne_of_none ?h (by assumption)); (case h => walk_at "hp")))
local macro_rules | `(tactic| walk_at "hp") => `(tactic| first | assumption | (refine' Ch.get0 (by assumption) ?h; (case h => walk_at "hp")) | (refine' Ch.get1 (by assumption) ?h ?n; (case h => walk_at "hp"); (case n => walk_at "ne")))
local macro_rules | `(tactic| walk_at "x") => `(tactic| first
  | with_reducible refine x_seq ?_ | with_reducible refine x_nx ?_ | with_reducible refine x_rt ?_ | with_reducible refine x_next ?_
  | with_reducible refine x_asg ?_ | ((with_reducible refine' x_gName ?e ?_); (case e => (simp only [wipe, List.map_cons, List.map_nil, List.set_cons_zero, List.set_cons_succ] <;> exact rfl))) | with_reducible refine x_par ?_ | ((with_reducible refine' v_par ?e ?_); (case e => (simp only [wipe, List.map_cons, List.map_nil, List.set_cons_zero, List.set_cons_succ] <;> exact rfl))) | with_reducible refine x_if ?_ | with_reducible refine x_ret ?_ | with_reducible refine x_retN ?_ | with_reducible refine x_drop ?_ | with_reducible refine x_brk ?_
  | with_reducible refine x_var (by with_unfolding_all rfl) ?_ | with_reducible refine x_c ?_ | with_reducible refine x_op ?_ | with_reducible refine x_un ?_
  | with_reducible refine x_test ?_ | with_reducible refine x_tB ?_ | with_reducible refine x_bl ?_ | with_reducible refine x_blk ?_ | with_reducible refine x_chain ?_
  | with_reducible refine x_and ?_ | with_reducible refine x_or ?_ | with_reducible refine x_not ?_ | with_reducible refine x_andV ?_ | with_reducible refine x_orV ?_ | with_reducible refine x_notV ?_ | with_reducible refine x_ifE ?_
  | with_reducible refine x_iteT ?_ | with_reducible refine x_iteF ?_ | with_reducible refine x_iteS1 ?_ | with_reducible refine x_iteS2 ?_ | with_reducible refine x_iteS3 ?_ | with_reducible refine x_iteS4 ?_ | with_reducible refine x_iteT2 ?_ | with_reducible refine x_iteF2 ?_
  | with_reducible refine x_call ?_ | with_reducible refine x_nil ?_ | with_reducible refine x_cons ?_ | with_reducible refine x_cb ?_ | with_reducible refine x_bm ?_ | with_reducible refine x_bm0 ?_ | with_reducible refine x_lstU ?_ | with_reducible refine x_tupU ?_ | with_reducible refine x_gSub ?_
  | with_reducible refine v_add ?_ | with_reducible refine v_I0 ?_ | with_reducible refine v_neg ?_ | with_reducible refine v_eqI ?_ | with_reducible refine v_neI ?_ | with_reducible refine v_eqS ?_ | with_reducible refine v_neS ?_ | with_reducible refine v_eqB ?_ | with_reducible refine v_neB ?_
  | with_reducible refine v_isN0 ?_ | with_reducible refine v_isNI ?_ | with_reducible refine v_isNS ?_ | with_reducible refine v_isNB ?_ | with_reducible refine v_isNR ?_ | with_reducible refine v_noN0 ?_ | with_reducible refine v_noNI ?_ | with_reducible refine v_noNS ?_ | with_reducible refine v_noNB ?_ | with_reducible refine v_noNR ?_ | with_reducible refine v_inS ?_ | with_reducible refine v_isB ?_ | with_reducible refine v_noB ?_
  | ((with_reducible refine' x_and1 (v_tyL ?h) ?_); (case h => walk_at "hp"))
  | with_reducible refine x_pnil ?_ | with_reducible refine x_pcons ?_
  | with_reducible refine x_sumVals ?_ | with_reducible refine x_dget2 ?_ | with_reducible refine x_listItems ?_ | with_reducible refine x_rev ?_ | with_reducible refine v_int1B ?_ | with_reducible refine v_int1I ?_ | with_reducible refine v_reprB ?_
  | with_reducible refine x_yes ?_ | ((with_reducible refine' x_wipe ?e ?_); (case e => rfl))
  | with_reducible refine v_abs ?_ | with_reducible refine v_max ?_ | with_reducible refine v_min ?_ | with_reducible refine v_gCons ?_ | with_reducible refine v_gNil ?_ | with_reducible refine x_for ?_ | with_reducible refine x_iList ?_ | with_reducible refine x_iTup ?_ | with_reducible refine x_iR1 ?_ | with_reducible refine x_iR2 ?_ | with_reducible refine x_lc ?_
  | with_reducible refine x_iStr ?_ | with_reducible refine v_iStr ?_ | with_reducible refine x_iKeys ?_ | with_reducible refine x_iItems ?_ | with_reducible refine x_dget ?_ | with_reducible refine x_din ?_ | with_reducible refine x_dnin ?_ | with_reducible refine x_dput ?_
  | ((with_reducible refine' isi_int ?k ?_); (case k => first | exact (show _ = some true by decide +kernel) | exact (show _ = some false by decide +kernel))) | ((with_reducible refine' isi_str ?k ?_); (case k => first | exact (show _ = some true by decide +kernel) | exact (show _ = some false by decide +kernel))) | ((with_reducible refine' isi_bl ?k ?_); (case k => first | exact (show _ = some true by decide +kernel) | exact (show _ = some false by decide +kernel))) | ((with_reducible refine' isi_non ?k ?_); (case k => first | exact (show _ = some true by decide +kernel) | exact (show _ = some false by decide +kernel)))
  | ((with_reducible refine' isi_tup ?h ?k ?_); (case h => walk_at "hp"); (case k => first | exact (show _ = some true by decide +kernel) | exact (show _ = some false by decide +kernel))) | ((with_reducible refine' isi_lst ?h ?k ?_); (case h => walk_at "hp"); (case k => first | exact (show _ = some true by decide +kernel) | exact (show _ = some false by decide +kernel))) | ((with_reducible refine' isi_dK ?h ?k ?_); (case h => walk_at "hp"); (case k => first | exact (show _ = some true by decide +kernel) | exact (show _ = some false by decide +kernel)))
  | ((with_reducible refine' v_gTup ?h ?l ?_); (case h => walk_at "hp"); (case l => rfl))
  | ((with_reducible refine' v_gUnl ?h ?l ?_); (case h => walk_at "hp"); (case l => rfl))
  | ((with_reducible refine' v_ixT' ?h ?l ?_); (case h => walk_at "hp"); (case l => with_unfolding_all rfl))
  | ((with_reducible refine' v_ixL' ?h ?l ?_); (case h => walk_at "hp"); (case l => with_unfolding_all rfl)))
local macro_rules | `(tactic| walk_at "X") => `(tactic| repeat walk_at "x")


theorem valV_key {α : Type} (g : α → Str) (f : α → V) (us : List α) (z : Str) : valV (us.map fun e => ((Sum.inr (g e) : Key), f e)) (Sum.inr z) = (us.find? fun e => decide (g e = z)).map f := by
  unfold valV
  rw [List.find?_map]
  have : ((fun kv : Key × V => decide (kv.1 = (Sum.inr z : Key))) ∘ fun e : α => ((Sum.inr (g e) : Key), f e)) = fun e : α => decide (g e = z) := by
    funext e
    simp
  rw [this, Option.map_map]
  rfl
/-- the intervals of a name -/
def qOf (ls : List LE) (z : Str) : List (Int × Int) := match ls.find? (fun e => decide (e.1 = z)) with
  | some e => e.2.2.map (·.2)
  | none => []
def szF (ls : List LE) (z : Str) : Int := ((qOf ls z).map fun q => q.2 - q.1 + 1).sum
def cK (cs : List (Str × Int)) : List (Key × V) := cs.map fun e => (Sum.inr e.1, V.int e.2)
def cnt (cs : List (Str × Int)) (z : Str) : Int := match cs.find? (fun e => decide (e.1 = z)) with
  | some e => e.2
  | none => 0
def stF (ls : List LE) (ys : List Str) : List Str := ys.filter fun z => decide (((qOf ls z).headD (0, 0)).1 = 1)
def enF (cs : List (Str × Int)) (ls : List LE) (ys : List Str) : List Str := ys.filter fun z => decide (((qOf ls z).getLastD (0, 0)).2 = cnt cs z)
def totF (cs : List (Str × Int)) (ls : List LE) : Int := (cs.map fun e => szF ls e.1).sum
structure GoodO (cs : List (Str × Int)) (ls : List LE) : Prop where
  one : ∀ e ∈ ls, ∃ q, e.2.2 = [q]
  sub : ∀ e ∈ ls, e.1 ∈ cs.map (·.1)
  single : ∀ ys, ys.Perm (ls.map (·.1)) → sortedS ys = true → (stF ls ys).map (fun z => (z, (1 : Int))) = (enF cs ls ys).map (fun z => (z, cnt cs z)) → (stF ls ys).length = 1 → totF cs ls ≤ 1
  gaps : ∀ e ∈ cs, (lostN e.2 1 (qOf ls e.1) : Int) ≤ totF cs ls - szF ls e.1
  ends : 0 < (cs.map (·.2)).sum → ∀ ys, ys.Perm (ls.map (·.1)) → sortedS ys = true → stF ls ys ≠ [] ∧ enF cs ls ys ≠ []
theorem paired_take {α β : Type} {F : α → β → Prop} {as : List α} {bs : List β} {a : α} {b : β} (h : Paired F as bs) (r : F a b) : Paired F (as ++ [a]) (bs ++ [b]) := by
  induction h with
  | nil => exact .cons r .nil
  | cons r1 _ ih => exact .cons r1 ih
theorem take_succ {α : Type} {xs : List α} {i : Nat} {x : α} (h : xs[i]? = some x) : xs.take (i + 1) = xs.take i ++ [x] := by
  rw [List.take_add_one, h]
  rfl
theorem find_mem {α : Type} {g : α → Str} {us : List α} (hn : (us.map g).Nodup) {z : Str} (hz : z ∈ us.map g) : ∃ e ∈ us, g e = z ∧ us.find? (fun x => decide (g x = z)) = some e := by
  obtain ⟨e, he, rfl⟩ := List.mem_map.mp hz
  exact ⟨e, he, rfl, find_nd hn he⟩
theorem LsAt.to1 {H H' : Hp} {d x : Addr} {ls : List LE} {kvs : List (Key × V)} (h : LsAt H d ls) (c : Ch [x] H H') (hx : H x = some (.dK kvs)) (hd : d ≠ x) : LsAt H' d ls := by
  refine ⟨c.get1 h.d hd, fun e he => c.get1 (h.l e he) ?_, fun e he q hq => c.get1 (h.t e he q hq) ?_⟩
  · intro z
    have := h.l e he
    rw [z, hx] at this
    cases this
  · intro z
    have := h.t e he q hq
    rw [z, hx] at this
    cases this
theorem get_ls {H : Hp} {d p : Addr} {ls : List LE} (L : LsAt H d ls) (ho : ∀ e ∈ ls, ∃ q, e.2.2 = [q]) (hp : H p = some (.lst [])) (z : Str) : ∃ (a : Addr) (ps : List (Addr × Int × Int)), ((valV (lK ls) (Sum.inr z)).getD (.ref p)) = .ref a ∧ H a = some (.lst (ps.map fun q => V.ref q.1)) ∧
    (∀ q ∈ ps, H q.1 = some (.tup [.int q.2.1, .int q.2.2])) ∧ qOf ls z = ps.map (·.2) ∧ ps.length ≤ 1 := by
  have e0 := valV_key (fun e : LE => e.1) (fun e : LE => V.ref e.2.1) ls z
  unfold lK
  rw [e0]
  unfold qOf
  cases hf : ls.find? (fun e => decide (e.1 = z)) with
  | none => exact ⟨p, [], rfl, hp, by simp, rfl, by simp⟩
  | some e =>
    have he := List.mem_of_find?_eq_some hf
    obtain ⟨q, hq⟩ := ho e he
    exact ⟨e.2.1, e.2.2, rfl, L.l e he, L.t e he, rfl, by rw [hq]; simp⟩
theorem tup_ne {H : Hp} {t D : Addr} {xs ys : List V} (h1 : H t = some (.tup xs)) (h2 : H D = some (.lst ys)) : t ≠ D := fun z => by rw [z, h2] at h1; cases h1
def sp_law_obstructions (_ : PySem.W.Frag) : Sp := fun vs H Q _ => ∃ (c d : Addr) (cs : List (Str × Int)) (ls : List LE), vs = [.ref c, .ref d] ∧ H c = some (.dK (cK cs)) ∧ LsAt H d ls ∧ (cs.map (·.1)).Nodup ∧ cs.length ≤ 2 ∧ (ls.map (·.1)).Nodup ∧ ls.length ≤ 2 ∧
  (∀ e ∈ cs, PyData.strOk e.1 = true) ∧ d ≠ c ∧ GoodO cs ls ∧ ∀ p H', H p = none → Ch [] H H' → H' p = some (.lst []) → Q (.ref p) H'
theorem ok_law_obstructions {P : Program} {w : World} {K : PySem.W.Frag} {mg : Str → Option Value} {base : Heap} {Z : Ad} (T : Txt K mg Z) : FnOk P w K mg base CX0 2 Z.a_law_obstructions Z.d_law_obstructions ["line_counts", "line_set"] (sp_law_obstructions K) := by
  refine T.F_law_obstructions.ok sc_law_obstructions (fun vs H Q E h => ?_) (fun cdv A outer s H vs Q E hr h => ?_)
  · obtain ⟨c, d, cs, ls, rfl, _⟩ := h
    rfl
  · have nd := sc_law_obstructions.nd
    have hu := hu_of hr
    obtain ⟨c, d, cs, ls, rfl, hc, L, cnd, cl, lnd, ll, hok, hdc, G, q⟩ := h
    refine ⟨_, (pss_cons (ps_set (i := 2) nd rfl (by first | exact Or.inl rfl | exact Or.inr rfl) (pe_callTy (dictPK (K := K) rfl rfl) (by rfl) T.b_dict (by decide +kernel) (pa_cons (pe_lock (pe_lc (own := [("one", 10)]) (g := gName 10) (by rfl) nd (pi_keys (pv 0)) (blkOk_by (own := [("one", 10)]) (N := N_law_obstructions) (sc := defScope s_law_obstructions) (by decide +kernel)) (fun _ _ _ _ _ => pg_name (i := 10) nd rfl (by first | exact Or.inl rfl | exact Or.inr rfl)) (fun _ _ _ _ _ => pts_nil) (fun _ _ _ _ _ => (pe_tup (pa_cons (pv 10) (pa_cons (pe_callB (sumK (K := K) rfl rfl) (by rfl) T.b_sum (by decide +kernel) (pa_cons (pe_lc (own := [("first", 11), ("last", 12)]) (by rfl) nd (pi_listK (K := K) rfl (pe_dget2 hu (pv 1) (pv 10) (pe_lst pa_nil) ⟨rfl, rfl, rfl, rfl⟩)) (blkOk_by (own := [("first", 11), ("last", 12)]) (by kernel_rfl)) (fun _ _ _ _ _ => (pg_tupK (K := K) (n := 2) rfl rfl (pgs_cons (pg_name (i := 11) nd rfl (by first | exact Or.inl rfl | exact Or.inr rfl)) (pgs_cons (pg_name (i := 12) nd rfl (by first | exact Or.inl rfl | exact Or.inr rfl)) pgs_nil)) rfl rfl)) (fun _ _ _ _ _ => pts_nil) (fun _ _ _ _ _ => (pe_op op_addU (pe_op op_sub (pv 12) (pv 11)) pe_int))) pa_nil)) pa_nil)))))) pa_nil)))
    (pss_cons (ps_set (i := 3) nd rfl (by first | exact Or.inl rfl | exact Or.inr rfl) (pe_sumVals rfl (by rfl) T.b_sum (pv 2)))
    (pss_cons (ps_setLc (i := 4) (own := [("writer", 8)]) (g := gName 8) (by rfl) nd rfl rfl (sw_true rfl rfl rfl (by decide +kernel)) (pi_listK (K := K) rfl (pe_callB (call_sortD rfl) (by rfl) T.b_sorted (by decide +kernel) (pa_cons (pv 1) pa_nil))) (blkOk_by (own := [("writer", 8)]) (N := N_law_obstructions) (sc := defScope s_law_obstructions) (by decide +kernel)) (fun _ _ _ _ _ => pg_name (i := 8) nd rfl (by first | exact Or.inl rfl | exact Or.inr rfl)) (fun _ _ _ _ _ => (pts_one (pt_cmpR (op_neK (K := K) rfl hr.units) (pe_dget hu (pv 1) (pv 8) (fun _ _ => rfl)) (pe_lst pa_nil) (nomark _)))) (fun _ _ _ _ _ => (pv 8)))
    (pss_cons (ps_setLc (i := 5) (own := [("writer", 8)]) (g := gName 8) (by rfl) nd rfl rfl (sw_true rfl rfl rfl (by decide +kernel)) (pi_listK (K := K) rfl (pv 4)) (blkOk_by (own := [("writer", 8)]) (N := N_law_obstructions) (sc := defScope s_law_obstructions) (by decide +kernel)) (fun _ _ _ _ _ => pg_name (i := 8) nd rfl (by first | exact Or.inl rfl | exact Or.inr rfl)) (fun _ _ _ _ _ => (pts_one (pt_cmpR (op_eqK (K := K) rfl hr.units) (pe_ix (ix_seqK (K := K) rfl) (pe_ix (ix_seqK (K := K) rfl) (pe_dget hu (pv 1) (pv 8) (fun _ _ => rfl)) pe_int (fun _ _ => rfl)) pe_int (fun _ _ => rfl)) pe_int (nomark _)))) (fun _ _ _ _ _ => (pe_tup (pa_cons (pv 8) (pa_cons pe_int pa_nil)))))
    (pss_cons (ps_setLc (i := 6) (own := [("writer", 8)]) (g := gName 8) (by rfl) nd rfl rfl (sw_true rfl rfl rfl (by decide +kernel)) (pi_listK (K := K) rfl (pv 4)) (blkOk_by (own := [("writer", 8)]) (N := N_law_obstructions) (sc := defScope s_law_obstructions) (by decide +kernel)) (fun _ _ _ _ _ => pg_name (i := 8) nd rfl (by first | exact Or.inl rfl | exact Or.inr rfl)) (fun _ _ _ _ _ => (pts_one (pt_cmpR (op_eqK (K := K) rfl hr.units) (pe_ix (ix_seqK (K := K) rfl) (pe_ix (ix_seqK (K := K) rfl) (pe_dget hu (pv 1) (pv 8) (fun _ _ => rfl)) (pe_un un_neg pe_int) (fun _ _ => rfl)) pe_int (fun _ _ => rfl)) (pe_dget hu (pv 0) (pv 8) (fun _ _ => rfl)) (nomark _)))) (fun _ _ _ _ _ => (pe_tup (pa_cons (pv 8) (pa_cons (pe_dget hu (pv 0) (pv 8) (fun _ _ => rfl)) pa_nil)))))
    (pss_cons (ps_set (i := 7) nd rfl (by first | exact Or.inl rfl | exact Or.inr rfl) (pe_op op_addU (pe_op op_mulU (pe_lst (pa_cons (pe_tup (pa_cons pe_str pa_nil)) pa_nil)) (pe_callTy call_int1U (by rfl) T.b_int (by decide +kernel) (pa_cons (pe_cmpR (op_eqK (K := K) rfl hr.units) (pv 5) (pe_lst pa_nil) (nomark _)) pa_nil))) (pe_op op_mulU (pe_lst (pa_cons (pe_tup (pa_cons pe_str pa_nil)) pa_nil)) (pe_callTy call_int1U (by rfl) T.b_int (by decide +kernel) (pa_cons (pe_cmpR (op_eqK (K := K) rfl hr.units) (pv 6) (pe_lst pa_nil) (nomark _)) pa_nil)))))
    (pss_cons (ps_if (PW.pt (pw_and (pt_cmpR (op_eqK (K := K) rfl hr.units) (pv 5) (pv 6) (nomark _)) (pw_and (pt_cmpR (op_eqK (K := K) rfl hr.units) (pe_callB (lenK (K := K) rfl) (by rfl) T.b_len (by decide +kernel) (pa_cons (pv 5) pa_nil)) pe_int (nomark _)) (pw_and1 (pt_cmpR op_gt (pv 3) pe_int (nomark _))))))
      (pss_one (ps_expr (pe_bmK (K := K) rfl PySem.F.plainAttrs_list PySem.F.slot_list_append PySem.F.type_list_append mt_append (pv 7) (pa_cons (pe_tup (pa_cons pe_str (pa_cons (pe_ix (ix_seqK (K := K) rfl) (pv 5) pe_int (fun _ _ => rfl)) pa_nil))) pa_nil))))
      pss_nil)
    (pss_cons (ps_for PassesOwn.never rfl (pi_listK (K := K) rfl (pe_callB (call_sortD rfl) (by rfl) T.b_sorted (by decide +kernel) (pa_cons (pv 0) pa_nil))) (pg_name (i := 8) nd rfl (by first | exact Or.inl rfl | exact Or.inr rfl))
      (pss_cons (ps_set (i := 9) nd rfl (by first | exact Or.inl rfl | exact Or.inr rfl) (pe_callB (lenK (K := K) rfl) (by rfl) T.b_len (by decide +kernel) (pa_cons (pe_call (ok_law_lost T) (hr.mono (by decide)) rfl T.m_law_lost T.F_law_lost.kp (bd_law_lost T) .nil pass0 (pa_cons (pe_dget hu (pv 0) (pv 8) (fun _ _ => rfl)) (pa_cons (pe_dget2 hu (pv 1) (pv 8) (pe_lst pa_nil) ⟨rfl, rfl, rfl, rfl⟩) pa_nil))) pa_nil)))
      (pss_one (ps_if (pt_cmpR op_gt (pv 9) (pe_op op_sub (pv 3) (pe_dget hu (pv 2) (pv 8) (fun _ _ => rfl))) (nomark _))
        (pss_one (ps_expr (pe_bmK (K := K) rfl PySem.F.plainAttrs_list PySem.F.slot_list_append PySem.F.type_list_append mt_append (pv 7) (pa_cons (pe_tup (pa_cons pe_str (pa_cons (pv 8) (pa_cons (pv 9) (pa_cons (pe_op op_sub (pv 3) (pe_dget hu (pv 2) (pv 8) (fun _ _ => rfl))) pa_nil))))) pa_nil))))
        pss_nil))))
    (pss_one (ps_ret (pe_ifExp (pt_cmpR op_gt (pe_sumVals rfl (by rfl) T.b_sum (pv 0)) pe_int (nomark _)) (pv 7) (pe_lst pa_nil)))))))))))), ?_⟩
    rw [st_law_obstructions]
    walk_at "X"
    refine x_lockE hc trivial fun od Hl hl cL => ?_
    walk_at "X"
    refine v_iKeys hl ?_
    intro D hD
    have cD : c ≠ D := ne_of_none hl hD
    have dc : d ≠ c := hdc
    have LL : LsAt Hl d ls := L.to1 cL hc dc
    refine lc_W (vs := [10]) walk_keys [] (fun i acc H' => ∃ ts, acc = ts.map V.ref ∧ Paired (fun (t : Addr) (e : Str × Int) => H' t = some (.tup [.str e.1, .int (szF ls e.1)])) ts (cs.take i)) hD (fun H' c' => c'.get0 hl) (fun _ _ => ⟨[], rfl, .nil⟩) ?_ ?_
    · rintro i x acc H' H2 hi hle hacc hc' ⟨ts, rfl, hp⟩ ⟨rfl, k, v, hkv, hx⟩
      unfold cK at hkv
      rw [List.getElem?_map] at hkv
      obtain ⟨e, he, hke⟩ := Option.map_eq_some_iff.mp hkv
      obtain ⟨rfl, rfl⟩ := Prod.mk.inj hke
      obtain rfl : x = .str e.1 := hx
      have L1 : LsAt H2 d ls := LL.to hc'
      walk_at "X"
      refine v_isD L1.d ?_
      walk_at "X"
      refine v_new fun p3 H3 np3 c3 hp3 => ?_
      have L3 := L1.to c3
      refine v_dgetO L3.d ?_
      obtain ⟨a4, ps, e4, ha4, ht4, hq4, hn4⟩ := get_ls L3 G.one hp3 e.1
      rw [e4]
      refine v_iList (.of ha4) ?_
      intro D2 hD2
      refine lc_W (vs := [11, 12]) walk_list [] (fun i acc H' => acc = ((ps.map (·.2)).take i).map fun q => V.int (q.2 - q.1 + 1)) hD2 (fun H' c' => .of (c'.get0 ha4)) (fun _ _ => rfl) ?_ ?_
      · rintro j x acc H4 H5 hj hle2 hacc2 hc4 rfl ⟨rfl, hx⟩
        rw [List.getElem?_map] at hx
        obtain ⟨z, hz, rfl⟩ := Option.map_eq_some_iff.mp hx
        obtain ⟨zt, za, zb⟩ := z
        have htz := hc4.get0 (ht4 _ (List.mem_of_getElem? hz))
        walk_at "X"
        rw [List.length_map] at hj
        refine lcW_next hD2 hle2 (by omega) hacc2 hc4 fun H6 _ _ => ?_
        rw [take_succ (x := (za, zb)) (by rw [List.getElem?_map, hz]; rfl), List.map_append]
        rfl
      · rintro acc H4 hle2 hacc2 hc4 rfl
        rw [List.length_map, ← List.length_map (as := ps) (fun q => q.2), List.take_length] at hle2
        walk_at "X"
        refine v_sum ((ps.map (·.2)).map fun q => q.2 - q.1 + 1) (by rw [List.map_map]; exact hle2) ?_
        rw [← hq4]
        walk_at "X"
        refine v_new fun p5 H5 np5 c5 hp5 => ?_
        have c15 : Ch [] H2 H5 := (c3.trans hc4).trans c5
        unfold cK at hi
        rw [List.length_map] at hi
        refine lcW_next hD (c15.get0 hle) (by omega) hacc (hc'.trans c15) fun H6 c6 _ => ⟨ts ++ [p5], by simp, ?_⟩
        rw [take_succ he]
        exact paired_take (paired_imp hp fun t e h => c6.get1 (c15.get0 h) (tup_ne h hle)) (c6.get1 hp5 (tup_ne hp5 (c15.get0 hle)))
    · rintro acc H1 hle hacc hc1 ⟨ts, rfl, hp⟩
      unfold cK at hp
      rw [List.length_map, List.take_length] at hp
      refine v_unV hc (cL.trans (hc1.weak [c])) (hc1.get0 hl) fun H2 c2 cc hc2 => ?_
      have hp2 : Paired (fun (t : Addr) (e : Str × Int) => H2 t = some (.tup [.str e.1, .int (szF ls e.1)])) ts cs := paired_imp hp fun t e h => cc.get1 h (fun z => by rw [z, hc1.get0 hl] at h; cases h)
      have hD2 : H2 D = some (.lst (ts.map V.ref)) := cc.get1 hle cD.symm
      let sk : List (Key × V) := cs.map fun e => (Sum.inr e.1, V.int (szF ls e.1))
      have hpk : Paired (fun (p : Addr) (kv : Key × V) => SqT K H2 p [kV kv.1, kv.2]) ts sk := by
        have : ∀ {as : List Addr} {bs : List (Str × Int)}, Paired (fun (t : Addr) (e : Str × Int) => H2 t = some (.tup [.str e.1, .int (szF ls e.1)])) as bs → Paired (fun (p : Addr) (kv : Key × V) => SqT K H2 p [kV kv.1, kv.2]) as (bs.map fun e => (Sum.inr e.1, V.int (szF ls e.1))) := by
          intro as bs h
          induction h with
          | nil => exact .nil
          | cons r _ ih => exact .cons (.of r) ih
        exact this hp2
      walk_at "X"
      refine v_dictP ts sk (.of hD2) hpk fun p3 H3 np3 c3 hp3 => ?_
      rw [mergeK_nd sk [] (by
        show (sk.map (·.1)).Nodup
        have : sk.map (·.1) = (cs.map (·.1)).map Sum.inr := by simp [sk]
        rw [this]
        exact List.Pairwise.map _ (fun a b h z => h (Sum.inr.inj z)) cnd), List.nil_append] at hp3
      have f3 : Ch [] H H3 := c2.trans c3
      walk_at "X"
      refine v_sumVals (cs.map fun e => szF ls e.1) hp3 (by simp [sk]) ?_
      have htot : (cs.map fun e => szF ls e.1).sum = totF cs ls := rfl
      rw [htot]
      have L3 := L.to f3
      walk_at "X"
      refine v_sortD (ls.map (·.1)) (.of L3.d) (by simp [lK]) (by rw [List.length_map]; omega) fun ys p4 H4 hperm hsort np4 c4 hp4 => ?_
      have L4 := L3.to c4
      have f4 := f3.trans c4
      have of_y : ∀ z ∈ ys, ∃ e ∈ ls, e.1 = z := fun z hz => List.mem_map.mp (hperm.mem_iff.mp hz)
      have ynd : ys.Nodup := hperm.nodup_iff.mpr lnd
      have ylen : ys.length ≤ 2 := by rw [hperm.length_eq, List.length_map]; exact ll
      have yok : ∀ z ∈ ys, PyData.strOk z = true := fun z hz => by
        obtain ⟨e, he, rfl⟩ := of_y z hz
        obtain ⟨e2, h2, h3⟩ := List.mem_map.mp (G.sub e he)
        rw [← h3]
        exact hok e2 h2
      have lget : ∀ e ∈ ls, valV (lK ls) (Sum.inr e.1 : Key) = some (.ref e.2.1) := fun e he => by
        have := valV_key (fun e : LE => e.1) (fun e : LE => V.ref e.2.1) ls e.1
        unfold lK
        rw [this, find_nd (g := fun x : LE => x.1) lnd he]
        rfl
      have lq : ∀ e ∈ ls, qOf ls e.1 = e.2.2.map (·.2) := fun e he => by
        unfold qOf
        rw [find_nd (g := fun x : LE => x.1) lnd he]
      have cget : ∀ e ∈ ls, valV (cK cs) (Sum.inr e.1 : Key) = some (.int (cnt cs e.1)) := fun e he => by
        have := valV_key (fun e : Str × Int => e.1) (fun e : Str × Int => V.int e.2) cs e.1
        unfold cK cnt
        obtain ⟨e2, h2, h3, h4⟩ := find_mem (g := fun e : Str × Int => e.1) cnd (G.sub e he)
        rw [this, h4]
        rfl
      refine v_iList (.of hp4) ?_
      intro N hN
      refine lc_W (vs := [8]) walk_list [] (fun i acc H' => acc = (ys.take i).map V.str) hN (fun H' c' => .of (c'.get0 hp4)) (fun _ _ => rfl) ?_ ?_
      · rintro i x acc H' H5 hi hle hacc hc5 rfl ⟨rfl, hx⟩
        rw [List.getElem?_map] at hx
        obtain ⟨z, hz, rfl⟩ := Option.map_eq_some_iff.mp hx
        obtain ⟨e, he, rfl⟩ := of_y z (List.mem_of_getElem? hz)
        have L5 := L4.to hc5
        walk_at "X"
        refine v_dgetS (.of L5.d) (lget e he) ?_
        walk_at "X"
        refine v_new fun p6 H6 np6 c6 hp6 => ?_
        have L6 := L5.to c6
        refine v_neD 2 (dp_qs (L6.l e he) (L6.t e he)) (dp_nil hp6) tm_qs tm_nil (fun h0 => ?_) (fun _ => ?_)
        · obtain ⟨q0, hq0⟩ := G.one e he
          rw [hq0] at h0
          simp at h0
        · walk_at "X"
          rw [List.length_map] at hi
          refine lcW_next hN (c6.get0 hle) (by omega) hacc (hc5.trans c6) fun H7 _ _ => ?_
          rw [take_succ hz, List.map_append]
          rfl
      · rintro acc H5 hN5 _ hc5 rfl
        rw [List.length_map, List.take_length] at hN5
        have f5 := f4.trans hc5
        have L5 := L4.to hc5
        walk_at "X"
        refine v_iList (.of hN5) ?_
        intro S hS
        refine lc_W (vs := [8]) walk_list [] (fun i acc H' => ∃ ts, acc = ts.map V.ref ∧ Paired (fun (t : Addr) (z : Str × Int) => H' t = some (.tup [.str z.1, .int z.2])) ts ((stF ls (ys.take i)).map fun z => (z, (1 : Int)))) hS (fun H' c' => .of (c'.get0 hN5)) (fun _ _ => ⟨[], rfl, .nil⟩) ?_ ?_
        · rintro i x acc H6' H6 hi hle hacc hc6 ⟨ts, rfl, hp⟩ ⟨rfl, hx⟩
          rw [List.getElem?_map] at hx
          obtain ⟨z, hz, rfl⟩ := Option.map_eq_some_iff.mp hx
          obtain ⟨e, he, rfl⟩ := of_y z (List.mem_of_getElem? hz)
          have L6 := L5.to hc6
          obtain ⟨⟨qt, qa, qb⟩, hq0⟩ := G.one e he
          have hl6 := L6.l e he
          have ht6 := L6.t e he
          have lqe := lq e he
          rw [hq0] at hl6 ht6 lqe
          replace hl6 : H6 e.2.1 = some (.lst [.ref qt]) := hl6
          replace ht6 : H6 qt = some (.tup [.int qa, .int qb]) := ht6 _ (List.mem_singleton.mpr rfl)
          walk_at "X"
          refine v_dgetS (.of L6.d) (lget e he) ?_
          walk_at "X"
          have etk := take_succ hz
          rw [List.length_map] at hi
          refine x_iteD (fun h0 => ?_) (fun h0 => ?_)
          · walk_at "X"
            refine v_new fun p7 H7 np7 c7 hp7 => ?_
            refine lcW_next hS (c7.get0 hle) (by omega) hacc (hc6.trans c7) fun H8 c8 _ => ⟨ts ++ [p7], by simp, ?_⟩
            rw [etk]
            unfold stF
            rw [List.filter_append, List.map_append]
            have e1 : (List.filter (fun z => decide (((qOf ls z).headD (0, 0)).1 = 1)) [e.1]).map (fun z => (z, (1 : Int))) = [(e.1, 1)] := by simp [lqe, h0]
            rw [e1]
            exact paired_take (paired_imp hp fun t e h => c8.get1 (c7.get0 h) (tup_ne h hle)) (c8.get1 hp7 (tup_ne hp7 (c7.get0 hle)))
          · refine ⟨_, hle, by omega, hc6, ts, rfl, ?_⟩
            rw [etk]
            unfold stF
            rw [List.filter_append, List.map_append]
            have e1 : (List.filter (fun z => decide (((qOf ls z).headD (0, 0)).1 = 1)) [e.1]).map (fun z => (z, (1 : Int))) = [] := by simp [lqe, h0]
            rw [e1, List.append_nil]
            exact hp
        · rintro acc H6 hS6 _ hc6 ⟨ts, rfl, hpS⟩
          rw [List.length_map, List.take_length] at hpS
          have f6 := f5.trans hc6
          have L6 := L5.to hc6
          walk_at "X"
          refine v_iList (.of (hc6.get0 hN5)) ?_
          intro F hF
          refine lc_W (vs := [8]) walk_list [] (fun i acc H' => ∃ ts, acc = ts.map V.ref ∧ Paired (fun (t : Addr) (z : Str × Int) => H' t = some (.tup [.str z.1, .int z.2])) ts ((enF cs ls (ys.take i)).map fun z => (z, cnt cs z))) hF (fun H' c' => .of (c'.get0 (hc6.get0 hN5))) (fun _ _ => ⟨[], rfl, .nil⟩) ?_ ?_
          · rintro i x acc H7' H7 hi hle hacc hc7 ⟨ts2, rfl, hp⟩ ⟨rfl, hx⟩
            rw [List.getElem?_map] at hx
            obtain ⟨z, hz, rfl⟩ := Option.map_eq_some_iff.mp hx
            obtain ⟨e, he, rfl⟩ := of_y z (List.mem_of_getElem? hz)
            have L7 := L6.to hc7
            have hc7c := hc7.get0 (f6.get0 hc)
            obtain ⟨⟨qt, qa, qb⟩, hq0⟩ := G.one e he
            have hl7 := L7.l e he
            have ht7 := L7.t e he
            have lqe := lq e he
            rw [hq0] at hl7 ht7 lqe
            replace hl7 : H7 e.2.1 = some (.lst [.ref qt]) := hl7
            replace ht7 : H7 qt = some (.tup [.int qa, .int qb]) := ht7 _ (List.mem_singleton.mpr rfl)
            walk_at "X"
            refine v_dgetS (.of L7.d) (lget e he) ?_
            walk_at "X"
            refine v_dgetS (.of hc7c) (cget e he) ?_
            walk_at "X"
            have etk := take_succ hz
            rw [List.length_map] at hi
            refine x_iteD (fun h0 => ?_) (fun h0 => ?_)
            · walk_at "X"
              refine v_dgetS (.of hc7c) (cget e he) ?_
              walk_at "X"
              refine v_new fun p8 H8 np8 c8 hp8 => ?_
              refine lcW_next hF (c8.get0 hle) (by omega) hacc (hc7.trans c8) fun H9 c9 _ => ⟨ts2 ++ [p8], by simp, ?_⟩
              rw [etk]
              unfold enF
              rw [List.filter_append, List.map_append]
              have e1 : (List.filter (fun z => decide (((qOf ls z).getLastD (0, 0)).2 = cnt cs z)) [e.1]).map (fun z => (z, cnt cs z)) = [(e.1, cnt cs e.1)] := by simp [lqe, h0]
              rw [e1]
              exact paired_take (paired_imp hp fun t e h => c9.get1 (c8.get0 h) (tup_ne h hle)) (c9.get1 hp8 (tup_ne hp8 (c8.get0 hle)))
            · refine ⟨_, hle, by omega, hc7, ts2, rfl, ?_⟩
              rw [etk]
              unfold enF
              rw [List.filter_append, List.map_append]
              have e1 : (List.filter (fun z => decide (((qOf ls z).getLastD (0, 0)).2 = cnt cs z)) [e.1]).map (fun z => (z, cnt cs z)) = [] := by simp [lqe, h0]
              rw [e1, List.append_nil]
              exact hp
          · rintro acc H7 hF7 _ hc7 ⟨ts2, rfl, hpE⟩
            rw [List.length_map, List.take_length] at hpE
            have f7 := f6.trans hc7
            have hS7 := hc7.get0 hS6
            have hpS7 := paired_imp hpS fun t e h => hc7.get0 h
            have stok : ∀ z ∈ (stF ls ys).map (fun z => (z, (1 : Int))), PyData.strOk z.1 = true := fun z hz => by
              obtain ⟨y, hy, rfl⟩ := List.mem_map.mp hz
              exact yok y (List.mem_filter.mp hy).1
            have enok : ∀ z ∈ (enF cs ls ys).map (fun z => (z, cnt cs z)), PyData.strOk z.1 = true := fun z hz => by
              obtain ⟨y, hy, rfl⟩ := List.mem_map.mp hz
              exact yok y (List.mem_filter.mp hy).1
            walk_at "X"
            refine v_new fun p8 H8 np8 c8 hp8 => ?_
            walk_at "X"
            refine v_new fun p9 H9 np9 c9 hp9 => ?_
            walk_at "X"
            refine v_new fun p10 H10 np10 c10 hp10 => ?_
            have g10 := (c8.trans c9).trans c10
            refine v_eqK (k := decide (stF ls ys = [])) 2 (dp_prs (g10.get0 hS7) (paired_imp hpS7 fun t e h => g10.get0 h)) (dp_nil hp10) (tm_prs stok) tm_nil ?_ ?_
            · rw [decide_eq_true_eq]
              simp
            walk_at "X"
            refine v_repB (c10.get0 hp9) fun p11 H11 np11 c11 hp11 => ?_
            walk_at "X"
            refine v_new fun p12 H12 np12 c12 hp12 => ?_
            walk_at "X"
            refine v_new fun p13 H13 np13 c13 hp13 => ?_
            walk_at "X"
            refine v_new fun p14 H14 np14 c14 hp14 => ?_
            have g14 := (((g10.trans c11).trans c12).trans c13).trans c14
            refine v_eqK (k := decide (enF cs ls ys = [])) 2 (dp_prs (g14.get0 hF7) (paired_imp hpE fun t e h => g14.get0 h)) (dp_nil hp14) (tm_prs enok) tm_nil ?_ ?_
            · rw [decide_eq_true_eq]
              simp
            walk_at "X"
            refine v_repB (c14.get0 hp13) fun p15 H15 np15 c15 hp15 => ?_
            refine v_cat (((c12.trans c13).trans (c14.trans c15)).get0 hp11) hp15 ?_ fun p16 H16 np16 c16 hp16 => ?_
            · refine Nat.le_trans (m := 2) ?_ (by decide)
              by_cases h1 : stF ls ys = [] <;> by_cases h2 : enF cs ls ys = [] <;> simp [h1, h2]
            have g16 := g14.trans (c15.trans c16)
            have f16 := f7.trans g16
            generalize hfs : (if decide (stF ls ys = []) = true then [V.ref p8] else []) ++ (if decide (enF cs ls ys = []) = true then [V.ref p12] else []) = fs at hp16
            walk_at "x"
            walk_at "x"
            refine x_join (Ch [] H16) (fun H17 c17 => ?_) (fun f' hf' => ?_)
            · have f17 := f16.trans c17
              have p17 := c17.get0 hp16
              have s17 : H17 p3 = some (.dK sk) := ((((c4.trans hc5).trans hc6).trans hc7).trans (g16.trans c17)).get0 hp3
              walk_at "X"
              have hcs : (cK cs).map (·.1) = (cs.map (·.1)).map Sum.inr := by simp [cK]
              refine v_sortD (cs.map (·.1)) (.of (f17.get0 hc)) hcs (by rw [List.length_map]; omega) fun zs p18 H18 zperm zsort np18 c18 hp18 => ?_
              refine v_iList (.of hp18) ?_
              refine for_W walk_list (fun i σ H' => ∃ w8 w9, σ = [some (.ref c), some (.ref d), some (.ref p3), some (.int (totF cs ls)), some (.ref N), some (.ref S), some (.ref F), some (.ref p16), w8, w9, none, none, none] ∧ Ch [] H18 H') ⟨_, _, rfl, .refl _ _⟩ (fun i σ H' _ ⟨_, _, _, c'⟩ => .of (c'.get0 hp18)) ?_ ?_
              · rintro i x σ H19' H19 hi ⟨w8, w9, rfl, c19⟩ ⟨rfl, hx⟩
                rw [List.getElem?_map] at hx
                obtain ⟨z, hz, rfl⟩ := Option.map_eq_some_iff.mp hx
                have hzc : z ∈ cs.map (·.1) := zperm.mem_iff.mp (List.mem_of_getElem? hz)
                obtain ⟨e, he, rfl, hfe⟩ := find_mem (g := fun e : Str × Int => e.1) cnd hzc
                have g19 := c18.trans c19
                have vc : valV (cK cs) (Sum.inr e.1 : Key) = some (.int e.2) := by
                  have := valV_key (fun e : Str × Int => e.1) (fun e : Str × Int => V.int e.2) cs e.1
                  unfold cK
                  rw [this, hfe]
                  rfl
                have vs' : valV sk (Sum.inr e.1 : Key) = some (.int (szF ls e.1)) := by
                  have := valV_key (fun e : Str × Int => e.1) (fun e : Str × Int => V.int (szF ls e.1)) cs e.1
                  show valV (cs.map fun e => (Sum.inr e.1, V.int (szF ls e.1))) _ = _
                  rw [this, hfe]
                  rfl
                have L19 := L.to (f17.trans g19)
                walk_at "X"
                refine v_dgetS (.of ((f17.trans g19).get0 hc)) vc ?_
                walk_at "X"
                refine v_isD L19.d ?_
                walk_at "X"
                refine v_new fun p20 H20 np20 c20 hp20 => ?_
                have L20 := L19.to c20
                refine v_dgetO L20.d ?_
                obtain ⟨a4, ps, e4, ha4, ht4, hq4, hn4⟩ := get_ls L20 G.one hp20 e.1
                rw [e4]
                walk_at "X"
                refine ⟨_, a4, ps, rfl, ha4, ht4, by omega, fun p21 xs H21 hxs np21 c21 hp21 => ?_⟩
                rw [← hq4] at hxs
                walk_at "X"
                refine v_lenL' (n := (lostN e.2 1 (qOf ls e.1) : Nat)) hp21 (by rw [hxs]) ?_
                have g21 := (g19.trans c20).trans c21
                walk_at "X"
                refine v_dgetS (.of (g21.get0 s17)) vs' ?_
                walk_at "X"
                have hg := G.gaps e he
                refine x_iteNP (by omega) ?_
                walk_at "X"
                exact ⟨_, _, rfl, (c19.trans c20).trans c21⟩
              · rintro σ H19 ⟨w8, w9, rfl, c19⟩
                have f19 := f17.trans (c18.trans c19)
                walk_at "X"
                refine v_sumVals (cs.map (·.2)) (f19.get0 hc) (by simp [cK]) ?_
                walk_at "X"
                refine x_iteD (fun h0 => ?_) (fun h0 => ?_)
                · have hne := G.ends h0 ys hperm hsort
                  have hf0 : fs = [] := by rw [← hfs]; simp [hne]
                  subst hf0
                  walk_at "X"
                  exact q p16 H19 (f7.trans (g14.trans c15) |>.free np16) f19 ((c18.trans c19).get0 p17)
                · walk_at "X"
                  refine v_new fun p22 H22 np22 c22 hp22 => ?_
                  exact q p22 H22 (f19.free np22) (f19.trans c22) hp22
            · walk_at "X"
              refine v_eqD 2 (dp_prs (g16.get0 hS7) (paired_imp hpS7 fun t e h => g16.get0 h)) (dp_prs (g16.get0 hF7) (paired_imp hpE fun t e h => g16.get0 h)) (tm_prs stok) (tm_prs enok) (fun he => ?_) (fun he => ?_)
              · walk_at "X"
                have hlen : ts.length = (stF ls ys).length := by
                  have := Paired.length hpS
                  simpa using this
                refine v_lenL' (n := ts.length) (g16.get0 hS7) (by rw [List.length_map]) ?_
                walk_at "X"
                refine x_iteD (fun h1 => ?_) (fun h1 => ?_)
                · walk_at "X"
                  have hG := G.single ys hperm hsort (prs_inj he) (by omega)
                  refine x_iteNP (by omega) ?_
                  walk_at "X"
                  exact hf' _ (.refl _ _)
                · walk_at "X"
                  exact hf' _ (.refl _ _)
              · walk_at "X"
                exact hf' _ (.refl _ _)
end U

set_option Elab.async false
set_option maxRecDepth 100000
namespace U
open PySem PySem.Spec PyProof.Rows L2
/-! ### sorted names are what they are -/
def leS (a b : Str) : Prop := a.cps.toList ≤ b.cps.toList
theorem leS_of {a b : Str} (h : (!ltCps b.cps.toList a.cps.toList) = true) : leS a b := by
  rw [ltCps_eq] at h
  simpa [leS] using h
theorem rising_pw : ∀ (l : List Str) (p : Str), risingS p l = true → (p :: l).Pairwise leS
  | [], p, _ => List.pairwise_singleton _ _
  | x :: r, p, h => by
    simp only [risingS, Bool.and_eq_true] at h
    have ih := rising_pw r x h.2
    have h1 := leS_of h.1
    refine List.pairwise_cons.mpr ⟨fun y hy => ?_, ih⟩
    rcases List.mem_cons.mp hy with rfl | hy
    · exact h1
    · exact List.le_trans h1 ((List.pairwise_cons.mp ih).1 y hy)
theorem sorted_pw {l : List Str} (h : sortedS l = true) : l.Pairwise leS := by
  cases l with
  | nil => exact .nil
  | cons x r => exact rising_pw r x h
theorem str_ext {a b : Str} (h : a.cps.toList = b.cps.toList) : a = b := by
  cases a with
  | mk a => cases b with
    | mk b => exact congrArg Str.mk (Array.toList_inj.mp h)
theorem sorted_eq {ys zs : List Str} (h : ys.Perm zs) (h1 : sortedS ys = true) (h2 : sortedS zs = true) : ys = zs :=
  List.Perm.eq_of_pairwise (fun a b _ _ x y => str_ext (List.le_antisymm x y)) (sorted_pw h1) (sorted_pw h2) h
theorem sorted_of_pw {l : List Str} (h : l.Pairwise leS) : sortedS l = true := sortedS_of_pairwise l (h.imp fun {a b} h => by
  rw [ltCps_eq]
  simpa [leS] using h)
theorem sorted_filter {l : List Str} {p : Str → Bool} (h : sortedS l = true) : sortedS (l.filter p) = true := sorted_of_pw ((sorted_pw h).sublist List.filter_sublist)
end U
namespace U
section
variable {α : Type} {v : α} {A B : Prop}
theorem x_iteS1 (h : B) : if (!(some v).isSome) = true then A else B := by rw [if_neg (by simp)]; exact h
theorem x_iteS2 (h : A) : if ((some v).isSome) = true then A else B := by rw [if_pos (by simp)]; exact h
theorem x_iteS3 (h : A) : if (!(none : Option α).isSome) = true then A else B := by rw [if_pos (by simp)]; exact h
theorem x_iteS4 (h : B) : if ((none : Option α).isSome) = true then A else B := by rw [if_neg (by simp)]; exact h
end
end U

set_option Elab.async false
set_option maxRecDepth 100000
set_option linter.all false
set_option exponentiation.threshold 3000
set_option pp.maxSteps 600
set_option pp.deepTerms false
set_option maxHeartbeats 4000000
namespace U
open PySem PySem.Spec PyProof.Rows L2
local macro_rules | `(tactic| walk_at "ne") => `(tactic| first | assumption | (refine Ne.symm ?_; assumption) | (refine' ne_of_none ?h (by assumption); (case h => walk_at "hp")) | (refine' Ne.symm (ne_of_none ?h (by assumption)); (case h => walk_at "hp")))
local macro_rules | `(tactic| walk_at "hp") => `(tactic| first | assumption | (refine' Ch.get0 (by assumption) ?h; (case h => walk_at "hp")) | (refine' Ch.get1 (by assumption) ?h ?n; (case h => walk_at "hp"); (case n => walk_at "ne")))
local macro_rules | `(tactic| walk_at "x") => `(tactic| first
  | with_reducible refine x_seq ?_ | with_reducible refine x_nx ?_ | with_reducible refine x_rt ?_ | with_reducible refine x_next ?_
  | with_reducible refine x_asg ?_ | ((with_reducible refine' x_gName ?e ?_); (case e => (simp only [wipe, List.map_cons, List.map_nil, List.set_cons_zero, List.set_cons_succ] <;> exact rfl))) | with_reducible refine x_par ?_ | ((with_reducible refine' v_par ?e ?_); (case e => (simp only [wipe, List.map_cons, List.map_nil, List.set_cons_zero, List.set_cons_succ] <;> exact rfl))) | with_reducible refine x_if ?_ | with_reducible refine x_ret ?_ | with_reducible refine x_retN ?_ | with_reducible refine x_drop ?_ | with_reducible refine x_brk ?_
  | with_reducible refine x_var (by with_unfolding_all rfl) ?_ | with_reducible refine x_c ?_ | with_reducible refine x_op ?_ | with_reducible refine x_un ?_
  | with_reducible refine x_test ?_ | with_reducible refine x_tB ?_ | with_reducible refine x_bl ?_ | with_reducible refine x_blk ?_ | with_reducible refine x_chain ?_
  | with_reducible refine x_and ?_ | with_reducible refine x_or ?_ | with_reducible refine x_not ?_ | with_reducible refine x_andV ?_ | with_reducible refine x_orV ?_ | with_reducible refine x_notV ?_ | with_reducible refine x_ifE ?_
  | with_reducible refine x_iteT ?_ | with_reducible refine x_iteF ?_ | with_reducible refine x_iteS1 ?_ | with_reducible refine x_iteS2 ?_ | with_reducible refine x_iteS3 ?_ | with_reducible refine x_iteS4 ?_ | with_reducible refine x_iteT2 ?_ | with_reducible refine x_iteF2 ?_
  | with_reducible refine x_call ?_ | with_reducible refine x_nil ?_ | with_reducible refine x_cons ?_ | with_reducible refine x_cb ?_ | with_reducible refine x_bm ?_ | with_reducible refine x_bm0 ?_ | with_reducible refine x_lstU ?_ | with_reducible refine x_tupU ?_ | with_reducible refine x_gSub ?_
  | with_reducible refine v_add ?_ | with_reducible refine v_I0 ?_ | with_reducible refine v_neg ?_ | with_reducible refine v_eqI ?_ | with_reducible refine v_neI ?_ | with_reducible refine v_eqS ?_ | with_reducible refine v_neS ?_ | with_reducible refine v_eqB ?_ | with_reducible refine v_neB ?_
  | with_reducible refine v_isN0 ?_ | with_reducible refine v_isNI ?_ | with_reducible refine v_isNS ?_ | with_reducible refine v_isNB ?_ | with_reducible refine v_isNR ?_ | with_reducible refine v_noN0 ?_ | with_reducible refine v_noNI ?_ | with_reducible refine v_noNS ?_ | with_reducible refine v_noNB ?_ | with_reducible refine v_noNR ?_ | with_reducible refine v_inS ?_ | with_reducible refine v_isB ?_ | with_reducible refine v_noB ?_
  | ((with_reducible refine' x_and1 (v_tyL ?h) ?_); (case h => walk_at "hp"))
  | with_reducible refine x_pnil ?_ | with_reducible refine x_pcons ?_
  | with_reducible refine x_sumVals ?_ | with_reducible refine x_dget2 ?_ | with_reducible refine x_listItems ?_ | with_reducible refine x_rev ?_ | with_reducible refine v_int1B ?_ | with_reducible refine v_int1I ?_ | with_reducible refine v_reprB ?_
  | with_reducible refine x_yes ?_ | ((with_reducible refine' x_wipe ?e ?_); (case e => rfl))
  | with_reducible refine v_abs ?_ | with_reducible refine v_max ?_ | with_reducible refine v_min ?_ | with_reducible refine v_gCons ?_ | with_reducible refine v_gNil ?_ | with_reducible refine x_for ?_ | with_reducible refine x_iList ?_ | with_reducible refine x_iTup ?_ | with_reducible refine x_iR1 ?_ | with_reducible refine x_iR2 ?_ | with_reducible refine x_lc ?_
  | with_reducible refine x_iStr ?_ | with_reducible refine v_iStr ?_ | with_reducible refine x_iKeys ?_ | with_reducible refine x_iItems ?_ | with_reducible refine x_dget ?_ | with_reducible refine x_din ?_ | with_reducible refine x_dnin ?_ | with_reducible refine x_dput ?_
  | ((with_reducible refine' isi_int ?k ?_); (case k => first | exact (show _ = some true by decide +kernel) | exact (show _ = some false by decide +kernel))) | ((with_reducible refine' isi_str ?k ?_); (case k => first | exact (show _ = some true by decide +kernel) | exact (show _ = some false by decide +kernel))) | ((with_reducible refine' isi_bl ?k ?_); (case k => first | exact (show _ = some true by decide +kernel) | exact (show _ = some false by decide +kernel))) | ((with_reducible refine' isi_non ?k ?_); (case k => first | exact (show _ = some true by decide +kernel) | exact (show _ = some false by decide +kernel)))
  | ((with_reducible refine' isi_tup ?h ?k ?_); (case h => walk_at "hp"); (case k => first | exact (show _ = some true by decide +kernel) | exact (show _ = some false by decide +kernel))) | ((with_reducible refine' isi_lst ?h ?k ?_); (case h => walk_at "hp"); (case k => first | exact (show _ = some true by decide +kernel) | exact (show _ = some false by decide +kernel))) | ((with_reducible refine' isi_dK ?h ?k ?_); (case h => walk_at "hp"); (case k => first | exact (show _ = some true by decide +kernel) | exact (show _ = some false by decide +kernel)))
  | ((with_reducible refine' v_gTup ?h ?l ?_); (case h => walk_at "hp"); (case l => rfl))
  | ((with_reducible refine' v_gUnl ?h ?l ?_); (case h => walk_at "hp"); (case l => rfl))
  | ((with_reducible refine' v_ixT' ?h ?l ?_); (case h => walk_at "hp"); (case l => with_unfolding_all rfl))
  | ((with_reducible refine' v_ixL' ?h ?l ?_); (case h => walk_at "hp"); (case l => with_unfolding_all rfl)))
local macro_rules | `(tactic| walk_at "X") => `(tactic| repeat walk_at "x")


def csU (us : List UE) : List (Str × Int) := us.map fun x => (x.1, x.2.2.1)
structure Vd (us : List UE) (ls : List LE) (t : Int) : Prop where
  one : ∀ e ∈ ls, ∃ q, e.2.2 = [q] ∧ 1 ≤ q.2.1 ∧ q.2.1 ≤ q.2.2 ∧ q.2.2 ≤ (valOf us e.1).1
  w : ∀ ys, ys.Perm (ls.map (·.1)) → sortedS ys = true → (ys.map fun z => szF ls z * (valOf us z).2).sum = t
  good : GoodO (csU us) ls
def sp_law_is_valid (_ : PySem.W.Frag) : Sp := fun vs H Q _ => ∃ (u d : Addr) (us : List UE) (ls : List LE) (t : Int), vs = [.ref u, .int t, .ref d] ∧ UniAt H u us ∧ LsAt H d ls ∧ d ≠ u ∧ (ls.map (·.1)).Nodup ∧ ls.length ≤ 2 ∧ Vd us ls t ∧
  ∀ H', Ch [] H H' → Q (.bl true) H'
theorem ok_law_is_valid {P : Program} {w : World} {K : PySem.W.Frag} {mg : Str → Option Value} {base : Heap} {Z : Ad} (T : Txt K mg Z) : FnOk P w K mg base CX0 3 Z.a_law_is_valid Z.d_law_is_valid ["uniform", "total", "value"] (sp_law_is_valid K) := by
  refine T.F_law_is_valid.ok sc_law_is_valid (fun vs H Q E h => ?_) (fun cdv A outer s H vs Q E hr h => ?_)
  · obtain ⟨u, d, us, ls, t, rfl, _⟩ := h
    rfl
  · have nd := sc_law_is_valid.nd
    have hu := hu_of hr
    obtain ⟨u, d, us, ls, t, rfl, U, L, hdu, lnd, ll, W, q⟩ := h
    refine ⟨_, (pss_cons (ps_if (pt_not (pt_val (pe_callB (isiK (K := K) rfl) (by rfl) T.b_isinstance (by decide +kernel) (pa_cons (pv 2) (pa_cons (pe_bltn (v := .ty "dict") (u := .type "dict") rfl T.b_dict (by decide +kernel) rfl) pa_nil)))))
      (pss_one (ps_ret pe_bl))
      pss_nil)
    (pss_cons (ps_set (i := 3) nd rfl (by first | exact Or.inl rfl | exact Or.inr rfl) (pe_callTy (dictPK (K := K) rfl rfl) (by rfl) T.b_dict (by decide +kernel) (pa_cons (pe_lock (pe_lc (own := [("writer", 5)]) (g := gName 5) (by rfl) nd (pi_keys (pv 0)) (blkOk_by (own := [("writer", 5)]) (N := N_law_is_valid) (sc := defScope s_law_is_valid) (by decide +kernel)) (fun _ _ _ _ _ => pg_name (i := 5) nd rfl (by first | exact Or.inl rfl | exact Or.inr rfl)) (fun _ _ _ _ _ => pts_nil) (fun _ _ _ _ _ => (pe_tup (pa_cons (pv 5) (pa_cons (pe_ix (ix_seqK (K := K) rfl) (pe_dget hu (pv 0) (pv 5) (fun _ _ => rfl)) pe_int (fun _ _ => rfl)) pa_nil)))))) pa_nil)))
    (pss_cons (ps_set (i := 4) nd rfl (by first | exact Or.inl rfl | exact Or.inr rfl) pe_int)
    (pss_cons (ps_for PassesOwn.never rfl (pi_listK (K := K) rfl (pe_callB (call_sortD rfl) (by rfl) T.b_sorted (by decide +kernel) (pa_cons (pv 2) pa_nil))) (pg_name (i := 5) nd rfl (by first | exact Or.inl rfl | exact Or.inr rfl))
      (pss_cons (ps_set (i := 6) nd rfl (by first | exact Or.inl rfl | exact Or.inr rfl) (pe_un un_neg pe_int))
      (pss_cons (ps_if (PW.pt (pw_or (pt_cmp (pc_dnotin hu (pv 5) (pv 3))) (pw_or (pt_not (pt_val (pe_callB (isiK (K := K) rfl) (by rfl) T.b_isinstance (by decide +kernel) (pa_cons (pe_dget hu (pv 2) (pv 5) (fun _ _ => rfl)) (pa_cons (pe_bltn (v := .ty "list") (u := .type "list") rfl T.b_list (by decide +kernel) rfl) pa_nil))))) (pw_or1 (pt_cmpR (op_eqK (K := K) rfl hr.units) (pe_dget hu (pv 2) (pv 5) (fun _ _ => rfl)) (pe_lst pa_nil) (nomark _))))))
        (pss_one (ps_ret pe_bl))
        pss_nil)
      (pss_one (ps_for PassesOwn.never rfl (pi_listK (K := K) rfl (pe_dget hu (pv 2) (pv 5) (fun _ _ => rfl))) (pg_tupK (K := K) (n := 2) rfl rfl (pgs_cons (pg_name (i := 7) nd rfl (by first | exact Or.inl rfl | exact Or.inr rfl)) (pgs_cons (pg_name (i := 8) nd rfl (by first | exact Or.inl rfl | exact Or.inr rfl)) pgs_nil)) rfl rfl)
        (pss_cons (ps_if (PW.pt (pw_or (pt_cmpR op_lt (pv 7) (pe_callB (call_maxU rfl) (by rfl) T.b_max (by decide +kernel) (pa_cons pe_int (pa_cons (pe_op op_addU (pv 6) pe_int) pa_nil))) (nomark _)) (pw_or (pt_cmpR op_lt (pv 8) (pv 7) (nomark _)) (pw_or1 (pt_cmpR op_gt (pv 8) (pe_dget hu (pv 3) (pv 5) (fun _ _ => rfl)) (nomark _))))))
          (pss_one (ps_ret pe_bl))
          pss_nil)
        (pss_cons (ps_set (i := 4) nd rfl (by first | exact Or.inl rfl | exact Or.inr rfl) (pe_op op_addU (pv 4) (pe_op op_mulU (pe_op op_addU (pe_op op_sub (pv 8) (pv 7)) pe_int) (pe_ix (ix_seqK (K := K) rfl) (pe_dget hu (pv 0) (pv 5) (fun _ _ => rfl)) pe_int (fun _ _ => rfl)))))
        (pss_one (ps_set (i := 6) nd rfl (by first | exact Or.inl rfl | exact Or.inr rfl) (pv 8))))))))))
    (pss_one (ps_ret (pe_and (pe_cmpR (op_eqK (K := K) rfl hr.units) (pv 4) (pv 1) (nomark _)) (pe_one (pe_cmpR (op_eqK (K := K) rfl hr.units) (pe_call (ok_law_obstructions T) (hr.mono (by decide)) rfl T.m_law_obstructions T.F_law_obstructions.kp (bd_law_obstructions T) .nil pass0 (pa_cons (pv 3) (pa_cons (pv 2) pa_nil))) (pe_lst pa_nil) (nomark _)))))))))), ?_⟩
    rw [st_law_is_valid]
    have hLd := L.d
    walk_at "X"
    refine x_lockE U.d trivial fun od Hl hl cL => ?_
    walk_at "X"
    refine v_iKeys hl ?_
    intro D hD
    have tl : ∀ x ∈ us, Hl x.2.1 = some (.tup [.int x.2.2.1, .int x.2.2.2]) := fun x hx => cL.get1 (U.t x hx) (fun z => by
      have := U.t x hx
      rw [z, U.d] at this
      cases this)
    have LL : LsAt Hl d ls := L.to1 cL U.d hdu
    have uget : ∀ e ∈ us, valV (uK us) (Sum.inr e.1 : Key) = some (.ref e.2.1) := fun e he => valV_of U.nd he
    refine lc_W (vs := [5]) walk_keys [] (fun i acc H' => ∃ ts, acc = ts.map V.ref ∧ Paired (fun (t : Addr) (e : UE) => H' t = some (.tup [.str e.1, .int e.2.2.1])) ts (us.take i)) hD (fun H' c' => c'.get0 hl) (fun _ _ => ⟨[], rfl, .nil⟩) ?_ ?_
    · rintro i x acc H' H2 hi hle hacc hc' ⟨ts, rfl, hp⟩ ⟨rfl, k, v, hkv, hx⟩
      unfold uK at hkv hi
      rw [List.getElem?_map] at hkv
      rw [List.length_map] at hi
      obtain ⟨e, he, hke⟩ := Option.map_eq_some_iff.mp hkv
      obtain ⟨rfl, rfl⟩ := Prod.mk.inj hke
      obtain rfl : x = .str e.1 := hx
      have hem := List.mem_of_getElem? he
      have ht2 := hc'.get0 (tl e hem)
      walk_at "X"
      refine v_dgetS (.inr ⟨od, hc'.get0 hl⟩) (uget e hem) ?_
      walk_at "X"
      refine v_new fun p5 H5 np5 c5 hp5 => ?_
      have := U.l
      refine lcW_next hD (c5.get0 hle) (by omega) hacc (hc'.trans c5) fun H6 c6 _ => ⟨ts ++ [p5], by simp, ?_⟩
      rw [take_succ he]
      exact paired_take (paired_imp hp fun t e h => c6.get1 (c5.get0 h) (tup_ne h hle)) (c6.get1 hp5 (tup_ne hp5 (c5.get0 hle)))
    · rintro acc H1 hle hacc hc1 ⟨ts, rfl, hp⟩
      unfold uK at hp
      rw [List.length_map, List.take_length] at hp
      refine v_unV U.d (cL.trans (hc1.weak [u])) (hc1.get0 hl) fun H2 c2 cc hc2 => ?_
      have hp2 : Paired (fun (t : Addr) (e : UE) => H2 t = some (.tup [.str e.1, .int e.2.2.1])) ts us := paired_imp hp fun t e h => cc.get1 h (fun z => by rw [z, hc1.get0 hl] at h; cases h)
      have hD2 : H2 D = some (.lst (ts.map V.ref)) := cc.get1 hle (ne_of_none hl hD).symm
      have hpk : Paired (fun (p : Addr) (kv : Key × V) => SqT K H2 p [kV kv.1, kv.2]) ts (cK (csU us)) := by
        have : ∀ {as : List Addr} {bs : List UE}, Paired (fun (t : Addr) (e : UE) => H2 t = some (.tup [.str e.1, .int e.2.2.1])) as bs → Paired (fun (p : Addr) (kv : Key × V) => SqT K H2 p [kV kv.1, kv.2]) as (cK (csU bs)) := by
          intro as bs h
          induction h with
          | nil => exact .nil
          | cons r _ ih => exact .cons (.of r) ih
        exact this hp2
      have csn : (csU us).map (·.1) = us.map (·.1) := by simp [csU]
      walk_at "X"
      refine v_dictP ts (cK (csU us)) (.of hD2) hpk fun p3 H3 np3 c3 hp3 => ?_
      rw [mergeK_nd _ [] (by
        show ((cK (csU us)).map (·.1)).Nodup
        have : (cK (csU us)).map (·.1) = (us.map (·.1)).map Sum.inr := by simp [cK, csU]
        rw [this]
        exact List.Pairwise.map _ (fun a b h z => h (Sum.inr.inj z)) U.nd), List.nil_append] at hp3
      have f3 : Ch [] H H3 := c2.trans c3
      have U3 := U.to f3
      have L3 := L.to f3
      walk_at "X"
      refine v_sortD (ls.map (·.1)) (.of L3.d) (by simp [lK]) (by rw [List.length_map]; omega) fun ys p4 H4 hperm hsort np4 c4 hp4 => ?_
      have f4 := f3.trans c4
      have of_y : ∀ z ∈ ys, ∃ e ∈ ls, e.1 = z := fun z hz => List.mem_map.mp (hperm.mem_iff.mp hz)
      refine v_iList (.of hp4) ?_
      have hw := W.w ys hperm hsort
      have hys : ys.length = ls.length := by rw [hperm.length_eq, List.length_map]
      refine for_W walk_list (fun i σ H' => ∃ w5 w6 w7 w8, σ = [some (.ref u), some (.int t), some (.ref d), some (.ref p3), some (.int ((ys.take i).map fun z => szF ls z * (valOf us z).2).sum), w5, w6, w7, w8] ∧ Ch [] H4 H') ⟨_, _, _, _, rfl, .refl _ _⟩ (fun i σ H' _ ⟨_, _, _, _, _, c'⟩ => .of (c'.get0 hp4)) ?_ ?_
      · rintro i x σ H5' H5 hi ⟨w5, w6, w7, w8, rfl, c5⟩ ⟨rfl, hx⟩
        rw [List.getElem?_map] at hx
        obtain ⟨z, hz, rfl⟩ := Option.map_eq_some_iff.mp hx
        obtain ⟨e, he, rfl⟩ := of_y z (List.mem_of_getElem? hz)
        have f5 := f4.trans c5
        have U5 := U.to f5
        have L5 := L.to f5
        obtain ⟨⟨qt, qa, qb⟩, hq0, hq1, hq2, hq3⟩ := W.one e he
        have hl5 := L5.l e he
        have ht5 := L5.t e he
        have lqe : qOf ls e.1 = e.2.2.map (·.2) := by
          unfold qOf
          rw [find_nd (g := fun x : LE => x.1) lnd he]
        rw [hq0] at hl5 ht5 lqe
        replace hl5 : H5 e.2.1 = some (.lst [.ref qt]) := hl5
        replace ht5 : H5 qt = some (.tup [.int qa, .int qb]) := ht5 _ (List.mem_singleton.mpr rfl)
        have lget : valV (lK ls) (Sum.inr e.1 : Key) = some (.ref e.2.1) := by
          have := valV_key (fun e : LE => e.1) (fun e : LE => V.ref e.2.1) ls e.1
          unfold lK
          rw [this, find_nd (g := fun x : LE => x.1) lnd he]
          rfl
        have hin : e.1 ∈ us.map (·.1) := by rw [← csn]; exact W.good.sub e he
        obtain ⟨x, hx, hxe, hfx⟩ := find_mem (g := fun x : UE => x.1) U.nd hin
        have cget : valV (cK (csU us)) (Sum.inr e.1 : Key) = some (.int x.2.2.1) := by
          have := valV_key (fun e : UE => e.1) (fun e : UE => V.int e.2.2.1) us e.1
          have e2 : cK (csU us) = us.map fun e => (Sum.inr e.1, V.int e.2.2.1) := by simp [cK, csU]
          rw [e2, this, hfx]
          rfl
        have ev := valOf_of U.nd hx
        rw [hxe] at ev
        have hb := U.b x hx
        have hux : valV (uK us) (Sum.inr e.1 : Key) = some (.ref x.2.1) := by rw [← hxe]; exact uget x hx
        have htx := U5.t x hx
        have h35 := c4.trans c5
        rw [ev] at hq3
        dsimp only at hq1 hq2 hq3
        walk_at "X"
        refine v_dinS (.of (h35.get0 hp3)) ?_
        rw [cget]
        walk_at "X"
        refine v_dgetS (.of L5.d) lget ?_
        walk_at "X"
        refine v_dgetS (.of L5.d) lget ?_
        walk_at "X"
        refine v_new fun p6 H6 np6 c6 hp6 => ?_
        refine v_eqD 2 (dp_qs (ps := [(qt, qa, qb)]) (c6.get0 hl5) (by intro q hq; obtain rfl := List.mem_singleton.mp hq; exact c6.get0 ht5)) (dp_nil hp6) tm_qs tm_nil (fun h0 => by simp at h0) (fun _ => ?_)
        have L6 := L5.to c6
        walk_at "X"
        refine v_dgetS (.of L6.d) lget ?_
        have hl6 := c6.get0 hl5
        refine v_iList (.of hl6) ?_
        have ssum : ((ys.take (i + 1)).map fun z => szF ls z * (valOf us z).2).sum = ((ys.take i).map fun z => szF ls z * (valOf us z).2).sum + (qb - qa + 1) * x.2.2.2 := by
          rw [take_succ hz, List.map_append, List.sum_append]
          simp [szF, lqe, ev]
        have f6 := f5.trans c6
        refine for_W walk_list (fun j σ H' => ∃ w7 w8 cov wt, σ = [some (.ref u), some (.int t), some (.ref d), some (.ref p3), some (.int wt), some (.str e.1), some (.int cov), w7, w8] ∧ Ch [] H6 H' ∧ (j = 0 → cov = -1 ∧ wt = ((ys.take i).map fun z => szF ls z * (valOf us z).2).sum) ∧ (j = 1 → wt = ((ys.take (i + 1)).map fun z => szF ls z * (valOf us z).2).sum))
          ⟨_, _, _, _, rfl, .refl _ _, fun _ => ⟨rfl, rfl⟩, fun h => by omega⟩ (fun j σ H' _ ⟨_, _, _, _, _, c', _⟩ => .of (c'.get0 hl6)) ?_ ?_
        · rintro j xx σ H7' H7 hj ⟨w7, w8, cov, wt, rfl, c7, hj0, _⟩ ⟨rfl, hxx⟩
          obtain rfl : j = 0 := by simpa using hj
          obtain ⟨rfl, rfl⟩ := hj0 rfl
          obtain rfl : xx = .ref qt := by simpa using hxx.symm
          have ht7 := c7.get0 (c6.get0 ht5)
          have g7 := h35.trans (c6.trans c7)
          have U7 := U5.to (c6.trans c7)
          have htx7 := U7.t x hx
          walk_at "X"
          refine x_iteNP (by omega) ?_
          walk_at "X"
          refine x_iteNP (by omega) ?_
          walk_at "X"
          refine v_dgetS (.of (g7.get0 hp3)) cget ?_
          walk_at "X"
          refine x_iteNP (by omega) ?_
          walk_at "X"
          refine v_dgetS (.of U7.d) hux ?_
          walk_at "X"
          refine v_mul (mulS (by omega) (by omega) (by omega) (by omega)) ?_
          walk_at "X"
          exact ⟨_, _, _, _, rfl, c7, fun h => by omega, fun _ => ssum.symm⟩
        · rintro σ H7 ⟨w7, w8, cov, wt, rfl, c7, _, hj1⟩
          obtain rfl := hj1 rfl
          walk_at "X"
          exact ⟨_, _, _, _, rfl, c5.trans (c6.trans c7)⟩
      · rintro σ H5 ⟨w5, w6, w7, w8, rfl, c5⟩
        rw [List.length_map, List.take_length, hw]
        have f5 := f4.trans c5
        walk_at "X"
        refine x_iteP rfl ?_
        walk_at "X"
        have hcok : ∀ e ∈ csU us, PyData.strOk e.1 = true := fun e he => by
          obtain ⟨x, hx, rfl⟩ := List.mem_map.mp he
          exact strOk_W (U.wr x hx)
        refine ⟨p3, d, csU us, ls, rfl, (c4.trans c5).get0 hp3, L.to f5, by rw [csn]; exact U.nd, by simp [csU]; exact U.l.2, lnd, ll, hcok, ne_of_none (c2.get0 L.d) np3, W.good, fun p6 H6 np6 c6 hp6 => ?_⟩
        walk_at "X"
        refine v_new fun p7 H7 np7 c7 hp7 => ?_
        refine v_eqD 1 (dp_nil (c7.get0 hp6)) (dp_nil hp7) tm_nil tm_nil (fun _ => ?_) (fun h => (h rfl).elim)
        walk_at "X"
        exact q H7 (f5.trans (c6.trans c7))
end U

set_option Elab.async false
set_option maxRecDepth 100000
set_option linter.all false
set_option exponentiation.threshold 3000
set_option pp.maxSteps 600
set_option pp.deepTerms false
set_option maxHeartbeats 4000000
namespace U
open PySem PySem.Spec PyProof.Rows L2
local macro_rules | `(tactic| walk_at "ne") => `(tactic| first | assumption | (refine Ne.symm ?_; assumption) | (refine' ne_of_none ?h (by assumption); (case h => walk_at "hp")) | (refine' Ne.symm (ne_of_none ?h (by assumption)); (case h => walk_at "hp")))
local macro_rules | `(tactic| walk_at "hp") => `(tactic| first | assumption | (refine' Ch.get0 (by assumption) ?h; (case h => walk_at "hp")) | (refine' Ch.get1 (by assumption) ?h ?n; (case h => walk_at "hp"); (case n => walk_at "ne")))
local macro_rules | `(tactic| walk_at "x") => `(tactic| first
  | with_reducible refine x_seq ?_ | with_reducible refine x_nx ?_ | with_reducible refine x_rt ?_ | with_reducible refine x_next ?_
  | with_reducible refine x_asg ?_ | ((with_reducible refine' x_gName ?e ?_); (case e => (simp only [wipe, List.map_cons, List.map_nil, List.set_cons_zero, List.set_cons_succ] <;> exact rfl))) | with_reducible refine x_par ?_ | ((with_reducible refine' v_par ?e ?_); (case e => (simp only [wipe, List.map_cons, List.map_nil, List.set_cons_zero, List.set_cons_succ] <;> exact rfl))) | with_reducible refine x_if ?_ | with_reducible refine x_ret ?_ | with_reducible refine x_retN ?_ | with_reducible refine x_drop ?_ | with_reducible refine x_brk ?_
  | with_reducible refine x_var (by with_unfolding_all rfl) ?_ | with_reducible refine x_c ?_ | with_reducible refine x_op ?_ | with_reducible refine x_un ?_
  | with_reducible refine x_test ?_ | with_reducible refine x_tB ?_ | with_reducible refine x_bl ?_ | with_reducible refine x_blk ?_ | with_reducible refine x_chain ?_
  | with_reducible refine x_and ?_ | with_reducible refine x_or ?_ | with_reducible refine x_not ?_ | with_reducible refine x_andV ?_ | with_reducible refine x_orV ?_ | with_reducible refine x_notV ?_ | with_reducible refine x_ifE ?_
  | with_reducible refine x_iteT ?_ | with_reducible refine x_iteF ?_ | with_reducible refine x_iteS1 ?_ | with_reducible refine x_iteS2 ?_ | with_reducible refine x_iteS3 ?_ | with_reducible refine x_iteS4 ?_ | with_reducible refine x_iteT2 ?_ | with_reducible refine x_iteF2 ?_
  | with_reducible refine x_call ?_ | with_reducible refine x_nil ?_ | with_reducible refine x_cons ?_ | with_reducible refine x_cb ?_ | with_reducible refine x_bm ?_ | with_reducible refine x_bm0 ?_ | with_reducible refine x_lstU ?_ | with_reducible refine x_tupU ?_ | with_reducible refine x_gSub ?_
  | with_reducible refine v_add ?_ | with_reducible refine v_I0 ?_ | with_reducible refine v_neg ?_ | with_reducible refine v_eqI ?_ | with_reducible refine v_neI ?_ | with_reducible refine v_eqS ?_ | with_reducible refine v_neS ?_ | with_reducible refine v_eqB ?_ | with_reducible refine v_neB ?_
  | with_reducible refine v_isN0 ?_ | with_reducible refine v_isNI ?_ | with_reducible refine v_isNS ?_ | with_reducible refine v_isNB ?_ | with_reducible refine v_isNR ?_ | with_reducible refine v_noN0 ?_ | with_reducible refine v_noNI ?_ | with_reducible refine v_noNS ?_ | with_reducible refine v_noNB ?_ | with_reducible refine v_noNR ?_ | with_reducible refine v_inS ?_ | with_reducible refine v_isB ?_ | with_reducible refine v_noB ?_
  | ((with_reducible refine' x_and1 (v_tyL ?h) ?_); (case h => walk_at "hp"))
  | with_reducible refine x_pnil ?_ | with_reducible refine x_pcons ?_
  | with_reducible refine x_sumVals ?_ | with_reducible refine x_dget2 ?_ | with_reducible refine x_listItems ?_ | with_reducible refine x_rev ?_ | with_reducible refine v_int1B ?_ | with_reducible refine v_int1I ?_ | with_reducible refine v_reprB ?_
  | with_reducible refine x_yes ?_ | ((with_reducible refine' x_wipe ?e ?_); (case e => rfl))
  | with_reducible refine v_abs ?_ | with_reducible refine v_max ?_ | with_reducible refine v_min ?_ | with_reducible refine v_gCons ?_ | with_reducible refine v_gNil ?_ | with_reducible refine x_for ?_ | with_reducible refine x_iList ?_ | with_reducible refine x_iTup ?_ | with_reducible refine x_iR1 ?_ | with_reducible refine x_iR2 ?_ | with_reducible refine x_lc ?_
  | with_reducible refine x_iStr ?_ | with_reducible refine v_iStr ?_ | with_reducible refine x_iKeys ?_ | with_reducible refine x_iItems ?_ | with_reducible refine x_dget ?_ | with_reducible refine x_din ?_ | with_reducible refine x_dnin ?_ | with_reducible refine x_dput ?_
  | ((with_reducible refine' isi_int ?k ?_); (case k => first | exact (show _ = some true by decide +kernel) | exact (show _ = some false by decide +kernel))) | ((with_reducible refine' isi_str ?k ?_); (case k => first | exact (show _ = some true by decide +kernel) | exact (show _ = some false by decide +kernel))) | ((with_reducible refine' isi_bl ?k ?_); (case k => first | exact (show _ = some true by decide +kernel) | exact (show _ = some false by decide +kernel))) | ((with_reducible refine' isi_non ?k ?_); (case k => first | exact (show _ = some true by decide +kernel) | exact (show _ = some false by decide +kernel)))
  | ((with_reducible refine' isi_tup ?h ?k ?_); (case h => walk_at "hp"); (case k => first | exact (show _ = some true by decide +kernel) | exact (show _ = some false by decide +kernel))) | ((with_reducible refine' isi_lst ?h ?k ?_); (case h => walk_at "hp"); (case k => first | exact (show _ = some true by decide +kernel) | exact (show _ = some false by decide +kernel))) | ((with_reducible refine' isi_dK ?h ?k ?_); (case h => walk_at "hp"); (case k => first | exact (show _ = some true by decide +kernel) | exact (show _ = some false by decide +kernel)))
  | ((with_reducible refine' v_gTup ?h ?l ?_); (case h => walk_at "hp"); (case l => rfl))
  | ((with_reducible refine' v_gUnl ?h ?l ?_); (case h => walk_at "hp"); (case l => rfl))
  | ((with_reducible refine' v_ixT' ?h ?l ?_); (case h => walk_at "hp"); (case l => with_unfolding_all rfl))
  | ((with_reducible refine' v_ixL' ?h ?l ?_); (case h => walk_at "hp"); (case l => with_unfolding_all rfl)))
local macro_rules | `(tactic| walk_at "X") => `(tactic| repeat walk_at "x")


theorem cnt_val (us : List UE) (z : Str) : cnt (csU us) z = (valOf us z).1 := by
  unfold cnt csU valOf
  rw [List.find?_map]
  have : ((fun e : Str × Int => decide (e.1 = z)) ∘ fun x : UE => (x.1, x.2.2.1)) = fun x : UE => decide (x.1 = z) := rfl
  rw [this]
  cases us.find? (fun x => decide (x.1 = z)) <;> rfl
theorem er_nil {ls : List LE} (h : erL ls = []) : ls = [] := by
  unfold erL at h
  exact List.map_eq_nil_iff.mp h
theorem er_one {ls : List LE} {z : Str} {a b : Int} (h : erL ls = [(z, [(a, b)])]) : ∃ l t, ls = [(z, l, [(t, a, b)])] := by
  obtain ⟨⟨z', l, qs⟩, rfl⟩ := List.length_eq_one_iff.mp (show ls.length = 1 by simpa [erL] using congrArg List.length h)
  unfold erL at h
  simp only [List.map_cons, List.map_nil, List.cons.injEq, Prod.mk.injEq, and_true] at h
  obtain ⟨rfl, h⟩ := h
  obtain ⟨⟨t, q⟩, rfl⟩ := List.length_eq_one_iff.mp (show qs.length = 1 by simpa using congrArg List.length h)
  simp only [List.map_cons, List.map_nil, List.cons.injEq, and_true] at h
  subst h
  exact ⟨l, t, rfl⟩
theorem er_two {ls : List LE} {x y : Str} {a b a' b' : Int} (h : erL ls = [(x, [(a, b)]), (y, [(a', b')])]) : ∃ l t l' t', ls = [(x, l, [(t, a, b)]), (y, l', [(t', a', b')])] := by
  obtain ⟨e1, e2, rfl⟩ : ∃ e1 e2, ls = [e1, e2] := by
    have hl : ls.length = 2 := by simpa [erL] using congrArg List.length h
    clear h
    match ls, hl with
    | [e1, e2], _ => exact ⟨e1, e2, rfl⟩
  unfold erL at h
  simp only [List.map_cons, List.map_nil, List.cons.injEq, and_true] at h
  obtain ⟨l, t, h1⟩ := er_one (ls := [e1]) (z := x) (a := a) (b := b) (by
    unfold erL
    simp only [List.map_cons, List.map_nil, List.cons.injEq, and_true]
    exact h.1)
  obtain ⟨l', t', h2⟩ := er_one (ls := [e2]) (z := y) (a := a') (b := b') (by
    unfold erL
    simp only [List.map_cons, List.map_nil, List.cons.injEq, and_true]
    exact h.2)
  exact ⟨l, t, l', t', by rw [List.cons.inj h1 |>.1, List.cons.inj h2 |>.1]⟩
theorem perm_two {α : Type} {x y : α} {ys : List α} (h : ys.Perm [x, y]) : ys = [x, y] ∨ ys = [y, x] := by
  match ys, h.length_eq with
  | [a, b], _ =>
    have ha : a ∈ [x, y] := h.mem_iff.mp (by simp)
    have hb : b ∈ [x, y] := h.mem_iff.mp (by simp)
    have hx : x ∈ [a, b] := h.mem_iff.mpr (by simp)
    have hy : y ∈ [a, b] := h.mem_iff.mpr (by simp)
    simp only [List.mem_cons, List.not_mem_nil, or_false] at ha hb hx hy
    rcases ha with rfl | rfl
    · rcases hb with rfl | rfl
      · rcases hy with rfl | rfl <;> exact .inl rfl
      · exact .inl rfl
    · rcases hb with rfl | rfl
      · exact .inr rfl
      · rcases hx with rfl | rfl <;> exact .inl rfl
/-- what is known of the weights, as data -/
structure UD (us : List UE) : Prop where
  nd : (us.map (·.1)).Nodup
  b : ∀ x ∈ us, 0 ≤ x.2.2.1
  l : 1 ≤ us.length ∧ us.length ≤ 2
theorem UniAt.ud {H : Hp} {u : Addr} {us : List UE} (h : UniAt H u us) : UD us := ⟨h.nd, fun x hx => (h.b x hx).1.1, h.l⟩
theorem vd_e0 {us : List UE} {ys : List Str} (D : UD us) (hp : ys.Perm (us.map (·.1))) (hw : wsOf (valOf us) ys = []) : Vd us [] 0 := by
  have z0 : ∀ x ∈ us, x.2.2.1 = 0 := by
    intro x hx
    have h1 := D.b x hx
    have h2 : ¬ 0 < (valOf us x.1).1 := by
      intro h3
      have : x.1 ∈ wsOf (valOf us) ys := List.mem_filter.mpr ⟨hp.mem_iff.mpr (List.mem_map_of_mem hx), decide_eq_true h3⟩
      rw [hw] at this
      cases this
    rw [valOf_of D.nd hx] at h2
    omega
  have s0 : ∀ z, szF [] z = 0 := fun _ => rfl
  have t0 : totF (csU us) [] = 0 := by
    unfold totF
    have : ∀ xs : List (Str × Int), (xs.map fun e => szF [] e.1).sum = 0 := by
      intro xs
      induction xs with
      | nil => rfl
      | cons x xs ih => rw [List.map_cons, List.sum_cons, ih, s0]; rfl
    exact this _
  refine ⟨by simp, fun ys h _ => ?_, ⟨by simp, by simp, fun ys h _ _ h1 => ?_, fun e he => ?_, fun h => ?_⟩⟩
  · rw [List.perm_nil.mp h]
    rfl
  · rw [List.perm_nil.mp h] at h1
    simp [stF] at h1
  · rw [t0, s0]
    obtain ⟨x, hx, rfl⟩ := List.mem_map.mp he
    simp [lostN, qOf, z0 x hx]
  · exfalso
    have : ∀ xs : List UE, (∀ x ∈ xs, x.2.2.1 = 0) → ((csU xs).map (·.2)).sum = 0 := by
      intro xs
      induction xs with
      | nil => intro _; rfl
      | cons x xs ih =>
        intro hx
        show x.2.2.1 + ((csU xs).map (·.2)).sum = 0
        rw [ih fun y hy => hx y (List.mem_cons_of_mem _ hy), hx x (List.mem_cons_self ..)]
        rfl
    rw [this us z0] at h
    omega
theorem vd_whole {us : List UE} {z : Str} {l t : Addr} {n : Int} (D : UD us) (hz : z ∈ us.map (·.1)) (hn : (valOf us z).1 = n) (h0 : 0 < n) : Vd us [(z, l, [(t, 1, n)])] (n * (valOf us z).2) := by
  have qz : qOf [(z, l, [(t, 1, n)])] z = [(1, n)] := by simp [qOf]
  have qn : ∀ y, y ≠ z → qOf [(z, l, [(t, 1, n)])] y = [] := fun y h => by simp [qOf, Ne.symm h]
  have sz : szF [(z, l, [(t, 1, n)])] z = n := by simp [szF, qz]
  have sn : ∀ y, y ≠ z → szF [(z, l, [(t, 1, n)])] y = 0 := fun y h => by simp [szF, qn y h]
  have tot : totF (csU us) [(z, l, [(t, 1, n)])] = n := by
    unfold totF csU
    rw [List.map_map]
    match us, D.l, D.nd, hz with
    | [e], _, _, hz =>
      obtain rfl : z = e.1 := by simpa using hz
      simpa using sz
    | [e1, e2], _, nd, hz =>
      have hne : e1.1 ≠ e2.1 := by
        intro h
        simp [h] at nd
      rcases (by simpa using hz : z = e1.1 ∨ z = e2.1) with rfl | rfl
      · have := sn e2.1 hne.symm
        simp [sz, this]
      · have := sn e1.1 hne
        simp [sz, this]
  have one : ∀ ys : List Str, ys.Perm [z] → ys = [z] := fun ys h => List.perm_singleton.mp h
  refine ⟨?_, fun ys h _ => ?_, ⟨?_, ?_, fun ys h _ he h1 => ?_, fun e he => ?_, fun _ ys h _ => ?_⟩⟩
  · intro e he
    obtain rfl := List.mem_singleton.mp he
    exact ⟨_, rfl, Int.le_refl _, h0, by rw [hn]; exact Int.le_refl _⟩
  · rw [one ys h]
    simp [sz]
  · intro e he
    obtain rfl := List.mem_singleton.mp he
    exact ⟨_, rfl⟩
  · intro e he
    obtain rfl := List.mem_singleton.mp he
    simpa [csU] using hz
  · rw [one ys h] at he
    have e1 : stF [(z, l, [(t, 1, n)])] [z] = [z] := by simp [stF, qz]
    have e2 : enF (csU us) [(z, l, [(t, 1, n)])] [z] = [z] := by simp [enF, qz, cnt_val, hn]
    rw [e1, e2] at he
    simp [cnt_val, hn] at he
    rw [tot]
    omega
  · obtain ⟨x, hx, rfl⟩ := List.mem_map.mp he
    rw [tot]
    by_cases h : x.1 = z
    · have := valOf_of D.nd hx
      rw [h, ] at this
      have hx2 : x.2.2.1 = n := by rw [← hn, this]
      dsimp only
      rw [h, qz, sz, hx2]
      simp [lostN]
      omega
    · dsimp only
      rw [qn _ h, sn _ h]
      simp only [lostN]
      split <;> omega
  · rw [one ys h]
    have e1 : stF [(z, l, [(t, 1, n)])] [z] = [z] := by simp [stF, qz]
    have e2 : enF (csU us) [(z, l, [(t, 1, n)])] [z] = [z] := by simp [enF, qz, cnt_val, hn]
    rw [e1, e2]
    simp
theorem vd_two {us : List UE} {x y : Str} {l t l' t' : Addr} {c k t0 : Int} (D : UD us) (hp : [x, y].Perm (us.map (·.1))) (hs : sortedS [x, y] = true) (hS : Sol (valOf us x).1 (valOf us x).2 (valOf us y).1 (valOf us y).2 t0 c k) :
    Vd us [(x, l, [(t, 1, c)]), (y, l', [(t', (valOf us y).1 - k + 1, (valOf us y).1)])] t0 := by
  obtain ⟨c1, c2, k1, k2, ht⟩ := hS
  have hne : x ≠ y := by
    intro h
    have := hp.nodup_iff.mpr D.nd
    simp [h] at this
  generalize hm : (valOf us y).1 = m at *
  generalize hls : ([(x, l, [(t, 1, c)]), (y, l', [(t', m - k + 1, m)])] : List LE) = ls
  have qx : qOf ls x = [(1, c)] := by simp [qOf, ← hls]
  have qy : qOf ls y = [(m - k + 1, m)] := by simp [qOf, ← hls, hne]
  have sx : szF ls x = c := by simp [szF, qx]
  have sy : szF ls y = k := by
    simp [szF, qy]
    omega
  have tot : totF (csU us) ls = c + k := by
    unfold totF csU
    rw [List.map_map]
    rcases perm_two hp.symm with h | h
    · have : us.map ((fun e : Str × Int => szF ls e.1) ∘ fun x : UE => (x.1, x.2.2.1)) = (us.map (·.1)).map (szF ls) := by rw [List.map_map]; rfl
      rw [this, h]
      simp [sx, sy]
    · have : us.map ((fun e : Str × Int => szF ls e.1) ∘ fun x : UE => (x.1, x.2.2.1)) = (us.map (·.1)).map (szF ls) := by rw [List.map_map]; rfl
      rw [this, h]
      simp [sx, sy]
      omega
  have nm : ls.map (·.1) = [x, y] := by rw [← hls]; rfl
  have mem : ∀ e ∈ ls, e = (x, l, [(t, 1, c)]) ∨ e = (y, l', [(t', m - k + 1, m)]) := fun e he => by rw [← hls] at he; simpa using he
  have ey : ∀ ys : List Str, ys.Perm (ls.map (·.1)) → sortedS ys = true → ys = [x, y] := fun ys h h2 => sorted_eq (by rw [← nm]; exact h) h2 hs
  have est : stF ls [x, y] = x :: (if m - k + 1 = 1 then [y] else []) := by
    simp only [stF, List.filter_cons, qx, qy, List.filter_nil]
    simp
  have een : enF (csU us) ls [x, y] = (if c = (valOf us x).1 then [x] else []) ++ [y] := by
    simp only [enF, List.filter_cons, qx, qy, List.filter_nil, cnt_val, hm]
    by_cases h : c = (valOf us x).1 <;> simp [h]
  refine ⟨?_, fun ys h h2 => ?_, ⟨?_, ?_, fun ys h h2 he h1 => ?_, fun e he => ?_, fun _ ys h h2 => ?_⟩⟩
  · intro e he
    rcases mem e he with rfl | rfl
    · exact ⟨_, rfl, Int.le_refl _, c1, c2⟩
    · refine ⟨_, rfl, ?_, ?_, ?_⟩
      · dsimp only; omega
      · dsimp only; omega
      · dsimp only; omega
  · rw [ey ys h h2]
    simp only [List.map_cons, List.map_nil, List.sum_cons, List.sum_nil, sx, sy]
    omega
  · intro e he
    rcases mem e he with rfl | rfl <;> exact ⟨_, rfl⟩
  · intro e he
    have e1 : (csU us).map (·.1) = us.map (·.1) := by simp [csU]
    rw [e1]
    refine hp.mem_iff.mp ?_
    rcases mem e he with rfl | rfl <;> simp
  · exfalso
    rw [ey ys h h2, est, een] at he
    rw [ey ys h h2, est] at h1
    by_cases h3 : m - k + 1 = 1
    · rw [if_pos h3] at h1
      simp at h1
    · rw [if_neg h3] at he
      by_cases h4 : c = (valOf us x).1
      · rw [if_pos h4] at he
        simp at he
      · rw [if_neg h4] at he
        simp at he
        exact hne he.1
  · obtain ⟨w, hw, rfl⟩ := List.mem_map.mp he
    have hv := valOf_of D.nd hw
    have hwn : w.1 ∈ [x, y] := hp.mem_iff.mpr (List.mem_map_of_mem hw)
    dsimp only
    rw [tot]
    rcases (by simpa using hwn : w.1 = x ∨ w.1 = y) with h | h
    · rw [h, qx, sx]
      simp only [lostN]
      rw [if_neg (by omega)]
      split <;> omega
    · rw [h, qy, sy]
      have : w.2.2.1 = m := by rw [← hm, ← h, hv]
      simp only [lostN, this]
      rw [if_neg (show ¬ m + 1 ≤ m by omega)]
      split <;> omega
  · rw [ey ys h h2, est, een]
    constructor
    · simp
    · by_cases h : c = (valOf us x).1 <;> simp [h]
/-- reachable -/
def Rch (val : Str → Int × Int) (ws : List Str) (t : Int) : Prop := (ws = [] ∧ t = 0) ∨ (∃ z ∈ ws, (val z).1 * (val z).2 = t) ∨ ∃ x y c k, ws = [x, y] ∧ Sol (val x).1 (val x).2 (val y).1 (val y).2 t c k
theorem Res.rch {val : Str → Int × Int} {ys : List Str} {t : Int} {r : Option (List (Str × List (Int × Int)))} (h : Res val ys t r) : r.isSome = true ↔ Rch val (wsOf val ys) t := by
  cases h with
  | e0 h ht => simp [Rch, h, ht]
  | eN h ht => simp [Rch, h, ht]
  | whole z h =>
    simp only [Option.isSome_some, true_iff]
    have h1 := List.mem_of_find?_eq_some h
    have h2 := List.find?_some h
    exact .inr (.inl ⟨z, h1, by simpa using h2⟩)
  | one x h0 h =>
    simp only [Option.isSome_none, Bool.false_eq_true, false_iff]
    rintro (⟨h1, _⟩ | ⟨z, h1, h2⟩ | ⟨x', y', c, k, h1, _⟩)
    · rw [h] at h1
      cases h1
    · have := List.find?_eq_none.mp h0 z h1
      simp [h2] at this
    · rw [h] at h1
      cases h1
  | two x y c k h0 h hl =>
    simp only [Option.isSome_some, true_iff]
    exact .inr (.inr ⟨x, y, c, k, h, hl.1⟩)
  | twoN x y h0 h hn =>
    simp only [Option.isSome_none, Bool.false_eq_true, false_iff]
    rintro (⟨h1, _⟩ | ⟨z, h1, h2⟩ | ⟨x', y', c, k, h1, h2⟩)
    · rw [h] at h1
      cases h1
    · have := List.find?_eq_none.mp h0 z h1
      simp [h2] at this
    · rw [h] at h1
      cases h1
      exact hn c k h2
theorem Res.uniq {val : Str → Int × Int} {ys : List Str} {t : Int} {r r' : Option (List (Str × List (Int × Int)))} (h : Res val ys t r) (h' : Res val ys t r') : r = r' := by
  have hs : r.isSome = r'.isSome := Bool.eq_iff_iff.mpr (h.rch.trans h'.rch.symm)
  cases h with
  | e0 h ht =>
    cases h' with
    | e0 _ _ => rfl
    | eN _ hn => exact absurd ht hn
    | whole z h2 => rw [h] at h2; simp at h2
    | one x _ h2 => rw [h] at h2; cases h2
    | two x y c k _ h2 _ => rw [h] at h2; cases h2
    | twoN x y _ h2 _ => rw [h] at h2; cases h2
  | whole z h =>
    cases h' with
    | e0 h2 _ => rw [h2] at h; simp at h
    | eN h2 _ => rw [h2] at h; simp at h
    | whole z' h2 => rw [h] at h2; cases h2; rfl
    | one x h0 _ => rw [h] at h0; cases h0
    | two x y c k h0 _ _ => rw [h] at h0; cases h0
    | twoN x y h0 _ _ => rw [h] at h0; cases h0
  | two x y c k h0 h hl =>
    cases h' with
    | e0 h2 _ => rw [h2] at h; cases h
    | eN h2 _ => rw [h2] at h; cases h
    | whole z' h2 => rw [h0] at h2; cases h2
    | one x _ h2 => simp at hs
    | two x' y' c' k' _ h2 hl' =>
      rw [h] at h2
      cases h2
      obtain ⟨rfl, rfl⟩ := hl.uniq hl'
      rfl
    | twoN x y _ h2 _ => simp at hs
  | eN h ht =>
    cases r' with
    | none => rfl
    | some _ => simp at hs
  | one x h0 h =>
    cases r' with
    | none => rfl
    | some _ => simp at hs
  | twoN x y h0 h hn =>
    cases r' with
    | none => rfl
    | some _ => simp at hs
/-- a result is a valid line set -/
theorem Res.vd {us : List UE} {ys : List Str} {t : Int} {ls : List LE} (D : UD us) (hp : ys.Perm (us.map (·.1))) (hs : sortedS ys = true) (h : Res (valOf us) ys t (some (erL ls))) : Vd us ls t ∧ (ls.map (·.1)).Nodup ∧ ls.length ≤ 2 := by
  generalize hr : some (erL ls) = r at h
  cases h with
  | e0 h ht =>
    obtain rfl := er_nil (Option.some.inj hr)
    subst ht
    exact ⟨vd_e0 D hp h, by simp, by simp⟩
  | eN h ht => cases hr
  | whole z h =>
    obtain ⟨l, q, rfl⟩ := er_one (Option.some.inj hr)
    have h1 := List.mem_filter.mp (List.mem_of_find?_eq_some h)
    have h2 : (valOf us z).1 * (valOf us z).2 = t := by simpa using List.find?_some h
    have := vd_whole (l := l) (t := q) D (hp.mem_iff.mp h1.1) rfl (of_decide_eq_true h1.2)
    rw [h2] at this
    exact ⟨this, by simp, by simp⟩
  | one x h0 h => cases hr
  | two x y c k h0 h hl =>
    obtain ⟨l, q, l', q', rfl⟩ := er_two (Option.some.inj hr)
    have hy : ys = [x, y] := by
      have h1 : ys.length ≤ 2 := by
        rw [hp.length_eq, List.length_map]
        exact D.l.2
      have h2 : (wsOf (valOf us) ys).Sublist ys := List.filter_sublist
      rw [h] at h2
      exact (h2.eq_of_length_le h1).symm
    subst hy
    have hne : x ≠ y := by
      intro z
      have := hp.nodup_iff.mpr D.nd
      simp [z] at this
    exact ⟨vd_two D hp hs hl.1, by simpa using hne, by simp⟩
  | twoN x y h0 h hn => cases hr
end U

set_option Elab.async false
set_option maxRecDepth 100000
set_option exponentiation.threshold 3000
/-! Sh: how long a repr is. -/
namespace U
open PySem PySem.Spec PyProof.Rows L2
mutual
/-- a bound on repr's length -/
def wd : PyData → Nat
  | .none => 4
  | .bool _ => 5
  | .int _ => 2000
  | .str x => 10 * x.length + 2
  | .list xs => 2 + wdAll xs
  | .tuple xs => 3 + wdAll xs
  | .dict kvs => 2 + wdKv kvs
def wdAll : List PyData → Nat
  | [] => 0
  | x :: xs => wd x + 2 + wdAll xs
def wdKv : List (PyData × PyData) → Nat
  | [] => 0
  | (k, v) :: r => wd k + 2 + wd v + 2 + wdKv r
end
mutual
/-- its texts are made of signs -/
def okS : PyData → Prop
  | .str x => ∀ c ∈ x.cps.toList, c < 16 ^ 8
  | .list xs | .tuple xs => okAll xs
  | .dict kvs => okKv kvs
  | _ => True
def okAll : List PyData → Prop
  | [] => True
  | x :: xs => okS x ∧ okAll xs
def okKv : List (PyData × PyData) → Prop
  | [] => True
  | (k, v) :: r => okS k ∧ okS v ∧ okKv r
end
theorem textFrom_le : ∀ (ts : List Str) (k : Nat) (acc : Str), (textFrom k acc ts).length ≤ acc.length + piled ts
  | [], _, acc => Nat.le_add_right _ _
  | t :: ts, k, acc => by
    rw [piled_cons]
    refine Nat.le_trans (textFrom_le ts (k + 1) _) ?_
    rw [PySem.strLen_append, PySem.strLen_append]
    have : (Str.ofString (if k > 0 then ", " else "" : String)).length ≤ 2 := by split <;> decide
    omega
theorem join_le (ts : List Str) : (Str.join ", " ts).length ≤ piled ts := by
  by_cases h : ts = []
  · subst h
    decide
  · have := join_length_add ts h
    omega
theorem int_len {i : Int} (h : i.natAbs.log2 < 1920) : (Str.ofString (toString i)).length ≤ 2000 := by
  have := int_text_length_le (a := i) (k := 1920) (by decide) h
  rw [PySem.ofString_length]
  omega
mutual
theorem shown_le : ∀ d : PyData, d.showable = true → okS d → d.shown.length ≤ wd d
  | .none, _, _ => by decide
  | .bool b, _, _ => by cases b <;> decide
  | .int i, h, _ => by
    simp only [PyData.showable, decide_eq_true_eq] at h
    simp only [PyData.shown, wd]
    exact int_len h
  | .str x, _, h => by
    simp only [PyData.shown, wd]
    unfold okS at h
    exact PySem.StrLaws.reprText_len x h
  | .list xs, h, o => by
    simp only [PyData.showable] at h
    unfold okS at o
    have ih := shownAll_le xs h o
    simp only [PyData.shown, wd, listText]
    rw [PySem.strLen_append]
    have h1 := textFrom_le (PyData.shownAll xs) 0 "["
    have h2 : (("[" : String) : Str).length = 1 := by decide
    have h3 : (("]" : String) : Str).length = 1 := by decide
    omega
  | .tuple xs, h, o => by
    simp only [PyData.showable] at h
    unfold okS at o
    have ih := shownAll_le xs h o
    simp only [PyData.shown, wd, tupleText]
    rw [PySem.strLen_append, PySem.strLen_append]
    have h1 := join_le (PyData.shownAll xs)
    have h2 : (("(" : String) : Str).length = 1 := by decide
    have h3 : (Str.ofString (if (PyData.shownAll xs).length == 1 then ",)" else ")" : String)).length ≤ 2 := by split <;> decide
    omega
  | .dict kvs, h, o => by
    simp only [PyData.showable] at h
    unfold okS at o
    have ih := shownKv_le kvs h o
    simp only [PyData.shown, wd, dictText]
    rw [PySem.strLen_append, PySem.strLen_append]
    have h1 := join_le (PyData.shownKv kvs)
    have h2 : (("{" : String) : Str).length = 1 := by decide
    have h3 : (("}" : String) : Str).length = 1 := by decide
    omega
theorem shownAll_le : ∀ xs : List PyData, PyData.showableAll xs = true → okAll xs → piled (PyData.shownAll xs) ≤ wdAll xs
  | [], _, _ => Nat.le_refl _
  | x :: xs, h, o => by
    simp only [PyData.showableAll, Bool.and_eq_true] at h
    unfold okAll at o
    simp only [PyData.shownAll, wdAll]
    rw [piled_cons]
    have h1 := shown_le x h.1 o.1
    have h2 := shownAll_le xs h.2 o.2
    omega
theorem shownKv_le : ∀ xs : List (PyData × PyData), PyData.showableKv xs = true → okKv xs → piled (PyData.shownKv xs) ≤ wdKv xs
  | [], _, _ => Nat.le_refl _
  | (k, v) :: xs, h, o => by
    simp only [PyData.showableKv, Bool.and_eq_true] at h
    unfold okKv at o
    simp only [PyData.shownKv, wdKv]
    rw [piled_cons, PySem.strLen_append, PySem.strLen_append]
    have h1 := shown_le k h.1.1 o.1
    have h2 := shown_le v h.1.2 o.2.1
    have h3 := shownKv_le xs h.2 o.2.2
    have h4 : ((": " : String) : Str).length = 2 := by decide
    omega
end
end U

set_option Elab.async false
set_option maxRecDepth 100000
set_option linter.all false
set_option exponentiation.threshold 3000
set_option pp.maxSteps 600
set_option pp.deepTerms false
set_option maxHeartbeats 4000000
namespace U
open PySem PySem.Spec PyProof.Rows L2
local macro_rules | `(tactic| walk_at "ne") => `(tactic| first | assumption | (refine Ne.symm ?_; assumption) | (refine' ne_of_none ?h (by assumption); (case h => walk_at "hp")) | (refine' Ne.symm (ne_of_none ?h (by assumption)); (case h => walk_at "hp")))
local macro_rules | `(tactic| walk_at "hp") => `(tactic| first | assumption | (refine' Ch.get0 (by assumption) ?h; (case h => walk_at "hp")) | (refine' Ch.get1 (by assumption) ?h ?n; (case h => walk_at "hp"); (case n => walk_at "ne")))
local macro_rules | `(tactic| walk_at "x") => `(tactic| first
  | with_reducible refine x_seq ?_ | with_reducible refine x_nx ?_ | with_reducible refine x_rt ?_ | with_reducible refine x_next ?_
  | with_reducible refine x_asg ?_ | ((with_reducible refine' x_gName ?e ?_); (case e => (simp only [wipe, List.map_cons, List.map_nil, List.set_cons_zero, List.set_cons_succ] <;> exact rfl))) | with_reducible refine x_par ?_ | ((with_reducible refine' v_par ?e ?_); (case e => (simp only [wipe, List.map_cons, List.map_nil, List.set_cons_zero, List.set_cons_succ] <;> exact rfl))) | with_reducible refine x_if ?_ | with_reducible refine x_ret ?_ | with_reducible refine x_retN ?_ | with_reducible refine x_drop ?_ | with_reducible refine x_brk ?_
  | with_reducible refine x_var (by with_unfolding_all rfl) ?_ | with_reducible refine x_c ?_ | with_reducible refine x_op ?_ | with_reducible refine x_un ?_
  | with_reducible refine x_test ?_ | with_reducible refine x_tB ?_ | with_reducible refine x_bl ?_ | with_reducible refine x_blk ?_ | with_reducible refine x_chain ?_
  | with_reducible refine x_and ?_ | with_reducible refine x_or ?_ | with_reducible refine x_not ?_ | with_reducible refine x_andV ?_ | with_reducible refine x_orV ?_ | with_reducible refine x_notV ?_ | with_reducible refine x_ifE ?_
  | with_reducible refine x_iteT ?_ | with_reducible refine x_iteF ?_ | with_reducible refine x_iteS1 ?_ | with_reducible refine x_iteS2 ?_ | with_reducible refine x_iteS3 ?_ | with_reducible refine x_iteS4 ?_ | with_reducible refine x_iteT2 ?_ | with_reducible refine x_iteF2 ?_
  | with_reducible refine x_call ?_ | with_reducible refine x_nil ?_ | with_reducible refine x_cons ?_ | with_reducible refine x_cb ?_ | with_reducible refine x_bm ?_ | with_reducible refine x_bm0 ?_ | with_reducible refine x_lstU ?_ | with_reducible refine x_tupU ?_ | with_reducible refine x_gSub ?_
  | with_reducible refine v_add ?_ | with_reducible refine v_I0 ?_ | with_reducible refine v_neg ?_ | with_reducible refine v_eqI ?_ | with_reducible refine v_neI ?_ | with_reducible refine v_eqS ?_ | with_reducible refine v_neS ?_ | with_reducible refine v_eqB ?_ | with_reducible refine v_neB ?_
  | with_reducible refine v_isN0 ?_ | with_reducible refine v_isNI ?_ | with_reducible refine v_isNS ?_ | with_reducible refine v_isNB ?_ | with_reducible refine v_isNR ?_ | with_reducible refine v_noN0 ?_ | with_reducible refine v_noNI ?_ | with_reducible refine v_noNS ?_ | with_reducible refine v_noNB ?_ | with_reducible refine v_noNR ?_ | with_reducible refine v_inS ?_ | with_reducible refine v_isB ?_ | with_reducible refine v_noB ?_
  | ((with_reducible refine' x_and1 (v_tyL ?h) ?_); (case h => walk_at "hp"))
  | with_reducible refine x_pnil ?_ | with_reducible refine x_pcons ?_
  | with_reducible refine x_sumVals ?_ | with_reducible refine x_dget2 ?_ | with_reducible refine x_listItems ?_ | with_reducible refine x_rev ?_ | with_reducible refine v_int1B ?_ | with_reducible refine v_int1I ?_ | with_reducible refine v_reprB ?_
  | with_reducible refine x_yes ?_ | ((with_reducible refine' x_wipe ?e ?_); (case e => rfl))
  | with_reducible refine v_abs ?_ | with_reducible refine v_max ?_ | with_reducible refine v_min ?_ | with_reducible refine v_gCons ?_ | with_reducible refine v_gNil ?_ | with_reducible refine x_for ?_ | with_reducible refine x_iList ?_ | with_reducible refine x_iTup ?_ | with_reducible refine x_iR1 ?_ | with_reducible refine x_iR2 ?_ | with_reducible refine x_lc ?_
  | with_reducible refine x_iStr ?_ | with_reducible refine v_iStr ?_ | with_reducible refine x_iKeys ?_ | with_reducible refine x_iItems ?_ | with_reducible refine x_dget ?_ | with_reducible refine x_din ?_ | with_reducible refine x_dnin ?_ | with_reducible refine x_dput ?_
  | ((with_reducible refine' isi_int ?k ?_); (case k => first | exact (show _ = some true by decide +kernel) | exact (show _ = some false by decide +kernel))) | ((with_reducible refine' isi_str ?k ?_); (case k => first | exact (show _ = some true by decide +kernel) | exact (show _ = some false by decide +kernel))) | ((with_reducible refine' isi_bl ?k ?_); (case k => first | exact (show _ = some true by decide +kernel) | exact (show _ = some false by decide +kernel))) | ((with_reducible refine' isi_non ?k ?_); (case k => first | exact (show _ = some true by decide +kernel) | exact (show _ = some false by decide +kernel)))
  | ((with_reducible refine' isi_tup ?h ?k ?_); (case h => walk_at "hp"); (case k => first | exact (show _ = some true by decide +kernel) | exact (show _ = some false by decide +kernel))) | ((with_reducible refine' isi_lst ?h ?k ?_); (case h => walk_at "hp"); (case k => first | exact (show _ = some true by decide +kernel) | exact (show _ = some false by decide +kernel))) | ((with_reducible refine' isi_dK ?h ?k ?_); (case h => walk_at "hp"); (case k => first | exact (show _ = some true by decide +kernel) | exact (show _ = some false by decide +kernel)))
  | ((with_reducible refine' v_gTup ?h ?l ?_); (case h => walk_at "hp"); (case l => rfl))
  | ((with_reducible refine' v_gUnl ?h ?l ?_); (case h => walk_at "hp"); (case l => rfl))
  | ((with_reducible refine' v_ixT' ?h ?l ?_); (case h => walk_at "hp"); (case l => with_unfolding_all rfl))
  | ((with_reducible refine' v_ixL' ?h ?l ?_); (case h => walk_at "hp"); (case l => with_unfolding_all rfl)))
local macro_rules | `(tactic| walk_at "X") => `(tactic| repeat walk_at "x")


def dsU (us : List UE) : List (PyData × PyData) := us.map fun x => (.str x.1, .tuple [.int x.2.2.1, .int x.2.2.2])
theorem W_len {z : Str} (h : IsW z) : 10 * z.length + 2 ≤ 82 := by have := h.2.1; omega
theorem log_of {i : Int} (h1 : -(10 ^ 200) ≤ i) (h2 : i ≤ 10 ^ 200) : i.natAbs.log2 < 1920 := by
  have b := sm_bits h1 h2
  unfold Builtin.Int.intBits at b
  split at b
  · rename_i e
    have : i = 0 := by simpa using e
    subst this
    decide
  · omega
theorem dsU_kv {K : PySem.W.Frag} {H : Hp} {u : Addr} {us : List UE} (U : UniAt H u us) : DpKv K H (uK us) (dsU us) := by
  have : ∀ xs : List UE, (∀ x ∈ xs, H x.2.1 = some (.tup [.int x.2.2.1, .int x.2.2.2])) → DpKv K H (uK xs) (dsU xs) := by
    intro xs
    induction xs with
    | nil => exact fun _ => .nil
    | cons x xs ih => exact fun h => .cons (k := Sum.inr x.1) (.tup (.of (h x (List.mem_cons_self ..))) (.cons (.int _) (.cons (.int _) .nil))) (ih fun y hy => h y (List.mem_cons_of_mem _ hy))
  exact this us U.t
theorem dsU_no {us : List UE} : ∀ p ∈ dsU us, noAd p.2 = true := fun p hp => by
  obtain ⟨x, _, rfl⟩ := List.mem_map.mp hp
  simp [noAd, noAdAll]
theorem dsU_ok {us : List UE} (hb : ∀ x ∈ us, (0 ≤ x.2.2.1 ∧ x.2.2.1 ≤ 10 ^ 30) ∧ (-(10 ^ 32) ≤ x.2.2.2 ∧ x.2.2.2 ≤ 10 ^ 32)) (hw : ∀ x ∈ us, IsW x.1) : PyData.showableKv (dsU us) = true ∧ okKv (dsU us) ∧ wdKv (dsU us) ≤ us.length * 5000 ∧ PyData.depthKv (dsU us) ≤ 5 := by
  induction us with
  | nil => exact ⟨rfl, trivial, Nat.le_refl _, by decide⟩
  | cons x us ih =>
    obtain ⟨i1, i2, i3, i4⟩ := ih (fun y hy => hb y (List.mem_cons_of_mem _ hy)) (fun y hy => hw y (List.mem_cons_of_mem _ hy))
    have b := hb x (List.mem_cons_self ..)
    have w := hw x (List.mem_cons_self ..)
    have l1 := log_of (i := x.2.2.1) (by omega) (by omega)
    have l2 := log_of (i := x.2.2.2) (by omega) (by omega)
    have lw := W_len w
    have e : dsU (x :: us) = (.str x.1, .tuple [.int x.2.2.1, .int x.2.2.2]) :: dsU us := rfl
    rw [e]
    refine ⟨?_, ?_, ?_, ?_⟩
    · simp only [PyData.showableKv, PyData.showable, PyData.showableAll, l1, l2, i1]
      rfl
    · refine ⟨?_, ?_, i2⟩
      · unfold okS
        intro c hc
        have h1 := w.2.2 c hc
        have h2 : ∀ c ∈ letC, c < 16 ^ 8 := by decide +kernel
        exact h2 c h1
      · unfold okS okAll okAll okAll okS
        exact ⟨trivial, trivial, trivial⟩
    · simp only [wdKv, wd, wdAll, List.length_cons]
      omega
    · simp only [PyData.depthKv, PyData.depth, PyData.depthAll]
      omega
theorem uni_repr {K : PySem.W.Frag} {H : Hp} {u : Addr} {us : List UE} {Q : VK} (U : UniAt H u us) (q : Q (.str (PyData.dict (dsU us)).shown) H) : rReprD K [.ref u] H Q := by
  obtain ⟨h1, h2, h3, h4⟩ := dsU_ok U.b U.wr
  have hl := U.l
  have s : (PyData.dict (dsU us)).showable = true := by simpa only [PyData.showable] using h1
  refine v_reprD U.d (dsU_kv U) dsU_no s ?_ ?_ q
  · refine Nat.le_trans (shown_le _ s h2) ?_
    rw [PySem.sizeLine_eq]
    simp only [wd]
    omega
  · simp only [PyData.depth]
    omega
theorem valOf_perm {us us' : List UE} (hn : (us.map (·.1)).Nodup) (hp : us'.Perm us) : valOf us' = valOf us := by
  funext z
  have hn' : (us'.map (·.1)).Nodup := (hp.map _).nodup_iff.mpr hn
  by_cases h : z ∈ us.map (·.1)
  · obtain ⟨x, hx, rfl⟩ := List.mem_map.mp h
    rw [valOf_of hn hx, valOf_of hn' (hp.mem_iff.mpr hx)]
  · have n : ∀ xs : List UE, z ∉ xs.map (·.1) → valOf xs z = (0, 0) := by
      intro xs hx
      unfold valOf
      have : xs.find? (fun e => decide (e.1 = z)) = none := by
        rw [List.find?_eq_none]
        intro e he
        simp only [decide_eq_true_eq]
        intro h
        exact hx (h ▸ List.mem_map_of_mem he)
      rw [this]
    rw [n us h, n us' fun h2 => h ((hp.map _).mem_iff.mp h2)]
theorem v_neNN {K : PySem.W.Frag} {H : Hp} {Q : VK} (q : Q (.bl false) H) : rNeX K .non .non H Q := .inl (.inl ⟨rfl, by simpa using q⟩)
theorem ls_get {ls : List LE} (nd : (ls.map (·.1)).Nodup) {e : LE} (he : e ∈ ls) : valV (lK ls) (Sum.inr e.1 : Key) = some (.ref e.2.1) := by
  have := valV_key (fun e : LE => e.1) (fun e : LE => V.ref e.2.1) ls e.1
  unfold lK
  rw [this, find_nd (g := fun x : LE => x.1) nd he]
  rfl
/-- line sets of the same data are equal -/
theorem v_neLs {K : PySem.W.Frag} {H : Hp} {Q : VK} {d d' : Addr} {ls ls' : List LE} (L : LsAt H d ls) (L' : LsAt H d' ls') (h : erL ls = erL ls') (nd : (ls.map (·.1)).Nodup) (nd' : (ls'.map (·.1)).Nodup) (q : Q (.bl false) H) : rNeX K (.ref d) (.ref d') H Q := by
  refine .inr ⟨d, d', _, _, rfl, rfl, L.d, L'.d, ?_, ?_, q⟩
  · have := congrArg List.length h
    simpa [erL, lK] using this
  · intro p hp
    obtain ⟨e, he, rfl⟩ := List.mem_map.mp hp
    have h1 : (e.1, e.2.2.map (·.2)) ∈ erL ls' := h ▸ List.mem_map_of_mem (f := fun e : LE => (e.1, e.2.2.map (·.2))) he
    obtain ⟨e', he', h2⟩ := List.mem_map.mp h1
    obtain ⟨h3, h4⟩ := Prod.mk.inj h2
    refine ⟨.ref e'.2.1, _, by dsimp only; rw [← h3]; exact ls_get nd' he', dp_qs (L.l e he) (L.t e he), ?_, tm_shaped (n := 2) tm_qs (by decide), (tm_eqv 2 2 _ _ tm_qs tm_qs).mpr rfl⟩
    have e0 : (e.2.2.map fun q => PyData.tuple [.int q.2.1, .int q.2.2]) = e'.2.2.map fun q => PyData.tuple [.int q.2.1, .int q.2.2] := by
      have := congrArg (List.map fun q : Int × Int => PyData.tuple [.int q.1, .int q.2]) h4
      rw [List.map_map, List.map_map] at this
      exact this.symm
    rw [e0]
    exact dp_qs (L'.l e' he') (L'.t e' he')
theorem uni_rev {H H' : Hp} {u p : Addr} {us : List UE} (U : UniAt H u us) (c : Ch [] H H') (hp : H' p = some (.dK (mergeK [] (uK us).reverse))) : UniAt H' p us.reverse := by
  have e : (uK us).reverse = uK us.reverse := by simp [uK]
  have nd' : (us.reverse.map (·.1)).Nodup := ((List.reverse_perm us).map _).nodup_iff.mpr U.nd
  rw [e, mergeK_nd _ [] (by
    show ((uK us.reverse).map (·.1)).Nodup
    have : (uK us.reverse).map (·.1) = (us.reverse.map (·.1)).map Sum.inr := by simp [uK]
    rw [this]
    exact List.Pairwise.map _ (fun a b h z => h (Sum.inr.inj z)) nd'), List.nil_append] at hp
  exact ⟨hp, fun x hx => c.get0 (U.t x (List.mem_reverse.mp hx)), nd', fun x hx => U.wr x (List.mem_reverse.mp hx), fun x hx => U.b x (List.mem_reverse.mp hx), by simpa using U.l⟩
def sp_law_result (_ : PySem.W.Frag) : Sp := fun vs H Q _ => ∃ (u : Addr) (us : List UE) (t : Int), vs = [.ref u, .int t] ∧ UniAt H u us ∧ (-(10 ^ 80) ≤ t ∧ t ≤ 10 ^ 80) ∧
  ∀ ys b H', ys.Perm (us.map (·.1)) → sortedS ys = true → (b = true ↔ Rch (valOf us) (wsOf (valOf us) ys) t) → Ch [] H H' → Q (.bl b) H'
theorem ok_law_result {P : Program} {w : World} {K : PySem.W.Frag} {mg : Str → Option Value} {base : Heap} {Z : Ad} (T : Txt K mg Z) : FnG P w K mg base CX0 6 Z.a_law_result Z.d_law_result ["uniform", "total"] (sp_law_result K) := by
  refine funG T.F_law_result sc_law_result (fun vs H Q E h => ?_) (fun cdv A hG outer s H vs Q E hr h => ?_)
  · obtain ⟨u, us, t, rfl, _⟩ := h
    rfl
  · have nd := sc_law_result.nd
    have hu := hu_of hr
    obtain ⟨u, us, t, rfl, U, ht, q⟩ := h
    refine ⟨_, (pss_cons (ps_set (i := 2) nd rfl (by first | exact Or.inl rfl | exact Or.inr rfl) (pe_callB (reprDK (K := K) rfl hG hr.units) (by rfl) T.b_repr (by decide +kernel) (pa_cons (pv 0) pa_nil)))
    (pss_cons (ps_par (i := 3) (j := 4) rfl nd rfl rfl (by decide) rfl rfl (pa_cons (pe_call (ok_is_reachable_weight T) (hr.mono (by decide)) rfl T.m_is_reachable_weight T.F_is_reachable_weight.kp (bd_is_reachable_weight T) .nil pass0 (pa_cons (pv 0) (pa_cons (pv 1) pa_nil))) (pa_cons (pe_call (ok_lines_with_weight T) (hr.mono (by decide)) rfl T.m_lines_with_weight T.F_lines_with_weight.kp (bd_lines_with_weight T) .nil pass0 (pa_cons (pv 0) (pa_cons (pv 1) pa_nil))) pa_nil)) (by rfl))
    (pss_cons (ps_if (PW.pt (pw_or (pt_not (pt_val (pe_callB (isiK (K := K) rfl) (by rfl) T.b_isinstance (by decide +kernel) (pa_cons (pv 3) (pa_cons (pe_bltn (v := .ty "bool") (u := .type "bool") rfl T.b_bool (by decide +kernel) rfl) pa_nil))))) (pw_or (pt_cmpR (op_neK (K := K) rfl hr.units) (pv 3) (pe_cmpR op_notN1 (pv 4) pe_non (nomark _)) (nomark _)) (pw_or1 (pt_cmpR (op_neK (K := K) rfl hr.units) (pe_callB (reprDK (K := K) rfl hG hr.units) (by rfl) T.b_repr (by decide +kernel) (pa_cons (pv 0) pa_nil)) (pv 2) (nomark _))))))
      (pss_one (ps_ret pe_non))
      pss_nil)
    (pss_cons (ps_if (PW.pt (pw_and (pt_val (pv 3)) (pw_and1 (pt_not (pt_val (pe_call (ok_law_is_valid T) (hr.mono (by decide)) rfl T.m_law_is_valid T.F_law_is_valid.kp (bd_law_is_valid T) .nil pass0 (pa_cons (pv 0) (pa_cons (pv 1) (pa_cons (pv 4) pa_nil)))))))))
      (pss_one (ps_ret pe_non))
      pss_nil)
    (pss_cons (ps_if (pt_cmpR (op_neX (K := K) rfl (hu66 hr)) (pe_call (ok_lines_with_weight T) (hr.mono (by decide)) rfl T.m_lines_with_weight T.F_lines_with_weight.kp (bd_lines_with_weight T) .nil pass0 (pa_cons (pe_callTy (dictPK (K := K) rfl rfl) (by rfl) T.b_dict (by decide +kernel) (pa_cons (pe_revK (K := K) rfl (LiI.pe_listItems rfl (pv 0) (by rfl) T.b_list (by decide +kernel))) pa_nil)) (pa_cons (pv 1) pa_nil))) (pv 4) (nomark _))
      (pss_one (ps_ret pe_non))
      pss_nil)
    (pss_cons (ps_if (pt_val (pv 3))
      (pss_cons (ps_dput hu (pv 4) pe_str (pe_lst (pa_cons (pe_tup (pa_cons pe_int (pa_cons pe_int pa_nil))) pa_nil)) rfl)
      (pss_cons (ps_expr (dclearK (K := K) rfl (pv 4)))
      (pss_one (ps_if (pt_not (pt_val (pe_call (ok_law_is_valid T) (hr.mono (by decide)) rfl T.m_law_is_valid T.F_law_is_valid.kp (bd_law_is_valid T) .nil pass0 (pa_cons (pv 0) (pa_cons (pv 1) (pa_cons (pe_call (ok_lines_with_weight T) (hr.mono (by decide)) rfl T.m_lines_with_weight T.F_lines_with_weight.kp (bd_lines_with_weight T) .nil pass0 (pa_cons (pv 0) (pa_cons (pv 1) pa_nil))) pa_nil))))))
        (pss_one (ps_ret pe_non))
        pss_nil))))
      pss_nil)
    (pss_one (ps_ret (pv 3))))))))), ?_⟩
    rw [st_law_result]
    walk_at "X"
    refine uni_repr U ?_
    walk_at "X"
    refine ⟨u, us, t, rfl, U, ht, fun ys r H1 hp1 hs1 hR1 c1 => ?_⟩
    walk_at "X"
    refine ⟨u, us, t, rfl, U.to c1, ht, fun ys2 r2 v H2 hp2 hs2 hR2 c2 hA => ?_⟩
    obtain rfl : ys2 = ys := sorted_eq (hp2.trans hp1.symm) hs2 hs1
    obtain rfl := hR2.uniq hR1
    have f2 := c1.trans c2
    have U2 := U.to f2
    have hD := U.ud
    rcases hA with ⟨rfl, rfl⟩ | ⟨d, ls, rfl, nd0, L, rfl, hnew⟩
    · walk_at "X"
      refine x_iteQ rfl ?_
      walk_at "X"
      refine uni_repr U2 ?_
      walk_at "X"
      refine x_iteQ rfl ?_
      walk_at "X"
      refine v_listItems U2.d fun H3 p3 ts c3 np3 hp3 hts => ?_
      refine v_rev (.of hp3) fun p4 H4 np4 c4 hp4 => ?_
      rw [← List.map_reverse] at hp4
      walk_at "X"
      refine v_dictP ts.reverse (uK us).reverse (.of hp4) (paired_rev (paired_imp hts fun t q h => .of (c4.get0 h))) fun p5 H5 np5 c5 hp5 => ?_
      have c35 := (c3.trans c4).trans c5
      have U5 := uni_rev U2 c35 hp5
      walk_at "X"
      refine ⟨p5, us.reverse, t, rfl, U5, ht, fun ys3 r3 v3 H6 hp6 hs6 hR6 c6 hA6 => ?_⟩
      rw [valOf_perm U.nd (List.reverse_perm us)] at hR6
      obtain rfl : ys3 = ys2 := sorted_eq (hp6.trans (((List.reverse_perm us).map _).trans hp1.symm)) hs6 hs1
      obtain rfl := hR6.uniq hR1
      rcases hA6 with ⟨rfl, _⟩ | ⟨_, _, _, _, _, h0, _⟩
      · walk_at "X"
        refine v_neNN ?_
        walk_at "X"
        exact q ys3 _ H6 hp1 hs1 hR1.rch (f2.trans (c35.trans c6))
      · cases h0
    · obtain ⟨W, lnd, ll⟩ := hR1.vd hD hp1 hs1
      walk_at "X"
      refine x_iteQ rfl ?_
      walk_at "X"
      refine uni_repr U2 ?_
      walk_at "X"
      refine x_iteQ rfl ?_
      walk_at "X"
      have hdu : d ≠ u := fun z => by
        rw [z, (U.to c1).d] at nd0
        cases nd0
      refine ⟨u, d, us, ls, t, rfl, U2, L, hdu, lnd, ll, W, fun H2b c2b => ?_⟩
      have L2 := L.to c2b
      have U2b := U2.to c2b
      walk_at "X"
      refine v_listItems U2b.d fun H3 p3 ts c3 np3 hp3 hts => ?_
      refine v_rev (.of hp3) fun p4 H4 np4 c4 hp4 => ?_
      rw [← List.map_reverse] at hp4
      walk_at "X"
      refine v_dictP ts.reverse (uK us).reverse (.of hp4) (paired_rev (paired_imp hts fun t q h => .of (c4.get0 h))) fun p5 H5 np5 c5 hp5 => ?_
      have c35 := (c3.trans c4).trans c5
      have U5 := uni_rev U2b c35 hp5
      walk_at "X"
      refine ⟨p5, us.reverse, t, rfl, U5, ht, fun ys3 r3 v3 H6 hp6 hs6 hR6 c6 hA6 => ?_⟩
      rw [valOf_perm U.nd (List.reverse_perm us)] at hR6
      obtain rfl : ys3 = ys2 := sorted_eq (hp6.trans (((List.reverse_perm us).map _).trans hp1.symm)) hs6 hs1
      obtain rfl := hR6.uniq hR1
      have c26 := c35.trans c6
      have L6 := L2.to c26
      rcases hA6 with ⟨_, h0⟩ | ⟨d6, ls6, rfl, _, L6', h0, _⟩
      · cases h0
      · have h0 := Option.some.inj h0
        have lnd6 : (ls6.map (·.1)).Nodup := by
          have h := hR1
          rw [h0] at h
          exact (h.vd hD hp1 hs1).2.1
        walk_at "X"
        refine v_neLs L6' L6 h0.symm lnd6 lnd ?_
        walk_at "X"
        refine v_new fun t7 H7 nt7 c7 ht7 => ?_
        walk_at "X"
        refine v_new fun l8 H8 nl8 c8 hl8 => ?_
        walk_at "X"
        have d8 := (c7.trans c8).get0 L6.d
        refine v_dputS d8 (by simp [lK]; exact Nat.lt_of_le_of_lt ll (by decide)) fun H9 c9 hd9 => ?_
        walk_at "X"
        refine x_and1 (v_tyD hd9) ?_
        refine v_clear hd9 fun H10 c10 hd10 => ?_
        have f6 := (f2.trans c2b).trans c26
        have f8 := f6.trans (c7.trans c8)
        have nd1 : H d = none := c1.free nd0
        have f10 : Ch [] H H10 := (((f8.weak [d]).trans c9).trans c10).drop nd1
        walk_at "X"
        refine ⟨u, us, t, rfl, U.to f10, ht, fun ys4 r4 v4 H11 hp11 hs11 hR11 c11 hA11 => ?_⟩
        obtain rfl : ys4 = ys3 := sorted_eq (hp11.trans hp1.symm) hs11 hs1
        obtain rfl := hR11.uniq hR1
        rcases hA11 with ⟨_, h1⟩ | ⟨d11, ls11, rfl, nd11, L11, h1, _⟩
        · cases h1
        · rw [h1] at hR1
          obtain ⟨W11, lnd11, ll11⟩ := hR1.vd hD hp1 hs1
          have f11 := f10.trans c11
          have hdu11 : d11 ≠ u := fun z => by
            rw [z, (U.to f10).d] at nd11
            cases nd11
          walk_at "X"
          refine ⟨u, d11, us, ls11, t, rfl, U.to f11, L11, hdu11, lnd11, ll11, W11, fun H12 c12 => ?_⟩
          walk_at "X"
          exact q ys4 _ H12 hp1 hs1 (by rw [← hR1.rch]; simp) (f11.trans c12)
end U

set_option Elab.async false
set_option maxRecDepth 100000
set_option linter.all false
set_option exponentiation.threshold 3000
set_option pp.maxSteps 600
set_option pp.deepTerms false
set_option maxHeartbeats 4000000
namespace U
open PySem PySem.Spec PyProof.Rows L2
local macro_rules | `(tactic| walk_at "ne") => `(tactic| first | assumption | (refine Ne.symm ?_; assumption) | (refine' ne_of_none ?h (by assumption); (case h => walk_at "hp")) | (refine' Ne.symm (ne_of_none ?h (by assumption)); (case h => walk_at "hp")))
local macro_rules | `(tactic| walk_at "hp") => `(tactic| first | assumption | (refine' Ch.get0 (by assumption) ?h; (case h => walk_at "hp")) | (refine' Ch.get1 (by assumption) ?h ?n; (case h => walk_at "hp"); (case n => walk_at "ne")))
local macro_rules | `(tactic| walk_at "x") => `(tactic| first
  | with_reducible refine x_seq ?_ | with_reducible refine x_nx ?_ | with_reducible refine x_rt ?_ | with_reducible refine x_next ?_
  | with_reducible refine x_asg ?_ | ((with_reducible refine' x_gName ?e ?_); (case e => (simp only [wipe, List.map_cons, List.map_nil, List.set_cons_zero, List.set_cons_succ] <;> exact rfl))) | with_reducible refine x_par ?_ | ((with_reducible refine' v_par ?e ?_); (case e => (simp only [wipe, List.map_cons, List.map_nil, List.set_cons_zero, List.set_cons_succ] <;> exact rfl))) | with_reducible refine x_if ?_ | with_reducible refine x_ret ?_ | with_reducible refine x_retN ?_ | with_reducible refine x_drop ?_ | with_reducible refine x_brk ?_
  | with_reducible refine x_var (by with_unfolding_all rfl) ?_ | with_reducible refine x_c ?_ | with_reducible refine x_op ?_ | with_reducible refine x_un ?_
  | with_reducible refine x_test ?_ | with_reducible refine x_tB ?_ | with_reducible refine x_bl ?_ | with_reducible refine x_blk ?_ | with_reducible refine x_chain ?_
  | with_reducible refine x_and ?_ | with_reducible refine x_or ?_ | with_reducible refine x_not ?_ | with_reducible refine x_andV ?_ | with_reducible refine x_orV ?_ | with_reducible refine x_notV ?_ | with_reducible refine x_ifE ?_
  | with_reducible refine x_iteT ?_ | with_reducible refine x_iteF ?_ | with_reducible refine x_iteT2 ?_ | with_reducible refine x_iteF2 ?_
  | with_reducible refine x_call ?_ | with_reducible refine x_nil ?_ | with_reducible refine x_cons ?_ | with_reducible refine x_cb ?_ | with_reducible refine x_bm ?_ | with_reducible refine x_bm0 ?_ | with_reducible refine x_lstU ?_ | with_reducible refine x_tupU ?_ | with_reducible refine x_gSub ?_
  | with_reducible refine v_add ?_ | with_reducible refine v_I0 ?_ | with_reducible refine v_neg ?_ | with_reducible refine v_eqI ?_ | with_reducible refine v_neI ?_ | with_reducible refine v_eqS ?_ | with_reducible refine v_neS ?_ | with_reducible refine v_eqB ?_ | with_reducible refine v_neB ?_
  | with_reducible refine v_isN0 ?_ | with_reducible refine v_isNI ?_ | with_reducible refine v_isNS ?_ | with_reducible refine v_isNB ?_ | with_reducible refine v_isNR ?_ | with_reducible refine v_noN0 ?_ | with_reducible refine v_noNI ?_ | with_reducible refine v_noNS ?_ | with_reducible refine v_noNB ?_ | with_reducible refine v_noNR ?_ | with_reducible refine v_inS ?_ | with_reducible refine v_isB ?_ | with_reducible refine v_noB ?_
  | ((with_reducible refine' x_and1 (v_tyL ?h) ?_); (case h => walk_at "hp"))
  | with_reducible refine x_pnil ?_ | with_reducible refine x_pcons ?_
  | with_reducible refine x_yes ?_ | ((with_reducible refine' x_wipe ?e ?_); (case e => rfl))
  | with_reducible refine v_abs ?_ | with_reducible refine v_max ?_ | with_reducible refine v_min ?_ | with_reducible refine v_gCons ?_ | with_reducible refine v_gNil ?_ | with_reducible refine x_for ?_ | with_reducible refine x_iList ?_ | with_reducible refine x_iTup ?_ | with_reducible refine x_iR1 ?_ | with_reducible refine x_iR2 ?_ | with_reducible refine x_lc ?_
  | with_reducible refine x_iStr ?_ | with_reducible refine v_iStr ?_ | with_reducible refine x_iKeys ?_ | with_reducible refine x_iItems ?_ | with_reducible refine x_dget ?_ | with_reducible refine x_din ?_ | with_reducible refine x_dnin ?_ | with_reducible refine x_dput ?_
  | ((with_reducible refine' isi_int ?k ?_); (case k => first | exact (show _ = some true by decide +kernel) | exact (show _ = some false by decide +kernel))) | ((with_reducible refine' isi_str ?k ?_); (case k => first | exact (show _ = some true by decide +kernel) | exact (show _ = some false by decide +kernel))) | ((with_reducible refine' isi_bl ?k ?_); (case k => first | exact (show _ = some true by decide +kernel) | exact (show _ = some false by decide +kernel))) | ((with_reducible refine' isi_non ?k ?_); (case k => first | exact (show _ = some true by decide +kernel) | exact (show _ = some false by decide +kernel)))
  | ((with_reducible refine' isi_tup ?h ?k ?_); (case h => walk_at "hp"); (case k => first | exact (show _ = some true by decide +kernel) | exact (show _ = some false by decide +kernel))) | ((with_reducible refine' isi_lst ?h ?k ?_); (case h => walk_at "hp"); (case k => first | exact (show _ = some true by decide +kernel) | exact (show _ = some false by decide +kernel))) | ((with_reducible refine' isi_dK ?h ?k ?_); (case h => walk_at "hp"); (case k => first | exact (show _ = some true by decide +kernel) | exact (show _ = some false by decide +kernel)))
  | ((with_reducible refine' v_gTup ?h ?l ?_); (case h => walk_at "hp"); (case l => rfl))
  | ((with_reducible refine' v_gUnl ?h ?l ?_); (case h => walk_at "hp"); (case l => rfl))
  | ((with_reducible refine' v_ixT' ?h ?l ?_); (case h => walk_at "hp"); (case l => with_unfolding_all rfl))
  | ((with_reducible refine' v_ixL' ?h ?l ?_); (case h => walk_at "hp"); (case l => with_unfolding_all rfl)))
local macro_rules | `(tactic| walk_at "X") => `(tactic| repeat walk_at "x")


/-- a source of draws: three ints; n bounds how many were mixed -/
def SrcAt (H : Hp) (a : Addr) (n : Int) : Prop := ∃ x y z : Int, H a = some (.lst [.int x, .int y, .int z]) ∧ 0 ≤ x ∧ Builtin.Int.intBits x ≤ 1048600 ∧ (0 ≤ y ∧ y ≤ 10 ^ 40) ∧ (0 ≤ z ∧ z ≤ n)
theorem SrcAt.mono {H : Hp} {a : Addr} {n m : Int} (h : SrcAt H a n) (hm : n ≤ m) : SrcAt H a m := by
  obtain ⟨x, y, z, h1, h2, h3, h4, h5⟩ := h
  exact ⟨x, y, z, h1, h2, h3, h4, by omega⟩
theorem SrcAt.to {H H' : Hp} {a : Addr} {n : Int} (h : SrcAt H a n) (c : Ch [] H H') : SrcAt H' a n := by
  obtain ⟨x, y, z, h1, h2⟩ := h
  exact ⟨x, y, z, c.get0 h1, h2⟩
theorem SrcAt.at {H : Hp} {a : Addr} {n : Int} (h : SrcAt H a n) : ∃ xs, H a = some (.lst xs) := by
  obtain ⟨x, y, z, h1, h2⟩ := h
  exact ⟨_, h1⟩
def sp_law_draw (_ : PySem.W.Frag) : Sp := fun vs H Q _ => ∃ (a : Addr) (n lim : Int), vs = [.ref a, .int lim] ∧ SrcAt H a n ∧ (1 ≤ lim ∧ lim ≤ 10 ^ 40) ∧ n ≤ 10 ^ 9 ∧
  ∀ r H', 0 ≤ r → r < lim → Ch [a] H H' → SrcAt H' a (n + 1) → Q (.int r) H'
theorem ok_law_draw {P : Program} {w : World} {K : PySem.W.Frag} {mg : Str → Option Value} {base : Heap} {Z : Ad} (T : Txt K mg Z) : FnOk P w K mg base CX0 1 Z.a_law_draw Z.d_law_draw ["source", "limit"] (sp_law_draw K) := by
  refine T.F_law_draw.ok sc_law_draw (fun vs H Q E h => ?_) (fun cdv A outer s H vs Q E hr h => ?_)
  · obtain ⟨a, n, lim, rfl, _⟩ := h
    rfl
  · have nd := sc_law_draw.nd
    obtain ⟨a, n, lim, rfl, ⟨x, y, z, h1, hx0, hxb, hy, hz⟩, hl, hn, q⟩ := h
    refine ⟨_, (pss_cons (ps_if (pt_cmpR op_gt (pe_ix (ix_seqK (K := K) rfl) (pv 0) pe_int (fun _ _ => rfl)) pe_int (nomark _))
      (pss_cons (ps_set (i := 2) nd rfl (by first | exact Or.inl rfl | exact Or.inr rfl) (pe_op op_mdU (pe_ix (ix_seqK (K := K) rfl) (pv 0) pe_int (fun _ _ => rfl)) (pv 1)))
      (pss_cons (ps_asg (pe_op op_fdU (pe_ix (ix_seqK (K := K) rfl) (pv 0) pe_int (fun _ _ => rfl)) (pv 1)) (pg_sub (pv 0) pe_int set_list))
      (pss_one (ps_ret (pv 2)))))
      pss_nil)
    (pss_cons (ps_asg (pe_op op_addU (pe_ix (ix_seqK (K := K) rfl) (pv 0) pe_int (fun _ _ => rfl)) pe_int) (pg_sub (pv 0) pe_int set_list))
    (pss_cons (ps_set (i := 3) nd rfl (by first | exact Or.inl rfl | exact Or.inr rfl) (pe_op op_mdU (pe_op op_pwU (pe_op op_addU (pe_ix (ix_seqK (K := K) rfl) (pv 0) pe_int (fun _ _ => rfl)) (pe_op op_mulU pe_int (pe_ix (ix_seqK (K := K) rfl) (pv 0) pe_int (fun _ _ => rfl)))) pe_int) (pe_op op_addU (pe_op op_pwU pe_int pe_int) pe_int)))
    (pss_cons (ps_set (i := 3) nd rfl (by first | exact Or.inl rfl | exact Or.inr rfl) (pe_op op_mdU (pe_op op_pwU (pe_op op_addU (pv 3) (pe_op op_mulU pe_int (pe_ix (ix_seqK (K := K) rfl) (pv 0) pe_int (fun _ _ => rfl)))) pe_int) (pe_op op_addU (pe_op op_pwU pe_int pe_int) pe_int)))
    (pss_one (ps_ret (pe_op op_mdU (pe_op op_fdU (pv 3) pe_int) (pv 1)))))))), ?_⟩
    rw [st_law_draw]
    walk_at "X"
    refine x_iteD (fun h0 => ?_) (fun h0 => ?_)
    · walk_at "X"
      refine v_md (by omega) ?_
      walk_at "X"
      refine v_fd (fdS (by omega) (by omega) (by omega)) ?_
      walk_at "X"
      refine v_setL h1 (by rfl) fun H1 c1 h2 => ?_
      walk_at "X"
      have hm := fmod_pos (x := x) (k := lim) (by omega)
      refine q _ H1 hm.1 hm.2.1 c1 ⟨x.fdiv lim, y, z, h2, Int.fdiv_nonneg hx0 (by omega), ?_, hy, by omega⟩
      exact Nat.le_trans (intBits_fdiv_le (Nat.le_refl _)) hxb
    · walk_at "X"
      refine v_setL h1 (by rfl) fun H1 c1 h2 => ?_
      walk_at "X"
      refine v_mul (mulS (by omega) (by omega) (by omega) (by omega)) ?_
      walk_at "X"
      refine v_cube (by omega) (by omega) ?_
      walk_at "X"
      refine v_pw10 (w := 10 ^ 36) rfl (by decide) ?_
      walk_at "X"
      refine v_md (by decide) ?_
      have m1 := fmod_pos (x := (y + 49979693 * (z + 1)) ^ 3) (k := 10 ^ 36 + 67) (by decide)
      generalize ((y + 49979693 * (z + 1)) ^ 3).fmod (10 ^ 36 + 67) = w1 at *
      walk_at "X"
      refine v_mul (mulS (by omega) (by omega) (by omega) (by omega)) ?_
      walk_at "X"
      refine v_cube (by omega) (by omega) ?_
      walk_at "X"
      refine v_pw10 (w := 10 ^ 38) rfl (by decide) ?_
      walk_at "X"
      refine v_md (by decide) ?_
      generalize ((w1 + 86028157 * (z + 1)) ^ 3).fmod (10 ^ 38 + 133) = w2 at *
      walk_at "X"
      refine v_fd (fdS (by decide) (by decide) (by decide)) ?_
      walk_at "X"
      refine v_md (by omega) ?_
      have m3 := fmod_pos (x := w2.fdiv 65537) (k := lim) (by omega)
      exact q _ H1 m3.1 m3.2.1 c1 ⟨x, y, z + 1, h2, hx0, hxb, hy, by omega⟩
def sp_law_source (K : PySem.W.Frag) : Sp := fun vs H Q _ => ∃ (a : Addr) (ns : List Int) (k : Int), vs = [.ref a, .int k] ∧ SqL K H a (ns.map V.int) ∧ (∀ n ∈ ns, Builtin.Int.intBits n ≤ 1048576) ∧ ns.length ≤ 63 ∧ (0 ≤ k ∧ k ≤ 100) ∧
  ∀ p H', H p = none → Ch [] H H' → SrcAt H' p 0 → Q (.ref p) H'
theorem ok_law_source {P : Program} {w : World} {K : PySem.W.Frag} {mg : Str → Option Value} {base : Heap} {Z : Ad} (T : Txt K mg Z) : FnOk P w K mg base CX0 1 Z.a_law_source Z.d_law_source ["script", "k"] (sp_law_source K) := by
  refine T.F_law_source.ok sc_law_source (fun vs H Q E h => ?_) (fun cdv A outer s H vs Q E hr h => ?_)
  · obtain ⟨a, ns, k, rfl, _⟩ := h
    rfl
  · have nd := sc_law_source.nd
    obtain ⟨a, ns, k, rfl, hS, hb, hlen, hk, q⟩ := h
    refine ⟨_, (pss_cons (ps_set (i := 2) nd rfl (by first | exact Or.inl rfl | exact Or.inr rfl) (pe_ifExp (pt_cmpR op_lt (pv 1) (pe_callB (lenK (K := K) rfl) (by rfl) T.b_len (by decide +kernel) (pa_cons (pv 0) pa_nil)) (nomark _)) (pe_ix (ix_seqK (K := K) rfl) (pv 0) (pv 1) (fun _ _ => rfl)) pe_int))
    (pss_one (ps_ret (pe_lst (pa_cons (pe_callB (call_maxU rfl) (by rfl) T.b_max (by decide +kernel) (pa_cons pe_int (pa_cons (pe_op op_sub (pv 2) (pe_op op_pwU pe_int pe_int)) pa_nil))) (pa_cons (pe_op op_addU (pe_op op_mulU (pe_op op_addU (pe_op op_mdU (pv 2) (pe_op op_addU (pe_op op_pwU pe_int pe_int) pe_int)) pe_int) pe_int) (pv 1)) (pa_cons pe_int pa_nil))))))), ?_⟩
    rw [st_law_source]
    walk_at "X"
    have fin : ∀ c : Int, Builtin.Int.intBits c ≤ 1048576 → ∀ p H', H p = none → Ch [] H H' → H' p = some (.lst [.int (max 0 (c - 10 ^ 18)), .int ((c.fmod (10 ^ 34 + 193) + 1) * 211 + k), .int 0]) → Q (.ref p) H' := fun c hc p H' np c1 hp => by
      have m := fmod_pos (x := c) (k := 10 ^ 34 + 193) (by decide)
      refine q p H' np c1 ⟨_, _, _, hp, by omega, ?_, by omega, by omega⟩
      by_cases h0 : c ≤ 10 ^ 18
      · rw [show max 0 (c - 10 ^ 18) = 0 by omega]
        exact Nat.zero_le _
      · refine Nat.le_trans (intBits_le_of_natAbs (x := max 0 (c - 10 ^ 18)) (y := c) (m := 1048576) (by omega) hc) (by decide)
    refine v_lenL hS ?_
    rw [List.length_map]
    walk_at "X"
    have rest : ∀ c : Int, Builtin.Int.intBits c ≤ 1048576 → True := fun _ _ => trivial
    refine x_iteD (fun h0 => ?_) (fun h0 => ?_)
    · obtain ⟨c, hc⟩ : ∃ c, ns[k.toNat]? = some c := ⟨ns[k.toNat]'(by omega), List.getElem?_eq_getElem (by omega)⟩
      have hcb := hb c (List.mem_of_getElem? hc)
      walk_at "X"
      refine v_ixL (v := .int c) hS ?_ ?_
      · have e : k = ((k.toNat : Nat) : Int) := by omega
        rw [e]
        exact atI_nat (by rw [List.getElem?_map, hc]; rfl)
      walk_at "X"
      refine v_pw10 (w := 10 ^ 18) rfl (by decide) ?_
      walk_at "X"
      refine v_pw10 (w := 10 ^ 34) rfl (by decide) ?_
      walk_at "X"
      refine v_md (by decide) ?_
      have m := fmod_pos (x := c) (k := 10 ^ 34 + 193) (by decide)
      walk_at "X"
      refine v_mul (mulS (by omega) (by omega) (by omega) (by omega)) ?_
      walk_at "X"
      refine v_new fun p H1 np c1 hp => ?_
      exact fin c hcb p H1 np c1 hp
    · walk_at "X"
      refine v_pw10 (w := 10 ^ 18) rfl (by decide) ?_
      walk_at "X"
      refine v_pw10 (w := 10 ^ 34) rfl (by decide) ?_
      walk_at "X"
      refine v_md (by decide) ?_
      have m := fmod_pos (x := 0) (k := 10 ^ 34 + 193) (by decide)
      walk_at "X"
      refine v_mul (mulS (by omega) (by omega) (by omega) (by omega)) ?_
      walk_at "X"
      refine v_new fun p H1 np c1 hp => ?_
      exact fin 0 (Nat.zero_le _) p H1 np c1 hp
theorem SrcAt.toS {H H' : Hp} {a : Addr} {n : Int} {S : List Addr} (h : SrcAt H a n) (c : Ch S H H') (hn : a ∉ S) : SrcAt H' a n := by
  obtain ⟨x, y, z, h1, h2⟩ := h
  exact ⟨x, y, z, c.get h1 hn, h2⟩
theorem SrcAt.ne {H : Hp} {a b : Addr} {n : Int} (h : SrcAt H a n) (hb : H b = none) : a ≠ b := by
  obtain ⟨xs, h1⟩ := h.at
  exact ne_of_none h1 hb
/-- the names that are drawn from -/
def leftN : List Str := ["a", "b", "c", "ab", "ba", "abc", "from", "to", "last", "abcdefgh", "abcdefgi", "zzzzzzzz", "k", "w"]
def sp_law_writers (_ : PySem.W.Frag) : Sp := fun vs H Q _ => ∃ (a : Addr) (n num : Int), vs = [.ref a, .int num] ∧ SrcAt H a n ∧ (0 ≤ num ∧ num ≤ 14) ∧ (0 ≤ n ∧ n ≤ 10 ^ 8) ∧
  ∀ (zs : List Str) (p : Addr) (H' : Hp), (zs.length : Int) = num → zs.Nodup → (∀ z ∈ zs, z ∈ leftN) → H p = none → Ch [a] H H' → SrcAt H' a (n + num) → H' p = some (.lst (zs.map V.str)) → Q (.ref p) H'
theorem ok_law_writers {P : Program} {w : World} {K : PySem.W.Frag} {mg : Str → Option Value} {base : Heap} {Z : Ad} (T : Txt K mg Z) : FnOk P w K mg base CX0 2 Z.a_law_writers Z.d_law_writers ["source", "number"] (sp_law_writers K) := by
  refine T.F_law_writers.ok sc_law_writers (fun vs H Q E h => ?_) (fun cdv A outer s H vs Q E hr h => ?_)
  · obtain ⟨a, n, num, rfl, _⟩ := h
    rfl
  · have nd := sc_law_writers.nd
    obtain ⟨a, n, num, rfl, hS, hnum, hn, q⟩ := h
    refine ⟨_, (pss_cons (ps_set (i := 2) nd rfl (by first | exact Or.inl rfl | exact Or.inr rfl) (pe_lst (pa_cons pe_str (pa_cons pe_str (pa_cons pe_str (pa_cons pe_str (pa_cons pe_str (pa_cons pe_str (pa_cons pe_str (pa_cons pe_str (pa_cons pe_str (pa_cons pe_str (pa_cons pe_str (pa_cons pe_str (pa_cons pe_str (pa_cons pe_str pa_nil))))))))))))))))
    (pss_one (ps_ret (pe_lc (own := [("turn", 3)]) (g := gName 3) (by rfl) nd (pi_range1 rfl T.b_range (pa_cons (pv 1) pa_nil)) (blkOk_by (own := [("turn", 3)]) (N := N_law_writers) (sc := defScope s_law_writers) (by decide +kernel)) (fun _ _ _ _ _ => pg_name (i := 3) nd rfl (by first | exact Or.inl rfl | exact Or.inr rfl)) (fun _ _ _ _ _ => pts_nil) (fun _ _ _ _ _ => (pe_bmK (K := K) rfl PySem.F.plainAttrs_list PySem.F.slot_list_pop PySem.F.type_list_pop mt_popAt (pv 2) (pa_cons (pe_call (ok_law_draw T) (hr.mono (by decide)) rfl T.m_law_draw T.F_law_draw.kp (bd_law_draw T) .nil pass0 (pa_cons (pv 0) (pa_cons (pe_callB (lenK (K := K) rfl) (by rfl) T.b_len (by decide +kernel) (pa_cons (pv 2) pa_nil)) pa_nil))) pa_nil))))))), ?_⟩
    rw [st_law_writers]
    walk_at "X"
    refine v_new fun l H1 nl c1 hl => ?_
    walk_at "X"
    refine v_iR1 (by omega) ?_
    intro D hD
    have hl1 : H1 l = some (.lst (leftN.map V.str)) := hl
    have al : a ≠ l := hS.ne nl
    have aD : a ≠ D := (hS.to c1).ne hD
    have lD : l ≠ D := ne_of_none hl hD
    refine lc_W (vs := [3]) walk_range [a, l] (fun i acc H' => ∃ zs rem : List Str, acc = zs.map V.str ∧ zs.length = i ∧ H' l = some (.lst (rem.map V.str)) ∧ (zs ++ rem).Perm leftN ∧ SrcAt H' a (n + i)) hD (fun _ _ => trivial) (fun H' c => ⟨[], leftN, rfl, rfl, c.get0 hl1, .refl _, ?_⟩) ?_ ?_
    · simpa using (hS.to c1).to c
    · rintro i x acc H' H2 hi hle hacc hc ⟨zs, rem, rfl, hz, hrem, hp, hs⟩ ⟨rfl, rfl⟩
      have hlen := hp.length_eq
      rw [List.length_append] at hlen
      have h14 : leftN.length = 14 := rfl
      walk_at "X"
      refine v_lenL' (n := rem.length) hrem (by rw [List.length_map]) ?_
      walk_at "X"
      refine ⟨a, n + i, rem.length, rfl, hs, by omega, by omega, fun r H3 hr0 hr1 c3 hs3 => ?_⟩
      have hrem3 := c3.get1 hrem al.symm
      obtain ⟨y, hy⟩ : ∃ y, rem[r.toNat]? = some y := ⟨rem[r.toNat]'(by omega), List.getElem?_eq_getElem (by omega)⟩
      walk_at "X"
      refine v_popAt (y := .str y) hrem3 hr0 (by omega) (by rw [List.getElem?_map, hy]; rfl) fun H4 c4 hl4 => ?_
      refine lcW_next hD (c4.get1 (c3.get1 hle aD.symm) lD.symm) (by omega) hacc ((hc.trans (c3.mono (by simp))).trans (c4.mono (by simp))) fun H5 c5 _ => ?_
      refine ⟨zs ++ [y], rem.eraseIdx r.toNat, by simp, by simp [hz], ?_, ?_, ?_⟩
      · rw [c5.get1 hl4 lD, List.eraseIdx_eq_take_drop_succ, List.eraseIdx_eq_take_drop_succ, List.map_append, List.map_take, List.map_drop]
      · refine List.Perm.trans ?_ hp
        rw [List.append_assoc]
        refine List.Perm.append_left zs ?_
        rw [List.singleton_append]
        have hrl : r.toNat < rem.length := by omega
        have e1 : rem.eraseIdx r.toNat = rem.take r.toNat ++ rem.drop (r.toNat + 1) := List.eraseIdx_eq_take_drop_succ ..
        have e2 : rem = rem.take r.toNat ++ y :: rem.drop (r.toNat + 1) := by
          have := List.getElem?_eq_getElem hrl
          rw [hy] at this
          rw [Option.some.inj this, ← List.drop_eq_getElem_cons hrl, List.take_append_drop]
        rw [e1]
        conv => rhs; rw [e2]
        exact List.perm_middle.symm
      · have h5 := (hs3.toS c4 (by simpa using al)).toS c5 (by simpa using aD)
        have e : n + ((i + 1 : Nat) : Int) = n + i + 1 := by omega
        rw [e]
        exact h5
    · rintro acc H' hle hacc hc ⟨zs, rem, rfl, hz, hrem, hp, hs⟩
      have hnd : (zs ++ rem).Nodup := hp.nodup_iff.mpr (by decide)
      refine q zs D H' (by omega) (List.nodup_append.mp hnd).1 (fun z hz => hp.mem_iff.mp (by simp [hz])) (c1.free hD) ?_ ?_ hle
      · intro b o e nb
        have nb' : b ≠ a := by simpa using nb
        exact hc.get (c1.get0 e) (by simp only [List.mem_cons, List.not_mem_nil, or_false, not_or]; exact ⟨nb', ne_of_none e nl⟩)
      · have e : n + ((num.toNat : Nat) : Int) = n + num := by omega
        rw [← e]
        exact hs
end U

set_option Elab.async false
set_option maxRecDepth 100000
namespace U
open PySem PySem.Spec PyProof.Rows L2
theorem inV_ints (t : Int) (ns : List Int) : inV (.int t) (ns.map V.int) = decide (t ∈ ns) := by
  induction ns with
  | nil => rfl
  | cons n ns ih =>
    have e : inV (.int t) ((n :: ns).map V.int) = (eqV (.int n) (.int t) || inV (.int t) (ns.map V.int)) := rfl
    rw [e, ih]
    have e2 : eqV (.int n) (.int t) = decide (n = t) := by
      first
        | rfl
        | simp [eqV]
    rw [e2]
    by_cases h : n = t
    · simp [h]
    · simp [h, Ne.symm h]
theorem flat_ints (ns : List Int) : (ns.map V.int).all flatV = true := by
  induction ns with
  | nil => rfl
  | cons n ns ih => simpa [flatV] using ih
section
variable {K : PySem.W.Frag} {H : Hp} {Q : VK} {p : Addr} {t : Int}
theorem v_inI {ns : List Int} (h : H p = some (.lst (ns.map V.int))) (q : Q (.bl (decide (t ∈ ns))) H) : rIn K false (.int t) (.ref p) H Q := ⟨p, _, rfl, .inl (.of h), rfl, flat_ints ns, by rw [if_neg Bool.false_ne_true, inV_ints]; exact q⟩
theorem v_ninI {ns : List Int} (h : H p = some (.lst (ns.map V.int))) (q : Q (.bl (!decide (t ∈ ns))) H) : rIn K true (.int t) (.ref p) H Q := ⟨p, _, rfl, .inl (.of h), rfl, flat_ints ns, by rw [if_pos rfl, inV_ints]; exact q⟩
end
theorem putK_new {κ : Type} [DecidableEq κ] {kvs : List (κ × V)} {k : κ} {v : V} (h : ∀ kv ∈ kvs, kv.1 ≠ k) : putK kvs k v = kvs ++ [(k, v)] := by
  unfold putK
  rw [if_neg]
  simp only [List.any_eq_true, decide_eq_true_eq, not_exists, not_and]
  exact h
theorem putK_old {κ : Type} [DecidableEq κ] {kvs : List (κ × V)} {k : κ} {v : V} (h : ∃ kv ∈ kvs, kv.1 = k) : putK kvs k v = kvs.map fun kv => if kv.1 = k then (kv.1, v) else kv := by
  unfold putK
  rw [if_pos]
  simp only [List.any_eq_true, decide_eq_true_eq]
  exact h
end U
namespace U
open PySem PySem.Spec PyProof.Rows L2
theorem v_dputP {H : Hp} {a : Addr} {v : V} {kvs : List (Key × V)} {z : Str} {p : Hp → Prop} (h : H a = some (.dK kvs)) (l : kvs.length < sizeLine) (q : ∀ H', Ch [a] H H' → H' a = some (.dK (putK kvs (Sum.inr z) v)) → p H') : ∃ a' H4, V.ref a = .ref a' ∧ DPut H a' (.str z) v H4 ∧ p H4 :=
  ⟨a, _, rfl, .inl ⟨kvs, .inr z, h, rfl, l, rfl⟩, q _ .put upd_same⟩
end U
namespace U
open PySem PySem.Spec PyProof.Rows L2
theorem x_joinS {t : TS} {σ : L2.St} {H : Hp} {f b c : L2.St → Hp → Prop} {r : VK} (Pj : L2.St → Hp → Prop) (h1 : ∀ σ' H', Pj σ' H' → f σ' H') (h2 : ∀ f' : L2.St → Hp → Prop, (∀ σ' H', Pj σ' H' → f' σ' H') → t ⟨f', r, b, c⟩ σ H) : t ⟨f, r, b, c⟩ σ H := h2 f h1
theorem dp_ints {K : PySem.W.Frag} {H : Hp} {a : Addr} {ns : List Int} (h : H a = some (.lst (ns.map V.int))) : Dp K H (.ref a) (.list (ns.map .int)) := .lst (.of h) (dpAll_map fun _ _ => .int _)
theorem tm_ints {ns : List Int} : tm 1 (.list (ns.map .int)) := by
  unfold tm
  intro x hx
  obtain ⟨z, hz, rfl⟩ := List.mem_map.mp hx
  unfold tm
  trivial
end U

set_option Elab.async false
set_option maxRecDepth 100000
set_option linter.all false
set_option exponentiation.threshold 3000
set_option pp.maxSteps 600
set_option pp.deepTerms false
set_option maxHeartbeats 4000000
namespace U
open PySem PySem.Spec PyProof.Rows L2
local macro_rules | `(tactic| walk_at "ne") => `(tactic| first | assumption | (refine Ne.symm ?_; assumption) | (refine' ne_of_none ?h (by assumption); (case h => walk_at "hp")) | (refine' Ne.symm (ne_of_none ?h (by assumption)); (case h => walk_at "hp")))
local macro_rules | `(tactic| walk_at "hp") => `(tactic| first | assumption | (refine' Ch.get0 (by assumption) ?h; (case h => walk_at "hp")) | (refine' Ch.get1 (by assumption) ?h ?n; (case h => walk_at "hp"); (case n => walk_at "ne")))
local macro_rules | `(tactic| walk_at "x") => `(tactic| first
  | with_reducible refine x_seq ?_ | with_reducible refine x_nx ?_ | with_reducible refine x_rt ?_ | with_reducible refine x_next ?_
  | with_reducible refine x_asg ?_ | ((with_reducible refine' x_gName ?e ?_); (case e => (simp only [wipe, List.map_cons, List.map_nil, List.set_cons_zero, List.set_cons_succ] <;> exact rfl))) | with_reducible refine x_par ?_ | ((with_reducible refine' v_par ?e ?_); (case e => (simp only [wipe, List.map_cons, List.map_nil, List.set_cons_zero, List.set_cons_succ] <;> exact rfl))) | with_reducible refine x_if ?_ | with_reducible refine x_ret ?_ | with_reducible refine x_retN ?_ | with_reducible refine x_drop ?_ | with_reducible refine x_brk ?_
  | with_reducible refine x_var (by with_unfolding_all rfl) ?_ | with_reducible refine x_c ?_ | with_reducible refine x_op ?_ | with_reducible refine x_un ?_
  | with_reducible refine x_test ?_ | with_reducible refine x_tB ?_ | with_reducible refine x_bl ?_ | with_reducible refine x_blk ?_ | with_reducible refine x_chain ?_
  | with_reducible refine x_and ?_ | with_reducible refine x_or ?_ | with_reducible refine x_not ?_ | with_reducible refine x_andV ?_ | with_reducible refine x_orV ?_ | with_reducible refine x_notV ?_ | with_reducible refine x_ifE ?_
  | with_reducible refine x_iteT ?_ | with_reducible refine x_iteF ?_ | with_reducible refine x_iteS1 ?_ | with_reducible refine x_iteS2 ?_ | with_reducible refine x_iteS3 ?_ | with_reducible refine x_iteS4 ?_ | with_reducible refine x_iteT2 ?_ | with_reducible refine x_iteF2 ?_
  | with_reducible refine x_call ?_ | with_reducible refine x_nil ?_ | with_reducible refine x_cons ?_ | with_reducible refine x_cb ?_ | with_reducible refine x_bm ?_ | with_reducible refine x_bm0 ?_ | with_reducible refine x_lstU ?_ | with_reducible refine x_tupU ?_ | with_reducible refine x_gSub ?_
  | with_reducible refine v_add ?_ | with_reducible refine v_I0 ?_ | with_reducible refine v_neg ?_ | with_reducible refine v_eqI ?_ | with_reducible refine v_neI ?_ | with_reducible refine v_eqS ?_ | with_reducible refine v_neS ?_ | with_reducible refine v_eqB ?_ | with_reducible refine v_neB ?_
  | with_reducible refine v_isN0 ?_ | with_reducible refine v_isNI ?_ | with_reducible refine v_isNS ?_ | with_reducible refine v_isNB ?_ | with_reducible refine v_isNR ?_ | with_reducible refine v_noN0 ?_ | with_reducible refine v_noNI ?_ | with_reducible refine v_noNS ?_ | with_reducible refine v_noNB ?_ | with_reducible refine v_noNR ?_ | with_reducible refine v_inS ?_ | with_reducible refine v_isB ?_ | with_reducible refine v_noB ?_
  | ((with_reducible refine' x_and1 (v_tyL ?h) ?_); (case h => walk_at "hp"))
  | with_reducible refine x_pnil ?_ | with_reducible refine x_pcons ?_
  | with_reducible refine x_sumVals ?_ | with_reducible refine x_dget2 ?_ | with_reducible refine x_listItems ?_ | with_reducible refine x_rev ?_ | with_reducible refine v_int1B ?_ | with_reducible refine v_int1I ?_ | with_reducible refine v_reprB ?_
  | with_reducible refine x_yes ?_ | ((with_reducible refine' x_wipe ?e ?_); (case e => rfl))
  | with_reducible refine v_abs ?_ | with_reducible refine v_max ?_ | with_reducible refine v_min ?_ | with_reducible refine v_gCons ?_ | with_reducible refine v_gNil ?_ | with_reducible refine x_for ?_ | with_reducible refine x_iList ?_ | with_reducible refine x_iTup ?_ | with_reducible refine x_iR1 ?_ | with_reducible refine x_iR2 ?_ | with_reducible refine x_lc ?_
  | with_reducible refine x_iStr ?_ | with_reducible refine v_iStr ?_ | with_reducible refine x_iKeys ?_ | with_reducible refine x_iItems ?_ | with_reducible refine x_dget ?_ | with_reducible refine x_din ?_ | with_reducible refine x_dnin ?_ | with_reducible refine x_dput ?_
  | ((with_reducible refine' isi_int ?k ?_); (case k => first | exact (show _ = some true by decide +kernel) | exact (show _ = some false by decide +kernel))) | ((with_reducible refine' isi_str ?k ?_); (case k => first | exact (show _ = some true by decide +kernel) | exact (show _ = some false by decide +kernel))) | ((with_reducible refine' isi_bl ?k ?_); (case k => first | exact (show _ = some true by decide +kernel) | exact (show _ = some false by decide +kernel))) | ((with_reducible refine' isi_non ?k ?_); (case k => first | exact (show _ = some true by decide +kernel) | exact (show _ = some false by decide +kernel)))
  | ((with_reducible refine' isi_tup ?h ?k ?_); (case h => walk_at "hp"); (case k => first | exact (show _ = some true by decide +kernel) | exact (show _ = some false by decide +kernel))) | ((with_reducible refine' isi_lst ?h ?k ?_); (case h => walk_at "hp"); (case k => first | exact (show _ = some true by decide +kernel) | exact (show _ = some false by decide +kernel))) | ((with_reducible refine' isi_dK ?h ?k ?_); (case h => walk_at "hp"); (case k => first | exact (show _ = some true by decide +kernel) | exact (show _ = some false by decide +kernel)))
  | ((with_reducible refine' v_gTup ?h ?l ?_); (case h => walk_at "hp"); (case l => rfl))
  | ((with_reducible refine' v_gUnl ?h ?l ?_); (case h => walk_at "hp"); (case l => rfl))
  | ((with_reducible refine' v_ixT' ?h ?l ?_); (case h => walk_at "hp"); (case l => with_unfolding_all rfl))
  | ((with_reducible refine' v_ixL' ?h ?l ?_); (case h => walk_at "hp"); (case l => with_unfolding_all rfl)))
local macro_rules | `(tactic| walk_at "X") => `(tactic| repeat walk_at "x")


theorem leftW : ∀ z ∈ leftN, IsW z := by
  have : ∀ z ∈ leftN, 1 ≤ z.length ∧ z.length ≤ 8 ∧ ∀ c ∈ z.cps.toList, c ∈ letC := by decide +kernel
  exact this
def sp_law_small_right (_ : PySem.W.Frag) : Sp := fun vs H Q _ => ∃ (a : Addr) (n num : Int), vs = [.ref a, .int num] ∧ SrcAt H a n ∧ (1 ≤ num ∧ num ≤ 2) ∧ (0 ≤ n ∧ n ≤ 10 ^ 7) ∧
  ∀ H', Ch [a] H H' → SrcAt H' a (n + 10) → Q (.bl true) H'
theorem ok_law_small_right {P : Program} {w : World} {K : PySem.W.Frag} {mg : Str → Option Value} {base : Heap} {Z : Ad} (T : Txt K mg Z) : FnG P w K mg base CX0 7 Z.a_law_small_right Z.d_law_small_right ["source", "number"] (sp_law_small_right K) := by
  refine funG T.F_law_small_right sc_law_small_right (fun vs H Q E h => ?_) (fun cdv A hG outer s H vs Q E hr h => ?_)
  · obtain ⟨a, n, num, rfl, _⟩ := h
    rfl
  · have nd := sc_law_small_right.nd
    have hu := hu_of hr
    obtain ⟨a, n, num, rfl, hS, hnum, hn, q⟩ := h
    refine ⟨_, (pss_cons (ps_set (i := 2) nd rfl (by first | exact Or.inl rfl | exact Or.inr rfl) pe_dnewK)
    (pss_cons (ps_for PassesOwn.never rfl (pi_listK (K := K) rfl (pe_call (ok_law_writers T) (hr.mono (by decide)) rfl T.m_law_writers T.F_law_writers.kp (bd_law_writers T) .nil pass0 (pa_cons (pv 0) (pa_cons (pv 1) pa_nil)))) (pg_name (i := 3) nd rfl (by first | exact Or.inl rfl | exact Or.inr rfl))
      (pss_one (ps_dput hu (pv 2) (pv 3) (pe_tup (pa_cons (pe_call (ok_law_draw T) (hr.mono (by decide)) rfl T.m_law_draw T.F_law_draw.kp (bd_law_draw T) .nil pass0 (pa_cons (pv 0) (pa_cons pe_int pa_nil))) (pa_cons (pe_op op_sub (pe_call (ok_law_draw T) (hr.mono (by decide)) rfl T.m_law_draw T.F_law_draw.kp (bd_law_draw T) .nil pass0 (pa_cons (pv 0) (pa_cons pe_int pa_nil))) pe_int) pa_nil))) rfl)))
    (pss_cons (ps_set (i := 4) nd rfl (by first | exact Or.inl rfl | exact Or.inr rfl) (pe_callB (call_sortD rfl) (by rfl) T.b_sorted (by decide +kernel) (pa_cons (pv 2) pa_nil)))
    (pss_cons (ps_setLc (i := 5) (own := [("writer", 3)]) (g := gName 3) (by rfl) nd rfl rfl (sw_true rfl rfl rfl (by decide +kernel)) (pi_listK (K := K) rfl (pv 4)) (blkOk_by (own := [("writer", 3)]) (N := N_law_small_right) (sc := defScope s_law_small_right) (by decide +kernel)) (fun _ _ _ _ _ => pg_name (i := 3) nd rfl (by first | exact Or.inl rfl | exact Or.inr rfl)) (fun _ _ _ _ _ => (pts_one (pt_cmpR op_gt (pe_ix (ix_seqK (K := K) rfl) (pe_dget hu (pv 2) (pv 3) (fun _ _ => rfl)) pe_int (fun _ _ => rfl)) pe_int (nomark _)))) (fun _ _ _ _ _ => (pe_op op_mulU (pe_ix (ix_seqK (K := K) rfl) (pe_dget hu (pv 2) (pv 3) (fun _ _ => rfl)) pe_int (fun _ _ => rfl)) (pe_ix (ix_seqK (K := K) rfl) (pe_dget hu (pv 2) (pv 3) (fun _ _ => rfl)) pe_int (fun _ _ => rfl)))))
    (pss_cons (ps_if (pt_cmpR (op_eqK (K := K) rfl hr.units) (pv 5) (pe_lst pa_nil) (nomark _))
      (pss_one (ps_set (i := 5) nd rfl (by first | exact Or.inl rfl | exact Or.inr rfl) (pe_lst (pa_cons pe_int pa_nil))))
      pss_nil)
    (pss_cons (ps_if (pt_cmpR (op_eqK (K := K) rfl hr.units) (pv 1) pe_int (nomark _))
      (pss_cons (ps_asg (pe_tup (pa_cons (pe_dget hu (pv 2) (pe_ix (ix_seqK (K := K) rfl) (pv 4) pe_int (fun _ _ => rfl)) (fun _ _ => rfl)) (pa_cons (pe_dget hu (pv 2) (pe_ix (ix_seqK (K := K) rfl) (pv 4) pe_int (fun _ _ => rfl)) (fun _ _ => rfl)) pa_nil))) (pg_tupK (K := K) (n := 2) rfl rfl (pgs_cons (pg_name (i := 6) nd rfl (by first | exact Or.inl rfl | exact Or.inr rfl)) (pgs_cons (pg_name (i := 7) nd rfl (by first | exact Or.inl rfl | exact Or.inr rfl)) pgs_nil)) rfl rfl))
      (pss_one (ps_for PassesOwn.never rfl (pi_range2 rfl T.b_range (pa_cons pe_int (pa_cons (pe_op op_addU (pe_ix (ix_seqK (K := K) rfl) (pv 6) pe_int (fun _ _ => rfl)) pe_int) pa_nil))) (pg_name (i := 8) nd rfl (by first | exact Or.inl rfl | exact Or.inr rfl))
        (pss_one (ps_expr (pe_bmK (K := K) rfl PySem.F.plainAttrs_list PySem.F.slot_list_extend PySem.F.type_list_extend mt_extend (pv 5) (pa_cons (pe_lc (own := [("k", 10)]) (g := gName 10) (by rfl) nd (pi_range2 rfl T.b_range (pa_cons pe_int (pa_cons (pe_op op_addU (pe_ix (ix_seqK (K := K) rfl) (pv 7) pe_int (fun _ _ => rfl)) pe_int) pa_nil))) (blkOk_by (own := [("k", 10)]) (N := N_law_small_right) (sc := defScope s_law_small_right) (by decide +kernel)) (fun _ _ _ _ _ => pg_name (i := 10) nd rfl (by first | exact Or.inl rfl | exact Or.inr rfl)) (fun _ _ _ _ _ => pts_nil) (fun _ _ _ _ _ => (pe_op op_addU (pe_op op_mulU (pv 8) (pe_ix (ix_seqK (K := K) rfl) (pv 6) pe_int (fun _ _ => rfl))) (pe_op op_mulU (pv 10) (pe_ix (ix_seqK (K := K) rfl) (pv 7) pe_int (fun _ _ => rfl)))))) pa_nil)))))))
      pss_nil)
    (pss_cons (ps_for PassesOwn.never rfl (pi_range2 rfl T.b_range (pa_cons (pe_un un_neg pe_int) (pa_cons pe_int pa_nil))) (pg_name (i := 9) nd rfl (by first | exact Or.inl rfl | exact Or.inr rfl))
      (pss_one (ps_if (pt_cmpR (op_neK (K := K) rfl hr.units) (pe_callB call_reprB (by rfl) T.b_repr (by decide +kernel) (pa_cons (pe_callG (ok_law_result T) hG (hr.mono (by decide)) rfl T.m_law_result T.F_law_result.kp (bd_law_result T) .nil pass0 (pa_cons (pv 2) (pa_cons (pv 9) pa_nil))) pa_nil)) (pe_callB call_reprB (by rfl) T.b_repr (by decide +kernel) (pa_cons (pe_cmpR (op_inK (K := K) rfl) (pv 9) (pv 5) (by with_unfolding_all rfl)) pa_nil)) (nomark _))
        (pss_one (ps_ret pe_bl))
        pss_nil)))
    (pss_cons (ps_for PassesOwn.never rfl (pi_listK (K := K) rfl (pv 4)) (pg_name (i := 3) nd rfl (by first | exact Or.inl rfl | exact Or.inr rfl))
      (pss_one (ps_dput hu (pv 2) (pv 3) (pe_tup (pa_cons pe_int (pa_cons pe_int pa_nil))) rfl)))
    (pss_one (ps_ret (pe_and (pe_cmpR op_isBl (pe_callG (ok_law_result T) hG (hr.mono (by decide)) rfl T.m_law_result T.F_law_result.kp (bd_law_result T) .nil pass0 (pa_cons (pv 2) (pa_cons pe_int pa_nil))) pe_bl (nomark _)) (pe_one (pe_cmpR op_isBl (pe_callG (ok_law_result T) hG (hr.mono (by decide)) rfl T.m_law_result T.F_law_result.kp (bd_law_result T) .nil pass0 (pa_cons (pv 2) (pa_cons pe_int pa_nil))) pe_bl (nomark _)))))))))))))), ?_⟩
    rw [st_law_small_right]
    walk_at "X"
    refine x_dnew fun D H1 nD c1 hD1 => ?_
    walk_at "X"
    refine ⟨a, n, num, rfl, hS.to c1, by omega, by omega, fun zs p2 H2 hzl hznd hzm np2 c2 hS2 hp2 => ?_⟩
    have aD : a ≠ D := hS.ne nD
    have hD2 := c2.get1 hD1 aD.symm
    have ap : a ≠ p2 := (hS.to c1).ne np2
    have Dp2 : D ≠ p2 := ne_of_none hD1 np2
    refine v_iList (.of hp2) ?_
    refine for_W walk_list (fun i σ H' => ∃ (w3 : Option V) (us : List UE), σ = [some (.ref a), some (.int num), some (.ref D), w3, none, none, none, none, none, none, none] ∧ Ch [a, D] H2 H' ∧ SrcAt H' a (n + num + 2 * i) ∧ us.map (·.1) = zs.take i ∧ H' D = some (.dK (uK us)) ∧
        (∀ x ∈ us, H' x.2.1 = some (.tup [.int x.2.2.1, .int x.2.2.2])) ∧ ∀ x ∈ us, (0 ≤ x.2.2.1 ∧ x.2.2.1 ≤ 5) ∧ (-4 ≤ x.2.2.2 ∧ x.2.2.2 ≤ 4))
      ⟨_, [], rfl, .refl _ _, by simpa using hS2, rfl, hD2, by simp, by simp⟩ (fun i σ H' _ ⟨_, _, _, c, _⟩ => .of (c.get hp2 (by simp [ap.symm, Dp2.symm]))) ?_ ?_
    · rintro i x σ H3' H3 hi ⟨w3, us, rfl, c3, hS3, hus, hD3, ht3, hb3⟩ ⟨rfl, hx⟩
      rw [List.getElem?_map] at hx
      obtain ⟨z, hz, rfl⟩ := Option.map_eq_some_iff.mp hx
      rw [List.length_map] at hi
      walk_at "X"
      refine ⟨a, _, 6, rfl, hS3, by omega, by omega, fun r H4 hr0 hr1 c4 hS4 => ?_⟩
      walk_at "X"
      refine ⟨a, _, 9, rfl, hS4, by omega, by omega, fun r2 H5 hr20 hr21 c5 hS5 => ?_⟩
      walk_at "X"
      refine v_new fun t6 H6 nt6 c6 ht6 => ?_
      walk_at "X"
      have g : Ch [a] H3 H6 := (c4.trans c5).trans (c6.weak _)
      have hD6 := g.get1 hD3 aD.symm
      have hul : us.length = i := by
        have := congrArg List.length hus
        rw [List.length_map, List.length_take] at this
        omega
      refine v_dputP hD6 (by rw [uK_len]; exact Nat.lt_of_le_of_lt (m := 100) (by omega) (by decide)) fun H7 c7 hD7 => ?_
      walk_at "X"
      rw [putK_new (by
        intro kv hkv
        obtain ⟨x, hx, rfl⟩ := List.mem_map.mp hkv
        intro h
        have h1 : x.1 = z := Sum.inr.inj h
        have h2 : z ∈ zs.take i := by rw [← hus, ← h1]; exact List.mem_map_of_mem hx
        have h4 : (zs.take i ++ [z]).Nodup := take_succ hz ▸ hznd.sublist (List.take_sublist _ _)
        have h3 := (List.nodup_append.mp h4).2.2 z h2 z (by simp)
        exact h3 rfl)] at hD7
      have D7a : Ch [a, D] H3 H7 := (g.mono (by simp)).trans (c7.mono (by simp))
      refine ⟨_, us ++ [(z, t6, r, r2 - 4)], rfl, c3.trans D7a, ?_, by rw [List.map_append, hus, take_succ hz]; rfl, by rw [hD7]; simp [uK], ?_, ?_⟩
      · have e : n + num + 2 * ((i + 1 : Nat) : Int) = n + num + 2 * i + 1 + 1 := by omega
        rw [e]
        exact (hS5.to c6).toS c7 (by simpa using aD)
      · intro x hx
        rcases List.mem_append.mp hx with hx | hx
        · have h1 := ht3 x hx
          refine D7a.get h1 ?_
          simp only [List.mem_cons, List.not_mem_nil, or_false, not_or]
          obtain ⟨ys, hys⟩ := hS3.at
          exact ⟨tup_ne h1 hys, fun z => by rw [z, hD3] at h1; cases h1⟩
        · obtain rfl := List.mem_singleton.mp hx
          exact c7.get1 ht6 (fun z => by rw [show t6 = D from z, hD6] at ht6; cases ht6)
      · intro x hx
        rcases List.mem_append.mp hx with hx | hx
        · exact hb3 x hx
        · obtain rfl := List.mem_singleton.mp hx
          exact ⟨⟨hr0, by dsimp only; omega⟩, by dsimp only; omega, by dsimp only; omega⟩
    · rintro σ H3 ⟨w3, us, rfl, c3, hS3, hus, hD3, ht3, hb3⟩
      rw [List.length_map] at hus hS3
      rw [List.take_length] at hus
      have hul : us.length = zs.length := by rw [← hus, List.length_map]
      have U3 : UniAt H3 D us := by
        refine ⟨hD3, ht3, by rw [hus]; exact hznd, fun x hx => leftW _ (hzm _ (by rw [← hus]; exact List.mem_map_of_mem hx)), fun x hx => ?_, by omega⟩
        have := hb3 x hx
        omega
      have f3 : Ch [a] H H3 := (((c1.weak [a, D]).trans (c2.mono (by simp))).trans c3 |>.mono (T := [D, a]) (by simp)).drop nD
      have hS3' : SrcAt H3 a (n + 10) := hS3.mono (by omega)
      walk_at "X"
      refine v_sortD (us.map (·.1)) (.of U3.d) (by simp [uK]) (by rw [List.length_map]; omega) fun ys p4 H4 hperm hsort np4 c4 hp4 => ?_
      have U4 := U3.to c4
      have ylen : ys.length = zs.length := by rw [hperm.length_eq, List.length_map, hul]
      have of_y : ∀ z ∈ ys, ∃ e ∈ us, e.1 = z := fun z hz => List.mem_map.mp (hperm.mem_iff.mp hz)
      have uget : ∀ e ∈ us, valV (uK us) (Sum.inr e.1 : Key) = some (.ref e.2.1) := fun e he => valV_of U3.nd he
      walk_at "X"
      refine v_iList (.of hp4) ?_
      intro E0 hE0
      refine lc_W (vs := [3]) walk_list [] (fun i acc H' => acc = ((wsOf (valOf us) (ys.take i)).map fun z => (valOf us z).1 * (valOf us z).2).map V.int) hE0 (fun H' c => .of (c.get0 hp4)) (fun _ _ => rfl) ?_ ?_
      · rintro i x acc H5' H5 hi hl hle hc rfl ⟨rfl, hx⟩
        rw [List.getElem?_map] at hx
        obtain ⟨z, hz, rfl⟩ := Option.map_eq_some_iff.mp hx
        obtain ⟨e, he, rfl⟩ := of_y z (List.mem_of_getElem? hz)
        have U5 := U4.to hc
        have ht5 := U5.t e he
        have hb5 := hb3 e he
        have ev := valOf_of U3.nd he
        rw [List.length_map] at hi
        walk_at "X"
        refine v_dgetS (.of U5.d) (uget e he) ?_
        walk_at "X"
        refine x_iteD (fun h0 => ?_) (fun h0 => ?_)
        · walk_at "X"
          refine v_dgetS (.of U5.d) (uget e he) ?_
          walk_at "X"
          refine v_dgetS (.of U5.d) (uget e he) ?_
          walk_at "X"
          refine v_mul (mulS (by omega) (by omega) (by omega) (by omega)) ?_
          refine lcW_next hE0 hl (by omega) hle hc fun H6 _ _ => ?_
          rw [take_succ hz]
          unfold wsOf
          rw [List.filter_append, List.map_append, List.map_append]
          simp [ev, h0]
        · refine ⟨_, hl, by omega, hc, ?_⟩
          dsimp only
          rw [take_succ hz]
          unfold wsOf
          rw [List.filter_append, List.map_append, List.map_append]
          simp [ev, h0]
      · rintro acc H5 hl5 hle5 hc5 rfl
        rw [List.length_map, List.take_length] at hl5
        have f5 := f3.trans ((c4.trans hc5).weak [a])
        have U5 := U4.to hc5
        have hp45 := hc5.get0 hp4
        have hS5 := hS3'.to (c4.trans hc5)
        generalize hws : wsOf (valOf us) ys = ws at *
        generalize hn0 : (if ws = [] then [0] else ws.map fun z => (valOf us z).1 * (valOf us z).2) = ns0
        walk_at "x"
        walk_at "x"
        refine x_joinS (fun σ' H' => ∃ E1, σ' = [some (.ref a), some (.int num), some (.ref D), w3, some (.ref p4), some (.ref E1), none, none, none, none, none] ∧ Ch [] H5 H' ∧ H' E1 = some (.lst (ns0.map V.int)) ∧ a ≠ E1 ∧ H E1 = none) ?_ ?_
        rotate_left
        · intro f' hf'
          walk_at "X"
          refine v_new fun p6 H6 np6 c6 hp6 => ?_
          refine v_eqD 1 (dp_ints (c6.get0 hl5)) (dp_nil hp6) tm_ints tm_nil (fun he => ?_) (fun he => ?_)
          · have hw0 : ws = [] := by simpa using he
            walk_at "X"
            refine v_new fun p7 H7 np7 c7 hp7 => ?_
            walk_at "X"
            exact hf' _ _ ⟨p7, rfl, c6.trans c7, by rw [hp7, ← hn0, hw0]; rfl, (hS5.to c6).ne np7, (f5.trans (c6.weak [a])).freeS np7 (by simpa using ((hS5.to c6).ne np7).symm)⟩
          · have hw0 : ws ≠ [] := fun z => he (by rw [z]; rfl)
            walk_at "X"
            exact hf' _ _ ⟨E0, rfl, c6, by rw [c6.get0 hl5, ← hn0, if_neg hw0], (hS3'.to c4).ne hE0, (f3.trans (c4.weak [a])).freeS hE0 (by simpa using ((hS3'.to c4).ne hE0).symm)⟩
        · rintro σ6 H6 ⟨E1, rfl, c6, hE1, aE, nE⟩
          have hn0l : ns0.length ≤ 2 := by
            rw [← hn0]
            split
            · simp
            · rw [List.length_map, ← hws]
              exact Nat.le_trans (List.length_filter_le _ _) (by omega)
          have hn0m : ∀ t, t ∈ ns0 ↔ (ws = [] ∧ t = 0) ∨ ∃ z ∈ ws, (valOf us z).1 * (valOf us z).2 = t := by
            intro t
            rw [← hn0]
            by_cases h : ws = []
            · simp [h]
            · rw [if_neg h]
              simp [h]
          have hp46 := c6.get0 hp45
          have U6 := U5.to c6
          have hS6 := hS5.to c6
          walk_at "x"
          refine x_joinS (fun σ' H' => ∃ (w6 w7 w8 : Option V) (ns : List Int), σ' = [some (.ref a), some (.int num), some (.ref D), w3, some (.ref p4), some (.ref E1), w6, w7, w8, none, none] ∧ Ch [E1] H6 H' ∧ H' E1 = some (.lst (ns.map V.int)) ∧ ∀ t, t ∈ ns ↔ Rch (valOf us) ws t) ?_ ?_
          rotate_left
          · intro f' hf'
            walk_at "X"
            refine x_iteD (fun h2 => ?_) (fun h2 => ?_)
            · obtain ⟨x, y, rfl⟩ : ∃ x y, ys = [x, y] := by
                match ys, (show ys.length = 2 by omega) with
                | [x, y], _ => exact ⟨x, y, rfl⟩
              obtain ⟨ex, hex, rfl⟩ := of_y x (by simp)
              obtain ⟨ey, hey, rfl⟩ := of_y y (by simp)
              replace hp46 : H6 p4 = some (.lst [.str ex.1, .str ey.1]) := hp46
              have evx := valOf_of U3.nd hex
              have evy := valOf_of U3.nd hey
              have htx := U6.t ex hex
              have hty := U6.t ey hey
              have hbx := hb3 ex hex
              have hby := hb3 ey hey
              walk_at "X"
              refine v_dgetS (.of U6.d) (uget ex hex) ?_
              walk_at "X"
              refine v_dgetS (.of U6.d) (uget ey hey) ?_
              walk_at "X"
              refine v_new fun q6 H6b nq6 c6b hq6 => ?_
              replace htx := c6b.get0 htx
              replace hty := c6b.get0 hty
              have hE1b := c6b.get0 hE1
              walk_at "X"
              refine v_iR2 (by omega) (by omega) ?_
              refine for_W walk_range (fun i σ' H' => ∃ (w8 : Option V) (ns : List Int), σ' = [some (.ref a), some (.int num), some (.ref D), w3, some (.ref p4), some (.ref E1), some (.ref ex.2.1), some (.ref ey.2.1), w8, none, none] ∧ Ch [E1] H6b H' ∧ H' E1 = some (.lst (ns.map V.int)) ∧ ns.length ≤ 2 + 5 * i ∧
                  ∀ t, t ∈ ns ↔ t ∈ ns0 ∨ ∃ c k : Int, 1 ≤ c ∧ c ≤ i ∧ 1 ≤ k ∧ k ≤ ey.2.2.1 ∧ c * ex.2.2.2 + k * ey.2.2.2 = t)
                ⟨_, ns0, rfl, .refl _ _, hE1b, by omega, fun t => ⟨.inl, fun h => h.elim id (fun ⟨c, k, h1, h2, _⟩ => by omega)⟩⟩ (fun _ _ _ _ _ => trivial) ?_ ?_
              · rintro i x σ7' H7' H7 hi ⟨w8, ns, rfl, c7, hE7, hnl, hnm⟩ ⟨rfl, rfl⟩
                have hxE : ex.2.1 ≠ E1 := tup_ne htx hE1b
                have hyE : ey.2.1 ≠ E1 := tup_ne hty hE1b
                have htx7 := c7.get1 htx hxE
                have hty7 := c7.get1 hty hyE
                walk_at "X"
                refine v_iR2 (by omega) (by omega) ?_
                intro L hL
                refine lc_W (vs := [10]) walk_range [] (fun j acc H' => acc = ((List.range j).map fun m : Nat => (1 + (i : Int)) * ex.2.2.2 + (1 + (m : Int)) * ey.2.2.2).map V.int) hL (fun _ _ => trivial) (fun _ _ => rfl) ?_ ?_
                · rintro j x acc H8' H8 hj hl8 hle8 hc8 rfl ⟨rfl, rfl⟩
                  have htx8 := hc8.get0 htx7
                  have hty8 := hc8.get0 hty7
                  walk_at "X"
                  refine v_mul (mulS (by omega) (by omega) (by omega) (by omega)) ?_
                  walk_at "X"
                  refine v_mul (mulS (by omega) (by omega) (by omega) (by omega)) ?_
                  walk_at "X"
                  refine lcW_next hL hl8 (by omega) hle8 hc8 fun H9 _ _ => ?_
                  rw [List.range_succ, List.map_append, List.map_append]
                  rfl
                · rintro acc H8 hl8 hle8 hc8 rfl
                  walk_at "X"
                  have e9 : (ey.2.2.1 + 1 - 1).toNat = ey.2.2.1.toNat := by omega
                  rw [e9] at hl8
                  refine v_extend (hc8.get0 hE7) hl8 ?_ fun H9 c9 hE9 => ?_
                  · rw [List.length_map, List.length_map, List.length_map, List.length_range, PySem.sizeLine_eq]
                    omega
                  walk_at "X"
                  refine ⟨_, ns ++ (List.range ey.2.2.1.toNat).map fun m : Nat => (1 + (i : Int)) * ex.2.2.2 + (1 + (m : Int)) * ey.2.2.2, rfl, (c7.trans (hc8.weak _)).trans c9, by rw [hE9, List.map_append], ?_, ?_⟩
                  · rw [List.length_append, List.length_map, List.length_range]
                    omega
                  · intro t
                    rw [List.mem_append, hnm t, or_assoc]
                    refine or_congr_right ?_
                    constructor
                    · rintro (⟨c, k, h1, h2, h3, h4, h5⟩ | h)
                      · exact ⟨c, k, h1, by omega, h3, h4, h5⟩
                      · obtain ⟨m, hm, rfl⟩ := List.mem_map.mp h
                        rw [List.mem_range] at hm
                        exact ⟨1 + i, 1 + m, by omega, by omega, by omega, by omega, rfl⟩
                    · rintro ⟨c, k, h1, h2, h3, h4, h5⟩
                      by_cases hc : c ≤ i
                      · exact .inl ⟨c, k, h1, hc, h3, h4, h5⟩
                      · refine .inr (List.mem_map.mpr ⟨(k - 1).toNat, ?_, ?_⟩)
                        · rw [List.mem_range]
                          omega
                        · rw [← h5]
                          have e1 : c = 1 + (i : Int) := by omega
                          have e2 : (1 + ((k - 1).toNat : Int)) = k := by omega
                          rw [e1, e2]
              · rintro σ7 H7 ⟨w8, ns, rfl, c7, hE7, hnl, hnm⟩
                walk_at "X"
                refine hf' _ _ ⟨_, _, _, ns, rfl, (c6b.weak _).trans c7, hE7, fun t => ?_⟩
                rw [hnm t, hn0m t]
                unfold Rch
                rw [or_assoc]
                refine or_congr_right (or_congr_right ?_)
                have ewx : wsOf (valOf us) [ex.1, ey.1] = ws := hws
                unfold wsOf at ewx
                simp only [List.filter_cons, List.filter_nil, evx, evy, decide_eq_true_eq] at ewx
                constructor
                · rintro ⟨c, k, h1, h2, h3, h4, h5⟩
                  have g1 : 0 < ex.2.2.1 := by omega
                  have g2 : 0 < ey.2.2.1 := by omega
                  rw [if_pos g1, if_pos g2] at ewx
                  refine ⟨ex.1, ey.1, c, k, ewx.symm, ?_⟩
                  rw [evx, evy]
                  exact ⟨h1, by omega, h3, h4, h5⟩
                · rintro ⟨x, y, c, k, h0, h1, h2, h3, h4, h5⟩
                  have g1 : 0 < ex.2.2.1 := by
                    by_cases g : 0 < ex.2.2.1
                    · exact g
                    · rw [if_neg g, h0] at ewx
                      split at ewx <;> cases ewx
                  have g2 : 0 < ey.2.2.1 := by
                    by_cases g : 0 < ey.2.2.1
                    · exact g
                    · rw [if_neg g, h0] at ewx
                      split at ewx <;> cases ewx
                  rw [if_pos g1, if_pos g2, h0] at ewx
                  cases ewx
                  rw [evx] at h2 h5
                  rw [evy] at h4 h5
                  exact ⟨c, k, h1, by omega, h3, h4, h5⟩
            · walk_at "X"
              refine hf' _ _ ⟨_, _, _, ns0, rfl, .refl _ _, hE1, fun t => ?_⟩
              rw [hn0m t]
              unfold Rch
              have hno : ¬ ∃ x y c k, ws = [x, y] ∧ Sol (valOf us x).1 (valOf us x).2 (valOf us y).1 (valOf us y).2 t c k := by
                rintro ⟨x, y, c, k, h0, _⟩
                have h1 : ws.length ≤ ys.length := by rw [← hws]; exact List.length_filter_le _ _
                rw [h0] at h1
                simp at h1
                omega
              simp only [hno, or_false]
          · rintro σ7 H7 ⟨w6, w7, w8, ns, rfl, c7, hE7, hnm⟩
            have DE : D ≠ E1 := fun z => by rw [← z, U6.d] at hE1; cases hE1
            have U7 : UniAt H7 D us := ⟨c7.get1 U6.d DE, fun x hx => c7.get1 (U6.t x hx) (tup_ne (U6.t x hx) hE1), U6.nd, U6.wr, U6.b, U6.l⟩
            have hS7 := hS6.toS c7 (by simpa using aE)
            have f7 : Ch [a] H H7 := ((f5.mono (T := [E1, a]) (by simp)).trans ((c6.weak _).trans (c7.mono (by simp)))).drop nE
            have hp47 := c7.get1 hp46 (fun z => by
              rw [z, hE1] at hp46
              have h := HO.lst.inj (Option.some.inj hp46)
              cases ys with
              | nil => simp at ylen; omega
              | cons y ys => cases ns0 <;> simp at h)
            walk_at "X"
            refine v_iR2 (by omega) (by omega) ?_
            refine for_W walk_range (fun i σ' H' => ∃ (w9 : Option V), σ' = [some (.ref a), some (.int num), some (.ref D), w3, some (.ref p4), some (.ref E1), w6, w7, w8, w9, none] ∧ Ch [] H7 H') ⟨_, rfl, .refl _ _⟩ (fun _ _ _ _ _ => trivial) ?_ ?_
            · rintro i x σ8 H8' H8 hi ⟨w9, rfl, c8⟩ ⟨rfl, rfl⟩
              have hi2 : i < 51 := by simpa using hi
              walk_at "X"
              refine ⟨D, us, _, rfl, U7.to c8, by omega, fun zs2 b H9 hp9 hs9 hb9 c9 => ?_⟩
              obtain rfl : zs2 = ys := sorted_eq (hp9.trans hperm.symm) hs9 hsort
              rw [hws] at hb9
              walk_at "X"
              refine v_inI ((c8.trans c9).get0 hE7) ?_
              walk_at "X"
              refine x_iteQ ?_ ?_
              · have : b = decide (-25 + (i : Int) ∈ ns) := Bool.eq_iff_iff.mpr (by rw [decide_eq_true_eq, hnm]; exact hb9)
                rw [this]
              walk_at "X"
              exact ⟨_, rfl, c8.trans c9⟩
            · rintro σ8 H8 ⟨w9, rfl, c8⟩
              have U8 := U7.to c8
              have hp48 := c8.get0 hp47
              walk_at "X"
              refine v_iList (.of hp48) ?_
              refine for_W walk_list (fun i σ' H' => ∃ (w3 : Option V) (us' : List UE), σ' = [some (.ref a), some (.int num), some (.ref D), w3, some (.ref p4), some (.ref E1), w6, w7, w8, w9, none] ∧ Ch [D] H8 H' ∧ us'.map (·.1) = us.map (·.1) ∧ H' D = some (.dK (uK us')) ∧
                  (∀ x ∈ us', H' x.2.1 = some (.tup [.int x.2.2.1, .int x.2.2.2])) ∧ (∀ x ∈ us', (0 ≤ x.2.2.1 ∧ x.2.2.1 ≤ 5) ∧ (-5 ≤ x.2.2.2 ∧ x.2.2.2 ≤ 5)) ∧ ∀ x ∈ us', x.1 ∈ ys.take i → x.2.2.1 = 0)
                ⟨_, us, rfl, .refl _ _, rfl, U8.d, U8.t, fun x hx => by have := hb3 x hx; omega, fun x hx h => by simp at h⟩ (fun i σ H' _ ⟨_, _, _, c, _⟩ => .of (c.get1 hp48 (fun z => by rw [z, U8.d] at hp48; cases hp48))) ?_ ?_
              · rintro i x σ9 H9' H9 hi ⟨w3, us', rfl, c9, hus', hD9, ht9, hb9, hz9⟩ ⟨rfl, hx⟩
                rw [List.getElem?_map] at hx
                obtain ⟨z, hz, rfl⟩ := Option.map_eq_some_iff.mp hx
                have hzu : z ∈ us'.map (·.1) := by rw [hus']; exact hperm.mem_iff.mp (List.mem_of_getElem? hz)
                walk_at "X"
                refine v_new fun t10 H10 nt10 c10 ht10 => ?_
                walk_at "X"
                have hD10 := c10.get0 hD9
                have lus' : us'.length ≤ 2 := by
                  have := congrArg List.length hus'
                  rw [List.length_map, List.length_map] at this
                  omega
                refine v_dputP hD10 (by rw [uK_len]; exact Nat.lt_of_le_of_lt lus' (by decide)) fun H11 c11 hD11 => ?_
                rw [putK_old (by
                  obtain ⟨x, hxu, rfl⟩ := List.mem_map.mp hzu
                  exact ⟨_, List.mem_map_of_mem hxu, rfl⟩)] at hD11
                have hD11' : H11 D = some (.dK (uK (us'.map fun x => if x.1 = z then (x.1, t10, 0, 5) else x))) := by
                  rw [hD11]
                  unfold uK
                  rw [List.map_map, List.map_map]
                  congr 2
                  refine List.map_congr_left fun x _ => ?_
                  by_cases h : x.1 = z
                  · simp [h]
                  · simp [h]
                refine ⟨_, _, rfl, (c9.trans (c10.weak _)).trans c11, ?_, hD11', ?_, ?_, ?_⟩
                · rw [List.map_map, ← hus']
                  refine List.map_congr_left fun x _ => ?_
                  by_cases h : x.1 = z <;> simp [h]
                · intro x hx
                  obtain ⟨y, hy, rfl⟩ := List.mem_map.mp hx
                  by_cases h : y.1 = z
                  · rw [if_pos h]
                    exact c11.get1 ht10 (fun w => by rw [show t10 = D from w, hD10] at ht10; cases ht10)
                  · rw [if_neg h]
                    have h1 := c10.get0 (ht9 y hy)
                    exact c11.get1 h1 (fun w => by rw [w, hD10] at h1; cases h1)
                · intro x hx
                  obtain ⟨y, hy, rfl⟩ := List.mem_map.mp hx
                  by_cases h : y.1 = z
                  · rw [if_pos h]
                    dsimp only
                    omega
                  · rw [if_neg h]
                    exact hb9 y hy
                · intro x hx hxt
                  obtain ⟨y, hy, rfl⟩ := List.mem_map.mp hx
                  by_cases h : y.1 = z
                  · rw [if_pos h]
                  · rw [if_neg h] at hxt ⊢
                    rw [take_succ hz] at hxt
                    rcases List.mem_append.mp hxt with h1 | h1
                    · exact hz9 y hy h1
                    · exact absurd (List.mem_singleton.mp h1) h
              · rintro σ9 H9 ⟨w3, us', rfl, c9, hus', hD9, ht9, hb9, hz9⟩
                rw [List.length_map, List.take_length] at hz9
                have U9 : UniAt H9 D us' := by
                  refine ⟨hD9, ht9, by rw [hus']; exact U3.nd, fun x hx => ?_, fun x hx => ?_, ?_⟩
                  · have h1 : x.1 ∈ us.map (·.1) := by rw [← hus']; exact List.mem_map_of_mem hx
                    obtain ⟨y, hy, h2⟩ := List.mem_map.mp h1
                    rw [← h2]
                    exact U3.wr y hy
                  · have := hb9 x hx
                    omega
                  · have := congrArg List.length hus'
                    rw [List.length_map, List.length_map] at this
                    omega
                have hperm' : ys.Perm (us'.map (·.1)) := by rw [hus']; exact hperm
                have hw9 : ∀ zs', zs'.Perm (us'.map (·.1)) → wsOf (valOf us') zs' = [] := by
                  intro zs' hp
                  unfold wsOf
                  rw [List.filter_eq_nil_iff]
                  intro z hz
                  obtain ⟨x, hx, rfl⟩ := List.mem_map.mp (hp.mem_iff.mp hz)
                  have h0 := hz9 x hx (hperm'.mem_iff.mpr (List.mem_map_of_mem hx))
                  rw [valOf_of U9.nd hx, h0]
                  simp
                walk_at "X"
                refine ⟨D, us', 0, rfl, U9, by omega, fun zs3 b H10 hp10 hs10 hb10 c10 => ?_⟩
                rw [hw9 zs3 hp10] at hb10
                obtain rfl : b = true := hb10.mpr (.inl ⟨rfl, rfl⟩)
                walk_at "X"
                refine x_iteP rfl ?_
                walk_at "X"
                refine ⟨D, us', 5, rfl, U9.to c10, by omega, fun zs4 b H11 hp11 hs11 hb11 c11 => ?_⟩
                rw [hw9 zs4 hp11] at hb11
                obtain rfl : b = false := by
                  cases b with
                  | false => rfl
                  | true =>
                    rcases hb11.mp rfl with ⟨_, h⟩ | ⟨z, h, _⟩ | ⟨x, y, c, k, h, _⟩
                    · omega
                    · cases h
                    · cases h
                walk_at "X"
                have f9 : Ch [a] H H11 := (((f7.mono (T := [D, a]) (by simp)).trans ((c8.weak _).trans (c9.mono (by simp)))).drop nD).trans ((c10.trans c11).weak _)
                exact q H11 f9 (((hS7.to c8).toS c9 (by simpa using aD)).to (c10.trans c11))
end U

set_option Elab.async false
set_option maxRecDepth 100000
set_option linter.all false
set_option exponentiation.threshold 3000
set_option pp.maxSteps 600
set_option pp.deepTerms false
set_option maxHeartbeats 4000000
namespace U
open PySem PySem.Spec PyProof.Rows L2
local macro_rules | `(tactic| walk_at "ne") => `(tactic| first | assumption | (refine Ne.symm ?_; assumption) | (refine' ne_of_none ?h (by assumption); (case h => walk_at "hp")) | (refine' Ne.symm (ne_of_none ?h (by assumption)); (case h => walk_at "hp")))
local macro_rules | `(tactic| walk_at "hp") => `(tactic| first | assumption | (refine' Ch.get0 (by assumption) ?h; (case h => walk_at "hp")) | (refine' Ch.get1 (by assumption) ?h ?n; (case h => walk_at "hp"); (case n => walk_at "ne")))
local macro_rules | `(tactic| walk_at "x") => `(tactic| first
  | with_reducible refine x_seq ?_ | with_reducible refine x_nx ?_ | with_reducible refine x_rt ?_ | with_reducible refine x_next ?_
  | with_reducible refine x_asg ?_ | ((with_reducible refine' x_gName ?e ?_); (case e => (simp only [wipe, List.map_cons, List.map_nil, List.set_cons_zero, List.set_cons_succ] <;> exact rfl))) | with_reducible refine x_par ?_ | ((with_reducible refine' v_par ?e ?_); (case e => (simp only [wipe, List.map_cons, List.map_nil, List.set_cons_zero, List.set_cons_succ] <;> exact rfl))) | with_reducible refine x_if ?_ | with_reducible refine x_ret ?_ | with_reducible refine x_retN ?_ | with_reducible refine x_drop ?_ | with_reducible refine x_brk ?_
  | with_reducible refine x_var (by with_unfolding_all rfl) ?_ | with_reducible refine x_c ?_ | with_reducible refine x_op ?_ | with_reducible refine x_un ?_
  | with_reducible refine x_test ?_ | with_reducible refine x_tB ?_ | with_reducible refine x_bl ?_ | with_reducible refine x_blk ?_ | with_reducible refine x_chain ?_
  | with_reducible refine x_and ?_ | with_reducible refine x_or ?_ | with_reducible refine x_not ?_ | with_reducible refine x_andV ?_ | with_reducible refine x_orV ?_ | with_reducible refine x_notV ?_ | with_reducible refine x_ifE ?_
  | with_reducible refine x_iteT ?_ | with_reducible refine x_iteF ?_ | with_reducible refine x_iteS1 ?_ | with_reducible refine x_iteS2 ?_ | with_reducible refine x_iteS3 ?_ | with_reducible refine x_iteS4 ?_ | with_reducible refine x_iteT2 ?_ | with_reducible refine x_iteF2 ?_
  | with_reducible refine x_call ?_ | with_reducible refine x_nil ?_ | with_reducible refine x_cons ?_ | with_reducible refine x_cb ?_ | with_reducible refine x_bm ?_ | with_reducible refine x_bm0 ?_ | with_reducible refine x_lstU ?_ | with_reducible refine x_tupU ?_ | with_reducible refine x_gSub ?_
  | with_reducible refine v_add ?_ | with_reducible refine v_I0 ?_ | with_reducible refine v_neg ?_ | with_reducible refine v_eqI ?_ | with_reducible refine v_neI ?_ | with_reducible refine v_eqS ?_ | with_reducible refine v_neS ?_ | with_reducible refine v_eqB ?_ | with_reducible refine v_neB ?_
  | with_reducible refine v_isN0 ?_ | with_reducible refine v_isNI ?_ | with_reducible refine v_isNS ?_ | with_reducible refine v_isNB ?_ | with_reducible refine v_isNR ?_ | with_reducible refine v_noN0 ?_ | with_reducible refine v_noNI ?_ | with_reducible refine v_noNS ?_ | with_reducible refine v_noNB ?_ | with_reducible refine v_noNR ?_ | with_reducible refine v_inS ?_ | with_reducible refine v_isB ?_ | with_reducible refine v_noB ?_
  | ((with_reducible refine' x_and1 (v_tyL ?h) ?_); (case h => walk_at "hp"))
  | with_reducible refine x_pnil ?_ | with_reducible refine x_pcons ?_
  | with_reducible refine x_sumVals ?_ | with_reducible refine x_dget2 ?_ | with_reducible refine x_listItems ?_ | with_reducible refine x_rev ?_ | with_reducible refine v_int1B ?_ | with_reducible refine v_int1I ?_ | with_reducible refine v_reprB ?_
  | with_reducible refine x_yes ?_ | ((with_reducible refine' x_wipe ?e ?_); (case e => rfl))
  | with_reducible refine v_abs ?_ | with_reducible refine v_max ?_ | with_reducible refine v_min ?_ | with_reducible refine v_gCons ?_ | with_reducible refine v_gNil ?_ | with_reducible refine x_for ?_ | with_reducible refine x_iList ?_ | with_reducible refine x_iTup ?_ | with_reducible refine x_iR1 ?_ | with_reducible refine x_iR2 ?_ | with_reducible refine x_lc ?_
  | with_reducible refine x_iStr ?_ | with_reducible refine v_iStr ?_ | with_reducible refine x_iKeys ?_ | with_reducible refine x_iItems ?_ | with_reducible refine x_dget ?_ | with_reducible refine x_din ?_ | with_reducible refine x_dnin ?_ | with_reducible refine x_dput ?_
  | ((with_reducible refine' isi_int ?k ?_); (case k => first | exact (show _ = some true by decide +kernel) | exact (show _ = some false by decide +kernel))) | ((with_reducible refine' isi_str ?k ?_); (case k => first | exact (show _ = some true by decide +kernel) | exact (show _ = some false by decide +kernel))) | ((with_reducible refine' isi_bl ?k ?_); (case k => first | exact (show _ = some true by decide +kernel) | exact (show _ = some false by decide +kernel))) | ((with_reducible refine' isi_non ?k ?_); (case k => first | exact (show _ = some true by decide +kernel) | exact (show _ = some false by decide +kernel)))
  | ((with_reducible refine' isi_tup ?h ?k ?_); (case h => walk_at "hp"); (case k => first | exact (show _ = some true by decide +kernel) | exact (show _ = some false by decide +kernel))) | ((with_reducible refine' isi_lst ?h ?k ?_); (case h => walk_at "hp"); (case k => first | exact (show _ = some true by decide +kernel) | exact (show _ = some false by decide +kernel))) | ((with_reducible refine' isi_dK ?h ?k ?_); (case h => walk_at "hp"); (case k => first | exact (show _ = some true by decide +kernel) | exact (show _ = some false by decide +kernel)))
  | ((with_reducible refine' v_gTup ?h ?l ?_); (case h => walk_at "hp"); (case l => rfl))
  | ((with_reducible refine' v_gUnl ?h ?l ?_); (case h => walk_at "hp"); (case l => rfl))
  | ((with_reducible refine' v_ixT' ?h ?l ?_); (case h => walk_at "hp"); (case l => with_unfolding_all rfl))
  | ((with_reducible refine' v_ixL' ?h ?l ?_); (case h => walk_at "hp"); (case l => with_unfolding_all rfl)))
local macro_rules | `(tactic| walk_at "X") => `(tactic| repeat walk_at "x")


theorem mul_bd {x y A B : Int} (h1 : -A ≤ x ∧ x ≤ A) (h2 : -B ≤ y ∧ y ≤ B) : -(A * B) ≤ x * y ∧ x * y ≤ A * B := by
  have hA : 0 ≤ A := by omega
  have e : (x * y).natAbs = x.natAbs * y.natAbs := Int.natAbs_mul x y
  have h3 : x.natAbs * y.natAbs ≤ A.toNat * B.toNat := Nat.mul_le_mul (by omega) (by omega)
  have h4 : ((A.toNat * B.toNat : Nat) : Int) = A * B := by
    rw [Int.natCast_mul, Int.toNat_of_nonneg hA, Int.toNat_of_nonneg (by omega)]
  omega
theorem rch_both {e1 e2 : UE} {ys : List Str} (hn : ([e1, e2].map (·.1)).Nodup) (h1 : 0 < e1.2.2.1) (h2 : 0 < e2.2.2.1) (hp : ys.Perm ([e1, e2].map (·.1))) (t : Int) :
    Rch (valOf [e1, e2]) (wsOf (valOf [e1, e2]) ys) t ↔ (e1.2.2.1 * e1.2.2.2 = t ∨ e2.2.2.1 * e2.2.2.2 = t) ∨ ∃ c k, Sol e1.2.2.1 e1.2.2.2 e2.2.2.1 e2.2.2.2 t c k := by
  have v1 := valOf_of hn (e := e1) (by simp)
  have v2 := valOf_of hn (e := e2) (by simp)
  have hw : wsOf (valOf [e1, e2]) ys = ys := by
    unfold wsOf
    rw [List.filter_eq_self]
    intro z hz
    have := hp.mem_iff.mp hz
    rcases (by simpa using this : z = e1.1 ∨ z = e2.1) with rfl | rfl
    · rw [v1]
      exact decide_eq_true h1
    · rw [v2]
      exact decide_eq_true h2
  rw [hw]
  rcases perm_two (x := e1.1) (y := e2.1) hp with rfl | rfl
  · unfold Rch
    constructor
    · rintro (⟨h, _⟩ | ⟨z, hz, h⟩ | ⟨x, y, c, k, h, hS⟩)
      · cases h
      · rcases (by simpa using hz : z = e1.1 ∨ z = e2.1) with rfl | rfl
        · rw [v1] at h
          exact .inl (.inl h)
        · rw [v2] at h
          exact .inl (.inr h)
      · cases h
        rw [v1, v2] at hS
        exact .inr ⟨c, k, hS⟩
    · rintro ((h | h) | ⟨c, k, hS⟩)
      · exact .inr (.inl ⟨e1.1, by simp, by rw [v1]; exact h⟩)
      · exact .inr (.inl ⟨e2.1, by simp, by rw [v2]; exact h⟩)
      · exact .inr (.inr ⟨e1.1, e2.1, c, k, rfl, by rw [v1, v2]; exact hS⟩)
  · unfold Rch
    constructor
    · rintro (⟨h, _⟩ | ⟨z, hz, h⟩ | ⟨x, y, c, k, h, hS⟩)
      · cases h
      · rcases (by simpa using hz : z = e2.1 ∨ z = e1.1) with rfl | rfl
        · rw [v2] at h
          exact .inl (.inr h)
        · rw [v1] at h
          exact .inl (.inl h)
      · cases h
        rw [v1, v2] at hS
        obtain ⟨a1, a2, a3, a4, a5⟩ := hS
        exact .inr ⟨k, c, a3, a4, a1, a2, by omega⟩
    · rintro ((h | h) | ⟨c, k, a1, a2, a3, a4, a5⟩)
      · exact .inr (.inl ⟨e1.1, by simp, by rw [v1]; exact h⟩)
      · exact .inr (.inl ⟨e2.1, by simp, by rw [v2]; exact h⟩)
      · exact .inr (.inr ⟨e2.1, e1.1, k, c, rfl, by rw [v1, v2]; exact ⟨a3, a4, a1, a2, by omega⟩⟩)
theorem abs_mono {c n w : Int} (h1 : 1 ≤ c) (h2 : c ≤ n) : ((c * w).natAbs : Int) ≤ ((n * w).natAbs : Int) := by
  rw [Int.natAbs_mul, Int.natAbs_mul]
  exact Int.ofNat_le.mpr (Nat.mul_le_mul_right _ (by omega))
def sp_law_large_right (_ : PySem.W.Frag) : Sp := fun vs H Q _ => ∃ (a : Addr) (n : Int), vs = [.ref a] ∧ SrcAt H a n ∧ (0 ≤ n ∧ n ≤ 10 ^ 7) ∧ ∀ H', Ch [a] H H' → SrcAt H' a (n + 20) → Q (.bl true) H'
theorem ok_law_large_right {P : Program} {w : World} {K : PySem.W.Frag} {mg : Str → Option Value} {base : Heap} {Z : Ad} (T : Txt K mg Z) : FnG P w K mg base CX0 7 Z.a_law_large_right Z.d_law_large_right ["source"] (sp_law_large_right K) := by
  refine funG T.F_law_large_right sc_law_large_right (fun vs H Q E h => ?_) (fun cdv A hG outer s H vs Q E hr h => ?_)
  · obtain ⟨a, n, rfl, _⟩ := h
    rfl
  · have nd := sc_law_large_right.nd
    have hu := hu_of hr
    obtain ⟨a, n, rfl, hS, hn, q⟩ := h
    refine ⟨_, (pss_cons (ps_set (i := 1) nd rfl (by first | exact Or.inl rfl | exact Or.inr rfl) (pe_call (ok_law_draw T) (hr.mono (by decide)) rfl T.m_law_draw T.F_law_draw.kp (bd_law_draw T) .nil pass0 (pa_cons (pv 0) (pa_cons pe_int pa_nil))))
    (pss_cons (ps_par (i := 2) (j := 3) rfl nd rfl rfl (by decide) rfl rfl (pa_cons (pe_ix (ix_seqK (K := K) rfl) (pe_lst (pa_cons pe_int (pa_cons (pe_op op_pwU pe_int pe_int) (pa_cons (pe_op op_pwU pe_int pe_int) pa_nil)))) (pv 1) (fun _ _ => rfl)) (pa_cons (pe_ix (ix_seqK (K := K) rfl) (pe_lst (pa_cons (pe_op op_pwU pe_int pe_int) (pa_cons (pe_op op_pwU pe_int pe_int) (pa_cons pe_int pa_nil)))) (pv 1) (fun _ _ => rfl)) pa_nil)) (by rfl))
    (pss_cons (ps_set (i := 4) nd rfl (by first | exact Or.inl rfl | exact Or.inr rfl) (pe_callB (call_minU rfl) (by rfl) T.b_min (by decide +kernel) (pa_cons (pe_op op_fdU (pv 3) pe_int) (pa_cons (pe_ix (ix_seqK (K := K) rfl) (pe_lst (pa_cons pe_int (pa_cons pe_int (pa_cons pe_int (pa_cons (pe_op op_addU pe_int (pe_call (ok_law_draw T) (hr.mono (by decide)) rfl T.m_law_draw T.F_law_draw.kp (bd_law_draw T) .nil pass0 (pa_cons (pv 0) (pa_cons (pe_op op_pwU pe_int pe_int) pa_nil)))) pa_nil))))) (pe_call (ok_law_draw T) (hr.mono (by decide)) rfl T.m_law_draw T.F_law_draw.kp (bd_law_draw T) .nil pass0 (pa_cons (pv 0) (pa_cons pe_int pa_nil))) (fun _ _ => rfl)) pa_nil))))
    (pss_cons (ps_asg (pe_call (ok_law_writers T) (hr.mono (by decide)) rfl T.m_law_writers T.F_law_writers.kp (bd_law_writers T) .nil pass0 (pa_cons (pv 0) (pa_cons pe_int pa_nil))) (pg_unlK (K := K) (n := 2) rfl rfl (pgs_cons (pg_name (i := 5) nd rfl (by first | exact Or.inl rfl | exact Or.inr rfl)) (pgs_cons (pg_name (i := 6) nd rfl (by first | exact Or.inl rfl | exact Or.inr rfl)) pgs_nil)) rfl rfl))
    (pss_cons (ps_set (i := 7) nd rfl (by first | exact Or.inl rfl | exact Or.inr rfl) pe_dnewK)
    (pss_cons (ps_for PassesOwn.never rfl (pi_listK (K := K) rfl (pe_lst (pa_cons (pv 5) (pa_cons (pv 6) pa_nil)))) (pg_name (i := 8) nd rfl (by first | exact Or.inl rfl | exact Or.inr rfl))
      (pss_cons (ps_set (i := 9) nd rfl (by first | exact Or.inl rfl | exact Or.inr rfl) (pe_op op_mulU (pe_op op_sub (pe_call (ok_law_draw T) (hr.mono (by decide)) rfl T.m_law_draw T.F_law_draw.kp (bd_law_draw T) .nil pass0 (pa_cons (pv 0) (pa_cons (pe_op op_mulU pe_int (pe_op op_fdU (pv 3) (pv 4))) pa_nil))) (pe_op op_fdU (pv 3) (pv 4))) (pv 4)))
      (pss_one (ps_dput hu (pv 7) (pv 8) (pe_tup (pa_cons (pe_op op_addU pe_int (pe_call (ok_law_draw T) (hr.mono (by decide)) rfl T.m_law_draw T.F_law_draw.kp (bd_law_draw T) .nil pass0 (pa_cons (pv 0) (pa_cons (pv 2) pa_nil)))) (pa_cons (pv 9) pa_nil))) rfl))))
    (pss_cons (ps_setLc (i := 10) (own := [("writer", 8)]) (g := gName 8) (by rfl) nd rfl rfl (sw_true rfl rfl rfl (by decide +kernel)) (pi_listK (K := K) rfl (pe_lst (pa_cons (pv 5) (pa_cons (pv 6) pa_nil)))) (blkOk_by (own := [("writer", 8)]) (N := N_law_large_right) (sc := defScope s_law_large_right) (by decide +kernel)) (fun _ _ _ _ _ => pg_name (i := 8) nd rfl (by first | exact Or.inl rfl | exact Or.inr rfl)) (fun _ _ _ _ _ => pts_nil) (fun _ _ _ _ _ => (pe_op op_addU pe_int (pe_call (ok_law_draw T) (hr.mono (by decide)) rfl T.m_law_draw T.F_law_draw.kp (bd_law_draw T) .nil pass0 (pa_cons (pv 0) (pa_cons (pe_ix (ix_seqK (K := K) rfl) (pe_dget hu (pv 7) (pv 8) (fun _ _ => rfl)) pe_int (fun _ _ => rfl)) pa_nil))))))
    (pss_cons (ps_setLc (i := 11) (own := [("writer", 8)]) (g := gName 8) (by rfl) nd rfl rfl (sw_true rfl rfl rfl (by decide +kernel)) (pi_listK (K := K) rfl (pe_lst (pa_cons (pv 5) (pa_cons (pv 6) pa_nil)))) (blkOk_by (own := [("writer", 8)]) (N := N_law_large_right) (sc := defScope s_law_large_right) (by decide +kernel)) (fun _ _ _ _ _ => pg_name (i := 8) nd rfl (by first | exact Or.inl rfl | exact Or.inr rfl)) (fun _ _ _ _ _ => pts_nil) (fun _ _ _ _ _ => (pe_ix (ix_seqK (K := K) rfl) (pe_lst (pa_cons pe_int (pa_cons (pe_ix (ix_seqK (K := K) rfl) (pe_dget hu (pv 7) (pv 8) (fun _ _ => rfl)) pe_int (fun _ _ => rfl)) pa_nil))) (pe_call (ok_law_draw T) (hr.mono (by decide)) rfl T.m_law_draw T.F_law_draw.kp (bd_law_draw T) .nil pass0 (pa_cons (pv 0) (pa_cons pe_int pa_nil))) (fun _ _ => rfl))))
    (pss_cons (ps_for PassesOwn.never rfl (pi_listK (K := K) rfl (pe_lst (pa_cons (pv 10) (pa_cons (pv 11) (pa_cons (pe_lst (pa_cons pe_int (pa_cons pe_int pa_nil))) pa_nil))))) (pg_name (i := 12) nd rfl (by first | exact Or.inl rfl | exact Or.inr rfl))
      (pss_one (ps_if (pt_cmpR op_notBl (pe_callG (ok_law_result T) hG (hr.mono (by decide)) rfl T.m_law_result T.F_law_result.kp (bd_law_result T) .nil pass0 (pa_cons (pv 7) (pa_cons (pe_op op_addU (pe_op op_mulU (pe_ix (ix_seqK (K := K) rfl) (pv 12) pe_int (fun _ _ => rfl)) (pe_ix (ix_seqK (K := K) rfl) (pe_dget hu (pv 7) (pv 5) (fun _ _ => rfl)) pe_int (fun _ _ => rfl))) (pe_op op_mulU (pe_ix (ix_seqK (K := K) rfl) (pv 12) pe_int (fun _ _ => rfl)) (pe_ix (ix_seqK (K := K) rfl) (pe_dget hu (pv 7) (pv 6) (fun _ _ => rfl)) pe_int (fun _ _ => rfl)))) pa_nil))) pe_bl (nomark _))
        (pss_one (ps_ret pe_bl))
        pss_nil)))
    (pss_cons (ps_setLc (i := 13) (own := [("writer", 8)]) (g := gName 8) (by rfl) nd rfl rfl (sw_true rfl rfl rfl (by decide +kernel)) (pi_listK (K := K) rfl (pe_lst (pa_cons (pv 5) (pa_cons (pv 6) pa_nil)))) (blkOk_by (own := [("writer", 8)]) (N := N_law_large_right) (sc := defScope s_law_large_right) (by decide +kernel)) (fun _ _ _ _ _ => pg_name (i := 8) nd rfl (by first | exact Or.inl rfl | exact Or.inr rfl)) (fun _ _ _ _ _ => pts_nil) (fun _ _ _ _ _ => (pe_op op_mulU (pe_ix (ix_seqK (K := K) rfl) (pe_dget hu (pv 7) (pv 8) (fun _ _ => rfl)) pe_int (fun _ _ => rfl)) (pe_ix (ix_seqK (K := K) rfl) (pe_dget hu (pv 7) (pv 8) (fun _ _ => rfl)) pe_int (fun _ _ => rfl)))))
    (pss_cons (ps_if (pt_cmpR (op_neK (K := K) rfl hr.units) (pe_lc (own := [("total", 16)]) (g := gName 16) (by rfl) nd (pi_listK (K := K) rfl (pv 13)) (blkOk_by (own := [("total", 16)]) (N := N_law_large_right) (sc := defScope s_law_large_right) (by decide +kernel)) (fun _ _ _ _ _ => pg_name (i := 16) nd rfl (by first | exact Or.inl rfl | exact Or.inr rfl)) (fun _ _ _ _ _ => (pts_one (pt_cmpR op_notBl (pe_callG (ok_law_result T) hG (hr.mono (by decide)) rfl T.m_law_result T.F_law_result.kp (bd_law_result T) .nil pass0 (pa_cons (pv 7) (pa_cons (pv 16) pa_nil))) pe_bl (nomark _)))) (fun _ _ _ _ _ => (pv 16))) (pe_lst pa_nil) (nomark _))
      (pss_one (ps_ret pe_bl))
      pss_nil)
    (pss_cons (ps_set (i := 14) nd rfl (by first | exact Or.inl rfl | exact Or.inr rfl) (pe_op op_addU (pe_op op_addU (pe_op op_mulU (pe_ix (ix_seqK (K := K) rfl) (pv 10) pe_int (fun _ _ => rfl)) (pe_ix (ix_seqK (K := K) rfl) (pe_dget hu (pv 7) (pv 5) (fun _ _ => rfl)) pe_int (fun _ _ => rfl))) (pe_op op_mulU (pe_ix (ix_seqK (K := K) rfl) (pv 10) pe_int (fun _ _ => rfl)) (pe_ix (ix_seqK (K := K) rfl) (pe_dget hu (pv 7) (pv 6) (fun _ _ => rfl)) pe_int (fun _ _ => rfl)))) pe_int))
    (pss_cons (ps_if (PW.pt (pw_and (pt_cmpR op_gt (pv 4) pe_int (nomark _)) (pw_and (pt_cmpR (op_notInK (K := K) rfl) (pv 14) (pv 13) (by with_unfolding_all rfl)) (pw_and1 (pt_cmpR op_notBl (pe_callG (ok_law_result T) hG (hr.mono (by decide)) rfl T.m_law_result T.F_law_result.kp (bd_law_result T) .nil pass0 (pa_cons (pv 7) (pa_cons (pv 14) pa_nil))) pe_bl (nomark _))))))
      (pss_one (ps_ret pe_bl))
      pss_nil)
    (pss_cons (ps_set (i := 15) nd rfl (by first | exact Or.inl rfl | exact Or.inr rfl) (pe_op op_addU pe_int (pe_callB (sumK (K := K) rfl rfl) (by rfl) T.b_sum (by decide +kernel) (pa_cons (pe_lc (own := [("total", 16)]) (g := gName 16) (by rfl) nd (pi_listK (K := K) rfl (pv 13)) (blkOk_by (own := [("total", 16)]) (N := N_law_large_right) (sc := defScope s_law_large_right) (by decide +kernel)) (fun _ _ _ _ _ => pg_name (i := 16) nd rfl (by first | exact Or.inl rfl | exact Or.inr rfl)) (fun _ _ _ _ _ => pts_nil) (fun _ _ _ _ _ => (pe_callB call_absU (by rfl) T.b_abs (by decide +kernel) (pa_cons (pv 16) pa_nil)))) pa_nil))))
    (pss_one (ps_ret (pe_and (pe_cmpR op_isBl (pe_callG (ok_law_result T) hG (hr.mono (by decide)) rfl T.m_law_result T.F_law_result.kp (bd_law_result T) .nil pass0 (pa_cons (pv 7) (pa_cons (pv 15) pa_nil))) pe_bl (nomark _)) (pe_one (pe_cmpR op_isBl (pe_callG (ok_law_result T) hG (hr.mono (by decide)) rfl T.m_law_result T.F_law_result.kp (bd_law_result T) .nil pass0 (pa_cons (pv 7) (pa_cons (pe_op op_sub pe_int (pv 15)) pa_nil))) pe_bl (nomark _)))))))))))))))))))), ?_⟩
    rw [st_law_large_right]
    walk_at "X"
    refine ⟨a, n, 3, rfl, hS, by omega, by omega, fun st H1 hst0 hst1 c1 hS1 => ?_⟩
    walk_at "X"
    refine v_pw10 (w := 10 ^ 14) rfl (by decide) ?_
    walk_at "X"
    refine v_pw10 (w := 10 ^ 28) rfl (by decide) ?_
    walk_at "X"
    refine v_new fun p2 H2 np2 c2 hp2 => ?_
    walk_at "X"
    obtain ⟨wide, hw1, hw2⟩ : ∃ wide : Int, atI [V.int 10, .int (10 ^ 14), .int (10 ^ 28)] st = some (.int wide) ∧ 10 ≤ wide ∧ wide ≤ 10 ^ 28 := by
      rcases (by omega : st = 0 ∨ st = 1 ∨ st = 2) with rfl | rfl | rfl
      · exact ⟨10, by with_unfolding_all rfl, by decide, by decide⟩
      · exact ⟨10 ^ 14, by with_unfolding_all rfl, by decide, by decide⟩
      · exact ⟨10 ^ 28, by with_unfolding_all rfl, by decide, by decide⟩
    refine v_ixL' hp2 hw1 ?_
    walk_at "X"
    refine v_pw10 (w := 10 ^ 28) rfl (by decide) ?_
    walk_at "X"
    refine v_pw10 (w := 10 ^ 14) rfl (by decide) ?_
    walk_at "X"
    refine v_new fun p3 H3 np3 c3 hp3 => ?_
    walk_at "X"
    obtain ⟨great, hg1, hg2⟩ : ∃ great : Int, atI [V.int (10 ^ 28), .int (10 ^ 14), .int 10] st = some (.int great) ∧ 10 ≤ great ∧ great ≤ 10 ^ 28 := by
      rcases (by omega : st = 0 ∨ st = 1 ∨ st = 2) with rfl | rfl | rfl
      · exact ⟨10 ^ 28, by with_unfolding_all rfl, by decide, by decide⟩
      · exact ⟨10 ^ 14, by with_unfolding_all rfl, by decide, by decide⟩
      · exact ⟨10, by with_unfolding_all rfl, by decide, by decide⟩
    refine v_ixL' hp3 hg1 ?_
    clear hw1 hg1 hp2 hp3
    walk_at "X"
    refine v_fd (fdS (by decide) (by decide) (by decide)) ?_
    rw [Int.fdiv_eq_ediv_of_nonneg _ (by decide)]
    walk_at "X"
    have hS3 := (hS1.to c2).to c3
    refine v_pw10 (w := 10 ^ 6) rfl (by decide) ?_
    walk_at "X"
    refine ⟨a, n + 1, 10 ^ 6, rfl, hS3, by omega, by omega, fun r4 H4 hr40 hr41 c4 hS4 => ?_⟩
    walk_at "X"
    refine v_new fun p5 H5 np5 c5 hp5 => ?_
    walk_at "X"
    refine ⟨a, n + 1 + 1, 4, rfl, hS4.to c5, by omega, by omega, fun r6 H6 hr60 hr61 c6 hS6 => ?_⟩
    have ap5 : a ≠ p5 := hS4.ne np5
    have hp6 := c6.get1 hp5 ap5.symm
    obtain ⟨d0, hd1, hd2⟩ : ∃ d0 : Int, atI [V.int 1, .int 2, .int 6, .int (1 + r4)] r6 = some (.int d0) ∧ 1 ≤ d0 := by
      rcases (by omega : r6 = 0 ∨ r6 = 1 ∨ r6 = 2 ∨ r6 = 3) with rfl | rfl | rfl | rfl
      · exact ⟨1, by with_unfolding_all rfl, by decide⟩
      · exact ⟨2, by with_unfolding_all rfl, by decide⟩
      · exact ⟨6, by with_unfolding_all rfl, by decide⟩
      · exact ⟨1 + r4, by with_unfolding_all rfl, by omega⟩
    walk_at "X"
    refine v_ixL' hp6 hd1 ?_
    walk_at "X"
    generalize hdv : min (great / 3) d0 = dv
    have dv1 : 1 ≤ dv := by omega
    have dv2 : dv ≤ great / 3 := by omega
    have f6 : Ch [a] H H6 := ((((c1.trans (c2.weak _)).trans (c3.weak _)).trans c4).trans (c5.weak _)).trans c6
    clear hd1 hp5 hp6 hdv
    walk_at "X"
    refine ⟨a, n + 1 + 1 + 1, 2, rfl, hS6, by omega, by omega, fun zs p7 H7 hzl hznd hzm np7 c7 hS7 hp7 => ?_⟩
    obtain ⟨one, other, rfl⟩ : ∃ x y, zs = [x, y] := by
      match zs, (show zs.length = 2 by omega) with
      | [x, y], _ => exact ⟨x, y, rfl⟩
    replace hp7 : H7 p7 = some (.lst [.str one, .str other]) := hp7
    walk_at "X"
    refine x_dnew fun D H8 nD c8 hD8 => ?_
    walk_at "X"
    refine v_new fun p9 H9 np9 c9 hp9 => ?_
    walk_at "X"
    have hS9 := (hS7.to c8).to c9
    have aD : a ≠ D := hS7.ne nD
    have ap9 : a ≠ p9 := (hS7.to c8).ne np9
    have Dp9 : D ≠ p9 := ne_of_none hD8 np9
    have hD9 := c9.get0 hD8
    have f9 : Ch [a] H H9 := ((f6.trans c7).trans (c8.weak _)).trans (c9.weak _)
    have nDH : H D = none := (f6.trans c7).freeS nD (by simpa using aD.symm)
    refine v_iList (.of hp9) ?_
    have gd0 : 1 ≤ great / dv := (Int.le_ediv_iff_mul_le (by omega)).mpr (by omega)
    have gd1 : great / dv * dv ≤ great := Int.ediv_mul_le _ (by omega)
    have gd2 : great / dv ≤ great := Int.ediv_le_self _ (by omega)
    have fdv : great.fdiv dv = great / dv := Int.fdiv_eq_ediv_of_nonneg _ (by omega)
    generalize hgd : great / dv = gd at *
    refine for_W walk_list (fun i σ H' => ∃ (w8 w9 : Option V) (us : List UE), σ = [some (.ref a), some (.int st), some (.int wide), some (.int great), some (.int dv), some (.str one), some (.str other), some (.ref D), w8, w9, none, none, none, none, none, none, none] ∧ Ch [a, D] H9 H' ∧ SrcAt H' a (n + 5 + 2 * i) ∧ us.map (·.1) = [one, other].take i ∧ H' D = some (.dK (uK us)) ∧
        (∀ x ∈ us, H' x.2.1 = some (.tup [.int x.2.2.1, .int x.2.2.2])) ∧ ∀ x ∈ us, (1 ≤ x.2.2.1 ∧ x.2.2.1 ≤ 10 ^ 28) ∧ (-(10 ^ 28) ≤ x.2.2.2 ∧ x.2.2.2 ≤ 10 ^ 28) ∧ ∃ m, x.2.2.2 = m * dv)
      ⟨_, _, [], rfl, .refl _ _, hS9.mono (by omega), rfl, hD9, by simp, by simp⟩ (fun i σ H' _ ⟨_, _, _, _, c, _⟩ => .of (c.get hp9 (by simp [ap9.symm, Dp9.symm]))) ?_ ?_
    · rintro i x σ H10' H10 hi ⟨w8, w9, us, rfl, c10, hS10, hus, hD10, ht10, hb10⟩ ⟨rfl, hx⟩
      have hx' : ([one, other].map V.str)[i]? = some x := hx
      rw [List.getElem?_map] at hx'
      obtain ⟨z, hz, rfl⟩ := Option.map_eq_some_iff.mp hx'
      have hi2 : i < 2 := hi
      walk_at "X"
      refine v_fd (fdS (by omega) (by omega) (by omega)) ?_
      rw [fdv]
      walk_at "X"
      refine v_mul (mulS (by omega) (by omega) (by omega) (by omega)) ?_
      walk_at "X"
      refine ⟨a, _, _, rfl, hS10, by omega, by omega, fun r H11 hr0 hr1 c11 hS11 => ?_⟩
      walk_at "X"
      refine v_fd (fdS (by omega) (by omega) (by omega)) ?_
      rw [fdv]
      walk_at "X"
      have hwb : -(gd * dv) ≤ (r - gd) * dv ∧ (r - gd) * dv ≤ gd * dv := by
        constructor
        · rw [← Int.neg_mul]
          exact Int.mul_le_mul_of_nonneg_right (by omega) (by omega)
        · exact Int.mul_le_mul_of_nonneg_right (by omega) (by omega)
      refine v_mul (mulS (by omega) (by omega) (by omega) (by omega)) ?_
      walk_at "X"
      refine ⟨a, _, _, rfl, hS11, by omega, by omega, fun r2 H12 hr20 hr21 c12 hS12 => ?_⟩
      walk_at "X"
      refine v_new fun t13 H13 nt13 c13 ht13 => ?_
      walk_at "X"
      have g : Ch [a] H10 H13 := (c11.trans c12).trans (c13.weak _)
      have hD13 := g.get1 hD10 aD.symm
      have hul : us.length = i := by
        have := congrArg List.length hus
        rw [List.length_map, List.length_take] at this
        simp at this
        omega
      refine v_dputP hD13 (by rw [uK_len]; exact Nat.lt_of_le_of_lt (m := 100) (by omega) (by decide)) fun H14 c14 hD14 => ?_
      rw [putK_new (by
        intro kv hkv
        obtain ⟨x, hx, rfl⟩ := List.mem_map.mp hkv
        intro h
        have h1 : x.1 = z := Sum.inr.inj h
        have h2 : z ∈ [one, other].take i := by rw [← hus, ← h1]; exact List.mem_map_of_mem hx
        have h4 : ([one, other].take i ++ [z]).Nodup := take_succ hz ▸ hznd.sublist (List.take_sublist _ _)
        have h3 := (List.nodup_append.mp h4).2.2 z h2 z (by simp)
        exact h3 rfl)] at hD14
      have D7a : Ch [a, D] H10 H14 := (g.mono (by simp)).trans (c14.mono (by simp))
      refine ⟨_, _, us ++ [(z, t13, 1 + r2, (r - gd) * dv)], rfl, c10.trans D7a, ?_, by rw [List.map_append, hus, take_succ hz]; rfl, by rw [hD14]; simp [uK], ?_, ?_⟩
      · have e : n + 5 + 2 * ((i + 1 : Nat) : Int) = n + 5 + 2 * i + 1 + 1 := by omega
        rw [e]
        exact (hS12.to c13).toS c14 (by simpa using aD)
      · intro x hx
        rcases List.mem_append.mp hx with hx | hx
        · have h1 := ht10 x hx
          refine D7a.get h1 ?_
          simp only [List.mem_cons, List.not_mem_nil, or_false, not_or]
          obtain ⟨ys, hys⟩ := hS10.at
          exact ⟨tup_ne h1 hys, fun z => by rw [z, hD10] at h1; cases h1⟩
        · obtain rfl := List.mem_singleton.mp hx
          exact c14.get1 ht13 (fun z => by rw [show t13 = D from z, hD13] at ht13; cases ht13)
      · intro x hx
        rcases List.mem_append.mp hx with hx | hx
        · exact hb10 x hx
        · obtain rfl := List.mem_singleton.mp hx
          dsimp only
          exact ⟨by omega, by omega, _, rfl⟩
    · rintro σ H10 ⟨w8, w9, us, rfl, c10, hS10, hus, hD10, ht10, hb10⟩
      replace hus : us.map (·.1) = [one, other] := hus
      obtain ⟨e1, e2, rfl⟩ : ∃ e1 e2, us = [e1, e2] := by
        have hl : us.length = 2 := by
          have := congrArg List.length hus
          simpa using this
        clear hus hD10 ht10 hb10
        match us, hl with
        | [x, y], _ => exact ⟨x, y, rfl⟩
      obtain ⟨rfl, rfl⟩ : e1.1 = one ∧ e2.1 = other := by simpa using hus
      have b1 := hb10 e1 (by simp)
      have b2 := hb10 e2 (by simp)
      have U10 : UniAt H10 D [e1, e2] := by
        refine ⟨hD10, ht10, hznd, fun x hx => leftW _ (hzm _ (by rw [← hus]; exact List.mem_map_of_mem hx)), fun x hx => ?_, by simp⟩
        have := hb10 x hx
        omega
      have f10 : Ch [a, D] H H10 := (f9.mono (by simp)).trans c10
      replace hS10 : SrcAt H10 a (n + 9) := hS10.mono (by show n + 5 + 2 * (2 : Int) ≤ n + 9; omega)
      have g1 : valV (uK [e1, e2]) (Sum.inr e1.1 : Key) = some (.ref e1.2.1) := valV_of U10.nd (by simp)
      have g2 : valV (uK [e1, e2]) (Sum.inr e2.1 : Key) = some (.ref e2.2.1) := valV_of U10.nd (by simp)
      walk_at "X"
      refine v_new fun p11 H11 np11 c11 hp11 => ?_
      have hD11 := c11.get0 U10.d
      have U11 := U10.to c11
      have ap11 : a ≠ p11 := hS10.ne np11
      refine v_iList (.of hp11) ?_
      intro C hC
      have hS11 := hS10.to c11
      have aC : a ≠ C := hS11.ne hC
      have pr1 : ∀ {e : UE}, e ∈ [e1, e2] → 1 ≤ e.2.2.1 ∧ e.2.2.1 ≤ 10 ^ 28 := fun he => (hb10 _ he).1
      refine lc_W (vs := [8]) walk_list [a] (fun i acc H' => ∃ cs : List Int, acc = cs.map V.int ∧ Paired (fun (c : Int) (e : UE) => 1 ≤ c ∧ c ≤ e.2.2.1) cs ([e1, e2].take i) ∧ SrcAt H' a (n + 9 + i)) hC (fun H' c => .of (c.get1 hp11 ap11.symm)) (fun H' c => ⟨[], rfl, .nil, by simpa using hS11.to c⟩) ?_ ?_
      · rintro i x acc H12' H12 hi hl12 hle12 hc12 ⟨cs, rfl, hcs, hS12⟩ ⟨rfl, hx⟩
        have hx' : ([e1, e2].map fun e => V.str e.1)[i]? = some x := hx
        rw [List.getElem?_map] at hx'
        obtain ⟨e, he, rfl⟩ := Option.map_eq_some_iff.mp hx'
        have hem := List.mem_of_getElem? he
        have hi2 : i < 2 := hi
        have U12 : Rd H12 D (.dK (uK [e1, e2])) := .of (hc12.get1 U11.d aD.symm)
        have ht12 := hc12.get1 (U11.t e hem) (by
          obtain ⟨xs, hxs⟩ := hS11.at
          exact tup_ne (U11.t e hem) hxs)
        have be := pr1 hem
        walk_at "X"
        refine v_dgetS U12 (valV_of U10.nd hem) ?_
        walk_at "X"
        refine ⟨a, _, _, rfl, hS12, by omega, by omega, fun r H13 hr0 hr1 c13 hS13 => ?_⟩
        walk_at "X"
        refine lcW_next hC (c13.get1 hl12 aC.symm) (by omega) hle12 (hc12.trans c13) fun H14 c14 _ => ⟨cs ++ [1 + r], by simp, ?_, ?_⟩
        · rw [take_succ he]
          exact paired_take hcs ⟨by omega, by omega⟩
        · have e9 : n + 9 + ((i + 1 : Nat) : Int) = n + 9 + i + 1 := by omega
          rw [e9]
          exact hS13.toS c14 (by simpa using aC)
      · rintro acc H12 hC12 hle12 hc12 ⟨cs, rfl, hcs, hS12⟩
        obtain ⟨c1', k1', rfl, hc1, hk1⟩ : ∃ c k, cs = [c, k] ∧ (1 ≤ c ∧ c ≤ e1.2.2.1) ∧ (1 ≤ k ∧ k ≤ e2.2.2.1) := by
          have hcs' : Paired (fun (c : Int) (e : UE) => 1 ≤ c ∧ c ≤ e.2.2.1) cs [e1, e2] := hcs
          cases hcs' with
          | cons r1 t1 => cases t1 with
            | cons r2 t2 => cases t2; exact ⟨_, _, rfl, r1, r2⟩
        have hS12' : SrcAt H12 a (n + 11) := hS12.mono (by show n + 9 + (2 : Int) ≤ n + 11; omega)
        have U12 : UniAt H12 D [e1, e2] := ⟨hc12.get1 U11.d aD.symm, fun x hx => hc12.get1 (U11.t x hx) (by
          obtain ⟨xs, hxs⟩ := hS11.at
          exact tup_ne (U11.t x hx) hxs), U10.nd, U10.wr, U10.b, U10.l⟩
        walk_at "X"
        refine v_new fun p13 H13 np13 c13 hp13 => ?_
        have U13 := U12.to c13
        have hS13 := hS12'.to c13
        have hC13 := c13.get0 hC12
        have ap13 : a ≠ p13 := hS12'.ne np13
        refine v_iList (.of hp13) ?_
        intro F hF
        have aF : a ≠ F := hS13.ne hF
        refine lc_W (vs := [8]) walk_list [a] (fun i acc H' => ∃ cs : List Int, acc = cs.map V.int ∧ Paired (fun (c : Int) (e : UE) => 1 ≤ c ∧ c ≤ e.2.2.1) cs ([e1, e2].take i) ∧ SrcAt H' a (n + 11 + i)) hF (fun H' c => .of (c.get1 hp13 ap13.symm)) (fun H' c => ⟨[], rfl, .nil, by simpa using hS13.to c⟩) ?_ ?_
        · rintro i x acc H14' H14 hi hl14 hle14 hc14 ⟨cs, rfl, hcs, hS14⟩ ⟨rfl, hx⟩
          have hx' : ([e1, e2].map fun e => V.str e.1)[i]? = some x := hx
          rw [List.getElem?_map] at hx'
          obtain ⟨e, he, rfl⟩ := Option.map_eq_some_iff.mp hx'
          have hem := List.mem_of_getElem? he
          have hi2 : i < 2 := hi
          have U14 : Rd H14 D (.dK (uK [e1, e2])) := .of (hc14.get1 U13.d aD.symm)
          have ht14 := hc14.get1 (U13.t e hem) (by
            obtain ⟨xs, hxs⟩ := hS13.at
            exact tup_ne (U13.t e hem) hxs)
          have be := pr1 hem
          walk_at "X"
          refine v_dgetS U14 (valV_of U10.nd hem) ?_
          walk_at "X"
          refine v_new fun p15 H15 np15 c15 hp15 => ?_
          walk_at "X"
          refine ⟨a, _, _, rfl, hS14.to c15, by omega, by omega, fun r H16 hr0 hr1 c16 hS16 => ?_⟩
          obtain ⟨v, hv, hv1⟩ : ∃ v : Int, atI [V.int 1, .int e.2.2.1] r = some (.int v) ∧ 1 ≤ v ∧ v ≤ e.2.2.1 := by
            rcases (by omega : r = 0 ∨ r = 1) with rfl | rfl
            · exact ⟨1, by with_unfolding_all rfl, by omega, by omega⟩
            · exact ⟨e.2.2.1, by with_unfolding_all rfl, by omega, by omega⟩
          walk_at "X"
          refine v_ixL' (c16.get1 hp15 (hS14.ne np15).symm) hv ?_
          have c146 : Ch [a] H14 H16 := (c15.weak _).trans c16
          refine lcW_next hF (c146.get1 hl14 aF.symm) (by omega) hle14 (hc14.trans c146) fun H17 c17 _ => ⟨cs ++ [v], by simp, ?_, ?_⟩
          · rw [take_succ he]
            exact paired_take hcs hv1
          · have e9 : n + 11 + ((i + 1 : Nat) : Int) = n + 11 + i + 1 := by omega
            rw [e9]
            exact hS16.toS c17 (by simpa using aF)
        · rintro acc H14 hF14 hle14 hc14 ⟨cs, rfl, hcs, hS14⟩
          obtain ⟨c2', k2', rfl, hc2, hk2⟩ : ∃ c k, cs = [c, k] ∧ (1 ≤ c ∧ c ≤ e1.2.2.1) ∧ (1 ≤ k ∧ k ≤ e2.2.2.1) := by
            have hcs' : Paired (fun (c : Int) (e : UE) => 1 ≤ c ∧ c ≤ e.2.2.1) cs [e1, e2] := hcs
            cases hcs' with
            | cons r1 t1 => cases t1 with
              | cons r2 t2 => cases t2; exact ⟨_, _, rfl, r1, r2⟩
          replace hS14 : SrcAt H14 a (n + 13) := hS14.mono (by show n + 11 + (2 : Int) ≤ n + 13; omega)
          have U14 : UniAt H14 D [e1, e2] := ⟨hc14.get1 U13.d aD.symm, fun x hx => hc14.get1 (U13.t x hx) (by
            obtain ⟨xs, hxs⟩ := hS13.at
            exact tup_ne (U13.t x hx) hxs), U10.nd, U10.wr, U10.b, U10.l⟩
          have hC14 := hc14.get1 hC13 aC.symm
          replace hC14 : H14 C = some (.lst [.int c1', .int k1']) := hC14
          replace hF14 : H14 F = some (.lst [.int c2', .int k2']) := hF14
          have f14 : Ch [a, D] H H14 := ((((f10.trans (c11.weak _)).trans (hc12.mono (by simp))).trans (c13.weak _)).trans (hc14.mono (by simp)))
          walk_at "X"
          refine v_new fun p15 H15 np15 c15 hp15 => ?_
          walk_at "X"
          refine v_new fun p16 H16 np16 c16 hp16 => ?_
          have c46 := c15.trans c16
          have U16 := U14.to c46
          have P16 : ∀ x ∈ [V.ref C, V.ref F, V.ref p15], ∃ p c k, x = .ref p ∧ H16 p = some (.lst [.int c, .int k]) ∧ (1 ≤ c ∧ c ≤ e1.2.2.1) ∧ (1 ≤ k ∧ k ≤ e2.2.2.1) := by
            intro x hx
            rcases (by simpa using hx : x = .ref C ∨ x = .ref F ∨ x = .ref p15) with rfl | rfl | rfl
            · exact ⟨C, _, _, rfl, c46.get0 hC14, hc1, hk1⟩
            · exact ⟨F, _, _, rfl, c46.get0 hF14, hc2, hk2⟩
            · exact ⟨p15, _, _, rfl, c16.get0 hp15, by omega, by omega⟩
          refine v_iList (.of hp16) ?_
          have t1 : ∀ {H'}, Ch [] H16 H' → H' e1.2.1 = some (.tup [.int e1.2.2.1, .int e1.2.2.2]) := fun c => (U16.to c).t e1 (by simp)
          have t2 : ∀ {H'}, Ch [] H16 H' → H' e2.2.1 = some (.tup [.int e2.2.2.1, .int e2.2.2.2]) := fun c => (U16.to c).t e2 (by simp)
          have bnd : ∀ {e : UE} {c : Int}, e ∈ [e1, e2] → 1 ≤ c ∧ c ≤ e.2.2.1 → -(10 ^ 56) ≤ c * e.2.2.2 ∧ c * e.2.2.2 ≤ 10 ^ 56 := fun {e c} he hc => by
            have := hb10 e he
            have h := mul_bd (x := c) (y := e.2.2.2) (A := 10 ^ 28) (B := 10 ^ 28) ⟨by omega, by omega⟩ this.2.1
            omega
          have m1 : e1 ∈ [e1, e2] := by simp
          have m2 : e2 ∈ [e1, e2] := by simp
          have rch : ∀ (ys : List Str), ys.Perm ([e1, e2].map (·.1)) → ∀ t, Rch (valOf [e1, e2]) (wsOf (valOf [e1, e2]) ys) t ↔ (e1.2.2.1 * e1.2.2.2 = t ∨ e2.2.2.1 * e2.2.2.2 = t) ∨ ∃ c k, Sol e1.2.2.1 e1.2.2.2 e2.2.2.1 e2.2.2.2 t c k :=
            fun ys hp t => rch_both U10.nd (by omega) (by omega) hp t
          refine for_W walk_list (fun i σ H' => ∃ (w8 w9 w12 : Option V), σ = [some (.ref a), some (.int st), some (.int wide), some (.int great), some (.int dv), some (.str e1.1), some (.str e2.1), some (.ref D), w8, w9, some (.ref C), some (.ref F), w12, none, none, none, none] ∧ Ch [] H16 H') ⟨_, _, _, rfl, .refl _ _⟩ (fun i σ H' _ ⟨_, _, _, _, c⟩ => .of (c.get0 hp16)) ?_ ?_
          · rintro i x σ H17' H17 hi ⟨w8, w9, w12, rfl, c17⟩ ⟨rfl, hx⟩
            obtain ⟨p, c, k, rfl, hp, hc, hk⟩ := P16 x (List.mem_of_getElem? hx)
            have hp17 := c17.get0 hp
            have U17 := U16.to c17
            have t1' := t1 c17
            have t2' := t2 c17
            have q1 := bnd m1 hc
            have q2 := bnd m2 hk
            walk_at "X"
            refine v_dgetS (.of U17.d) g1 ?_
            walk_at "X"
            refine v_mul (mulS (by omega) (by omega) (by omega) (by omega)) ?_
            walk_at "X"
            refine v_dgetS (.of U17.d) g2 ?_
            walk_at "X"
            refine v_mul (mulS (by omega) (by omega) (by omega) (by omega)) ?_
            walk_at "X"
            refine ⟨D, [e1, e2], _, rfl, U17, by omega, fun ys b H18 hp18 hs18 hb18 c18 => ?_⟩
            obtain rfl : b = true := hb18.mpr ((rch ys hp18 _).mpr (.inr ⟨c, k, hc.1, hc.2, hk.1, hk.2, rfl⟩))
            walk_at "X"
            refine x_iteQ rfl ?_
            walk_at "X"
            exact ⟨_, _, _, rfl, c17.trans c18⟩
          · rintro σ H17 ⟨w8, w9, w12, rfl, c17⟩
            have U17 := U16.to c17
            walk_at "X"
            refine v_new fun p18 H18 np18 c18 hp18 => ?_
            have c168 := c17.trans c18
            refine v_iList (.of hp18) ?_
            intro W hW
            refine lc_W (vs := [8]) walk_list [] (fun i acc H' => acc = (([e1, e2].take i).map fun e => e.2.2.1 * e.2.2.2).map V.int) hW (fun H' c => .of (c.get0 hp18)) (fun _ _ => rfl) ?_ ?_
            · rintro i x acc H19' H19 hi hl19 hle19 hc19 rfl ⟨rfl, hx⟩
              have hx' : ([e1, e2].map fun e => V.str e.1)[i]? = some x := hx
              rw [List.getElem?_map] at hx'
              obtain ⟨e, he, rfl⟩ := Option.map_eq_some_iff.mp hx'
              have hem := List.mem_of_getElem? he
              have hi2 : i < 2 := hi
              have U19 := U16.to (c168.trans hc19)
              have t19 := U19.t e hem
              have be := pr1 hem
              have bw := (hb10 e hem).2.1
              walk_at "X"
              refine v_dgetS (.of U19.d) (valV_of U10.nd hem) ?_
              walk_at "X"
              refine v_dgetS (.of U19.d) (valV_of U10.nd hem) ?_
              walk_at "X"
              refine v_mul (mulS (by omega) (by omega) (by omega) (by omega)) ?_
              refine lcW_next hW hl19 (by omega) hle19 hc19 fun H20 _ _ => ?_
              rw [take_succ he, List.map_append, List.map_append]
              rfl
            · rintro acc H19 hl19 hle19 hc19 rfl
              have hW19 : H19 W = some (.lst ([e1.2.2.1 * e1.2.2.2, e2.2.2.1 * e2.2.2.2].map V.int)) := hl19
              have c169 := c168.trans hc19
              have q1 := bnd m1 (show 1 ≤ e1.2.2.1 ∧ e1.2.2.1 ≤ e1.2.2.1 by omega)
              have q2 := bnd m2 (show 1 ≤ e2.2.2.1 ∧ e2.2.2.1 ≤ e2.2.2.1 by omega)
              walk_at "X"
              refine v_iList (.of hW19) ?_
              intro W2 hW2
              refine lc_W (vs := [16]) walk_list [] (fun i acc H' => acc = []) hW2 (fun H' c => .of (c.get0 hW19)) (fun _ _ => rfl) ?_ ?_
              · rintro i x acc H20' H20 hi hl20 hle20 hc20 rfl ⟨rfl, hx⟩
                rw [List.getElem?_map] at hx
                obtain ⟨tt, htt, rfl⟩ := Option.map_eq_some_iff.mp hx
                have hmt : tt = e1.2.2.1 * e1.2.2.2 ∨ tt = e2.2.2.1 * e2.2.2.2 := by simpa using List.mem_of_getElem? htt
                have U20 := U16.to (c169.trans hc20)
                walk_at "X"
                refine ⟨D, [e1, e2], tt, rfl, U20, by rcases hmt with rfl | rfl <;> omega, fun ys b H21 hp21 hs21 hb21 c21 => ?_⟩
                obtain rfl : b = true := hb21.mpr ((rch ys hp21 _).mpr (.inl (by rcases hmt with rfl | rfl; exact .inl rfl; exact .inr rfl)))
                walk_at "X"
                refine x_iteQ rfl ?_
                exact ⟨_, c21.get0 hl20, by simp, hc20.trans c21, rfl⟩
              · rintro acc H20 hl20 hle20 hc20 rfl
                walk_at "X"
                refine v_new fun p21 H21 np21 c21 hp21 => ?_
                refine v_neD 1 (dp_nil (c21.get0 hl20)) (dp_nil hp21) tm_nil tm_nil (fun _ => ?_) (fun h => (h rfl).elim)
                have c1621 := (c169.trans hc20).trans c21
                have U21 := U16.to c1621
                have hC21 := c1621.get0 (c46.get0 hC14)
                have t1' := t1 c1621
                have t2' := t2 c1621
                have s1 := bnd m1 hc1
                have s2 := bnd m2 hk1
                have hW21 := (hc20.trans c21).get0 hW19
                walk_at "X"
                refine v_dgetS (.of U21.d) g1 ?_
                walk_at "X"
                refine v_mul (mulS (by omega) (by omega) (by omega) (by omega)) ?_
                walk_at "X"
                refine v_dgetS (.of U21.d) g2 ?_
                walk_at "X"
                refine v_mul (mulS (by omega) (by omega) (by omega) (by omega)) ?_
                walk_at "x"
                walk_at "x"
                walk_at "x"
                walk_at "x"
                walk_at "x"
                refine x_join (Ch [] H21) (fun H22 c22 => ?_) (fun f' hf' => ?_)
                rotate_left
                · walk_at "X"
                  refine x_iteD (fun hd1 => ?_) (fun _ => ?_)
                  · walk_at "X"
                    refine v_ninI hW21 ?_
                    walk_at "X"
                    refine x_iteN (fun hnm => ?_) (fun _ => ?_)
                    · walk_at "X"
                      refine ⟨D, [e1, e2], _, rfl, U21, by omega, fun ys b H22 hp22 hs22 hb22 c22 => ?_⟩
                      obtain rfl : b = false := by
                        cases b with
                        | false => rfl
                        | true =>
                          exfalso
                          rcases (rch ys hp22 _).mp (hb22.mp rfl) with h | ⟨c, k, _, _, _, _, h⟩
                          · exact hnm (by rcases h with h | h <;> simp [h])
                          · obtain ⟨x1, hx1⟩ := b1.2.2
                            obtain ⟨x2, hx2⟩ := b2.2.2
                            rw [hx1, hx2] at h
                            have hdd : dv ∣ 1 := ⟨c * x1 + k * x2 - c1' * x1 - k1' * x2, by grind⟩
                            have := Int.le_of_dvd (by decide) hdd
                            omega
                      walk_at "X"
                      refine x_iteQ rfl ?_
                      walk_at "X"
                      exact hf' _ c22
                    · walk_at "X"
                      exact hf' _ (.refl _ _)
                  · walk_at "X"
                    exact hf' _ (.refl _ _)
                · have hW22 := c22.get0 hW21
                  have U22 := U21.to c22
                  walk_at "X"
                  refine v_iList (.of hW22) ?_
                  intro B hB
                  refine lc_W (vs := [16]) walk_list [] (fun i acc H' => acc = (([e1.2.2.1 * e1.2.2.2, e2.2.2.1 * e2.2.2.2].take i).map fun t => ((t.natAbs : Nat) : Int)).map V.int) hB (fun H' c => .of (c.get0 hW22)) (fun _ _ => rfl) ?_ ?_
                  · rintro i x acc H23' H23 hi hl23 hle23 hc23 rfl ⟨rfl, hx⟩
                    rw [List.getElem?_map] at hx
                    obtain ⟨tt, htt, rfl⟩ := Option.map_eq_some_iff.mp hx
                    have hi2 : i < 2 := hi
                    walk_at "X"
                    refine lcW_next hB hl23 (by omega) hle23 hc23 fun H24 _ _ => ?_
                    rw [take_succ htt, List.map_append, List.map_append]
                    rfl
                  · rintro acc H23 hl23 hle23 hc23 rfl
                    replace hl23 : H23 B = some (.lst ([((e1.2.2.1 * e1.2.2.2).natAbs : Int), ((e2.2.2.1 * e2.2.2.2).natAbs : Int)].map V.int)) := hl23
                    have U23 := U22.to hc23
                    walk_at "X"
                    refine v_sum _ hl23 ?_
                    have hsum : [((e1.2.2.1 * e1.2.2.2).natAbs : Int), ((e2.2.2.1 * e2.2.2.2).natAbs : Int)].sum = ((e1.2.2.1 * e1.2.2.2).natAbs : Int) + ((e2.2.2.1 * e2.2.2.2).natAbs : Int) := by simp
                    rw [hsum]
                    generalize hBe : ((e1.2.2.1 * e1.2.2.2).natAbs : Int) + ((e2.2.2.1 * e2.2.2.2).natAbs : Int) = Bs
                    have no : ∀ t, Bs < t.natAbs → ¬ ((e1.2.2.1 * e1.2.2.2 = t ∨ e2.2.2.1 * e2.2.2.2 = t) ∨ ∃ c k, Sol e1.2.2.1 e1.2.2.2 e2.2.2.1 e2.2.2.2 t c k) := by
                      rintro t ht (h | ⟨c, k, h1, h2, h3, h4, h5⟩)
                      · rcases h with h | h <;> (rw [h] at hBe; omega)
                      · have a1 := abs_mono (w := e1.2.2.2) h1 h2
                        have a2 := abs_mono (w := e2.2.2.2) h3 h4
                        omega
                    have fal : ∀ (b : Bool) (ys : List Str) (t : Int), ys.Perm ([e1, e2].map (·.1)) → Bs < t.natAbs → (b = true ↔ Rch (valOf [e1, e2]) (wsOf (valOf [e1, e2]) ys) t) → b = false := by
                      intro b ys t hp ht hb
                      cases b with
                      | false => rfl
                      | true => exact (no t ht ((rch ys hp t).mp (hb.mp rfl))).elim
                    have hBb : 0 ≤ Bs ∧ Bs ≤ 2 * 10 ^ 56 := by omega
                    walk_at "X"
                    refine ⟨D, [e1, e2], _, rfl, U23, by omega, fun ys b H24 hp24 hs24 hb24 c24 => ?_⟩
                    obtain rfl := fal b ys _ hp24 (by omega) hb24
                    walk_at "X"
                    refine x_iteP rfl ?_
                    walk_at "X"
                    refine ⟨D, [e1, e2], _, rfl, U23.to c24, by omega, fun ys b H25 hp25 hs25 hb25 c25 => ?_⟩
                    obtain rfl := fal b ys _ hp25 (by omega) hb25
                    walk_at "X"
                    have cE := (((c1621.trans c22).trans hc23).trans c24).trans c25
                    have f16 : Ch [a, D] H H16 := f14.trans (c46.weak _)
                    refine q H25 (((f16.mono (T := [D, a]) (by simp)).drop nDH).trans (cE.weak _)) (((hS14.to c46).to cE).mono (by omega))
end U

set_option Elab.async false
set_option maxRecDepth 100000
set_option linter.all false
set_option exponentiation.threshold 3000
set_option pp.maxSteps 600
set_option pp.deepTerms false
set_option maxHeartbeats 4000000
namespace U
open PySem PySem.Spec PyProof.Rows L2
local macro_rules | `(tactic| walk_at "ne") => `(tactic| first | assumption | (refine Ne.symm ?_; assumption) | (refine' ne_of_none ?h (by assumption); (case h => walk_at "hp")) | (refine' Ne.symm (ne_of_none ?h (by assumption)); (case h => walk_at "hp")))
local macro_rules | `(tactic| walk_at "hp") => `(tactic| first | assumption | (refine' Ch.get0 (by assumption) ?h; (case h => walk_at "hp")) | (refine' Ch.get1 (by assumption) ?h ?n; (case h => walk_at "hp"); (case n => walk_at "ne")))
local macro_rules | `(tactic| walk_at "x") => `(tactic| first
  | with_reducible refine x_seq ?_ | with_reducible refine x_nx ?_ | with_reducible refine x_rt ?_ | with_reducible refine x_next ?_
  | with_reducible refine x_asg ?_ | ((with_reducible refine' x_gName ?e ?_); (case e => (simp only [wipe, List.map_cons, List.map_nil, List.set_cons_zero, List.set_cons_succ] <;> exact rfl))) | with_reducible refine x_par ?_ | ((with_reducible refine' v_par ?e ?_); (case e => (simp only [wipe, List.map_cons, List.map_nil, List.set_cons_zero, List.set_cons_succ] <;> exact rfl))) | with_reducible refine x_if ?_ | with_reducible refine x_ret ?_ | with_reducible refine x_retN ?_ | with_reducible refine x_drop ?_ | with_reducible refine x_brk ?_
  | with_reducible refine x_var (by with_unfolding_all rfl) ?_ | with_reducible refine x_c ?_ | with_reducible refine x_op ?_ | with_reducible refine x_un ?_
  | with_reducible refine x_test ?_ | with_reducible refine x_tB ?_ | with_reducible refine x_bl ?_ | with_reducible refine x_blk ?_ | with_reducible refine x_chain ?_
  | with_reducible refine x_and ?_ | with_reducible refine x_or ?_ | with_reducible refine x_not ?_ | with_reducible refine x_andV ?_ | with_reducible refine x_orV ?_ | with_reducible refine x_notV ?_ | with_reducible refine x_ifE ?_
  | with_reducible refine x_iteT ?_ | with_reducible refine x_iteF ?_ | with_reducible refine x_iteS1 ?_ | with_reducible refine x_iteS2 ?_ | with_reducible refine x_iteS3 ?_ | with_reducible refine x_iteS4 ?_ | with_reducible refine x_iteT2 ?_ | with_reducible refine x_iteF2 ?_
  | with_reducible refine x_call ?_ | with_reducible refine x_nil ?_ | with_reducible refine x_cons ?_ | with_reducible refine x_cb ?_ | with_reducible refine x_bm ?_ | with_reducible refine x_bm0 ?_ | with_reducible refine x_lstU ?_ | with_reducible refine x_tupU ?_ | with_reducible refine x_gSub ?_
  | with_reducible refine v_add ?_ | with_reducible refine v_I0 ?_ | with_reducible refine v_neg ?_ | with_reducible refine v_eqI ?_ | with_reducible refine v_neI ?_ | with_reducible refine v_eqS ?_ | with_reducible refine v_neS ?_ | with_reducible refine v_eqB ?_ | with_reducible refine v_neB ?_
  | with_reducible refine v_isN0 ?_ | with_reducible refine v_isNI ?_ | with_reducible refine v_isNS ?_ | with_reducible refine v_isNB ?_ | with_reducible refine v_isNR ?_ | with_reducible refine v_noN0 ?_ | with_reducible refine v_noNI ?_ | with_reducible refine v_noNS ?_ | with_reducible refine v_noNB ?_ | with_reducible refine v_noNR ?_ | with_reducible refine v_inS ?_ | with_reducible refine v_isB ?_ | with_reducible refine v_noB ?_
  | ((with_reducible refine' x_and1 (v_tyL ?h) ?_); (case h => walk_at "hp"))
  | with_reducible refine x_pnil ?_ | with_reducible refine x_pcons ?_
  | with_reducible refine x_sumVals ?_ | with_reducible refine x_dget2 ?_ | with_reducible refine x_listItems ?_ | with_reducible refine x_rev ?_ | with_reducible refine v_int1B ?_ | with_reducible refine v_int1I ?_ | with_reducible refine v_reprB ?_
  | with_reducible refine x_yes ?_ | ((with_reducible refine' x_wipe ?e ?_); (case e => rfl))
  | with_reducible refine v_abs ?_ | with_reducible refine v_max ?_ | with_reducible refine v_min ?_ | with_reducible refine v_gCons ?_ | with_reducible refine v_gNil ?_ | with_reducible refine x_for ?_ | with_reducible refine x_iList ?_ | with_reducible refine x_iTup ?_ | with_reducible refine x_iR1 ?_ | with_reducible refine x_iR2 ?_ | with_reducible refine x_lc ?_
  | with_reducible refine x_iStr ?_ | with_reducible refine v_iStr ?_ | with_reducible refine x_iKeys ?_ | with_reducible refine x_iItems ?_ | with_reducible refine x_dget ?_ | with_reducible refine x_din ?_ | with_reducible refine x_dnin ?_ | with_reducible refine x_dput ?_
  | ((with_reducible refine' isi_int ?k ?_); (case k => first | exact (show _ = some true by decide +kernel) | exact (show _ = some false by decide +kernel))) | ((with_reducible refine' isi_str ?k ?_); (case k => first | exact (show _ = some true by decide +kernel) | exact (show _ = some false by decide +kernel))) | ((with_reducible refine' isi_bl ?k ?_); (case k => first | exact (show _ = some true by decide +kernel) | exact (show _ = some false by decide +kernel))) | ((with_reducible refine' isi_non ?k ?_); (case k => first | exact (show _ = some true by decide +kernel) | exact (show _ = some false by decide +kernel)))
  | ((with_reducible refine' isi_tup ?h ?k ?_); (case h => walk_at "hp"); (case k => first | exact (show _ = some true by decide +kernel) | exact (show _ = some false by decide +kernel))) | ((with_reducible refine' isi_lst ?h ?k ?_); (case h => walk_at "hp"); (case k => first | exact (show _ = some true by decide +kernel) | exact (show _ = some false by decide +kernel))) | ((with_reducible refine' isi_dK ?h ?k ?_); (case h => walk_at "hp"); (case k => first | exact (show _ = some true by decide +kernel) | exact (show _ = some false by decide +kernel)))
  | ((with_reducible refine' v_gTup ?h ?l ?_); (case h => walk_at "hp"); (case l => rfl))
  | ((with_reducible refine' v_gUnl ?h ?l ?_); (case h => walk_at "hp"); (case l => rfl))
  | ((with_reducible refine' v_ixT' ?h ?l ?_); (case h => walk_at "hp"); (case l => with_unfolding_all rfl))
  | ((with_reducible refine' v_ixL' ?h ?l ?_); (case h => walk_at "hp"); (case l => with_unfolding_all rfl)))
local macro_rules | `(tactic| walk_at "X") => `(tactic| repeat walk_at "x")


def sp_law (K : PySem.W.Frag) : Sp := fun vs H Q _ => ∃ (a : Addr) (ns : List Int), vs = [.ref a] ∧ SqL K H a (ns.map V.int) ∧ (∀ n ∈ ns, Builtin.Int.intBits n ≤ 1048576) ∧ ns.length ≤ 63 ∧ ∀ H', Q (.bl true) H'
theorem ok_law {P : Program} {w : World} {K : PySem.W.Frag} {mg : Str → Option Value} {base : Heap} {Z : Ad} (T : Txt K mg Z) : FnG P w K mg base CX0 8 Z.a_law Z.d_law ["script"] (sp_law K) := by
  refine funG T.F_law sc_law (fun vs H Q E h => ?_) (fun cdv A hG outer s H vs Q E hr h => ?_)
  · obtain ⟨a, ns, rfl, _⟩ := h
    rfl
  · have nd := sc_law.nd
    have hu := hu_of hr
    obtain ⟨a, ns, rfl, hS, hb, hlen, q⟩ := h
    refine ⟨_, (pss_cons (ps_for PassesOwn.never rfl (pi_range1 rfl T.b_range (pa_cons (pe_callB (call_maxU rfl) (by rfl) T.b_max (by decide +kernel) (pa_cons pe_int (pa_cons (pe_callB (call_minU rfl) (by rfl) T.b_min (by decide +kernel) (pa_cons pe_int (pa_cons (pe_callB (lenK (K := K) rfl) (by rfl) T.b_len (by decide +kernel) (pa_cons (pv 0) pa_nil)) pa_nil))) pa_nil))) pa_nil)) (pg_name (i := 1) nd rfl (by first | exact Or.inl rfl | exact Or.inr rfl))
      (pss_cons (ps_set (i := 2) nd rfl (by first | exact Or.inl rfl | exact Or.inr rfl) (pe_call (ok_law_source T) (hr.mono (by decide)) rfl T.m_law_source T.F_law_source.kp (bd_law_source T) .nil pass0 (pa_cons (pv 0) (pa_cons (pv 1) pa_nil))))
      (pss_cons (ps_if (PW.pt (pw_or (pt_not (pt_val (pe_callG (ok_law_small_right T) hG (hr.mono (by decide)) rfl T.m_law_small_right T.F_law_small_right.kp (bd_law_small_right T) .nil pass0 (pa_cons (pv 2) (pa_cons pe_int pa_nil))))) (pw_or (pt_not (pt_val (pe_callG (ok_law_small_right T) hG (hr.mono (by decide)) rfl T.m_law_small_right T.F_law_small_right.kp (bd_law_small_right T) .nil pass0 (pa_cons (pv 2) (pa_cons pe_int pa_nil))))) (pw_or1 (pt_not (pt_val (pe_callG (ok_law_small_right T) hG (hr.mono (by decide)) rfl T.m_law_small_right T.F_law_small_right.kp (bd_law_small_right T) .nil pass0 (pa_cons (pv 2) (pa_cons pe_int pa_nil)))))))))
        (pss_one (ps_ret pe_bl))
        pss_nil)
      (pss_one (ps_if (PW.pt (pw_or (pt_not (pt_val (pe_callG (ok_law_large_right T) hG (hr.mono (by decide)) rfl T.m_law_large_right T.F_law_large_right.kp (bd_law_large_right T) .nil pass0 (pa_cons (pv 2) pa_nil)))) (pw_or1 (pt_not (pt_val (pe_callG (ok_law_large_right T) hG (hr.mono (by decide)) rfl T.m_law_large_right T.F_law_large_right.kp (bd_law_large_right T) .nil pass0 (pa_cons (pv 2) pa_nil)))))))
        (pss_one (ps_ret pe_bl))
        pss_nil)))))
    (pss_cons (ps_set (i := 3) nd rfl (by first | exact Or.inl rfl | exact Or.inr rfl) (pe_disp (pps_cons pe_str (pe_tup (pa_cons (pe_op op_pwU pe_int pe_int) (pa_cons pe_int pa_nil))) (pps_cons pe_str (pe_tup (pa_cons (pe_op op_pwU pe_int pe_int) (pa_cons (pe_un un_neg pe_int) pa_nil))) pps_nil)) (by rfl) (by rfl) (fun z => by cases z) (by decide)))
    (pss_one (ps_ret (pe_and (pe_cmpR op_isBl (pe_call (ok_is_reachable_weight T) (hr.mono (by decide)) rfl T.m_is_reachable_weight T.F_is_reachable_weight.kp (bd_is_reachable_weight T) .nil pass0 (pa_cons (pv 3) (pa_cons pe_int pa_nil))) pe_bl (nomark _)) (pe_one (pe_cmpR op_isBl (pe_call (ok_is_reachable_weight T) (hr.mono (by decide)) rfl T.m_is_reachable_weight T.F_is_reachable_weight.kp (bd_is_reachable_weight T) .nil pass0 (pa_cons (pe_disp (pps_cons pe_str (pe_tup (pa_cons (pe_op op_pwU pe_int pe_int) (pa_cons pe_int pa_nil))) pps_nil) (by rfl) (by rfl) (fun z => by cases z) (by decide)) (pa_cons pe_int pa_nil))) pe_bl (nomark _)))))))), ?_⟩
    rw [st_law]
    walk_at "X"
    refine v_lenL hS ?_
    rw [List.length_map]
    walk_at "X"
    refine v_iR1 (by omega) ?_
    refine for_W walk_range (fun i σ H' => ∃ (w1 w2 : Option V), σ = [some (.ref a), w1, w2, none] ∧ Ch [] H H') ⟨_, _, rfl, .refl _ _⟩ (fun _ _ _ _ _ => trivial) ?_ ?_
    · rintro i x σ H1' H1 hi ⟨w1, w2, rfl, c1⟩ ⟨rfl, rfl⟩
      walk_at "X"
      refine ⟨a, ns, _, rfl, seqC c1 hS, hb, hlen, by omega, fun p H2 np2 c2 hS2 => ?_⟩
      walk_at "X"
      refine ⟨p, 0, 1, rfl, hS2, by omega, by omega, fun H3 c3 hS3 => ?_⟩
      walk_at "X"
      refine ⟨p, _, 2, rfl, hS3, by omega, by omega, fun H4 c4 hS4 => ?_⟩
      walk_at "X"
      refine ⟨p, _, 2, rfl, hS4, by omega, by omega, fun H5 c5 hS5 => ?_⟩
      walk_at "X"
      refine ⟨p, _, rfl, hS5, by omega, fun H6 c6 hS6 => ?_⟩
      walk_at "X"
      refine ⟨p, _, rfl, hS6, by omega, fun H7 c7 hS7 => ?_⟩
      walk_at "X"
      exact ⟨_, _, rfl, c1.trans ((((((c2.weak [p]).trans c3).trans c4).trans c5).trans c6 |>.trans c7).drop np2)⟩
    · rintro σ H1 ⟨w1, w2, rfl, c1⟩
      walk_at "X"
      refine x_disp fun D H2 nD c2 hD => ?_
      walk_at "X"
      refine v_pw10 (w := 10 ^ 30) rfl (by decide) ?_
      walk_at "X"
      refine v_new fun t3 H3 nt3 c3 ht3 => ?_
      walk_at "X"
      refine v_pw10 (w := 10 ^ 30) rfl (by decide) ?_
      walk_at "X"
      refine v_new fun t4 H4 nt4 c4 ht4 => ?_
      walk_at "X"
      refine v_dispE (kvs := [(Sum.inr "a", .ref t3), (Sum.inr "b", .ref t4)]) (by walk_at "hp") rfl (by simp) fun H5 c5 hD5 => ?_
      have hD4 := (c3.trans c4).get0 hD
      have ht34 := c4.get0 ht3
      have U5 : UniAt H5 D [(("a" : Str), t3, (10 : Int) ^ 30, (3 : Int)), (("b" : Str), t4, (10 : Int) ^ 30, (-2 : Int))] := by
        refine ⟨hD5, ?_, show (["a", "b"] : List Str).Nodup by decide, ?_, ?_, ⟨Nat.le_succ 1, Nat.le_refl 2⟩⟩
        · intro x hx
          rcases (by simpa using hx : x = (("a" : Str), t3, (10 : Int) ^ 30, (3 : Int)) ∨ x = (("b" : Str), t4, (10 : Int) ^ 30, (-2 : Int))) with rfl | rfl
          · exact c5.get1 ht34 (fun z => by rw [show t3 = D from z, hD4] at ht34; cases ht34)
          · exact c5.get1 ht4 (fun z => by rw [show t4 = D from z, hD4] at ht4; cases ht4)
        · intro x hx
          rcases (by simpa using hx : x = (("a" : Str), t3, (10 : Int) ^ 30, (3 : Int)) ∨ x = (("b" : Str), t4, (10 : Int) ^ 30, (-2 : Int))) with rfl | rfl
          · exact leftW "a" (by decide)
          · exact leftW "b" (by decide)
        · intro x hx
          rcases (by simpa using hx : x = (("a" : Str), t3, (10 : Int) ^ 30, (3 : Int)) ∨ x = (("b" : Str), t4, (10 : Int) ^ 30, (-2 : Int))) with rfl | rfl <;> (dsimp only; omega)
      walk_at "X"
      refine ⟨D, _, 1, rfl, U5, by omega, fun ys r H6 hp6 hs6 hR6 c6 => ?_⟩
      have hr6 : r.isSome = true := hR6.rch.mpr ((rch_both U5.nd (by dsimp only; omega) (by dsimp only; omega) hp6 1).mpr (.inr ⟨1, 1, by dsimp only; exact ⟨by omega, by omega, by omega, by omega, by omega⟩⟩))
      rw [hr6]
      walk_at "X"
      refine x_iteP rfl ?_
      walk_at "X"
      refine x_disp fun D7 H7 nD7 c7 hD7 => ?_
      walk_at "X"
      refine v_pw10 (w := 10 ^ 30) rfl (by decide) ?_
      walk_at "X"
      refine v_new fun t8 H8 nt8 c8 ht8 => ?_
      walk_at "X"
      refine v_dispE (kvs := [(Sum.inr "a", .ref t8)]) (by walk_at "hp") rfl (by simp) fun H9 c9 hD9 => ?_
      have hD8 := c8.get0 hD7
      have U9 : UniAt H9 D7 [(("a" : Str), t8, (10 : Int) ^ 30, (7 : Int))] := by
        refine ⟨hD9, ?_, show (["a"] : List Str).Nodup by decide, ?_, ?_, ⟨Nat.le_refl 1, Nat.le_succ 1⟩⟩
        · intro x hx
          obtain rfl := List.mem_singleton.mp hx
          exact c9.get1 ht8 (fun z => by rw [show t8 = D7 from z, hD8] at ht8; cases ht8)
        · intro x hx
          obtain rfl := List.mem_singleton.mp hx
          exact leftW "a" (by decide)
        · intro x hx
          obtain rfl := List.mem_singleton.mp hx
          dsimp only
          omega
      walk_at "X"
      refine ⟨D7, _, 7, rfl, U9, by omega, fun ys2 r2 H10 hp10 hs10 hR10 c10 => ?_⟩
      have hys : ys2 = [("a" : Str)] := List.perm_singleton.mp hp10
      have v1 := valOf_of U9.nd (e := (("a" : Str), t8, (10 : Int) ^ 30, (7 : Int))) (by simp)
      dsimp only at v1
      have hr10 : r2.isSome = false := by
        cases h : r2.isSome with
        | false => rfl
        | true =>
          exfalso
          have hw : wsOf (valOf [(("a" : Str), t8, (10 : Int) ^ 30, (7 : Int))]) ys2 = [("a" : Str)] := by
            rw [hys]
            unfold wsOf
            rw [List.filter_eq_self]
            intro z hz
            obtain rfl := List.mem_singleton.mp hz
            rw [v1]
            decide
          have h1 := hR10.rch.mp h
          rw [hw] at h1
          rcases h1 with ⟨h1, _⟩ | ⟨z, hz, h1⟩ | ⟨x, y, c, k, h1, _⟩
          · cases h1
          · obtain rfl := List.mem_singleton.mp hz
            rw [v1] at h1
            dsimp only at h1
            omega
          · cases h1
      rw [hr10]
      walk_at "X"
      exact q H10
end U

set_option Elab.async false
set_option maxRecDepth 100000
set_option linter.all false
set_option exponentiation.threshold 3000
set_option pp.maxSteps 600
set_option pp.deepTerms false
set_option maxHeartbeats 4000000
namespace U
open PySem PySem.Spec PyProof.Rows L2

theorem all_mk {l : PySem.W.OpenLaw} {w : World} {K : PySem.W.Frag} {h : Heap} {mg : Str → Option Value} {fa : Addr} (X : K.In h) (G : h.Ns mainGlobals mg) (hfa : mg "law" = some (.ref fa))
    {a0 : Addr} {T0 : Addr} {oc0 kV0 dc0 pm0 cd0 ct0 : Value} {od0 an0 : Option Addr} {sl0 : Array (Option Value)} (n0 : PySem.W.nsIn K mainGlobals "is_integer" = some (some (.ref a0))) (l0 : K.lookup a0 = some ⟨oc0, od0, .func (PySem.W.fnOf "is_integer" "is_integer" (defArgs s_is_integer) (defBody s_is_integer) (defScope s_is_integer) (.ref T0) kV0 dc0 pm0 an0 cd0 ct0), sl0⟩) (c0 : PySem.W.codeIn K cd0 "is_integer" = true) (k0 : PySem.W.keepIn K (.ref a0) = true) {oT0 : Value} {dT0 : Option Addr} {nT0 : Nat} {sT0 : Array (Option Value)} (e0 : K.lookup T0 = some ⟨oT0, dT0, .seq [.none].toArray nT0, sT0⟩)
    {a1 : Addr} {oc1 kV1 dc1 pm1 cd1 ct1 : Value} {od1 an1 : Option Addr} {sl1 : Array (Option Value)} (n1 : PySem.W.nsIn K mainGlobals "is_writer" = some (some (.ref a1))) (l1 : K.lookup a1 = some ⟨oc1, od1, .func (PySem.W.fnOf "is_writer" "is_writer" (defArgs s_is_writer) (defBody s_is_writer) (defScope s_is_writer) .none kV1 dc1 pm1 an1 cd1 ct1), sl1⟩) (c1 : PySem.W.codeIn K cd1 "is_writer" = true) (k1 : PySem.W.keepIn K (.ref a1) = true)
    {a2 : Addr} {oc2 kV2 dc2 pm2 cd2 ct2 : Value} {od2 an2 : Option Addr} {sl2 : Array (Option Value)} (n2 : PySem.W.nsIn K mainGlobals "is_any_integer" = some (some (.ref a2))) (l2 : K.lookup a2 = some ⟨oc2, od2, .func (PySem.W.fnOf "is_any_integer" "is_any_integer" (defArgs s_is_any_integer) (defBody s_is_any_integer) (defScope s_is_any_integer) .none kV2 dc2 pm2 an2 cd2 ct2), sl2⟩) (c2 : PySem.W.codeIn K cd2 "is_any_integer" = true) (k2 : PySem.W.keepIn K (.ref a2) = true)
    {a3 : Addr} {oc3 kV3 dc3 pm3 cd3 ct3 : Value} {od3 an3 : Option Addr} {sl3 : Array (Option Value)} (n3 : PySem.W.nsIn K mainGlobals "is_uniform" = some (some (.ref a3))) (l3 : K.lookup a3 = some ⟨oc3, od3, .func (PySem.W.fnOf "is_uniform" "is_uniform" (defArgs s_is_uniform) (defBody s_is_uniform) (defScope s_is_uniform) .none kV3 dc3 pm3 an3 cd3 ct3), sl3⟩) (c3 : PySem.W.codeIn K cd3 "is_uniform" = true) (k3 : PySem.W.keepIn K (.ref a3) = true)
    {a4 : Addr} {oc4 kV4 dc4 pm4 cd4 ct4 : Value} {od4 an4 : Option Addr} {sl4 : Array (Option Value)} (n4 : PySem.W.nsIn K mainGlobals "require_uniform" = some (some (.ref a4))) (l4 : K.lookup a4 = some ⟨oc4, od4, .func (PySem.W.fnOf "require_uniform" "require_uniform" (defArgs s_require_uniform) (defBody s_require_uniform) (defScope s_require_uniform) .none kV4 dc4 pm4 an4 cd4 ct4), sl4⟩) (c4 : PySem.W.codeIn K cd4 "require_uniform" = true) (k4 : PySem.W.keepIn K (.ref a4) = true)
    {a5 : Addr} {oc5 kV5 dc5 pm5 cd5 ct5 : Value} {od5 an5 : Option Addr} {sl5 : Array (Option Value)} (n5 : PySem.W.nsIn K mainGlobals "gcd_with_factor" = some (some (.ref a5))) (l5 : K.lookup a5 = some ⟨oc5, od5, .func (PySem.W.fnOf "gcd_with_factor" "gcd_with_factor" (defArgs s_gcd_with_factor) (defBody s_gcd_with_factor) (defScope s_gcd_with_factor) .none kV5 dc5 pm5 an5 cd5 ct5), sl5⟩) (c5 : PySem.W.codeIn K cd5 "gcd_with_factor" = true) (k5 : PySem.W.keepIn K (.ref a5) = true)
    {a6 : Addr} {oc6 kV6 dc6 pm6 cd6 ct6 : Value} {od6 an6 : Option Addr} {sl6 : Array (Option Value)} (n6 : PySem.W.nsIn K mainGlobals "min_steps" = some (some (.ref a6))) (l6 : K.lookup a6 = some ⟨oc6, od6, .func (PySem.W.fnOf "min_steps" "min_steps" (defArgs s_min_steps) (defBody s_min_steps) (defScope s_min_steps) .none kV6 dc6 pm6 an6 cd6 ct6), sl6⟩) (c6 : PySem.W.codeIn K cd6 "min_steps" = true) (k6 : PySem.W.keepIn K (.ref a6) = true)
    {a7 : Addr} {oc7 kV7 dc7 pm7 cd7 ct7 : Value} {od7 an7 : Option Addr} {sl7 : Array (Option Value)} (n7 : PySem.W.nsIn K mainGlobals "find_counts" = some (some (.ref a7))) (l7 : K.lookup a7 = some ⟨oc7, od7, .func (PySem.W.fnOf "find_counts" "find_counts" (defArgs s_find_counts) (defBody s_find_counts) (defScope s_find_counts) .none kV7 dc7 pm7 an7 cd7 ct7), sl7⟩) (c7 : PySem.W.codeIn K cd7 "find_counts" = true) (k7 : PySem.W.keepIn K (.ref a7) = true)
    {a8 : Addr} {oc8 kV8 dc8 pm8 cd8 ct8 : Value} {od8 an8 : Option Addr} {sl8 : Array (Option Value)} (n8 : PySem.W.nsIn K mainGlobals "lines_with_weight" = some (some (.ref a8))) (l8 : K.lookup a8 = some ⟨oc8, od8, .func (PySem.W.fnOf "lines_with_weight" "lines_with_weight" (defArgs s_lines_with_weight) (defBody s_lines_with_weight) (defScope s_lines_with_weight) .none kV8 dc8 pm8 an8 cd8 ct8), sl8⟩) (c8 : PySem.W.codeIn K cd8 "lines_with_weight" = true) (k8 : PySem.W.keepIn K (.ref a8) = true)
    {a9 : Addr} {oc9 kV9 dc9 pm9 cd9 ct9 : Value} {od9 an9 : Option Addr} {sl9 : Array (Option Value)} (n9 : PySem.W.nsIn K mainGlobals "is_reachable_weight" = some (some (.ref a9))) (l9 : K.lookup a9 = some ⟨oc9, od9, .func (PySem.W.fnOf "is_reachable_weight" "is_reachable_weight" (defArgs s_is_reachable_weight) (defBody s_is_reachable_weight) (defScope s_is_reachable_weight) .none kV9 dc9 pm9 an9 cd9 ct9), sl9⟩) (c9 : PySem.W.codeIn K cd9 "is_reachable_weight" = true) (k9 : PySem.W.keepIn K (.ref a9) = true)
    {a10 : Addr} {oc10 kV10 dc10 pm10 cd10 ct10 : Value} {od10 an10 : Option Addr} {sl10 : Array (Option Value)} (n10 : PySem.W.nsIn K mainGlobals "_law_source" = some (some (.ref a10))) (l10 : K.lookup a10 = some ⟨oc10, od10, .func (PySem.W.fnOf "_law_source" "_law_source" (defArgs s_law_source) (defBody s_law_source) (defScope s_law_source) .none kV10 dc10 pm10 an10 cd10 ct10), sl10⟩) (c10 : PySem.W.codeIn K cd10 "_law_source" = true) (k10 : PySem.W.keepIn K (.ref a10) = true)
    {a11 : Addr} {oc11 kV11 dc11 pm11 cd11 ct11 : Value} {od11 an11 : Option Addr} {sl11 : Array (Option Value)} (n11 : PySem.W.nsIn K mainGlobals "_law_draw" = some (some (.ref a11))) (l11 : K.lookup a11 = some ⟨oc11, od11, .func (PySem.W.fnOf "_law_draw" "_law_draw" (defArgs s_law_draw) (defBody s_law_draw) (defScope s_law_draw) .none kV11 dc11 pm11 an11 cd11 ct11), sl11⟩) (c11 : PySem.W.codeIn K cd11 "_law_draw" = true) (k11 : PySem.W.keepIn K (.ref a11) = true)
    {a12 : Addr} {oc12 kV12 dc12 pm12 cd12 ct12 : Value} {od12 an12 : Option Addr} {sl12 : Array (Option Value)} (n12 : PySem.W.nsIn K mainGlobals "_law_writers" = some (some (.ref a12))) (l12 : K.lookup a12 = some ⟨oc12, od12, .func (PySem.W.fnOf "_law_writers" "_law_writers" (defArgs s_law_writers) (defBody s_law_writers) (defScope s_law_writers) .none kV12 dc12 pm12 an12 cd12 ct12), sl12⟩) (c12 : PySem.W.codeIn K cd12 "_law_writers" = true) (k12 : PySem.W.keepIn K (.ref a12) = true)
    {a13 : Addr} {oc13 kV13 dc13 pm13 cd13 ct13 : Value} {od13 an13 : Option Addr} {sl13 : Array (Option Value)} (n13 : PySem.W.nsIn K mainGlobals "_law_lost" = some (some (.ref a13))) (l13 : K.lookup a13 = some ⟨oc13, od13, .func (PySem.W.fnOf "_law_lost" "_law_lost" (defArgs s_law_lost) (defBody s_law_lost) (defScope s_law_lost) .none kV13 dc13 pm13 an13 cd13 ct13), sl13⟩) (c13 : PySem.W.codeIn K cd13 "_law_lost" = true) (k13 : PySem.W.keepIn K (.ref a13) = true)
    {a14 : Addr} {oc14 kV14 dc14 pm14 cd14 ct14 : Value} {od14 an14 : Option Addr} {sl14 : Array (Option Value)} (n14 : PySem.W.nsIn K mainGlobals "_law_obstructions" = some (some (.ref a14))) (l14 : K.lookup a14 = some ⟨oc14, od14, .func (PySem.W.fnOf "_law_obstructions" "_law_obstructions" (defArgs s_law_obstructions) (defBody s_law_obstructions) (defScope s_law_obstructions) .none kV14 dc14 pm14 an14 cd14 ct14), sl14⟩) (c14 : PySem.W.codeIn K cd14 "_law_obstructions" = true) (k14 : PySem.W.keepIn K (.ref a14) = true)
    {a15 : Addr} {oc15 kV15 dc15 pm15 cd15 ct15 : Value} {od15 an15 : Option Addr} {sl15 : Array (Option Value)} (n15 : PySem.W.nsIn K mainGlobals "_law_is_valid" = some (some (.ref a15))) (l15 : K.lookup a15 = some ⟨oc15, od15, .func (PySem.W.fnOf "_law_is_valid" "_law_is_valid" (defArgs s_law_is_valid) (defBody s_law_is_valid) (defScope s_law_is_valid) .none kV15 dc15 pm15 an15 cd15 ct15), sl15⟩) (c15 : PySem.W.codeIn K cd15 "_law_is_valid" = true) (k15 : PySem.W.keepIn K (.ref a15) = true)
    {a16 : Addr} {oc16 kV16 dc16 pm16 cd16 ct16 : Value} {od16 an16 : Option Addr} {sl16 : Array (Option Value)} (n16 : PySem.W.nsIn K mainGlobals "_law_result" = some (some (.ref a16))) (l16 : K.lookup a16 = some ⟨oc16, od16, .func (PySem.W.fnOf "_law_result" "_law_result" (defArgs s_law_result) (defBody s_law_result) (defScope s_law_result) .none kV16 dc16 pm16 an16 cd16 ct16), sl16⟩) (c16 : PySem.W.codeIn K cd16 "_law_result" = true) (k16 : PySem.W.keepIn K (.ref a16) = true)
    {a17 : Addr} {oc17 kV17 dc17 pm17 cd17 ct17 : Value} {od17 an17 : Option Addr} {sl17 : Array (Option Value)} (n17 : PySem.W.nsIn K mainGlobals "_law_small_right" = some (some (.ref a17))) (l17 : K.lookup a17 = some ⟨oc17, od17, .func (PySem.W.fnOf "_law_small_right" "_law_small_right" (defArgs s_law_small_right) (defBody s_law_small_right) (defScope s_law_small_right) .none kV17 dc17 pm17 an17 cd17 ct17), sl17⟩) (c17 : PySem.W.codeIn K cd17 "_law_small_right" = true) (k17 : PySem.W.keepIn K (.ref a17) = true)
    {a18 : Addr} {oc18 kV18 dc18 pm18 cd18 ct18 : Value} {od18 an18 : Option Addr} {sl18 : Array (Option Value)} (n18 : PySem.W.nsIn K mainGlobals "_law_large_right" = some (some (.ref a18))) (l18 : K.lookup a18 = some ⟨oc18, od18, .func (PySem.W.fnOf "_law_large_right" "_law_large_right" (defArgs s_law_large_right) (defBody s_law_large_right) (defScope s_law_large_right) .none kV18 dc18 pm18 an18 cd18 ct18), sl18⟩) (c18 : PySem.W.codeIn K cd18 "_law_large_right" = true) (k18 : PySem.W.keepIn K (.ref a18) = true)
    {a19 : Addr} {oc19 kV19 dc19 pm19 cd19 ct19 : Value} {od19 an19 : Option Addr} {sl19 : Array (Option Value)} (n19 : PySem.W.nsIn K mainGlobals "law" = some (some (.ref a19))) (l19 : K.lookup a19 = some ⟨oc19, od19, .func (PySem.W.fnOf "law" "law" (defArgs s_law) (defBody s_law) (defScope s_law) .none kV19 dc19 pm19 an19 cd19 ct19), sl19⟩) (c19 : PySem.W.codeIn K cd19 "law" = true) (k19 : PySem.W.keepIn K (.ref a19) = true)
    (z_abs : PySem.W.nsIn K mainGlobals "abs" = some none)
    (z_all : PySem.W.nsIn K mainGlobals "all" = some none)
    (z_bool : PySem.W.nsIn K mainGlobals "bool" = some none)
    (z_dict : PySem.W.nsIn K mainGlobals "dict" = some none)
    (z_int : PySem.W.nsIn K mainGlobals "int" = some none)
    (z_isinstance : PySem.W.nsIn K mainGlobals "isinstance" = some none)
    (z_len : PySem.W.nsIn K mainGlobals "len" = some none)
    (z_list : PySem.W.nsIn K mainGlobals "list" = some none)
    (z_max : PySem.W.nsIn K mainGlobals "max" = some none)
    (z_min : PySem.W.nsIn K mainGlobals "min" = some none)
    (z_range : PySem.W.nsIn K mainGlobals "range" = some none)
    (z_repr : PySem.W.nsIn K mainGlobals "repr" = some none)
    (z_sorted : PySem.W.nsIn K mainGlobals "sorted" = some none)
    (z_str : PySem.W.nsIn K mainGlobals "str" = some none)
    (z_sum : PySem.W.nsIn K mainGlobals "sum" = some none)
    (z_tuple : PySem.W.nsIn K mainGlobals "tuple" = some none)
    {t_LETTERS : Tok} (y_LETTERS : PySem.W.nsIn K mainGlobals "LETTERS" = some (some (.str "abcdefghijklmnopqrstuvwxyz" t_LETTERS)))
    {t_MOST_LETTERS : Tok} (y_MOST_LETTERS : PySem.W.nsIn K mainGlobals "MOST_LETTERS" = some (some (.int 8 t_MOST_LETTERS)))
    {t_MOST_LINES : Tok} (y_MOST_LINES : PySem.W.nsIn K mainGlobals "MOST_LINES" = some (some (.int 1000000000000000000000000000000 t_MOST_LINES)))
    {t_MOST_UNIFORM_WRITERS : Tok} (y_MOST_UNIFORM_WRITERS : PySem.W.nsIn K mainGlobals "MOST_UNIFORM_WRITERS" = some (some (.int 2 t_MOST_UNIFORM_WRITERS)))
    : ∃ fd : FuncData, (∀ (s : Shared) (v : Value), BindsTo s fd ⟨[v], []⟩ [("script", v)]) ∧ ∀ base : Heap, K.In base → base.Ns mainGlobals mg → FnG l.prog w K mg base CX0 8 fa fd ["script"] (sp_law K) := by
  have e := hfa.symm.trans (PySem.W.mg_of X G n19)
  cases e
  have F0 : FunD K "is_integer" "is_integer" (defArgs s_is_integer) (defBody s_is_integer) (defScope s_is_integer) [.non] [] a0 _ := ⟨⟨_, _, _, _, _, _, _, _, _, _, rfl, l0, c0, .inr ⟨by simp, _, _, [.none], _, rfl, e0, rfl, .cons rfl .nil⟩, .inl rfl⟩, k0⟩
  have F1 := fun_mk (st := s_is_writer) l1 c1 k1
  have F2 := fun_mk (st := s_is_any_integer) l2 c2 k2
  have F3 := fun_mk (st := s_is_uniform) l3 c3 k3
  have F4 := fun_mk (st := s_require_uniform) l4 c4 k4
  have F5 := fun_mk (st := s_gcd_with_factor) l5 c5 k5
  have F6 := fun_mk (st := s_min_steps) l6 c6 k6
  have F7 := fun_mk (st := s_find_counts) l7 c7 k7
  have F8 := fun_mk (st := s_lines_with_weight) l8 c8 k8
  have F9 := fun_mk (st := s_is_reachable_weight) l9 c9 k9
  have F10 := fun_mk (st := s_law_source) l10 c10 k10
  have F11 := fun_mk (st := s_law_draw) l11 c11 k11
  have F12 := fun_mk (st := s_law_writers) l12 c12 k12
  have F13 := fun_mk (st := s_law_lost) l13 c13 k13
  have F14 := fun_mk (st := s_law_obstructions) l14 c14 k14
  have F15 := fun_mk (st := s_law_is_valid) l15 c15 k15
  have F16 := fun_mk (st := s_law_result) l16 c16 k16
  have F17 := fun_mk (st := s_law_small_right) l17 c17 k17
  have F18 := fun_mk (st := s_law_large_right) l18 c18 k18
  have F19 := fun_mk (st := s_law) l19 c19 k19
  have T : Txt K mg ⟨a0, (PySem.W.fnOf "is_integer" "is_integer" (defArgs s_is_integer) (defBody s_is_integer) (defScope s_is_integer) (.ref T0) kV0 dc0 pm0 an0 cd0 ct0), a1, (PySem.W.fnOf "is_writer" "is_writer" (defArgs s_is_writer) (defBody s_is_writer) (defScope s_is_writer) .none kV1 dc1 pm1 an1 cd1 ct1), a2, (PySem.W.fnOf "is_any_integer" "is_any_integer" (defArgs s_is_any_integer) (defBody s_is_any_integer) (defScope s_is_any_integer) .none kV2 dc2 pm2 an2 cd2 ct2), a3, (PySem.W.fnOf "is_uniform" "is_uniform" (defArgs s_is_uniform) (defBody s_is_uniform) (defScope s_is_uniform) .none kV3 dc3 pm3 an3 cd3 ct3), a4, (PySem.W.fnOf "require_uniform" "require_uniform" (defArgs s_require_uniform) (defBody s_require_uniform) (defScope s_require_uniform) .none kV4 dc4 pm4 an4 cd4 ct4), a5, (PySem.W.fnOf "gcd_with_factor" "gcd_with_factor" (defArgs s_gcd_with_factor) (defBody s_gcd_with_factor) (defScope s_gcd_with_factor) .none kV5 dc5 pm5 an5 cd5 ct5), a6, (PySem.W.fnOf "min_steps" "min_steps" (defArgs s_min_steps) (defBody s_min_steps) (defScope s_min_steps) .none kV6 dc6 pm6 an6 cd6 ct6), a7, (PySem.W.fnOf "find_counts" "find_counts" (defArgs s_find_counts) (defBody s_find_counts) (defScope s_find_counts) .none kV7 dc7 pm7 an7 cd7 ct7), a8, (PySem.W.fnOf "lines_with_weight" "lines_with_weight" (defArgs s_lines_with_weight) (defBody s_lines_with_weight) (defScope s_lines_with_weight) .none kV8 dc8 pm8 an8 cd8 ct8), a9, (PySem.W.fnOf "is_reachable_weight" "is_reachable_weight" (defArgs s_is_reachable_weight) (defBody s_is_reachable_weight) (defScope s_is_reachable_weight) .none kV9 dc9 pm9 an9 cd9 ct9), a10, (PySem.W.fnOf "_law_source" "_law_source" (defArgs s_law_source) (defBody s_law_source) (defScope s_law_source) .none kV10 dc10 pm10 an10 cd10 ct10), a11, (PySem.W.fnOf "_law_draw" "_law_draw" (defArgs s_law_draw) (defBody s_law_draw) (defScope s_law_draw) .none kV11 dc11 pm11 an11 cd11 ct11), a12, (PySem.W.fnOf "_law_writers" "_law_writers" (defArgs s_law_writers) (defBody s_law_writers) (defScope s_law_writers) .none kV12 dc12 pm12 an12 cd12 ct12), a13, (PySem.W.fnOf "_law_lost" "_law_lost" (defArgs s_law_lost) (defBody s_law_lost) (defScope s_law_lost) .none kV13 dc13 pm13 an13 cd13 ct13), a14, (PySem.W.fnOf "_law_obstructions" "_law_obstructions" (defArgs s_law_obstructions) (defBody s_law_obstructions) (defScope s_law_obstructions) .none kV14 dc14 pm14 an14 cd14 ct14), a15, (PySem.W.fnOf "_law_is_valid" "_law_is_valid" (defArgs s_law_is_valid) (defBody s_law_is_valid) (defScope s_law_is_valid) .none kV15 dc15 pm15 an15 cd15 ct15), a16, (PySem.W.fnOf "_law_result" "_law_result" (defArgs s_law_result) (defBody s_law_result) (defScope s_law_result) .none kV16 dc16 pm16 an16 cd16 ct16), a17, (PySem.W.fnOf "_law_small_right" "_law_small_right" (defArgs s_law_small_right) (defBody s_law_small_right) (defScope s_law_small_right) .none kV17 dc17 pm17 an17 cd17 ct17), a18, (PySem.W.fnOf "_law_large_right" "_law_large_right" (defArgs s_law_large_right) (defBody s_law_large_right) (defScope s_law_large_right) .none kV18 dc18 pm18 an18 cd18 ct18), fa, (PySem.W.fnOf "law" "law" (defArgs s_law) (defBody s_law) (defScope s_law) .none kV19 dc19 pm19 an19 cd19 ct19)⟩ := ⟨F0, PySem.W.mg_of X G n0, F1, PySem.W.mg_of X G n1, F2, PySem.W.mg_of X G n2, F3, PySem.W.mg_of X G n3, F4, PySem.W.mg_of X G n4, F5, PySem.W.mg_of X G n5, F6, PySem.W.mg_of X G n6, F7, PySem.W.mg_of X G n7, F8, PySem.W.mg_of X G n8, F9, PySem.W.mg_of X G n9, F10, PySem.W.mg_of X G n10, F11, PySem.W.mg_of X G n11, F12, PySem.W.mg_of X G n12, F13, PySem.W.mg_of X G n13, F14, PySem.W.mg_of X G n14, F15, PySem.W.mg_of X G n15, F16, PySem.W.mg_of X G n16, F17, PySem.W.mg_of X G n17, F18, PySem.W.mg_of X G n18, F19, PySem.W.mg_of X G n19, PySem.W.mg_none_of X G z_abs, PySem.W.mg_none_of X G z_all, PySem.W.mg_none_of X G z_bool, PySem.W.mg_none_of X G z_dict, PySem.W.mg_none_of X G z_int, PySem.W.mg_none_of X G z_isinstance, PySem.W.mg_none_of X G z_len, PySem.W.mg_none_of X G z_list, PySem.W.mg_none_of X G z_max, PySem.W.mg_none_of X G z_min, PySem.W.mg_none_of X G z_range, PySem.W.mg_none_of X G z_repr, PySem.W.mg_none_of X G z_sorted, PySem.W.mg_none_of X G z_str, PySem.W.mg_none_of X G z_sum, PySem.W.mg_none_of X G z_tuple, ⟨_, PySem.W.mg_of X G y_LETTERS, _, rfl⟩, ⟨_, PySem.W.mg_of X G y_MOST_LETTERS, _, rfl⟩, ⟨_, PySem.W.mg_of X G y_MOST_LINES, _, rfl⟩, ⟨_, PySem.W.mg_of X G y_MOST_UNIFORM_WRITERS, _, rfl⟩⟩
  exact ⟨_, fun s v => .of_eq rfl, fun base _ _ => ok_law T⟩
end U
open PySem PySem.W PyProof.Rows in
set_option maxRecDepth 100000 in
set_option maxHeartbeats 0 in
theorem PySem.Challenge.cw_lastcopy_k85_uniform_weights_holds : PySem.Challenge.rw_lastcopy_k85_uniform_weights.Holds := by
  w_on; o_law; k_head; (case hw => w_witness2)
  k_fill
  refine U.walk_G (l := PySem.Challenge.rw_lastcopy_k85_uniform_weights) (n := 63) (k := 8) (x := "script") (CX := fun _ => L2.CX0) (sp := fun w => U.sp_law _) rfl (by decide) rfl ⟨rfl, by decide, by decide⟩ (fun w h Y => PySem.W.kIn_of Y) ?F (fun _ _ a ns hl hb _ hS => ⟨a, ns, rfl, hS, hb, hl, fun _ => rfl⟩) (fun _ _ _ _ _ z => z)
  case F =>
    intro w mg fa h KX G hmg
    refine' U.all_mk KX G hmg ?n0 ?l0 ?c0 ?k0 ?e0 ?n1 ?l1 ?c1 ?k1 ?n2 ?l2 ?c2 ?k2 ?n3 ?l3 ?c3 ?k3 ?n4 ?l4 ?c4 ?k4 ?n5 ?l5 ?c5 ?k5 ?n6 ?l6 ?c6 ?k6 ?n7 ?l7 ?c7 ?k7 ?n8 ?l8 ?c8 ?k8 ?n9 ?l9 ?c9 ?k9 ?n10 ?l10 ?c10 ?k10 ?n11 ?l11 ?c11 ?k11 ?n12 ?l12 ?c12 ?k12 ?n13 ?l13 ?c13 ?k13 ?n14 ?l14 ?c14 ?k14 ?n15 ?l15 ?c15 ?k15 ?n16 ?l16 ?c16 ?k16 ?n17 ?l17 ?c17 ?k17 ?n18 ?l18 ?c18 ?k18 ?n19 ?l19 ?c19 ?k19 ?z_abs ?z_all ?z_bool ?z_dict ?z_int ?z_isinstance ?z_len ?z_list ?z_max ?z_min ?z_range ?z_repr ?z_sorted ?z_str ?z_sum ?z_tuple ?y_LETTERS ?y_MOST_LETTERS ?y_MOST_LINES ?y_MOST_UNIFORM_WRITERS
    (case n0 => k_is)
    (case l0 => k_is)
    (case c0 => k_is)
    (case k0 => k_is)
    (case e0 => k_is)
    (case n1 => k_is)
    (case l1 => k_is)
    (case c1 => k_is)
    (case k1 => k_is)
    (case n2 => k_is)
    (case l2 => k_is)
    (case c2 => k_is)
    (case k2 => k_is)
    (case n3 => k_is)
    (case l3 => k_is)
    (case c3 => k_is)
    (case k3 => k_is)
    (case n4 => k_is)
    (case l4 => k_is)
    (case c4 => k_is)
    (case k4 => k_is)
    (case n5 => k_is)
    (case l5 => k_is)
    (case c5 => k_is)
    (case k5 => k_is)
    (case n6 => k_is)
    (case l6 => k_is)
    (case c6 => k_is)
    (case k6 => k_is)
    (case n7 => k_is)
    (case l7 => k_is)
    (case c7 => k_is)
    (case k7 => k_is)
    (case n8 => k_is)
    (case l8 => k_is)
    (case c8 => k_is)
    (case k8 => k_is)
    (case n9 => k_is)
    (case l9 => k_is)
    (case c9 => k_is)
    (case k9 => k_is)
    (case n10 => k_is)
    (case l10 => k_is)
    (case c10 => k_is)
    (case k10 => k_is)
    (case n11 => k_is)
    (case l11 => k_is)
    (case c11 => k_is)
    (case k11 => k_is)
    (case n12 => k_is)
    (case l12 => k_is)
    (case c12 => k_is)
    (case k12 => k_is)
    (case n13 => k_is)
    (case l13 => k_is)
    (case c13 => k_is)
    (case k13 => k_is)
    (case n14 => k_is)
    (case l14 => k_is)
    (case c14 => k_is)
    (case k14 => k_is)
    (case n15 => k_is)
    (case l15 => k_is)
    (case c15 => k_is)
    (case k15 => k_is)
    (case n16 => k_is)
    (case l16 => k_is)
    (case c16 => k_is)
    (case k16 => k_is)
    (case n17 => k_is)
    (case l17 => k_is)
    (case c17 => k_is)
    (case k17 => k_is)
    (case n18 => k_is)
    (case l18 => k_is)
    (case c18 => k_is)
    (case k18 => k_is)
    (case n19 => k_is)
    (case l19 => k_is)
    (case c19 => k_is)
    (case k19 => k_is)
    (case z_abs => k_is)
    (case z_all => k_is)
    (case z_bool => k_is)
    (case z_dict => k_is)
    (case z_int => k_is)
    (case z_isinstance => k_is)
    (case z_len => k_is)
    (case z_list => k_is)
    (case z_max => k_is)
    (case z_min => k_is)
    (case z_range => k_is)
    (case z_repr => k_is)
    (case z_sorted => k_is)
    (case z_str => k_is)
    (case z_sum => k_is)
    (case z_tuple => k_is)
    (case y_LETTERS => k_is)
    (case y_MOST_LETTERS => k_is)
    (case y_MOST_LINES => k_is)
    (case y_MOST_UNIFORM_WRITERS => k_is)

